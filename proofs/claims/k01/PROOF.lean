import PyProof.Rows.All
import Wide.All
import OpenK.AllK
import Wide.FinOn
import PySem.PyData
import PyProof.EqLayable
import PyProof.ReprReads
import PyProof.EqAt
import PyProof.EqKinds
import PyProof.TupleCall
import HandS.Base
import HandS.Call
import HandS.List
import HandS.Comp
import HandS.Ends
import HandS.Words
import HandS.Exc
import HandS.ExcOwn
import HandS.ExcInit
import HandS.ExcField
import HandS.TryMany
import HandS.Wide
import HandS.Gcd
import HandS.IsInst
import HandS.Deep
import HandS.SortInts
import HandS.Zip
import HandS.TupAny
import HandS.Style
import HandS.Defaults
import HandS.HeadEnd
import HandS.TupMul
import PyProof.ReprRoads
import KE.KItemsList
import HandS.Conv
import KE.GoesNew
import KE.GoesEnum
import KE.KUnpack
import HandS.Head0
import HandS.Head1
import HandS.Head2
import HandS.Head3
import HandS.HeadHook1
import HandS.HeadHook2
import PySem.Challenge.RW_oneservesall_k01_whole_numbers
set_option Elab.async false
set_option linter.all false
section
set_option linter.all false
/-! A small evaluator of values for the part of Python that the program and the laws use. -/
namespace Ev
open PySem
abbrev D := PyData
/-- what a list of one's own holds -/
inductive ECell where
  | lst (xs : List D)
/-- a place of a frame -/
inductive Plc where
  | emp
  | val (d : D)
  | own (c : ECell)
  | exc (c : Nat) (d : D)
abbrev FEnv := List Plc
/-- what an expression comes to -/
inductive Rs where
  | d (x : D)
  | fresh (c : ECell)
  | slot (i : Nat)
inductive Out (α : Type) where
  | ok (a : α) (e : FEnv)
  | err (c : Nat) (v : D) (e : FEnv)
  | stuck
def Out.bind {α β : Type} (o : Out α) (f : α → FEnv → Out β) : Out β := match o with
  | .ok a e => f a e
  | .err c v e => .err c v e
  | .stuck => .stuck
/-- .. where nothing may be raised -/
def Out.no {α β : Type} (o : Out α) (f : α → FEnv → Out β) : Out β := match o with
  | .ok a e => f a e
  | .err _ _ _ => .stuck
  | .stuck => .stuck
def lift {α : Type} (o : Option α) (e : FEnv) : Out α := match o with
  | some a => .ok a e
  | none => .stuck
inductive EOp where
  | add | sub | mul | fdiv | mod | pow
  deriving DecidableEq
inductive ECmp where
  | eq | ne | lt | le | gt | ge | isin | notin
  deriving DecidableEq
inductive ETy where
  | int | str | bool | tuple | list
  deriving DecidableEq
inductive B where
  | len | abs | max2 | min2 | sum | all | any | tuple | list | int | gcd | sorted | minL | maxL | repr
  deriving DecidableEq
/-- a target: a name, or names -/
inductive Tg where
  | v (i : Nat)
  | vs (is : List Nat)
mutual
inductive P where
  | v (i : Nat)
  | frz (i : Nat)
  | lit (d : D)
  | glob (g : Nat)
  | bin (op : EOp) (a b : P)
  | neg (a : P)
  | nt (a : P)
  | and (a b : P)
  | or (a b : P)
  | cmp (op : ECmp) (a b : P)
  | chain (o1 o2 : ECmp) (a b c : P)
  | isN (a : P)
  | notN (a : P)
  | ite (c a b : P)
  | tup (xs : Ps)
  | lst (xs : Ps)
  | ix (a i : P)
  | sl (a lo hi : P)
  | rev (a : P)
  | call (f : Nat) (xs ks : Ps) (perm : List Nat)
  | blt (b : B) (xs : Ps)
  | isi (a : P) (ts : List ETy)
  | indx (a b : P)
  | lrng (a : P)
  | comp (elt : P) (tg : Tg) (it : EIt) (cond : P) (own : List Nat)
  | compo (elt : P) (tg : Tg) (w : Nat) (cond : P) (own : List Nat)
  | comp2 (elt : P) (tg : Tg) (it : EIt) (cond : P) (tg1 : Tg) (it1 : EIt) (cond1 : P) (own vs1 : List Nat)
  | cap (a : P)
  | non
inductive Ps where
  | nil
  | cons (x : P) (xs : Ps)
inductive EIt where
  | seq (p : P)
  | r1 (p : P)
  | r2 (p q : P)
  | zip (p q : P)
  | enum (p : P)
  | zipn (p q : P)
end

/-! ### operations on values -/
def lim : Nat := 16000000
def mulOk (i j : Int) : Bool := decide (i.natAbs.log2 + j.natAbs.log2 < 100000000)
def divOk (j : Int) : Bool := decide (j ≠ 0 ∧ j.natAbs.log2 < 9000)
def okD (d : D) : Bool := SeqAt.shaped d
def opD : EOp → D → D → Option Rs
  | .add, .int i, .int j => some (.d (.int (i + j)))
  | .add, .list xs, .list ys => if xs.length + ys.length ≤ lim then some (.fresh (.lst (xs ++ ys))) else none
  | .add, .tuple xs, .tuple ys => if xs.length + ys.length ≤ lim then some (.d (.tuple (xs ++ ys))) else none
  | .add, .str x, .str y => if x.length + y.length ≤ lim then some (.d (.str (x ++ y))) else none
  | .sub, .int i, .int j => some (.d (.int (i - j)))
  | .mul, .int i, .int j => if mulOk i j then some (.d (.int (i * j))) else none
  | .mul, .list xs, .int k => if 0 ≤ k ∧ k ≤ 1000000 ∧ xs.length * k.toNat ≤ lim then some (.fresh (.lst (List.replicate k.toNat xs).flatten)) else none
  | .mul, .tuple xs, .int k => if 1 ≤ k ∧ k ≤ 1000 ∧ 1 ≤ xs.length ∧ xs.length ≤ 1000 then some (.d (.tuple (List.replicate k.toNat xs).flatten)) else none
  | .fdiv, .int i, .int j => if divOk j then some (.d (.int (i.fdiv j))) else none
  | .mod, .int i, .int j => if j ≠ 0 then some (.d (.int (i.fmod j))) else none
  | .pow, .int i, .int j => if 0 ≤ j ∧ j ≤ 1000000 ∧ i.natAbs < 2 ^ 64 then some (.d (.int (i ^ j.toNat))) else if 0 ≤ j ∧ ((i.natAbs.log2 : Nat) + 1 : Int) * j ≤ 2 ^ 27 then some (.d (.int (i ^ j.toNat))) else none
  | _, _, _ => none
def flatD : D → Bool
  | .none => true
  | .bool _ => true
  | .int _ => true
  | .str _ => true
  | _ => false
def ltS (x y : Str) : Bool := decide (x.cps.toList < y.cps.toList)
def cmpD : ECmp → D → D → Option Bool
  | .eq, a, b => if okD a && okD b then some (PyData.eqv a b) else none
  | .ne, a, b => if okD a && okD b then some (!PyData.eqv a b) else none
  | .lt, .int i, .int j => some (decide (i < j))
  | .le, .int i, .int j => some (decide (i ≤ j))
  | .gt, .int i, .int j => some (decide (j < i))
  | .ge, .int i, .int j => some (decide (j ≤ i))
  | .lt, .str i, .str j => some (ltS i j)
  | .isin, x, .list ys => if okD x && okD (.list ys) then some (ys.any fun z => PyData.eqv z x) else none
  | .notin, x, .list ys => if okD x && okD (.list ys) then some (!ys.any fun z => PyData.eqv z x) else none
  | .isin, x, .tuple ys => if flatD x && ys.all flatD then some (ys.any fun z => PyData.eqv z x) else none
  | .notin, x, .tuple ys => if flatD x && ys.all flatD then some (!ys.any fun z => PyData.eqv z x) else none
  | _, _, _ => none
def ixN (n : Nat) (i : Int) : Option Nat := if 0 ≤ i then (if i < n then some i.toNat else none) else if -(n : Int) ≤ i then some (i + n).toNat else none
def atI (xs : List D) (i : Int) : Option D := (ixN xs.length i).bind fun j => xs[j]?
def ixD : D → D → Option D
  | .list xs, .int i => atI xs i
  | .tuple xs, .int i => atI xs i
  | _, _ => none
def cIx (n d : Nat) : Option Int → Nat
  | none => d
  | some v => if v < 0 then (v + (n : Int)).toNat else min v.toNat n
def cut (xs : List D) (lo hi : Option Int) : List D := (xs.drop (cIx xs.length 0 lo)).take (cIx xs.length xs.length hi - cIx xs.length 0 lo)
def slD : D → Option Int → Option Int → Option Rs
  | .list xs, lo, hi => some (.fresh (.lst (cut xs lo hi)))
  | .tuple xs, lo, hi => some (.d (.tuple (cut xs lo hi)))
  | _, _, _ => none
def revD : D → Option Rs
  | .list xs => some (.fresh (.lst xs.reverse))
  | .tuple xs => some (.d (.tuple xs.reverse))
  | _ => none
def intsD : List D → Option (List Int)
  | [] => some []
  | .int i :: r => (intsD r).map (i :: ·)
  | _ :: _ => none
def boolsD : List D → Option (List Bool)
  | [] => some []
  | .bool i :: r => (boolsD r).map (i :: ·)
  | _ :: _ => none
def sortI (ns : List Int) : List Int := ns.mergeSort fun a b => decide (a ≤ b)
def isL : Option D → Bool
  | some (.list _) => true
  | _ => false
/-- the first place of an equal one -/
def indD : D → D → Option Rs
  | .list xs, d => if okD d && okD (.list xs) then (xs.findIdx? fun z => PyData.eqv z d).map fun j => .d (.int (j : Nat)) else none
  | _, _ => none
/-- the text of a list or a tuple -/
def reprD (d : D) : Option Rs := if PyData.showable d && !PyData.hasDict d && decide (PyData.depth d ≤ 60) && decide ((PyData.shown d).length ≤ lim) then some (.d (.str (PyData.shown d))) else none
def bltD : B → List D → Option Rs
  | .len, [.list xs] => some (.d (.int xs.length))
  | .len, [.tuple xs] => some (.d (.int xs.length))
  | .len, [.str x] => if x.length ≤ lim then some (.d (.int x.length)) else none
  | .abs, [.int i] => some (.d (.int (if i < 0 then -i else i)))
  | .max2, [.int i, .int j] => some (.d (.int (if j > i then j else i)))
  | .min2, [.int i, .int j] => some (.d (.int (if j < i then j else i)))
  | .sum, [.list xs] => (intsD xs).map fun ns => .d (.int ns.sum)
  | .all, [.list xs] => (boolsD xs).map fun ns => .d (.bool (ns.all id))
  | .any, [.list xs] => (boolsD xs).map fun ns => .d (.bool (ns.any id))
  | .tuple, [.list xs] => some (.d (.tuple xs))
  | .tuple, [.tuple xs] => some (.d (.tuple xs))
  | .list, [.list xs] => some (.fresh (.lst xs))
  | .list, [.tuple xs] => some (.fresh (.lst xs))
  | .int, [.int i] => some (.d (.int i))
  | .int, [.bool b] => some (.d (.int (if b then 1 else 0)))
  | .gcd, [.int i, .int j] => some (.d (.int (Nat.gcd i.natAbs j.natAbs : Nat)))
  | .minL, [.list xs] => ((intsD xs).bind fun ns => ns.min?).map fun i => .d (.int i)
  | .maxL, [.list xs] => ((intsD xs).bind fun ns => ns.max?).map fun i => .d (.int i)
  | .sorted, [.list xs] => (intsD xs).map fun ns => .fresh (.lst ((sortI ns).map .int))
  | .repr, [.list xs] => reprD (.list xs)
  | .repr, [.tuple xs] => reprD (.tuple xs)
  | _, _ => none
def isTy : ETy → D → Bool
  | .int, .int _ => true
  | .int, .bool _ => true
  | .bool, .bool _ => true
  | .str, .str _ => true
  | .tuple, .tuple _ => true
  | .list, .list _ => true
  | _, _ => false

/-! ### places -/
def gt (e : FEnv) (i : Nat) : Plc := e.getD i .emp
/-- what a result shows -/
def view (e : FEnv) : Rs → Option D
  | .d x => some x
  | .fresh (.lst xs) => some (.list xs)
  | .slot i => match gt e i with
    | .own (.lst xs) => some (.list xs)
    | .val d => some d
    | _ => none
/-- it is kept for good: a list of one's own is frozen -/
def capt (np : Nat) (e : FEnv) : Rs → Option (D × FEnv)
  | .d x => some (x, e)
  | .fresh (.lst xs) => some (.list xs, e)
  | .slot i => match gt e i with
    | .own (.lst xs) => if np ≤ i then some (.list xs, e.set i (.val (.list xs))) else none
    | .val d => some (d, e)
    | _ => none
def isOwn : Plc → Bool
  | .own _ => true
  | _ => false
/-- a name is given something -/
def put (np : Nat) (e : FEnv) (i : Nat) (s : Plc) : Option FEnv := if i < e.length then (if isOwn (gt e i) && decide (i < np) then none else some (e.set i s)) else none
def putAll (np : Nat) : FEnv → List Nat → List D → Option FEnv
  | e, [], [] => some e
  | e, i :: is, d :: ds => (put np e i (.val d)).bind fun e1 => putAll np e1 is ds
  | _, _, _ => none
def assignTg (np : Nat) (e : FEnv) : Tg → D → Option FEnv
  | .v i, d => put np e i (.val d)
  | .vs is, .tuple ds => putAll np e is ds
  | _, _ => none

/-! ### calls -/
inductive EArg where
  | d (x : D)
  | own (c : ECell)
inductive CallOut where
  | ok (r : Rs) (fin : List (Option ECell))
  | err (c : Nat) (v : D) (fin : List (Option ECell))
  | stuck
abbrev FT := Nat → List EArg → CallOut
def mkArg (e : FEnv) : Rs → Option EArg
  | .d x => some (.d x)
  | .fresh c => some (.own c)
  | .slot i => match gt e i with
    | .own c => some (.own c)
    | .val d => some (.d d)
    | _ => none
def mkArgs (e : FEnv) : List Rs → Option (List EArg)
  | [] => some []
  | r :: rs => (mkArg e r).bind fun a => (mkArgs e rs).map (a :: ·)
/-- the places that are lent -/
def lent (e : FEnv) : List Rs → List Nat
  | [] => []
  | .slot i :: rs => if isOwn (gt e i) then i :: lent e rs else lent e rs
  | _ :: rs => lent e rs
/-- what is lent comes back -/
def back (e : FEnv) : List Rs → List (Option ECell) → FEnv
  | .slot i :: rs, some c :: fin => back (if isOwn (gt e i) then e.set i (.own c) else e) rs fin
  | _ :: rs, _ :: fin => back e rs fin
  | _, _ => e
def nodupB : List Nat → Bool
  | [] => true
  | i :: r => !r.contains i && nodupB r
def callF (T : FT) (f : Nat) (rs : List Rs) (e : FEnv) : Out Rs := match mkArgs e rs with
  | none => .stuck
  | some as => if nodupB (lent e rs) then (match T f as with
    | .ok r fin => .ok r (back e rs fin)
    | .err c v fin => .err c v (back e rs fin)
    | .stuck => .stuck) else .stuck
def permute (rs : List Rs) (perm : List Nat) : List Rs := if perm.isEmpty then rs else perm.filterMap fun i => rs[i]?

/-! ### expressions -/
def boolOf : D → Option Bool
  | .bool b => some b
  | _ => none
def viewAll (e : FEnv) : List Rs → Option (List D)
  | [] => some []
  | r :: rs => (view e r).bind fun a => (viewAll e rs).map (a :: ·)
def captAll (np : Nat) : FEnv → List Rs → Option (List D × FEnv)
  | e, [] => some ([], e)
  | e, r :: rs => (capt np e r).bind fun (d, e1) => (captAll np e1 rs).map fun (ds, e2) => (d :: ds, e2)
/-- the places of a comprehension's own names -/
def wipe (e : FEnv) : List Nat → FEnv
  | [] => e
  | i :: r => (wipe e r).set i .emp
def restore (e0 e : FEnv) : List Nat → FEnv
  | [] => e
  | i :: r => (restore e0 e r).set i (gt e0 i)
def compL (np : Nat) (own : List Nat) (tg : Tg) (cond : FEnv → Out Bool) (elt : FEnv → Out Rs) : List D → FEnv → List D → Out (List D)
  | [], e, acc => .ok acc e
  | x :: xs, e, acc => match assignTg np (wipe e own) tg x with
    | none => .stuck
    | some e1 => (cond e1).no fun b e2 => if b then (elt e2).no fun r e3 => (match capt np e3 r with
        | none => .stuck
        | some (d, e4) => if acc.length < lim then compL np own tg cond elt xs e4 (acc ++ [d]) else .stuck) else compL np own tg cond elt xs e2 acc
/-- over a list of one's own, as it stands at each turn -/
def compLo (np : Nat) (own : List Nat) (tg : Tg) (cond : FEnv → Out Bool) (elt : FEnv → Out Rs) (w : Nat) : Nat → Nat → FEnv → List D → Out (List D)
  | 0, _, _, _ => .stuck
  | fuel + 1, k, e, acc => match gt e w with
    | .own (.lst ys) => (match ys[k]? with
      | none => .ok acc e
      | some x => (match assignTg np (wipe e own) tg x with
        | none => .stuck
        | some e1 => (cond e1).no fun b e2 => if b then (elt e2).no fun r e3 => (match capt np e3 r with
            | none => .stuck
            | some (d, e4) => if acc.length < lim then compLo np own tg cond elt w fuel (k + 1) e4 (acc ++ [d]) else .stuck) else compLo np own tg cond elt w fuel (k + 1) e2 acc))
    | _ => .stuck
/-- two clauses: the inner one goes on with what was gathered -/
def compL2 (np : Nat) (own : List Nat) (tg : Tg) (cond : FEnv → Out Bool) (inner : FEnv → List D → Out (List D)) : List D → FEnv → List D → Out (List D)
  | [], e, acc => .ok acc e
  | x :: xs, e, acc => match assignTg np (wipe e own) tg x with
    | none => .stuck
    | some e1 => (cond e1).no fun b e2 => if b then (inner e2 acc).no fun acc2 e3 => compL2 np own tg cond inner xs e3 acc2 else compL2 np own tg cond inner xs e2 acc
def rangeL (lo : Int) (n : Nat) : List D := (List.range n).map fun (k : Nat) => .int (lo + (k : Int))
def small62 (i : Int) : Bool := decide (-(2 ^ 62) ≤ i ∧ i < 2 ^ 62)
def smallL (i : Int) : Bool := decide (-(2 ^ 62) ≤ i ∧ i ≤ 16000000)
def itemsD : D → Option (List D)
  | .list xs => some xs
  | .tuple xs => some xs
  | _ => none
def enumD : D → Option (List D)
  | .list xs => some xs
  | .tuple xs => some xs
  | _ => none
def zipL (a b : D) : Option (List D) := (itemsD a).bind fun xs => (itemsD b).map fun ys => List.zipWith (fun x y => .tuple [x, y]) xs ys
def zipT : D → D → Option (List D)
  | .tuple xs, .tuple ys => some (List.zipWith (fun x y => .tuple [x, y]) xs ys)
  | _, _ => none
def enumFrom : Nat → List D → List D
  | _, [] => []
  | k, x :: xs => .tuple [.int k, x] :: enumFrom (k + 1) xs
def tgWide : Tg → Bool
  | .vs _ => true
  | _ => false
def plainOwn (e : FEnv) (own : List Nat) : Bool := own.all fun i => !isOwn (gt e i)
/-- a slice's part: left out, or an int -/
def partP : P → D → Option (Option Int)
  | .non, _ => some none
  | _, .int i => some (some i)
  | _, _ => none
/-- as a test -/
def asB (o : Out Rs) : Out Bool := o.bind fun r e1 => lift ((view e1 r).bind boolOf) e1
structure EProg where
  globs : List D
  fuel : Nat
  sub : Nat → Nat → Option Bool
section
variable (pr : EProg) (T : FT) (np : Nat)
mutual
def ev : P → FEnv → Out Rs
  | .v i, e => (match gt e i with
    | .val d => .ok (.d d) e
    | .own _ => .ok (.slot i) e
    | _ => .stuck)
  | .frz i, e => (match capt np e (.slot i) with
    | some (d, e1) => .ok (.d d) e1
    | none => .stuck)
  | .lit d, e => .ok (.d d) e
  | .non, e => .ok (.d .none) e
  | .glob g, e => lift (pr.globs[g]?.map .d) e
  | .bin op a b, e => (ev a e).bind fun x e1 => (ev b e1).bind fun y e2 => lift ((view e2 x).bind fun dx => (view e2 y).bind fun dy => opD op dx dy) e2
  | .neg a, e => (ev a e).bind fun x e1 => (match view e1 x with
    | some (.int i) => .ok (.d (.int (-i))) e1
    | _ => .stuck)
  | .nt a, e => (asB (ev a e)).bind fun b e1 => .ok (.d (.bool (!b))) e1
  | .and a b, e => (asB (ev a e)).bind fun x e1 => if x then (asB (ev b e1)).bind fun y e2 => .ok (.d (.bool y)) e2 else .ok (.d (.bool false)) e1
  | .or a b, e => (asB (ev a e)).bind fun x e1 => if x then .ok (.d (.bool true)) e1 else (asB (ev b e1)).bind fun y e2 => .ok (.d (.bool y)) e2
  | .cmp op a b, e => (ev a e).bind fun x e1 => (ev b e1).bind fun y e2 => lift ((view e2 x).bind fun dx => (view e2 y).bind fun dy => (cmpD op dx dy).map fun k => .d (.bool k)) e2
  | .chain o1 o2 a b c, e => (ev a e).bind fun x e1 => (ev b e1).bind fun y e2 => (lift ((view e2 x).bind fun dx => (view e2 y).bind fun dy => cmpD o1 dx dy) e2).bind fun k e3 =>
      if k then (ev c e3).bind fun z e4 => lift ((view e4 y).bind fun dy => (view e4 z).bind fun dz => (cmpD o2 dy dz).map fun k => .d (.bool k)) e4 else .ok (.d (.bool false)) e3
  | .isN a, e => (ev a e).bind fun x e1 => lift ((view e1 x).map fun d => .d (.bool (match d with | .none => true | _ => false))) e1
  | .notN a, e => (ev a e).bind fun x e1 => lift ((view e1 x).map fun d => .d (.bool (match d with | .none => false | _ => true))) e1
  | .ite c a b, e => (asB (ev c e)).bind fun k e1 => if k then (ev a e1).bind fun x e2 => (match capt np e2 x with
      | some (d, e3) => .ok (.d d) e3
      | none => .stuck) else (ev b e1).bind fun x e2 => (match capt np e2 x with
      | some (d, e3) => .ok (.d d) e3
      | none => .stuck)
  | .tup xs, e => (evs xs e).bind fun rs e1 => (match captAll np e1 rs with
    | some (ds, e2) => .ok (.d (.tuple ds)) e2
    | none => .stuck)
  | .lst xs, e => (evs xs e).bind fun rs e1 => (match captAll np e1 rs with
    | some (ds, e2) => .ok (.fresh (.lst ds)) e2
    | none => .stuck)
  | .ix a i, e => (ev a e).bind fun x e1 => (ev i e1).bind fun y e2 => lift ((view e2 x).bind fun dx => (view e2 y).bind fun dy => (ixD dx dy).map .d) e2
  | .sl a lo hi, e => (ev a e).bind fun x e1 => ((ev lo e1).bind fun y e2 => lift ((view e2 y).bind (partP lo)) e2).bind fun l e2 => ((ev hi e2).bind fun z e3 => lift ((view e3 z).bind (partP hi)) e3).bind fun h e3 =>
      lift ((view e3 x).bind fun dx => slD dx l h) e3
  | .rev a, e => (ev a e).bind fun x e1 => lift ((view e1 x).bind revD) e1
  | .call f xs ks perm, e => (evs xs e).bind fun rs e1 => (evs ks e1).bind fun rs2 e2 => callF T f (permute (rs ++ rs2) perm) e2
  | .blt b xs, e => (evs xs e).bind fun rs e1 => lift ((viewAll e1 rs).bind fun ds => bltD b ds) e1
  | .isi a ts, e => (ev a e).bind fun x e1 => lift ((view e1 x).map fun d => .d (.bool (ts.any fun t => isTy t d))) e1
  | .indx a b, e => (ev a e).bind fun x e1 => if isL (view e1 x) then (ev b e1).bind fun y e2 => lift ((view e2 x).bind fun dx => (view e2 y).bind fun dy => indD dx dy) e2 else .stuck
  | .lrng a, e => (ev a e).bind fun x e1 => (match view e1 x with
    | some (.int n) => if smallL n then .ok (.fresh (.lst (rangeL 0 n.toNat))) e1 else .stuck
    | _ => .stuck)
  | .comp elt tg it cond own, e => (items it e).no fun xs e1 => if plainOwn e1 own then ((compL np own tg (fun e => asB (ev cond e)) (fun e => ev elt e) xs e1 []).no fun ds e2 => .ok (.fresh (.lst ds)) (restore e1 e2 own)) else .stuck
  | .compo elt tg w cond own, e => if isOwn (gt e w) && plainOwn e own then ((compLo np own tg (fun e => asB (ev cond e)) (fun e => ev elt e) w lim 0 e []).no fun ds e2 => .ok (.fresh (.lst ds)) (restore e e2 own)) else .stuck
  | .comp2 elt tg it cond tg1 it1 cond1 own vs1, e => (items it e).no fun xs e1 => if plainOwn e1 own then ((compL2 np own tg (fun e => asB (ev cond e)) (fun e acc => (items it1 e).no fun ys e1 => if plainOwn e1 vs1 then compL np vs1 tg1 (fun e => asB (ev cond1 e)) (fun e => ev elt e) ys e1 acc else .stuck) xs e1 []).no fun ds e2 => .ok (.fresh (.lst ds)) (restore e1 e2 own)) else .stuck
  | .cap a, e => (ev a e).bind fun x e1 => (match capt np e1 x with
    | some (d, e2) => .ok (.d d) e2
    | none => .stuck)
def evs : Ps → FEnv → Out (List Rs)
  | .nil, e => .ok [] e
  | .cons x xs, e => (ev x e).bind fun r e1 => (evs xs e1).bind fun rs e2 => .ok (r :: rs) e2
def items : EIt → FEnv → Out (List D)
  | .seq p, e => (ev p e).bind fun r e1 => (match capt np e1 r with
    | some (d, e2) => lift (itemsD d) e2
    | none => .stuck)
  | .r1 p, e => (ev p e).bind fun r e1 => (match view e1 r with
    | some (.int n) => if small62 n then .ok (rangeL 0 n.toNat) e1 else .stuck
    | _ => .stuck)
  | .r2 p q, e => (ev p e).bind fun r e1 => (ev q e1).bind fun s e2 => (match view e2 r, view e2 s with
    | some (.int i), some (.int j) => if small62 i && small62 j then .ok (rangeL i (j - i).toNat) e2 else .stuck
    | _, _ => .stuck)
  | .zip p q, e => (ev p e).bind fun r e1 => (ev q e1).bind fun s e2 => (match captAll np e2 [r, s] with
    | some ([x, y], e3) => lift (zipL x y) e3
    | _ => .stuck)
  | .enum p, e => (ev p e).bind fun r e1 => (match capt np e1 r with
    | some (d, e2) => lift ((enumD d).map (enumFrom 0)) e2
    | none => .stuck)
  | .zipn p q, e => (ev p e).bind fun r e1 => (ev q e1).bind fun s e2 => (match captAll np e2 [r, s] with
    | some ([x, y], e3) => lift (zipT x y) e3
    | _ => .stuck)
end
end

/-! ### statements -/
mutual
/-- what an except suite tells: e.value is val -/
inductive Xp where
  | lit (d : D)
  | val
  | tup (xs : Xps)
  | lst (xs : Xps)
inductive Xps where
  | nil
  | cons (x : Xp) (r : Xps)
end
mutual
def xpD (v : D) : Xp → D
  | .lit d => d
  | .val => v
  | .tup xs => .tuple (xpsD v xs)
  | .lst xs => .list (xpsD v xs)
def xpsD (v : D) : Xps → List D
  | .nil => []
  | .cons x r => xpD v x :: xpsD v r
end
/-- an except suite -/
inductive Su where
  | asg (j : Nat) (p : Xp)
  | ret (p : Xp)
  | pass
/-- a part of a target: a name, a place of a list of one's own -/
inductive Tx where
  | v (i : Nat)
  | ix (i : Nat) (j : P)
mutual
inductive S where
  | asg (i : Nat) (e : P)
  | own (i : Nat) (e : P)
  | unp (ts : List Tx) (e : P)
  | par (is : List Nat) (ow : List Bool) (xs : Ps)
  | seti (i : Nat) (j e : P)
  | app (i : Nat) (e : P)
  | aug (i : Nat) (neg : Bool) (e : P)
  | augs (i : Nat) (j : P) (neg : Bool) (e : P)
  | expr (e : P)
  | ite (c : P) (a b : Ss)
  | for_ (tg : Tg) (it : EIt) (body : Ss)
  | whl (c : P) (body : Ss)
  | ret (e : P)
  | raise (c : Nat) (e : P)
  | try_ (body : Ss) (cl : Cl)
  | pass
  | brk
  | cont
inductive Ss where
  | nil
  | cons (s : S) (r : Ss)
inductive Cl where
  | nil
  | cons (c : Nat) (i : Option Nat) (suite : Su) (r : Cl)
end
inductive EFlow where
  | next | brk | cont
  | ret (r : Rs)
/-- the suite, v being e.value -/
def suD (np : Nat) (v : D) (e : FEnv) : Su → Out EFlow
  | .asg j p => (match put np e j (.val (xpD v p)) with
    | some e1 => .ok .next e1
    | none => .stuck)
  | .ret p => .ok (.ret (.d (xpD v p))) e
  | .pass => .ok .next e
/-- the clause's name goes behind its suite -/
def asGone (i : Nat) : Out EFlow → Out EFlow
  | .ok f e => .ok f (e.set i .emp)
  | o => o
/-- what leaves a frame -/
def moveOut (np : Nat) (e : FEnv) : Rs → Option (Rs × FEnv)
  | .slot i => match gt e i with
    | .own c => if np ≤ i then some (.fresh c, e.set i .emp) else none
    | .val d => some (.d d, e)
    | _ => none
  | r => some (r, e)
def forL (np : Nat) (tg : Tg) (body : FEnv → Out EFlow) : List D → FEnv → Out EFlow
  | [], e => .ok .next e
  | x :: xs, e => match assignTg np e tg x with
    | none => .stuck
    | some e1 => (body e1).bind fun f e2 => match f with
      | .next => forL np tg body xs e2
      | .cont => forL np tg body xs e2
      | .brk => .ok .next e2
      | .ret r => .ok (.ret r) e2
def whileL (c : FEnv → Out Bool) (body : FEnv → Out EFlow) : Nat → FEnv → Out EFlow
  | 0, _ => .stuck
  | n + 1, e => (c e).bind fun b e1 => if b then (body e1).bind fun f e2 => (match f with
      | .next => whileL c body n e2
      | .cont => whileL c body n e2
      | .brk => .ok .next e2
      | .ret r => .ok (.ret r) e2) else .ok .next e1
/-- values for places: kept, or one's own -/
def parPl (np : Nat) : FEnv → List Bool → List Rs → Option (List Rs × FEnv)
  | e, [], [] => some ([], e)
  | e, false :: ow, r :: rs => (capt np e r).bind fun (d, e1) => (parPl np e1 ow rs).map fun (qs, e2) => (.d d :: qs, e2)
  | e, true :: ow, .fresh c :: rs => (parPl np e ow rs).map fun (qs, e2) => (.fresh c :: qs, e2)
  | _, _, _ => none
def putQ (np : Nat) : FEnv → List Nat → List Rs → Option FEnv
  | e, [], [] => some e
  | e, i :: is, .d d :: qs => (put np e i (.val d)).bind fun e1 => putQ np e1 is qs
  | e, i :: is, .fresh c :: qs => (put np e i (.own c)).bind fun e1 => putQ np e1 is qs
  | _, _, _ => none
def augI (neg : Bool) (u w : Int) : Int := if neg then u - w else u + w
def setAt (xs : List D) (i : Int) (d : D) : Option (List D) := (ixN xs.length i).map fun j => xs.set j d
section
variable (pr : EProg) (T : FT) (np : Nat)
def asgT : List Tx → List D → FEnv → Out EFlow
  | [], [], e => .ok .next e
  | .v i :: ts, d :: ds, e => (match put np e i (.val d) with
    | some e1 => asgT ts ds e1
    | none => .stuck)
  | .ix i j :: ts, d :: ds, e => if isOwn (gt e i) then (ev pr T np j e).bind fun y e1 => (match gt e1 i, view e1 y with
    | .own (.lst xs), some (.int k) => (match setAt xs k d with
      | some ys => asgT ts ds (e1.set i (.own (.lst ys)))
      | none => .stuck)
    | _, _ => .stuck) else .stuck
  | _, _, _ => .stuck
mutual
def ex : S → FEnv → Out EFlow
  | .asg i p, e => (ev pr T np p e).bind fun r e1 => (match capt np e1 r with
    | some (d, e2) => (match put np e2 i (.val d) with
      | some e3 => .ok .next e3
      | none => .stuck)
    | none => .stuck)
  | .own i p, e => (ev pr T np p e).bind fun r e1 => (match r with
    | .fresh c => (match put np e1 i (.own c) with
      | some e2 => .ok .next e2
      | none => .stuck)
    | _ => .stuck)
  | .unp ts p, e => (ev pr T np p e).bind fun r e1 => (match capt np e1 r with
    | some (.tuple ds, e2) => if ds.length = ts.length then asgT pr T np ts ds e2 else .stuck
    | some (.list ds, e2) => if ds.length = ts.length then asgT pr T np ts ds e2 else .stuck
    | _ => .stuck)
  | .par is ow xs, e => (evs pr T np xs e).bind fun rs e1 => (match parPl np e1 ow rs with
    | some (qs, e2) => (match putQ np e2 is qs with
      | some e3 => .ok .next e3
      | none => .stuck)
    | none => .stuck)
  | .seti i j p, e => (ev pr T np p e).bind fun r e1 => (match capt np e1 r with
    | some (d, e2) => asgT pr T np [.ix i j] [d] e2
    | none => .stuck)
  | .aug i ng p, e => (match gt e i with
    | .val (.int u) => (ev pr T np p e).bind fun r e1 => (match view e1 r with
      | some (.int w) => (match put np e1 i (.val (.int (augI ng u w))) with
        | some e2 => .ok .next e2
        | none => .stuck)
      | _ => .stuck)
    | _ => .stuck)
  | .augs i j ng p, e => if isOwn (gt e i) then (ev pr T np j e).bind fun y e1 => (match gt e1 i, view e1 y with
    | .own (.lst xs), some (.int k) => (match atI xs k with
      | some (.int u) => (ev pr T np p e1).bind fun r e2 => (match gt e2 i, view e2 r with
        | .own (.lst ys), some (.int w) => (match setAt ys k (.int (augI ng u w)) with
          | some zs => .ok .next (e2.set i (.own (.lst zs)))
          | none => .stuck)
        | _, _ => .stuck)
      | _ => .stuck)
    | _, _ => .stuck) else .stuck
  | .app i p, e => if isOwn (gt e i) then (ev pr T np p e).bind fun r e1 => (match capt np e1 r with
    | some (d, e2) => (match gt e2 i with
      | .own (.lst xs) => if xs.length < lim then .ok .next (e2.set i (.own (.lst (xs ++ [d])))) else .stuck
      | _ => .stuck)
    | none => .stuck) else .stuck
  | .expr p, e => (ev pr T np p e).bind fun _ e1 => .ok .next e1
  | .ite c a b, e => (asB (ev pr T np c e)).bind fun k e1 => if k then exs a e1 else exs b e1
  | .for_ tg it body, e => (items pr T np it e).bind fun xs e1 => forL np tg (fun e => exs body e) xs e1
  | .whl c body, e => whileL (fun e => asB (ev pr T np c e)) (fun e => exs body e) pr.fuel e
  | .ret p, e => (ev pr T np p e).bind fun r e1 => (match moveOut np e1 r with
    | some (r2, e2) => .ok (.ret r2) e2
    | none => .stuck)
  | .raise c p, e => (ev pr T np p e).bind fun r e1 => (match capt np e1 r with
    | some (d, e2) => .err c d e2
    | none => .stuck)
  | .try_ body cl, e => (match exs body e with
    | .err c d e1 => catch_ cl c d e1
    | o => o)
  | .pass, e => .ok .next e
  | .brk, e => .ok .brk e
  | .cont, e => .ok .cont e
def exs : Ss → FEnv → Out EFlow
  | .nil, e => .ok .next e
  | .cons s r, e => (ex s e).bind fun f e1 => (match f with
    | .next => exs r e1
    | f => .ok f e1)
def catch_ : Cl → Nat → D → FEnv → Out EFlow
  | .nil, c, d, e => .err c d e
  | .cons c' i suite r, c, d, e => (match pr.sub c c' with
    | none => .stuck
    | some true => (match i with
      | none => suD np d e suite
      | some i => (match put np e i .emp with
        | some e1 => asGone i (suD np d e1 suite)
        | none => .stuck))
    | some false => catch_ r c d e)
end
end

/-! ### defs -/
structure FunD where
  np : Nat
  ns : Nat
  body : Ss
def argSlot : EArg → Plc
  | .d x => .val x
  | .own c => .own c
def startEnv (d : FunD) (as : List EArg) : FEnv := as.map argSlot ++ List.replicate (d.ns - d.np) .emp
def finOf : Plc → Plc → Option ECell
  | .own _, .own c => some c
  | _, _ => none
def fins (as : List EArg) (e : FEnv) : List (Option ECell) := List.zipWith (fun a s => finOf (argSlot a) s) as e
def finish (as : List EArg) : Out EFlow → CallOut
  | .ok (.ret (.slot _)) _ => .stuck
  | .ok (.ret r) e => .ok r (fins as e)
  | .ok .next e => .ok (.d .none) (fins as e)
  | .err c v e => .err c v (fins as e)
  | _ => .stuck
def run (pr : EProg) (defs : List FunD) : Nat → FT
  | 0, _, _ => .stuck
  | n + 1, f, as => match defs[f]? with
    | none => .stuck
    | some d => if as.length = d.np ∧ d.np ≤ d.ns then finish as (exs pr (run pr defs n) d.np d.body (startEnv d as)) else .stuck
end Ev
end
section
set_option linter.all false
set_option maxRecDepth 100000
/-! Plain lemmas about the evaluator's loops. -/
namespace Ev
open PySem
theorem run_at {pr : EProg} {defs : List FunD} {n f : Nat} {as : List EArg} {d : FunD} (h : defs[f]? = some d) (hl : as.length = d.np ∧ d.np ≤ d.ns) : run pr defs (n + 1) f as = finish as (exs pr (run pr defs n) d.np d.body (startEnv d as)) := by
  show (match defs[f]? with | none => CallOut.stuck | some d => if as.length = d.np ∧ d.np ≤ d.ns then finish as (exs pr (run pr defs n) d.np d.body (startEnv d as)) else .stuck) = _
  rw [h]
  show (if as.length = d.np ∧ d.np ≤ d.ns then finish as (exs pr (run pr defs n) d.np d.body (startEnv d as)) else .stuck) = _
  rw [if_pos hl]
/-! ### comprehensions that change nothing -/
theorem set_set {α : Type} {l : List α} {i : Nat} {a b : α} : (l.set i a).set i b = l.set i b := List.set_set ..
/-- [F(x) for x in xs if B(x)], one name, the frame as it was -/
theorem compL_pure {np i : Nat} {cond : FEnv → Out Bool} {elt : FEnv → Out Rs} {B : D → Bool} {F : D → D} {e : FEnv} (hi : i < e.length) (hn : ∀ x, put np (e.set i .emp) i (.val x) = some (e.set i (.val x))) :
    ∀ (xs : List D) (e0 : FEnv) (acc : List D), (∀ x ∈ xs, cond (e.set i (.val x)) = .ok (B x) (e.set i (.val x)) ∧ (B x = true → elt (e.set i (.val x)) = .ok (.d (F x)) (e.set i (.val x)))) → (∃ p, e0 = e.set i p) → acc.length + xs.length ≤ lim →
      ∃ p, compL np [i] (.v i) cond elt xs e0 acc = .ok (acc ++ (xs.filter B).map F) (e.set i p)
  | [], e0, acc, _, ⟨p, hp⟩, _ => ⟨p, by rw [hp]; simp [compL]⟩
  | x :: xs, e0, acc, h, ⟨p, hp⟩, hl => by
    obtain ⟨h1, h2⟩ := h x List.mem_cons_self
    have hw : wipe e0 [i] = e.set i .emp := by
      subst hp
      show (e.set i p).set i .emp = _
      rw [set_set]
    have ha : assignTg np (wipe e0 [i]) (.v i) x = some (e.set i (.val x)) := by
      rw [hw]
      exact hn x
    have rest := fun acc => compL_pure (cond := cond) (elt := elt) (B := B) (F := F) hi hn xs (e.set i (.val x)) acc (fun y hy => h y (List.mem_cons_of_mem _ hy)) ⟨_, rfl⟩
    rw [List.length_cons] at hl
    unfold compL
    rw [ha]
    simp only [h1, Out.no]
    cases hb : B x with
    | false =>
      simp only [Bool.false_eq_true, if_false]
      obtain ⟨q, hq⟩ := rest acc (by omega)
      exact ⟨q, by rw [hq, List.filter_cons, hb]; rfl⟩
    | true =>
      simp only [if_true, h2 hb, capt]
      have : acc.length < lim := by omega
      simp only [this, if_true]
      obtain ⟨q, hq⟩ := rest (acc ++ [F x]) (by rw [List.length_append]; simp; omega)
      exact ⟨q, by rw [hq, List.filter_cons, hb]; simp⟩
theorem comp_pure {pr : EProg} {T : FT} {np i : Nat} {elt cond : P} {it : EIt} {e e1 : FEnv} {xs : List D} {B : D → Bool} {F : D → D} (hit : items pr T np it e = .ok xs e1) (hi : i < e1.length) (ho : isOwn (gt e1 i) = false) (hl : xs.length ≤ lim)
    (h : ∀ x ∈ xs, asB (ev pr T np cond (e1.set i (.val x))) = .ok (B x) (e1.set i (.val x)) ∧ (B x = true → ev pr T np elt (e1.set i (.val x)) = .ok (.d (F x)) (e1.set i (.val x)))) :
    ev pr T np (.comp elt (.v i) it cond [i]) e = .ok (.fresh (.lst ((xs.filter B).map F))) e1 := by
  have hn : ∀ x, put np (e1.set i .emp) i (.val x) = some (e1.set i (.val x)) := fun x => by
    unfold put
    have : isOwn (gt (e1.set i .emp) i) = false := by
      unfold gt
      rw [List.getD_eq_getElem?_getD, List.getElem?_set_self hi]
      rfl
    rw [if_pos (by rw [List.length_set]; exact hi), this]
    simp [set_set]
  obtain ⟨p, hp⟩ := compL_pure (np := np) (cond := fun e => asB (ev pr T np cond e)) (elt := fun e => ev pr T np elt e) (B := B) (F := F) hi hn xs e1 [] h ⟨gt e1 i, by
    refine List.ext_getElem? fun j => ?_
    by_cases hj : i = j
    · subst hj
      rw [List.getElem?_set_self hi]
      unfold gt
      rw [List.getD_eq_getElem?_getD, List.getElem?_eq_getElem hi]
      rfl
    · rw [List.getElem?_set_ne hj]⟩ (by simpa using hl)
  show (items pr T np it e).no (fun xs e1 => if plainOwn e1 [i] = true then ((compL np [i] (.v i) (fun e => asB (ev pr T np cond e)) (fun e => ev pr T np elt e) xs e1 []).no fun ds e2 => Out.ok (Rs.fresh (.lst ds)) (restore e1 e2 [i])) else .stuck) = _
  rw [hit]
  have pl : plainOwn e1 [i] = true := by simp [plainOwn, ho]
  simp only [Out.no, pl, if_true, hp, List.nil_append]
  have hr : restore e1 (e1.set i p) [i] = e1 := by
    show (e1.set i p).set i (gt e1 i) = e1
    rw [set_set]
    refine List.ext_getElem? fun j => ?_
    by_cases hj : i = j
    · subst hj
      rw [List.getElem?_set_self hi]
      unfold gt
      rw [List.getD_eq_getElem?_getD, List.getElem?_eq_getElem hi]
      rfl
    · rw [List.getElem?_set_ne hj]
  rw [hr]
/-! ### loops by an invariant -/
theorem for_inv {np : Nat} {tg : Tg} {body : FEnv → Out EFlow} {xs : List D} {e : FEnv} (I : Nat → FEnv → Prop) (h0 : I 0 e) (step : ∀ k e x, xs[k]? = some x → I k e → ∃ e1 e2, assignTg np e tg x = some e1 ∧ body e1 = .ok .next e2 ∧ I (k + 1) e2) :
    ∃ e', forL np tg body xs e = .ok .next e' ∧ I xs.length e' := by
  have main : ∀ (m k : Nat) (e : FEnv), xs.length = k + m → I k e → ∃ e', forL np tg body (xs.drop k) e = .ok .next e' ∧ I xs.length e' := by
    intro m
    induction m with
    | zero =>
      intro k e hk hI
      rw [List.drop_of_length_le (by omega)]
      rw [Nat.add_zero] at hk
      rw [hk]
      exact ⟨e, rfl, hI⟩
    | succ m ih =>
      intro k e hk hI
      have hlt : k < xs.length := by omega
      obtain ⟨e1, e2, h1, h2, h3⟩ := step k e xs[k] (List.getElem?_eq_getElem hlt) hI
      obtain ⟨e', h4, h5⟩ := ih (k + 1) e2 (by omega) h3
      refine ⟨e', ?_, h5⟩
      rw [List.drop_eq_getElem_cons hlt]
      unfold forL
      rw [h1]
      simp only [h2, Out.bind]
      exact h4
  exact main xs.length 0 e (by omega) h0
/-- draws and the like: an accumulator by an invariant -/
theorem compL_inv {np i : Nat} {elt : FEnv → Out Rs} {xs : List D} {e : FEnv} (I : Nat → List D → FEnv → Prop) (h0 : I 0 [] e) (hl : xs.length ≤ lim)
    (step : ∀ k acc e x, xs[k]? = some x → acc.length = k → I k acc e → ∃ e1 r e3 d e4, assignTg np (wipe e [i]) (.v i) x = some e1 ∧ elt e1 = .ok r e3 ∧ capt np e3 r = some (d, e4) ∧ I (k + 1) (acc ++ [d]) e4) :
    ∃ ds e', compL np [i] (.v i) (fun e => .ok true e) elt xs e [] = .ok ds e' ∧ ds.length = xs.length ∧ I xs.length ds e' := by
  have main : ∀ (m k : Nat) (acc : List D) (e : FEnv), xs.length = k + m → acc.length = k → I k acc e → ∃ ds e', compL np [i] (.v i) (fun e => .ok true e) elt (xs.drop k) e acc = .ok ds e' ∧ ds.length = xs.length ∧ I xs.length ds e' := by
    intro m
    induction m with
    | zero =>
      intro k acc e hk ha hI
      rw [List.drop_of_length_le (by omega)]
      rw [Nat.add_zero] at hk
      rw [hk]
      exact ⟨acc, e, rfl, by omega, hI⟩
    | succ m ih =>
      intro k acc e hk ha hI
      have hlt : k < xs.length := by omega
      obtain ⟨e1, r, e3, d, e4, h1, h2, h3, h4⟩ := step k acc e xs[k] (List.getElem?_eq_getElem hlt) ha hI
      obtain ⟨ds, e', h5, h6⟩ := ih (k + 1) (acc ++ [d]) e4 (by omega) (by rw [List.length_append]; simp; omega) h4
      refine ⟨ds, e', ?_, h6⟩
      rw [List.drop_eq_getElem_cons hlt]
      unfold compL
      rw [h1]
      simp only [Out.no, if_true, h2, h3]
      have : acc.length < lim := by omega
      simp only [this, if_true]
      exact h5
  exact main xs.length 0 [] e (by omega) rfl h0
/-- range(n): kept apart, so that nothing unrolls its bound -/
theorem items_r1 {pr : EProg} {T : FT} {np : Nat} {p : P} {e e1 : FEnv} {r : Rs} {n : Int} (h : ev pr T np p e = .ok r e1) (hv : view e1 r = some (.int n)) (hs : small62 n = true) : items pr T np (.r1 p) e = .ok (rangeL 0 n.toNat) e1 := by
  show (ev pr T np p e).bind (fun r e1 => match view e1 r with | some (.int n) => if small62 n = true then Out.ok (rangeL 0 n.toNat) e1 else .stuck | _ => .stuck) = _
  rw [h]
  show (match view e1 r with | some (.int n) => if small62 n = true then Out.ok (rangeL 0 n.toNat) e1 else .stuck | _ => .stuck) = _
  rw [hv]
  show (if small62 n = true then Out.ok (rangeL 0 n.toNat) e1 else .stuck) = _
  rw [if_pos hs]
/-- a call, its arguments being what they are -/
theorem callF_ok {T : FT} {f : Nat} {rs : List Rs} {e e' : FEnv} {as : List EArg} {r : Rs} {fin : List (Option ECell)} (h1 : mkArgs e rs = some as) (h2 : nodupB (lent e rs) = true) (h3 : T f as = .ok r fin) (h4 : back e rs fin = e') : callF T f rs e = .ok r e' := by
  unfold callF
  rw [h1]
  show (if nodupB (lent e rs) then _ else _) = _
  rw [if_pos h2, h3]
  show Out.ok r (back e rs fin) = _
  rw [h4]
theorem ev_call {pr : EProg} {T : FT} {np f : Nat} {xs ks : Ps} {perm : List Nat} {rs rs2 rs3 : List Rs} {e e1 e2 e' : FEnv} {as : List EArg} {r : Rs} {fin : List (Option ECell)} (g1 : evs pr T np xs e = .ok rs e1) (g2 : evs pr T np ks e1 = .ok rs2 e2) (g3 : permute (rs ++ rs2) perm = rs3) (h1 : mkArgs e2 rs3 = some as) (h2 : nodupB (lent e2 rs3) = true) (h3 : T f as = .ok r fin) (h4 : back e2 rs3 fin = e') : ev pr T np (.call f xs ks perm) e = .ok r e' := by
  show (evs pr T np xs e).bind _ = _
  rw [g1]
  show (evs pr T np ks e1).bind _ = _
  rw [g2]
  show callF T f (permute (rs ++ rs2) perm) e2 = _
  rw [g3]
  exact callF_ok h1 h2 h3 h4
theorem put_loc {np i : Nat} {e : FEnv} {s : Plc} (h : Nat.ble (i + 1) e.length = true) (hn : Nat.ble np i = true) : put np e i s = some (e.set i s) := by
  have h : i < e.length := Nat.le_of_ble_eq_true h
  have hn := Nat.le_of_ble_eq_true hn
  unfold put
  rw [if_pos h]
  have : (isOwn (gt e i) && decide (i < np)) = false := by
    rw [decide_eq_false (by omega), Bool.and_false]
  rw [this]
  rfl
theorem ev_blt1 {pr : EProg} {T : FT} {np : Nat} {b : B} {p : P} {e e1 : FEnv} {r r2 : Rs} {d : D} (h : ev pr T np p e = .ok r e1) (hv : view e1 r = some d) (hb : bltD b [d] = some r2) : ev pr T np (.blt b (.cons p .nil)) e = .ok r2 e1 := by
  show (evs pr T np (.cons p .nil) e).bind _ = _
  have : evs pr T np (.cons p .nil) e = .ok [r] e1 := by
    show (ev pr T np p e).bind _ = _
    rw [h]
    rfl
  rw [this]
  show lift ((viewAll e1 [r]).bind _) e1 = _
  have : viewAll e1 [r] = some [d] := by
    show (view e1 r).bind _ = _
    rw [hv]
    rfl
  rw [this]
  show lift (bltD b [d]) e1 = _
  rw [hb]
  rfl
/-! ### two clauses that change nothing -/
theorem gt_set_self {e : FEnv} {i : Nat} {p : Plc} (h : i < e.length) : gt (e.set i p) i = p := by
  unfold gt
  rw [List.getD_eq_getElem?_getD, List.getElem?_set_self h]
  rfl
theorem gt_set_ne {e : FEnv} {i j : Nat} {p : Plc} (h : i ≠ j) : gt (e.set i p) j = gt e j := by
  unfold gt
  rw [List.getD_eq_getElem?_getD, List.getElem?_set_ne h, ← List.getD_eq_getElem?_getD]
theorem set_gt {e : FEnv} {i : Nat} (h : i < e.length) : e.set i (gt e i) = e := by
  refine List.ext_getElem? fun k => ?_
  by_cases hk : i = k
  · subst hk
    rw [List.getElem?_set_self h]
    unfold gt
    rw [List.getD_eq_getElem?_getD, List.getElem?_eq_getElem h]
    rfl
  · rw [List.getElem?_set_ne hk]
theorem put_free {np i : Nat} {e : FEnv} {s : Plc} (h : i < e.length) (ho : isOwn (gt e i) = false) : put np e i s = some (e.set i s) := by
  unfold put
  rw [if_pos h, ho]
  rfl
/-- the outer clause; the inner one by what it gathers -/
theorem compL2_pure {np i j : Nat} {cond : FEnv → Out Bool} {inner : FEnv → List D → Out (List D)} {e1 : FEnv} {B : D → Bool} {G : D → List D} {m : D → Nat} (hi : i < e1.length) (hj : j < e1.length) (hij : i ≠ j) :
    ∀ (xs : List D) (e0 : FEnv) (acc : List D), (∀ x ∈ xs, cond ((e1.set j .emp).set i (.val x)) = .ok (B x) ((e1.set j .emp).set i (.val x)) ∧ (B x = true → ∀ acc : List D, acc.length + m x ≤ lim → ∃ r, inner ((e1.set j .emp).set i (.val x)) acc = .ok (acc ++ G x) (((e1.set j .emp).set i (.val x)).set j r))) →
      (∀ x, (G x).length ≤ m x) → (∃ p q, e0 = (e1.set i p).set j q) → acc.length + ((xs.filter B).map m).sum ≤ lim →
      ∃ p q, compL2 np [i, j] (.v i) cond inner xs e0 acc = .ok (acc ++ (xs.filter B).flatMap G) ((e1.set i p).set j q)
  | [], e0, acc, _, _, ⟨p, q, he⟩, _ => ⟨p, q, by rw [he]; simp [compL2]⟩
  | x :: xs, e0, acc, hh, hG, ⟨p, q, he⟩, hn => by
    subst he
    obtain ⟨h1, h2⟩ := hh x List.mem_cons_self
    have hw : wipe ((e1.set i p).set j q) [i, j] = (e1.set j .emp).set i .emp := by
      show (((e1.set i p).set j q).set j .emp).set i .emp = _
      rw [set_set, List.set_comm _ _ hij, set_set]
    have hli : i < (e1.set j .emp).length := by rw [List.length_set]; exact hi
    have ha : assignTg np (wipe ((e1.set i p).set j q) [i, j]) (.v i) x = some ((e1.set j .emp).set i (.val x)) := by
      rw [hw]
      show put np _ i (.val x) = _
      rw [put_free (by rw [List.length_set, List.length_set]; exact hi) (by rw [gt_set_self hli]; rfl), set_set]
    show ∃ p' q', (match assignTg np (wipe ((e1.set i p).set j q) [i, j]) (.v i) x with
      | none => .stuck
      | some e1 => (cond e1).no fun b e2 => if b = true then (inner e2 acc).no fun acc2 e3 => compL2 np [i, j] (.v i) cond inner xs e3 acc2 else compL2 np [i, j] (.v i) cond inner xs e2 acc) = Out.ok (acc ++ ((x :: xs).filter B).flatMap G) ((e1.set i p').set j q')
    rw [ha]
    show ∃ p' q', (cond ((e1.set j .emp).set i (.val x))).no _ = _
    rw [h1]
    cases hb : B x with
    | false =>
      rw [List.filter_cons, hb] at hn ⊢
      obtain ⟨p2, q2, e2⟩ := compL2_pure (np := np) (cond := cond) (inner := inner) (B := B) (G := G) (m := m) hi hj hij xs ((e1.set j .emp).set i (.val x)) acc (fun y hy => hh y (List.mem_cons_of_mem _ hy)) hG ⟨.val x, .emp, List.set_comm _ _ (Ne.symm hij)⟩ (by simpa using hn)
      exact ⟨p2, q2, e2⟩
    | true =>
      rw [List.filter_cons, hb, if_pos rfl, List.map_cons, List.sum_cons] at hn
      rw [List.filter_cons, hb, if_pos rfl, List.flatMap_cons]
      obtain ⟨r, hr⟩ := h2 hb acc (by omega)
      show ∃ p' q', (inner ((e1.set j .emp).set i (.val x)) acc).no _ = _
      rw [hr]
      have := hG x
      obtain ⟨p2, q2, e2⟩ := compL2_pure (np := np) (cond := cond) (inner := inner) (B := B) (G := G) (m := m) hi hj hij xs (((e1.set j .emp).set i (.val x)).set j r) (acc ++ G x) (fun y hy => hh y (List.mem_cons_of_mem _ hy)) hG ⟨.val x, r, by rw [List.set_comm _ _ (Ne.symm hij), set_set]⟩ (by rw [List.length_append]; omega)
      exact ⟨p2, q2, by rw [← List.append_assoc]; exact e2⟩
theorem comp2_pure {pr : EProg} {T : FT} {np i j : Nat} {elt cond cond1 : P} {it it1 : EIt} {e e1 : FEnv} {xs : List D} {B : D → Bool} {Y : D → List D} {B1 : D → D → Bool} {F : D → D → D} (hit : items pr T np it e = .ok xs e1) (hi : i < e1.length) (hj : j < e1.length) (hij : i ≠ j) (ho : isOwn (gt e1 i) = false) (ho2 : isOwn (gt e1 j) = false)
    (hl : ((xs.filter B).map fun x => (Y x).length).sum ≤ lim)
    (h : ∀ x ∈ xs, asB (ev pr T np cond ((e1.set j .emp).set i (.val x))) = .ok (B x) ((e1.set j .emp).set i (.val x)) ∧ (B x = true → items pr T np it1 ((e1.set j .emp).set i (.val x)) = .ok (Y x) ((e1.set j .emp).set i (.val x)) ∧
      ∀ y ∈ Y x, asB (ev pr T np cond1 (((e1.set j .emp).set i (.val x)).set j (.val y))) = .ok (B1 x y) (((e1.set j .emp).set i (.val x)).set j (.val y)) ∧ (B1 x y = true → ev pr T np elt (((e1.set j .emp).set i (.val x)).set j (.val y)) = .ok (.d (F x y)) (((e1.set j .emp).set i (.val x)).set j (.val y))))) :
    ev pr T np (.comp2 elt (.v i) it cond (.v j) it1 cond1 [i, j] [j]) e = .ok (.fresh (.lst ((xs.filter B).flatMap fun x => ((Y x).filter (B1 x)).map (F x)))) e1 := by
  obtain ⟨p, q, hp⟩ := compL2_pure (np := np) (cond := fun e => asB (ev pr T np cond e)) (inner := fun e acc => (items pr T np it1 e).no fun ys e1 => if plainOwn e1 [j] = true then compL np [j] (.v j) (fun e => asB (ev pr T np cond1 e)) (fun e => ev pr T np elt e) ys e1 acc else .stuck) (B := B) (G := fun x => ((Y x).filter (B1 x)).map (F x)) (m := fun x => (Y x).length) hi hj hij xs e1 [] (fun x hx => ⟨(h x hx).1, fun hb acc hn => by
    obtain ⟨g1, g2⟩ := (h x hx).2 hb
    have hlj : j < ((e1.set j .emp).set i (.val x)).length := by rw [List.length_set, List.length_set]; exact hj
    have pl : plainOwn ((e1.set j .emp).set i (.val x)) [j] = true := by
      show (!isOwn (gt _ j) && true) = true
      rw [gt_set_ne hij, gt_set_self hj]
      rfl
    obtain ⟨r, hr⟩ := compL_pure (np := np) (cond := fun e => asB (ev pr T np cond1 e)) (elt := fun e => ev pr T np elt e) (B := B1 x) (F := F x) (e := (e1.set j .emp).set i (.val x)) (i := j) hlj (fun y => by
      rw [put_free (by rw [List.length_set]; exact hlj) (by rw [gt_set_self hlj]; rfl), set_set]) (Y x) ((e1.set j .emp).set i (.val x)) acc g2 ⟨gt ((e1.set j .emp).set i (.val x)) j, (set_gt hlj).symm⟩ hn
    refine ⟨r, ?_⟩
    show (items pr T np it1 ((e1.set j .emp).set i (.val x))).no _ = _
    rw [g1]
    show (if plainOwn ((e1.set j .emp).set i (.val x)) [j] = true then _ else _) = _
    rw [if_pos pl]
    exact hr⟩) (fun x => by rw [List.length_map]; exact List.length_filter_le _ _) ⟨gt e1 i, gt e1 j, by rw [set_gt hi, set_gt hj]⟩ (by simpa using hl)
  show (items pr T np it e).no (fun xs e1 => if plainOwn e1 [i, j] = true then _ else .stuck) = _
  rw [hit]
  have pl : plainOwn e1 [i, j] = true := by simp [plainOwn, ho, ho2]
  show (if plainOwn e1 [i, j] = true then Out.no (compL2 np [i, j] (.v i) (fun e => asB (ev pr T np cond e)) (fun e acc => (items pr T np it1 e).no fun ys e1 => if plainOwn e1 [j] = true then compL np [j] (.v j) (fun e => asB (ev pr T np cond1 e)) (fun e => ev pr T np elt e) ys e1 acc else .stuck) xs e1 []) (fun ds e2 => Out.ok (Rs.fresh (.lst ds)) (restore e1 e2 [i, j])) else .stuck) = _
  rw [if_pos pl, hp, List.nil_append]
  have hr : restore e1 ((e1.set i p).set j q) [i, j] = e1 := by
    show (((e1.set i p).set j q).set j (gt e1 j)).set i (gt e1 i) = e1
    rw [set_set, List.set_comm _ _ hij, set_set, List.set_comm _ _ (Ne.symm hij), set_gt hi, set_gt hj]
  show Out.ok _ (restore e1 ((e1.set i p).set j q) [i, j]) = _
  rw [hr]
/-! one turn of a loop -/
theorem forL_cons {np : Nat} {tg : Tg} {body : FEnv → Out EFlow} {x : D} {xs : List D} {e e1 e2 : FEnv} (h : assignTg np e tg x = some e1) (hb : body e1 = .ok .next e2) : forL np tg body (x :: xs) e = forL np tg body xs e2 := by
  show (match assignTg np e tg x with | none => Out.stuck | some e1 => (body e1).bind _) = _
  rw [h]
  show (body e1).bind _ = _
  rw [hb]
  rfl
theorem forL_err {np : Nat} {tg : Tg} {body : FEnv → Out EFlow} {x : D} {xs : List D} {e e1 e2 : FEnv} {c : Nat} {d : D} (h : assignTg np e tg x = some e1) (hb : body e1 = .err c d e2) : forL np tg body (x :: xs) e = .err c d e2 := by
  show (match assignTg np e tg x with | none => Out.stuck | some e1 => (body e1).bind _) = _
  rw [h]
  show (body e1).bind _ = _
  rw [hb]
  rfl
theorem forL_ret {np : Nat} {tg : Tg} {body : FEnv → Out EFlow} {x : D} {xs : List D} {e e1 e2 : FEnv} {r : Rs} (h : assignTg np e tg x = some e1) (hb : body e1 = .ok (.ret r) e2) : forL np tg body (x :: xs) e = .ok (.ret r) e2 := by
  show (match assignTg np e tg x with | none => Out.stuck | some e1 => (body e1).bind _) = _
  rw [h]
  show (body e1).bind _ = _
  rw [hb]
  rfl
theorem items_enum {pr : EProg} {T : FT} {np : Nat} {p : P} {e e1 : FEnv} {d : D} {xs : List D} (h : ev pr T np p e = .ok (.d d) e1) (hd : enumD d = some xs) : items pr T np (.enum p) e = .ok (enumFrom 0 xs) e1 := by
  show (ev pr T np p e).bind _ = _
  rw [h]
  show lift ((enumD d).map (enumFrom 0)) e1 = _
  rw [hd]
  rfl
theorem items_seq {pr : EProg} {T : FT} {np : Nat} {p : P} {e e1 e2 : FEnv} {r : Rs} {d : D} {xs : List D} (h : ev pr T np p e = .ok r e1) (hc : capt np e1 r = some (d, e2)) (hd : itemsD d = some xs) : items pr T np (.seq p) e = .ok xs e2 := by
  show (ev pr T np p e).bind _ = _
  rw [h]
  show (match capt np e1 r with | some (d, e2) => lift (itemsD d) e2 | none => .stuck) = _
  rw [hc]
  show lift (itemsD d) e2 = _
  rw [hd]
  rfl
theorem items_zip {pr : EProg} {T : FT} {np : Nat} {p q : P} {e e1 e2 : FEnv} {a b : D} {xs : List D} (h : ev pr T np p e = .ok (.d a) e1) (h2 : ev pr T np q e1 = .ok (.d b) e2) (hd : zipL a b = some xs) : items pr T np (.zip p q) e = .ok xs e2 := by
  show (ev pr T np p e).bind _ = _
  rw [h]
  show (ev pr T np q e1).bind _ = _
  rw [h2]
  show lift (zipL a b) e2 = _
  rw [hd]
  rfl
theorem ex_for_err {pr : EProg} {T : FT} {np : Nat} {tg : Tg} {it : EIt} {body : Ss} {r : Ss} {e e1 : FEnv} {c : Nat} {d : D} (h : ex pr T np (.for_ tg it body) e = .err c d e1) : exs pr T np (.cons (.for_ tg it body) r) e = .err c d e1 := by
  show (ex pr T np (.for_ tg it body) e).bind _ = _
  rw [h]
  rfl
theorem ev_call_err {pr : EProg} {T : FT} {np f : Nat} {xs ks : Ps} {perm : List Nat} {rs rs2 rs3 : List Rs} {e e1 e2 e' : FEnv} {as : List EArg} {c : Nat} {v : D} {fin : List (Option ECell)} (g1 : evs pr T np xs e = .ok rs e1) (g2 : evs pr T np ks e1 = .ok rs2 e2) (g3 : permute (rs ++ rs2) perm = rs3) (h1 : mkArgs e2 rs3 = some as) (h2 : nodupB (lent e2 rs3) = true) (h3 : T f as = .err c v fin) (h4 : back e2 rs3 fin = e') : ev pr T np (.call f xs ks perm) e = .err c v e' := by
  show (evs pr T np xs e).bind _ = _
  rw [g1]
  show (evs pr T np ks e1).bind _ = _
  rw [g2]
  show callF T f (permute (rs ++ rs2) perm) e2 = _
  rw [g3]
  unfold callF
  rw [h1]
  show (if nodupB (lent e2 rs3) then _ else _) = _
  rw [if_pos h2, h3]
  show Out.err c v (back e2 rs3 fin) = _
  rw [h4]
/-- for x in ..: if not Q x: return r -/
theorem forL_all {α : Type} {np : Nat} {tg : Tg} {body : FEnv → Out EFlow} {r : Rs} (f : α → D) (Q : α → Bool) (I : FEnv → Prop) : ∀ (xs : List α), (∀ x ∈ xs, ∀ e, I e → ∃ e1 e2, assignTg np e tg (f x) = some e1 ∧ body e1 = (if Q x = true then .ok .next e2 else .ok (.ret r) e2) ∧ I e2) →
    ∀ e, I e → ∃ e', forL np tg body (xs.map f) e = (if xs.all Q = true then .ok .next e' else .ok (.ret r) e') ∧ I e'
  | [], _, e, hI => ⟨e, rfl, hI⟩
  | x :: xs, h, e, hI => by
    obtain ⟨e1, e2, h1, h2, h3⟩ := h x List.mem_cons_self e hI
    cases q : Q x with
    | false =>
      rw [q, if_neg (by decide)] at h2
      refine ⟨e2, ?_, h3⟩
      rw [List.all_cons, q, Bool.false_and, if_neg (by decide)]
      exact forL_ret h1 h2
    | true =>
      rw [q, if_pos rfl] at h2
      obtain ⟨e', g1, g2⟩ := forL_all f Q I xs (fun y hy => h y (List.mem_cons_of_mem _ hy)) e2 h3
      refine ⟨e', ?_, g2⟩
      rw [List.all_cons, q, Bool.true_and, ← g1]
      exact forL_cons h1 h2
/-- a loop that gathers: step by step -/
theorem forL_fold {α β : Type} {np : Nat} {tg : Tg} {body : FEnv → Out EFlow} (f : α → D) (step : β → α → β) (g : β → FEnv → Prop) (b0 : β) : ∀ (xs pre : List α), (∀ p x post, pre ++ xs = p ++ x :: post → ∀ e, g (p.foldl step b0) e → ∃ e1 e2, assignTg np e tg (f x) = some e1 ∧ body e1 = .ok .next e2 ∧ g (step (p.foldl step b0) x) e2) →
    ∀ e, g (pre.foldl step b0) e → ∃ e', forL np tg body (xs.map f) e = .ok .next e' ∧ g ((pre ++ xs).foldl step b0) e'
  | [], pre, _, e, hI => ⟨e, rfl, by rw [List.append_nil]; exact hI⟩
  | x :: xs, pre, h, e, hI => by
    obtain ⟨e1, e2, h1, h2, h3⟩ := h pre x xs rfl e hI
    have h4 : g ((pre ++ [x]).foldl step b0) e2 := by
      rw [List.foldl_append]
      exact h3
    obtain ⟨e', g1, g2⟩ := forL_fold f step g b0 xs (pre ++ [x]) (fun p y post hp => h p y post (by rw [← hp, List.append_assoc]; rfl)) e2 h4
    rw [List.append_assoc] at g2
    exact ⟨e', (forL_cons h1 h2).trans g1, g2⟩
theorem rangeL_map (n : Nat) : rangeL 0 n = (List.range n).map fun (k : Nat) => PyData.int k := by
  unfold rangeL
  exact List.map_congr_left fun k _ => by rw [Int.zero_add]
theorem ev_bin {pr : EProg} {T : FT} {np : Nat} {op : EOp} {a b : P} {e e1 e2 : FEnv} {x y r : Rs} {dx dy : D} (h1 : ev pr T np a e = .ok x e1) (h2 : ev pr T np b e1 = .ok y e2) (v1 : view e2 x = some dx) (v2 : view e2 y = some dy) (ho : opD op dx dy = some r) : ev pr T np (.bin op a b) e = .ok r e2 := by
  show (ev pr T np a e).bind _ = _
  rw [h1]
  show (ev pr T np b e1).bind _ = _
  rw [h2]
  show lift ((view e2 x).bind fun dx => (view e2 y).bind fun dy => opD op dx dy) e2 = _
  rw [v1]
  show lift ((view e2 y).bind fun dy => opD op dx dy) e2 = _
  rw [v2]
  show lift (opD op dx dy) e2 = _
  rw [ho]
  rfl
theorem ev_cap {pr : EProg} {T : FT} {np : Nat} {p : P} {e e1 e2 : FEnv} {r : Rs} {d : D} (h : ev pr T np p e = .ok r e1) (hc : capt np e1 r = some (d, e2)) : ev pr T np (.cap p) e = .ok (.d d) e2 := by
  show (ev pr T np p e).bind _ = _
  rw [h]
  show (match capt np e1 r with | some (d, e2) => Out.ok (Rs.d d) e2 | none => .stuck) = _
  rw [hc]
theorem evs1 {pr : EProg} {T : FT} {np : Nat} {p : P} {e e1 : FEnv} {r : Rs} (h : ev pr T np p e = .ok r e1) : evs pr T np (.cons p .nil) e = .ok [r] e1 := by
  show (ev pr T np p e).bind _ = _
  rw [h]
  rfl
theorem evsc {pr : EProg} {T : FT} {np : Nat} {p : P} {ps : Ps} {e e1 e2 : FEnv} {r : Rs} {rs : List Rs} (h : ev pr T np p e = .ok r e1) (h2 : evs pr T np ps e1 = .ok rs e2) : evs pr T np (.cons p ps) e = .ok (r :: rs) e2 := by
  show (ev pr T np p e).bind _ = _
  rw [h]
  show (evs pr T np ps e1).bind _ = _
  rw [h2]
  rfl
theorem evs2 {pr : EProg} {T : FT} {np : Nat} {p q : P} {e e1 e2 : FEnv} {r r2 : Rs} (h : ev pr T np p e = .ok r e1) (h2 : ev pr T np q e1 = .ok r2 e2) : evs pr T np (.cons p (.cons q .nil)) e = .ok [r, r2] e2 := evsc h (evs1 h2)
theorem ex_par2 {pr : EProg} {T : FT} {np i j : Nat} {xs : Ps} {e e1 e2 e3 : FEnv} {a b : D} (h : evs pr T np xs e = .ok [.d a, .d b] e1) (h1 : put np e1 i (.val a) = some e2) (h2 : put np e2 j (.val b) = some e3) : ex pr T np (.par [i, j] [false, false] xs) e = .ok .next e3 := by
  show (evs pr T np xs e).bind _ = _
  rw [h]
  show (match putQ np e1 [i, j] [.d a, .d b] with | some e3 => Out.ok EFlow.next e3 | none => .stuck) = _
  have : putQ np e1 [i, j] [.d a, .d b] = some e3 := by
    show ((put np e1 i (.val a)).bind fun e1 => (put np e1 j (.val b)).bind fun e1 => some e1) = _
    rw [h1]
    show ((put np e2 j (.val b)).bind fun e1 => some e1) = _
    rw [h2]
    rfl
  rw [this]
theorem ev_tup2 {pr : EProg} {T : FT} {np : Nat} {p q : P} {e e1 e2 : FEnv} {a b : D} (h : ev pr T np p e = .ok (.d a) e1) (h2 : ev pr T np q e1 = .ok (.d b) e2) : ev pr T np (.tup (.cons p (.cons q .nil))) e = .ok (.d (.tuple [a, b])) e2 := by
  show (evs pr T np (.cons p (.cons q .nil)) e).bind _ = _
  rw [evs2 h h2]
  rfl
theorem ev_ix {pr : EProg} {T : FT} {np : Nat} {p q : P} {e e1 e2 : FEnv} {x y : Rs} {a b d : D} (h : ev pr T np p e = .ok x e1) (h2 : ev pr T np q e1 = .ok y e2) (v1 : view e2 x = some a) (v2 : view e2 y = some b) (hd : ixD a b = some d) : ev pr T np (.ix p q) e = .ok (.d d) e2 := by
  show (ev pr T np p e).bind _ = _
  rw [h]
  show (ev pr T np q e1).bind _ = _
  rw [h2]
  show lift ((view e2 x).bind fun dx => (view e2 y).bind fun dy => (ixD dx dy).map Rs.d) e2 = _
  rw [v1]
  show lift ((view e2 y).bind fun dy => (ixD a dy).map Rs.d) e2 = _
  rw [v2]
  show lift ((ixD a b).map Rs.d) e2 = _
  rw [hd]
  rfl
theorem items_r2 {pr : EProg} {T : FT} {np : Nat} {p q : P} {e e1 e2 : FEnv} {r s : Rs} {i j : Int} (h : ev pr T np p e = .ok r e1) (h2 : ev pr T np q e1 = .ok s e2) (v1 : view e2 r = some (.int i)) (v2 : view e2 s = some (.int j)) (s1 : small62 i = true) (s2 : small62 j = true) : items pr T np (.r2 p q) e = .ok (rangeL i (j - i).toNat) e2 := by
  show (ev pr T np p e).bind _ = _
  rw [h]
  show (ev pr T np q e1).bind _ = _
  rw [h2]
  show (match view e2 r, view e2 s with
    | some (.int i), some (.int j) => if (small62 i && small62 j) = true then Out.ok (rangeL i (j - i).toNat) e2 else .stuck
    | _, _ => .stuck) = _
  rw [v1, v2]
  show (if (small62 i && small62 j) = true then Out.ok (rangeL i (j - i).toNat) e2 else .stuck) = _
  rw [s1, s2]
  rfl
theorem rangeL1_map (n : Nat) : rangeL 1 n = (List.range n).map fun (k : Nat) => PyData.int ((k + 1 : Nat) : Int) := by
  unfold rangeL
  exact List.map_congr_left fun k _ => by rw [Int.add_comm]; rfl
theorem ex_app {pr : EProg} {T : FT} {np i : Nat} {p : P} {e e1 e2 : FEnv} {r : Rs} {d : D} {xs : List D} (ho : isOwn (gt e i) = true) (h : ev pr T np p e = .ok r e1) (hc : capt np e1 r = some (d, e2)) (hg : gt e2 i = .own (.lst xs)) (hl : xs.length < lim) : ex pr T np (.app i p) e = .ok .next (e2.set i (.own (.lst (xs ++ [d])))) := by
  show (if isOwn (gt e i) = true then (ev pr T np p e).bind _ else Out.stuck) = _
  rw [if_pos ho, h]
  show (match capt np e1 r with | some (d, e2) => (match gt e2 i with | .own (.lst xs) => if xs.length < lim then Out.ok EFlow.next (e2.set i (.own (.lst (xs ++ [d])))) else .stuck | _ => .stuck) | none => .stuck) = _
  rw [hc]
  show (match gt e2 i with | .own (.lst xs) => if xs.length < lim then Out.ok EFlow.next (e2.set i (.own (.lst (xs ++ [d])))) else .stuck | _ => .stuck) = _
  rw [hg]
  show (if xs.length < lim then _ else _) = _
  rw [if_pos hl]
theorem ex_unp2 {pr : EProg} {T : FT} {np i j : Nat} {p : P} {e e1 e2 e3 : FEnv} {a b : D} (h : ev pr T np p e = .ok (.d (.tuple [a, b])) e1) (h1 : put np e1 i (.val a) = some e2) (h2 : put np e2 j (.val b) = some e3) : ex pr T np (.unp [.v i, .v j] p) e = .ok .next e3 := by
  show (ev pr T np p e).bind _ = _
  rw [h]
  show (match put np e1 i (.val a) with | some e1 => asgT pr T np [.v j] [b] e1 | none => .stuck) = _
  rw [h1]
  show (match put np e2 j (.val b) with | some e1 => asgT pr T np [] [] e1 | none => .stuck) = _
  rw [h2]
  rfl
theorem ev_lst2 {pr : EProg} {T : FT} {np : Nat} {p q : P} {e e1 e2 : FEnv} {a b : D} (h : ev pr T np p e = .ok (.d a) e1) (h2 : ev pr T np q e1 = .ok (.d b) e2) : ev pr T np (.lst (.cons p (.cons q .nil))) e = .ok (.fresh (.lst [a, b])) e2 := by
  show (evs pr T np (.cons p (.cons q .nil)) e).bind _ = _
  rw [evs2 h h2]
  rfl
theorem ev_lst1 {pr : EProg} {T : FT} {np : Nat} {p : P} {e e1 : FEnv} {a : D} (h : ev pr T np p e = .ok (.d a) e1) : ev pr T np (.lst (.cons p .nil)) e = .ok (.fresh (.lst [a])) e1 := by
  show (evs pr T np (.cons p .nil) e).bind _ = _
  rw [evs1 h]
  rfl
theorem ev_cmp {pr : EProg} {T : FT} {np : Nat} {op : ECmp} {p q : P} {e e1 e2 : FEnv} {x y : Rs} {a b : D} {k : Bool} (h : ev pr T np p e = .ok x e1) (h2 : ev pr T np q e1 = .ok y e2) (v1 : view e2 x = some a) (v2 : view e2 y = some b) (hd : cmpD op a b = some k) : ev pr T np (.cmp op p q) e = .ok (.d (.bool k)) e2 := by
  show (ev pr T np p e).bind _ = _
  rw [h]
  show (ev pr T np q e1).bind _ = _
  rw [h2]
  show lift ((view e2 x).bind fun dx => (view e2 y).bind fun dy => (cmpD op dx dy).map fun k => Rs.d (.bool k)) e2 = _
  rw [v1]
  show lift ((view e2 y).bind fun dy => (cmpD op a dy).map fun k => Rs.d (.bool k)) e2 = _
  rw [v2]
  show lift ((cmpD op a b).map fun k => Rs.d (.bool k)) e2 = _
  rw [hd]
  rfl
theorem and_f {pr : EProg} {T : FT} {np : Nat} {a b : P} {e e1 : FEnv} (h : asB (ev pr T np a e) = .ok false e1) : asB (ev pr T np (.and a b) e) = .ok false e1 := by
  show ((asB (ev pr T np a e)).bind _).bind _ = _
  rw [h]
  rfl
theorem and_t {pr : EProg} {T : FT} {np : Nat} {a b : P} {e e1 e2 : FEnv} {y : Bool} (h : asB (ev pr T np a e) = .ok true e1) (h2 : asB (ev pr T np b e1) = .ok y e2) : asB (ev pr T np (.and a b) e) = .ok y e2 := by
  show ((asB (ev pr T np a e)).bind _).bind _ = _
  rw [h]
  show ((asB (ev pr T np b e1)).bind _).bind _ = _
  rw [h2]
  rfl
theorem or_t {pr : EProg} {T : FT} {np : Nat} {a b : P} {e e1 : FEnv} (h : asB (ev pr T np a e) = .ok true e1) : asB (ev pr T np (.or a b) e) = .ok true e1 := by
  show ((asB (ev pr T np a e)).bind _).bind _ = _
  rw [h]
  rfl
theorem or_f {pr : EProg} {T : FT} {np : Nat} {a b : P} {e e1 e2 : FEnv} {y : Bool} (h : asB (ev pr T np a e) = .ok false e1) (h2 : asB (ev pr T np b e1) = .ok y e2) : asB (ev pr T np (.or a b) e) = .ok y e2 := by
  show ((asB (ev pr T np a e)).bind _).bind _ = _
  rw [h]
  show ((asB (ev pr T np b e1)).bind _).bind _ = _
  rw [h2]
  rfl
theorem nt_ok {pr : EProg} {T : FT} {np : Nat} {a : P} {e e1 : FEnv} {y : Bool} (h : asB (ev pr T np a e) = .ok y e1) : asB (ev pr T np (.nt a) e) = .ok (!y) e1 := by
  show ((asB (ev pr T np a e)).bind _).bind _ = _
  rw [h]
  rfl
theorem asB_ok {o : Out Rs} {b : Bool} {e : FEnv} (h : o = .ok (.d (.bool b)) e) : asB o = .ok b e := by
  rw [h]
  rfl
/-! ### comprehensions by a map -/
theorem wipe_len (e : FEnv) : ∀ own : List Nat, (wipe e own).length = e.length
  | [] => rfl
  | i :: r => by
    show ((wipe e r).set i .emp).length = _
    rw [List.length_set, wipe_len e r]
theorem wipe_out (e : FEnv) {j : Nat} : ∀ own : List Nat, j ∉ own → (wipe e own)[j]? = e[j]?
  | [], _ => rfl
  | i :: r, h => by
    show ((wipe e r).set i .emp)[j]? = _
    rw [List.getElem?_set_ne fun z => h (by rw [z]; exact List.mem_cons_self)]
    exact wipe_out e r fun z => h (List.mem_cons_of_mem _ z)
theorem restore_len (e0 e : FEnv) : ∀ own : List Nat, (restore e0 e own).length = e.length
  | [] => rfl
  | i :: r => by
    show ((restore e0 e r).set i (gt e0 i)).length = _
    rw [List.length_set, restore_len e0 e r]
theorem restore_get (e0 e : FEnv) {j : Nat} (hj : j < e.length) : ∀ own : List Nat, (restore e0 e own)[j]? = if j ∈ own then some (gt e0 j) else e[j]?
  | [] => rfl
  | i :: r => by
    show ((restore e0 e r).set i (gt e0 i))[j]? = _
    by_cases h : i = j
    · subst h
      rw [List.getElem?_set_self (by rw [restore_len]; exact hj), if_pos List.mem_cons_self]
    · rw [List.getElem?_set_ne h, restore_get e0 e hj r]
      by_cases h2 : j ∈ r
      · rw [if_pos h2, if_pos (List.mem_cons_of_mem _ h2)]
      · rw [if_neg h2, if_neg fun z => (List.mem_cons.mp z).elim (fun w => h w.symm) h2]
theorem restore_back {e0 e : FEnv} {own : List Nat} (h : wipe e own = wipe e0 own) : restore e0 e own = e0 := by
  have hl : e.length = e0.length := by
    have := congrArg List.length h
    rwa [wipe_len, wipe_len] at this
  refine List.ext_getElem? fun j => ?_
  by_cases hj : j < e.length
  · rw [restore_get e0 e hj own]
    by_cases h2 : j ∈ own
    · rw [if_pos h2]
      unfold gt
      rw [List.getD_eq_getElem?_getD, List.getElem?_eq_getElem (by omega)]
      rfl
    · rw [if_neg h2, ← wipe_out e own h2, h, wipe_out e0 own h2]
  · rw [List.getElem?_eq_none (by rw [restore_len]; omega), List.getElem?_eq_none (by omega)]
theorem compL_map {α : Type} {np : Nat} {own : List Nat} {tg : Tg} {elt : FEnv → Out Rs} {e1 : FEnv} (f F : α → D) (E : α → FEnv) : ∀ (xs : List α), (∀ x ∈ xs, assignTg np (wipe e1 own) tg (f x) = some (E x) ∧ (∃ r, elt (E x) = .ok r (E x) ∧ capt np (E x) r = some (F x, E x)) ∧ wipe (E x) own = wipe e1 own) →
    ∀ (e : FEnv) (acc : List D), wipe e own = wipe e1 own → acc.length + xs.length ≤ lim → ∃ e', compL np own tg (fun e => asB (.ok (.d (.bool true)) e)) elt (xs.map f) e acc = .ok (acc ++ xs.map F) e' ∧ wipe e' own = wipe e1 own
  | [], _, e, acc, hw, _ => ⟨e, by rw [List.map_nil, List.map_nil, List.append_nil]; rfl, hw⟩
  | x :: xs, h, e, acc, hw, hl => by
    obtain ⟨h1, ⟨r, h2, h3⟩, h4⟩ := h x List.mem_cons_self
    rw [List.length_cons] at hl
    obtain ⟨e', g1, g2⟩ := compL_map f F E xs (fun y hy => h y (List.mem_cons_of_mem _ hy)) (E x) (acc ++ [F x]) h4 (by rw [List.length_append]; simp; omega)
    refine ⟨e', ?_, g2⟩
    show (match assignTg np (wipe e own) tg (f x) with
      | none => Out.stuck
      | some e1 => (asB (.ok (.d (.bool true)) e1)).no fun b e2 => if b = true then (elt e2).no fun r e3 => (match capt np e3 r with
          | none => .stuck
          | some (d, e4) => if acc.length < lim then compL np own tg (fun e => asB (.ok (.d (.bool true)) e)) elt (xs.map f) e4 (acc ++ [d]) else .stuck) else compL np own tg (fun e => asB (.ok (.d (.bool true)) e)) elt (xs.map f) e2 acc) = _
    rw [hw, h1]
    show (elt (E x)).no _ = _
    rw [h2]
    show (match capt np (E x) r with
          | none => Out.stuck
          | some (d, e4) => if acc.length < lim then compL np own tg (fun e => asB (.ok (.d (.bool true)) e)) elt (xs.map f) e4 (acc ++ [d]) else .stuck) = _
    rw [h3]
    show (if acc.length < lim then compL np own tg (fun e => asB (.ok (.d (.bool true)) e)) elt (xs.map f) (E x) (acc ++ [F x]) else .stuck) = _
    rw [if_pos (by omega), g1, List.append_assoc]
    rfl
theorem comp_map {α : Type} {pr : EProg} {T : FT} {np : Nat} {tg : Tg} {it : EIt} {elt : P} {own : List Nat} {e e1 : FEnv} (f F : α → D) (E : α → FEnv) (xs : List α) (hit : items pr T np it e = .ok (xs.map f) e1) (pl : plainOwn e1 own = true) (hl : xs.length ≤ lim)
    (h : ∀ x ∈ xs, assignTg np (wipe e1 own) tg (f x) = some (E x) ∧ (∃ r, ev pr T np elt (E x) = .ok r (E x) ∧ capt np (E x) r = some (F x, E x)) ∧ wipe (E x) own = wipe e1 own) :
    ev pr T np (.comp elt tg it (.lit (.bool true)) own) e = .ok (.fresh (.lst (xs.map F))) e1 := by
  obtain ⟨e', g1, g2⟩ := compL_map (np := np) (own := own) (tg := tg) (elt := fun e => ev pr T np elt e) (e1 := e1) f F E xs h e1 [] rfl (by simpa using hl)
  show (items pr T np it e).no (fun xs e1 => if plainOwn e1 own = true then _ else .stuck) = _
  rw [hit]
  show (if plainOwn e1 own = true then (compL np own tg (fun e => asB (ev pr T np (.lit (.bool true)) e)) (fun e => ev pr T np elt e) (xs.map f) e1 []).no (fun ds e2 => Out.ok (Rs.fresh (.lst ds)) (restore e1 e2 own)) else .stuck) = _
  rw [if_pos pl]
  have g1' : compL np own tg (fun e => asB (ev pr T np (.lit (.bool true)) e)) (fun e => ev pr T np elt e) (xs.map f) e1 [] = .ok ([] ++ xs.map F) e' := g1
  rw [g1', List.nil_append]
  show Out.ok _ (restore e1 e' own) = _
  rw [restore_back g2]
end Ev
end
section
set_option Elab.async false
set_option linter.all false
set_option maxRecDepth 100000
set_option maxHeartbeats 2000000
namespace Snd
open PySem L2 Ev
/-- what of the heap may change: O a: someone's own; S a: the frame's own -/
abbrev Own := Addr → Prop
mutual
inductive Rep (K : PySem.W.Frag) (O : Own) (H : Hp) : V → D → Prop
  | non : Rep K O H .non .none
  | bl (b : Bool) : Rep K O H (.bl b) (.bool b)
  | int (i : Int) : Rep K O H (.int i) (.int i)
  | str (x : Str) : Rep K O H (.str x) (.str x)
  | lst {a : Addr} {xs : List V} {ds : List D} : Rd H a (.lst xs) → ¬ O a → RepAll K O H xs ds → Rep K O H (.ref a) (.list ds)
  | tup {a : Addr} {xs : List V} {ds : List D} : SqT K H a xs → RepAll K O H xs ds → Rep K O H (.ref a) (.tuple ds)
inductive RepAll (K : PySem.W.Frag) (O : Own) (H : Hp) : List V → List D → Prop
  | nil : RepAll K O H [] []
  | cons {v : V} {vs : List V} {d : D} {ds : List D} : Rep K O H v d → RepAll K O H vs ds → RepAll K O H (v :: vs) (d :: ds)
end
/-- a list of one's own at a -/
def CellR (K : PySem.W.Frag) (O : Own) (H : Hp) (a : Addr) : ECell → Prop
  | .lst ds => ∃ vs, H a = some (.lst vs) ∧ RepAll K O H vs ds
section
variable {K : PySem.W.Frag} {O O' : Own} {H H' : Hp}
theorem RepAll.length : ∀ {vs : List V} {ds : List D}, RepAll K O H vs ds → vs.length = ds.length
  | _, _, .nil => rfl
  | _, _, .cons _ t => by rw [List.length_cons, List.length_cons, t.length]
theorem RepAll.get : ∀ {vs : List V} {ds : List D} {i : Nat} {d : D}, RepAll K O H vs ds → ds[i]? = some d → ∃ v, vs[i]? = some v ∧ Rep K O H v d
  | _, _, _, _, .nil, e => by simp at e
  | _, _, 0, _, .cons r _, e => by
    simp at e
    subst e
    exact ⟨_, rfl, r⟩
  | _, _, i + 1, d, .cons _ t, e => by
    obtain ⟨v, h1, h2⟩ := RepAll.get (i := i) (d := d) t (by simpa using e)
    exact ⟨v, by simpa using h1, h2⟩
theorem RepAll.append : ∀ {xs ys : List V} {ds es : List D}, RepAll K O H xs ds → RepAll K O H ys es → RepAll K O H (xs ++ ys) (ds ++ es)
  | _, _, _, _, .nil, s => s
  | _, _, _, _, .cons r t, s => .cons r (t.append s)
theorem RepAll.take : ∀ {xs : List V} {ds : List D} (n : Nat), RepAll K O H xs ds → RepAll K O H (xs.take n) (ds.take n)
  | _, _, 0, _ => .nil
  | _, _, _ + 1, .nil => .nil
  | _, _, n + 1, .cons r t => .cons r (RepAll.take n t)
theorem RepAll.drop : ∀ {xs : List V} {ds : List D} (n : Nat), RepAll K O H xs ds → RepAll K O H (xs.drop n) (ds.drop n)
  | _, _, 0, r => r
  | _, _, _ + 1, .nil => .nil
  | _, _, n + 1, .cons _ t => RepAll.drop n t
theorem RepAll.rev : ∀ {xs : List V} {ds : List D}, RepAll K O H xs ds → RepAll K O H xs.reverse ds.reverse
  | _, _, .nil => .nil
  | _, _, .cons r t => by
    rw [List.reverse_cons, List.reverse_cons]
    exact t.rev.append (.cons r .nil)
theorem RepAll.set {v : V} {d : D} (r : Rep K O H v d) : ∀ {xs : List V} {ds : List D} (i : Nat), RepAll K O H xs ds → RepAll K O H (xs.set i v) (ds.set i d)
  | _, _, _, .nil => .nil
  | _, _, 0, .cons _ t => .cons r t
  | _, _, i + 1, .cons q t => .cons q (RepAll.set r i t)
theorem RepAll.rep {xs : List V} {ds : List D} (h : RepAll K O H xs ds) : ∀ k : Nat, RepAll K O H (List.replicate k xs).flatten (List.replicate k ds).flatten
  | 0 => .nil
  | k + 1 => by
    rw [List.replicate_succ, List.replicate_succ, List.flatten_cons, List.flatten_cons]
    exact h.append (RepAll.rep h k)
/-- data goes where its lists stand and are no one's own -/
theorem Rep.go (hl : ∀ a xs, Rd H a (.lst xs) → ¬ O a → Rd H' a (.lst xs) ∧ ¬ O' a) (ht : ∀ a xs, SqT K H a xs → SqT K H' a xs) :
    ∀ (d : D) (v : V), Rep K O H v d → Rep K O' H' v d := by
  have all : (∀ d v, Rep K O H v d → Rep K O' H' v d) ∧ (∀ ds vs, RepAll K O H vs ds → RepAll K O' H' vs ds) := by
    refine ⟨?_, ?_⟩
    · intro d v h
      exact Rep.rec (motive_1 := fun v d _ => Rep K O' H' v d) (motive_2 := fun vs ds _ => RepAll K O' H' vs ds) .non .bl .int .str (fun h1 h2 _ ih => .lst (hl _ _ h1 h2).1 (hl _ _ h1 h2).2 ih) (fun h1 _ ih => .tup (ht _ _ h1) ih) .nil (fun _ _ i1 i2 => .cons i1 i2) h
    · intro ds vs h
      exact RepAll.rec (motive_1 := fun v d _ => Rep K O' H' v d) (motive_2 := fun vs ds _ => RepAll K O' H' vs ds) .non .bl .int .str (fun h1 h2 _ ih => .lst (hl _ _ h1 h2).1 (hl _ _ h1 h2).2 ih) (fun h1 _ ih => .tup (ht _ _ h1) ih) .nil (fun _ _ i1 i2 => .cons i1 i2) h
  exact all.1
theorem RepAll.go (hl : ∀ a xs, Rd H a (.lst xs) → ¬ O a → Rd H' a (.lst xs) ∧ ¬ O' a) (ht : ∀ a xs, SqT K H a xs → SqT K H' a xs) :
    ∀ (ds : List D) (vs : List V), RepAll K O H vs ds → RepAll K O' H' vs ds := by
  intro ds vs h
  induction ds generalizing vs with
  | nil =>
    cases h
    exact .nil
  | cons d ds ih =>
    cases h with
    | cons r t => exact .cons (Rep.go hl ht d _ r) (ih _ t)
theorem Rep.dp : ∀ {v : V} {d : D}, Rep K O H v d → Dp K H v d := by
  intro v d h
  exact Rep.rec (motive_1 := fun v d _ => Dp K H v d) (motive_2 := fun vs ds _ => DpAll K H vs ds) .non .bl .int .str (fun h1 _ _ ih => .lst (.inl h1) ih) (fun h1 _ ih => .tup h1 ih) .nil (fun _ _ i1 i2 => .cons i1 i2) h
end

/-! ### a frame -/
def PlcR (K : PySem.W.Frag) (O : Own) (H : Hp) (o : Option V) : Plc → Prop
  | .emp => True
  | .val d => ∃ v, o = some v ∧ Rep K O H v d
  | .own c => ∃ a, o = some (.ref a) ∧ O a ∧ CellR K O H a c
  | .exc _ _ => True
/-- the frame's own -/
def Mine (σ : St) (e : FEnv) (a : Addr) : Prop := ∃ (i : Nat) (c : ECell), e[i]? = some (Plc.own c) ∧ σ[i]? = some (some (V.ref a))
structure SR (K : PySem.W.Frag) (O : Own) (σ : St) (H : Hp) (e : FEnv) : Prop where
  len : σ.length = e.length
  at_ : ∀ (i : Nat) (s : Plc), e[i]? = some s → ∃ o, σ[i]? = some o ∧ PlcR K O H o s
  inj : ∀ (i j : Nat) (c c' : ECell) (a : Addr), e[i]? = some (Plc.own c) → e[j]? = some (Plc.own c') → σ[i]? = some (some (V.ref a)) → σ[j]? = some (some (V.ref a)) → i = j
/-- from one state to a later one -/
structure Stp (np : Nat) (O : Own) (σ : St) (H : Hp) (e : FEnv) (O' : Own) (σ' : St) (H' : Hp) (e' : FEnv) : Prop where
  keep : ∀ a o, H a = some o → ¬ Mine σ e a → H' a = some o ∧ (O' a ↔ O a) ∧ ¬ Mine σ' e' a
  there : ∀ a, H a ≠ none → H' a ≠ none
  par : ∀ (i : Nat) (c : ECell), i < np → e[i]? = some (Plc.own c) → ∃ c' : ECell, e'[i]? = some (Plc.own c') ∧ σ'[i]? = σ[i]?
section
variable {K : PySem.W.Frag} {np : Nat} {O O1 O2 : Own} {H H1 H2 : Hp} {σ σ1 σ2 : St} {e e1 e2 : FEnv}
theorem Stp.refl : Stp np O σ H e O σ H e := ⟨fun a o h n => ⟨h, Iff.rfl, n⟩, fun _ h => h, fun i c _ h => ⟨c, h, rfl⟩⟩
theorem Stp.trans (a : Stp np O σ H e O1 σ1 H1 e1) (b : Stp np O1 σ1 H1 e1 O2 σ2 H2 e2) : Stp np O σ H e O2 σ2 H2 e2 where
  keep := fun x o h n => by
    obtain ⟨h1, i1, n1⟩ := a.keep x o h n
    obtain ⟨h2, i2, n2⟩ := b.keep x o h1 n1
    exact ⟨h2, i2.trans i1, n2⟩
  there := fun x h => b.there x (a.there x h)
  par := fun i c l h => by
    obtain ⟨c1, h1, q1⟩ := a.par i c l h
    obtain ⟨c2, h2, q2⟩ := b.par i c1 l h1
    exact ⟨c2, h2, q2.trans q1⟩
theorem SR.mine_own (s : SR K O σ H e) {a : Addr} (m : Mine σ e a) : O a ∧ ∃ vs, H a = some (.lst vs) := by
  obtain ⟨i, c, h1, h2⟩ := m
  obtain ⟨o, h3, h4⟩ := s.at_ i _ h1
  rw [h2] at h3
  cases h3
  obtain ⟨b, h5, h6, h7⟩ := h4
  cases h5
  cases c with
  | lst ds =>
    obtain ⟨vs, h8, _⟩ := h7
    exact ⟨h6, vs, h8⟩
/-- what data goes along with a step -/
theorem Stp.rd (st : Stp np O σ H e O1 σ1 H1 e1) (s : SR K O σ H e) : (∀ a xs, Rd H a (.lst xs) → ¬ O a → Rd H1 a (.lst xs) ∧ ¬ O1 a) ∧ (∀ a xs, SqT K H a xs → SqT K H1 a xs) := by
  have nm : ∀ {a : Addr}, ¬ O a → ¬ Mine σ e a := fun n m => n (s.mine_own m).1
  refine ⟨fun a xs r n => ?_, fun a xs r => ?_⟩
  · rcases r with r | ⟨o, r⟩
    · obtain ⟨h1, h2, _⟩ := st.keep a _ r (nm n)
      exact ⟨.inl h1, fun z => n (h2.mp z)⟩
    · obtain ⟨h1, h2, _⟩ := st.keep a _ r (nm n)
      exact ⟨.inr ⟨o, h1⟩, fun z => n (h2.mp z)⟩
  · have nt : ∀ {o : HO}, H a = some o → (∀ vs, o ≠ .lst vs) → ¬ Mine σ e a := fun h n m => by
      obtain ⟨_, vs, h2⟩ := s.mine_own m
      rw [h] at h2
      exact n vs (Option.some.inj h2)
    rcases r with (r | ⟨o, r⟩) | r
    · exact .inl (.inl (st.keep a _ r (nt r fun vs z => nomatch z)).1)
    · exact .inl (.inr ⟨o, (st.keep a _ r (nt r fun vs z => nomatch z)).1⟩)
    · exact .inr r
theorem Stp.rep (st : Stp np O σ H e O1 σ1 H1 e1) (s : SR K O σ H e) {v : V} {d : D} (r : Rep K O H v d) : Rep K O1 H1 v d := Rep.go (st.rd s).1 (st.rd s).2 d v r
theorem Stp.repAll (st : Stp np O σ H e O1 σ1 H1 e1) (s : SR K O σ H e) {vs : List V} {ds : List D} (r : RepAll K O H vs ds) : RepAll K O1 H1 vs ds := RepAll.go (st.rd s).1 (st.rd s).2 ds vs r
end
/-- a result: v stands for r; H0: the heap ahead of it -/
def RR (K : PySem.W.Frag) (O : Own) (σ : St) (H : Hp) (e : FEnv) (H0 : Hp) (v : V) : Rs → Prop
  | .d x => Rep K O H v x
  | .slot i => σ[i]? = some (some v)
  | .fresh c => ∃ a, v = .ref a ∧ O a ∧ CellR K O H a c ∧ ¬ Mine σ e a ∧ H0 a = none
section
variable {K : PySem.W.Frag} {np : Nat} {O O1 O2 : Own} {H H1 H2 H0 : Hp} {σ σ1 σ2 : St} {e e1 e2 : FEnv}
theorem CellR.go {a : Addr} {c : ECell} (st : Stp np O σ H e O1 σ1 H1 e1) (s : SR K O σ H e) (n : ¬ Mine σ e a) (h : CellR K O H a c) : CellR K O1 H1 a c := by
  cases c with
  | lst ds =>
    obtain ⟨vs, h1, h2⟩ := h
    exact ⟨vs, (st.keep a _ h1 n).1, st.repAll s h2⟩
theorem CellR.some {a : Addr} {c : ECell} (h : CellR K O H a c) : ∃ o, H a = some o := by
  cases c with
  | lst ds =>
    obtain ⟨vs, h1, _⟩ := h
    exact ⟨_, h1⟩
/-- a result stays behind a further step of the same slots -/
theorem RR.go {v : V} {r : Rs} (st : Stp np O σ H e O1 σ H1 e1) (s : SR K O σ H e) (h : RR K O σ H e H0 v r) : RR K O1 σ H1 e1 H0 v r := by
  cases r with
  | d x => exact st.rep s h
  | slot i => exact h
  | fresh c =>
    obtain ⟨a, h1, h2, h3, h4, h5⟩ := h
    obtain ⟨o, ho⟩ := h3.some
    obtain ⟨k1, k2, k3⟩ := st.keep a o ho h4
    exact ⟨a, h1, k2.mpr h2, h3.go st s h4, k3, h5⟩
theorem RR.back {H00 : Hp} {v : V} {r : Rs} (h : RR K O σ H e H0 v r) (t : ∀ a, H00 a ≠ none → H0 a ≠ none) : RR K O σ H e H00 v r := by
  cases r with
  | d x => exact h
  | slot i => exact h
  | fresh c =>
    obtain ⟨a, h1, h2, h3, h4, h5⟩ := h
    refine ⟨a, h1, h2, h3, h4, ?_⟩
    cases q : H00 a with
    | none => rfl
    | some o => exact absurd h5 (t a (by rw [q]; exact fun z => nomatch z))
end
end Snd
end
section
set_option Elab.async false
set_option linter.all false
set_option maxRecDepth 100000
set_option maxHeartbeats 2000000
namespace Snd
open PySem L2 Ev
/-- an exception: cls at the table's place c, its dict -/
def ExcR (K : PySem.W.Frag) (CA : Nat → Addr) (O : Own) (H : Hp) (cls : Value) (dd : Option Addr) (c : Nat) (d : D) : Prop :=
  cls = .ref (CA c) ∧ ∃ dx v, dd = some dx ∧ H dx = some (.xd [(("value" : Str), v)]) ∧ Rep K O H v d
section
variable (K : PySem.W.Frag) (CA : Nat → Addr) (np : Nat) (W : WX)
/-- what is wanted behind an outcome, from the start (O, σ, H, e) -/
def Aft {α : Type} (O : Own) (σ : St) (H : Hp) (e : FEnv) (out : Out α) (k : α → Own → St → Hp → FEnv → Prop) : Prop := match out with
  | .ok a e' => ∀ O' σ' H', Stp np O σ H e O' σ' H' e' → SR K O' σ' H' e' → k a O' σ' H' e'
  | .err c d e' => ∀ O' σ' H' cls dd, Stp np O σ H e O' σ' H' e' → SR K O' σ' H' e' → ExcR K CA O' H' cls dd c d → W cls dd σ' H'
  | .stuck => False
/-- the same where the slots stay -/
def AftE {α : Type} (O : Own) (σ : St) (H : Hp) (e : FEnv) (out : Out α) (k : α → Own → Hp → FEnv → Prop) : Prop := match out with
  | .ok a e' => ∀ O' H', Stp np O σ H e O' σ H' e' → SR K O' σ H' e' → k a O' H' e'
  | .err c d e' => ∀ O' H' cls dd, Stp np O σ H e O' σ H' e' → SR K O' σ H' e' → ExcR K CA O' H' cls dd c d → W cls dd σ H'
  | .stuck => False
end
section
variable {K : PySem.W.Frag} {CA : Nat → Addr} {np : Nat} {W : WX} {α β : Type} {O O1 : Own} {σ σ1 : St} {H H1 : Hp} {e e1 : FEnv}
theorem Aft.toE {out : Out α} {k : α → Own → St → Hp → FEnv → Prop} (h : Aft K CA np W O σ H e out k) : AftE K CA np W O σ H e out fun a O' H' e' => k a O' σ H' e' := by
  cases out with
  | ok a e' => exact fun O' H' => h O' σ H'
  | err c d e' => exact fun O' H' => h O' σ H'
  | stuck => exact h
theorem AftE.bind {o : Out α} {f : α → FEnv → Out β} {k : β → Own → Hp → FEnv → Prop} (h : AftE K CA np W O σ H e (o.bind f) k) :
    AftE K CA np W O σ H e o fun a _ _ e1 => AftE K CA np W O σ H e (f a e1) k := by
  cases o with
  | ok a e1 => exact fun _ _ _ _ => h
  | err c d e1 => exact h
  | stuck => exact h
theorem Aft.bind {o : Out α} {f : α → FEnv → Out β} {k : β → Own → St → Hp → FEnv → Prop} (h : Aft K CA np W O σ H e (o.bind f) k) :
    Aft K CA np W O σ H e o fun a _ _ _ e1 => Aft K CA np W O σ H e (f a e1) k := by
  cases o with
  | ok a e1 => exact fun _ _ _ _ _ => h
  | err c d e1 => exact h
  | stuck => exact h
theorem AftE.from {o : Out α} {k : α → Own → Hp → FEnv → Prop} (h : AftE K CA np W O σ H e o k) (st : Stp np O σ H e O1 σ H1 e1) : AftE K CA np W O1 σ H1 e1 o k := by
  cases o with
  | ok a e2 => exact fun O2 H2 s2 => h O2 H2 (st.trans s2)
  | err c d e2 => exact fun O2 H2 cls dd s2 => h O2 H2 cls dd (st.trans s2)
  | stuck => exact h
theorem Aft.from {o : Out α} {k : α → Own → St → Hp → FEnv → Prop} (h : Aft K CA np W O σ H e o k) (st : Stp np O σ H e O1 σ1 H1 e1) : Aft K CA np W O1 σ1 H1 e1 o k := by
  cases o with
  | ok a e2 => exact fun O2 σ2 H2 s2 => h O2 σ2 H2 (st.trans s2)
  | err c d e2 => exact fun O2 σ2 H2 cls dd s2 => h O2 σ2 H2 cls dd (st.trans s2)
  | stuck => exact h
theorem AftE.mono {o : Out α} {k k' : α → Own → Hp → FEnv → Prop} (h : AftE K CA np W O σ H e o k)
    (m : ∀ a O' H' e', Stp np O σ H e O' σ H' e' → SR K O' σ H' e' → k a O' H' e' → k' a O' H' e') : AftE K CA np W O σ H e o k' := by
  cases o with
  | ok a e2 => exact fun O2 H2 s2 r2 => m _ _ _ _ s2 r2 (h O2 H2 s2 r2)
  | err c d e2 => exact h
  | stuck => exact h
theorem Aft.mono {o : Out α} {k k' : α → Own → St → Hp → FEnv → Prop} (h : Aft K CA np W O σ H e o k)
    (m : ∀ a O' σ' H' e', Stp np O σ H e O' σ' H' e' → SR K O' σ' H' e' → k a O' σ' H' e' → k' a O' σ' H' e') : Aft K CA np W O σ H e o k' := by
  cases o with
  | ok a e2 => exact fun O2 σ2 H2 s2 r2 => m _ _ _ _ _ s2 r2 (h O2 σ2 H2 s2 r2)
  | err c d e2 => exact h
  | stuck => exact h
theorem AftE.lift {o : Option α} {k : α → Own → Hp → FEnv → Prop} (h : AftE K CA np W O σ H e (Ev.lift o e1) k) : ∃ a, o = some a ∧ AftE K CA np W O σ H e (.ok a e1) k := by
  cases o with
  | none => exact h.elim
  | some a => exact ⟨a, rfl, h⟩
end
/-! ### results and what they show -/
/-- what a value shows: data, or a list that may still change -/
def ViewR (K : PySem.W.Frag) (O : Own) (H : Hp) (v : V) (d : D) : Prop := Rep K O H v d ∨ ∃ (a : Addr) (vs : List V) (ds : List D), v = .ref a ∧ d = .list ds ∧ H a = some (.lst vs) ∧ RepAll K O H vs ds
section
variable {K : PySem.W.Frag} {np : Nat} {O O1 : Own} {σ σ1 : St} {H H0 H1 : Hp} {e e1 : FEnv} {v : V} {d : D}
theorem RepAll.dp : ∀ {vs : List V} {ds : List D}, RepAll K O H vs ds → DpAll K H vs ds
  | _, _, .nil => .nil
  | _, _, .cons r t => .cons r.dp t.dp
theorem ViewR.dp (h : ViewR K O H v d) : Dp K H v d := by
  rcases h with h | ⟨a, vs, ds, rfl, rfl, ha, r⟩
  · exact h.dp
  · exact .lst (.inl (.inl ha)) r.dp
theorem ViewR.int {i : Int} (h : ViewR K O H v (.int i)) : v = .int i := by
  rcases h with h | ⟨a, vs, ds, _, e, _⟩
  · cases h
    rfl
  · cases e
theorem ViewR.str {x : Str} (h : ViewR K O H v (.str x)) : v = .str x := by
  rcases h with h | ⟨a, vs, ds, _, e, _⟩
  · cases h
    rfl
  · cases e
theorem ViewR.bool {b : Bool} (h : ViewR K O H v (.bool b)) : v = .bl b := by
  rcases h with h | ⟨a, vs, ds, _, e, _⟩
  · cases h
    rfl
  · cases e
theorem ViewR.list {ds : List D} (h : ViewR K O H v (.list ds)) : ∃ a vs, v = .ref a ∧ Rd H a (.lst vs) ∧ RepAll K O H vs ds := by
  rcases h with h | ⟨a, vs, es, rfl, e, ha, r⟩
  · cases h with
    | lst h1 h2 h3 => exact ⟨_, _, rfl, h1, h3⟩
  · cases e
    exact ⟨a, vs, rfl, .inl ha, r⟩
theorem ViewR.tuple {ds : List D} (h : ViewR K O H v (.tuple ds)) : ∃ a vs, v = .ref a ∧ SqT K H a vs ∧ RepAll K O H vs ds := by
  rcases h with h | ⟨a, vs, es, _, e, _⟩
  · cases h with
    | tup h1 h2 => exact ⟨_, _, rfl, h1, h2⟩
  · cases e
theorem ViewR.is_none (h : ViewR K O H v d) : decide (v = .non) = (match d with | .none => true | _ => false) := by
  rcases h with h | ⟨a, vs, ds, rfl, rfl, _⟩
  · cases h <;> simp
  · simp
theorem get_some {i : Nat} {s : Plc} (h : gt e i = s) (n : s ≠ .emp) : e[i]? = some s := by
  unfold gt at h
  rw [List.getD_eq_getElem?_getD] at h
  cases q : e[i]? with
  | none =>
    rw [q] at h
    exact absurd h.symm n
  | some z =>
    rw [q] at h
    exact congrArg some h
theorem SR.val (s : SR K O σ H e) {i : Nat} (h : gt e i = .val d) : ∃ v, σ[i]? = some (some v) ∧ Rep K O H v d := by
  obtain ⟨o, h1, v, h2, h3⟩ := s.at_ i _ (get_some h (fun z => nomatch z))
  exact ⟨v, by rw [h1, h2], h3⟩
theorem SR.own (s : SR K O σ H e) {i : Nat} {c : ECell} (h : gt e i = .own c) : ∃ a, σ[i]? = some (some (.ref a)) ∧ O a ∧ CellR K O H a c ∧ Mine σ e a := by
  have h0 := get_some h (fun z => nomatch z)
  obtain ⟨o, h1, a, h2, h3, h4⟩ := s.at_ i _ h0
  exact ⟨a, by rw [h1, h2], h3, h4, i, c, h0, by rw [h1, h2]⟩
theorem view_ok {r : Rs} (s : SR K O σ H e) (h : RR K O σ H e H0 v r) (q : view e r = some d) : ViewR K O H v d := by
  cases r with
  | d x =>
    cases q
    exact .inl h
  | fresh c =>
    cases c with
    | lst xs =>
      cases q
      obtain ⟨a, h1, h2, ⟨vs, h3, h4⟩, _⟩ := h
      exact .inr ⟨a, vs, xs, h1, rfl, h3, h4⟩
  | slot i =>
    have q' : (match gt e i with | .own (.lst xs) => some (PyData.list xs) | .val d => some d | _ => none) = some d := q
    have h' : σ[i]? = some (some v) := h
    cases g : gt e i with
    | emp => rw [g] at q'; cases q'
    | val x =>
      rw [g] at q'
      cases q'
      obtain ⟨v2, h1, h2⟩ := s.val g
      rw [h'] at h1
      cases h1
      exact .inl h2
    | own c =>
      cases c with
      | lst xs =>
        rw [g] at q'
        cases q'
        obtain ⟨a, h1, h2, ⟨vs, h3, h4⟩, _⟩ := s.own g
        rw [h'] at h1
        cases h1
        exact .inr ⟨a, vs, xs, rfl, rfl, h3, h4⟩
    | exc c x => rw [g] at q'; cases q'
/-! ### what is one's own is given up -/
theorem Rep.anti (h : ∀ a, O1 a → O a) (r : Rep K O H v d) : Rep K O1 H v d := Rep.go (fun a xs q n => ⟨q, fun z => n (h a z)⟩) (fun a xs q => q) d v r
theorem RepAll.anti {vs : List V} {ds : List D} (h : ∀ a, O1 a → O a) (r : RepAll K O H vs ds) : RepAll K O1 H vs ds := RepAll.go (fun a xs q n => ⟨q, fun z => n (h a z)⟩) (fun a xs q => q) ds vs r
theorem CellR.anti {a : Addr} {c : ECell} (h : ∀ a, O1 a → O a) (r : CellR K O H a c) : CellR K O1 H a c := by
  cases c with
  | lst xs =>
    obtain ⟨vs, h1, h2⟩ := r
    exact ⟨vs, h1, h2.anti h⟩
def minus (O : Own) (a : Addr) : Own := fun b => O b ∧ b ≠ a
theorem minus_le (a : Addr) : ∀ b, minus O a b → O b := fun _ h => h.1
/-- the place i no longer holds one's own -/
theorem Mine.unset {i : Nat} {s : Plc} (n : ∀ c, s ≠ .own c) {a : Addr} (m : Mine σ (e.set i s) a) : Mine σ e a := by
  obtain ⟨j, c, h1, h2⟩ := m
  by_cases hj : j = i
  · subst hj
    by_cases hl : j < e.length
    · rw [List.getElem?_set_self hl] at h1
      exact absurd (Option.some.inj h1) (n c)
    · rw [List.getElem?_eq_none (by rw [List.length_set]; omega)] at h1
      cases h1
  · rw [List.getElem?_set_ne (fun z => hj z.symm)] at h1
    exact ⟨j, c, h1, h2⟩
theorem SR.minus (s : SR K O σ H e) {a : Addr} (n : ¬ Mine σ e a) : SR K (minus O a) σ H e where
  len := s.len
  at_ := fun i p h => by
    obtain ⟨o, h1, h2⟩ := s.at_ i p h
    refine ⟨o, h1, ?_⟩
    cases p with
    | emp => exact h2
    | val d =>
      obtain ⟨v, h3, h4⟩ := h2
      exact ⟨v, h3, h4.anti (minus_le a)⟩
    | own c =>
      obtain ⟨b, h3, h4, h5⟩ := h2
      exact ⟨b, h3, ⟨h4, fun z => n ⟨i, c, h, by rw [h1, h3, z]⟩⟩, h5.anti (minus_le a)⟩
    | exc c d => exact h2
  inj := s.inj
theorem SR.freeze (s : SR K O σ H e) {i : Nat} {xs : List D} (h : gt e i = .own (.lst xs)) : ∃ a, σ[i]? = some (some (.ref a)) ∧ Mine σ e a ∧ SR K (Snd.minus O a) σ H (e.set i (.val (.list xs))) ∧ Rep K (Snd.minus O a) H (.ref a) (.list xs) ∧ ¬ Mine σ (e.set i (.val (.list xs))) a := by
  obtain ⟨a, h1, h2, ⟨vs, h3, h4⟩, m⟩ := s.own h
  have h0 := get_some h (fun z => nomatch z)
  have rp : Rep K (Snd.minus O a) H (.ref a) (.list xs) := .lst (.inl h3) (fun z => z.2 rfl) (h4.anti (minus_le a))
  refine ⟨a, h1, m, ⟨by rw [List.length_set]; exact s.len, fun j p hj => ?_, fun j k c c' b q1 q2 q3 q4 => ?_⟩, rp, fun z => ?_⟩
  · by_cases hji : i = j
    · subst hji
      have hl : i < e.length := (List.getElem?_eq_some_iff.mp h0).1
      rw [List.getElem?_set_self hl] at hj
      cases hj
      exact ⟨some (.ref a), h1, .ref a, rfl, rp⟩
    · rw [List.getElem?_set_ne hji] at hj
      obtain ⟨o, q1, q2⟩ := s.at_ j p hj
      refine ⟨o, q1, ?_⟩
      cases p with
      | emp => exact q2
      | val d =>
        obtain ⟨v, q3, q4⟩ := q2
        exact ⟨v, q3, q4.anti (minus_le a)⟩
      | own c =>
        obtain ⟨b, q3, q4, q5⟩ := q2
        exact ⟨b, q3, ⟨q4, fun z => hji (s.inj i j _ _ a h0 hj h1 (by rw [q1, q3, z]))⟩, q5.anti (minus_le a)⟩
      | exc c d => exact q2
  · have u : ∀ {m : Nat} {c : ECell}, (e.set i (.val (.list xs)))[m]? = some (Plc.own c) → e[m]? = some (Plc.own c) := fun {m c} q => by
      by_cases hm : i = m
      · subst hm
        have hl : i < e.length := (List.getElem?_eq_some_iff.mp h0).1
        rw [List.getElem?_set_self hl] at q
        cases q
      · rw [List.getElem?_set_ne hm] at q
        exact q
    exact s.inj j k c c' b (u q1) (u q2) q3 q4
  · obtain ⟨j, c, q1, q2⟩ := z
    by_cases hj : i = j
    · subst hj
      have hl : i < e.length := (List.getElem?_eq_some_iff.mp h0).1
      rw [List.getElem?_set_self hl] at q1
      cases q1
    · rw [List.getElem?_set_ne hj] at q1
      exact hj (s.inj i j _ _ a h0 q1 h1 q2)
/-- a result is kept for good; Os, Hs, es: a start ahead of it -/
theorem capt_ok {Os : Own} {σs : St} {Hs : Hp} {es e1 : FEnv} {r : Rs} (st : Stp np Os σs Hs es O σ H e) (s : SR K O σ H e) (h : RR K O σ H e Hs v r) (q : capt np e r = some (d, e1)) :
    ∃ O1, Stp np Os σs Hs es O1 σ H e1 ∧ SR K O1 σ H e1 ∧ Rep K O1 H v d ∧ (∀ a, O1 a → O a) ∧ (∀ a, Mine σ e1 a → Mine σ e a) ∧ (∀ a, O a → O1 a ∨ Mine σ e a ∨ ∃ c, r = .fresh c ∧ v = .ref a) := by
  cases r with
  | d x =>
    cases q
    exact ⟨O, st, s, h, fun _ z => z, fun _ z => z, fun _ z => .inl z⟩
  | fresh c =>
    cases c with
    | lst xs =>
      cases q
      obtain ⟨a, h1, h2, ⟨vs, h3, h4⟩, h5, h6⟩ := h
      subst h1
      refine ⟨minus O a, ⟨fun b o hb nb => ?_, st.there, st.par⟩, s.minus h5, .lst (.inl h3) (fun z => z.2 rfl) (h4.anti (minus_le a)), minus_le a, fun _ z => z, fun b hb => ?_⟩
      rotate_left
      · by_cases z : b = a
        · exact .inr (.inr ⟨_, rfl, by rw [z]⟩)
        · exact .inl ⟨hb, z⟩
      obtain ⟨k1, k2, k3⟩ := st.keep b o hb nb
      refine ⟨k1, ⟨fun z => k2.mp z.1, fun z => ⟨k2.mpr z, fun w => ?_⟩⟩, k3⟩
      rw [w, h6] at hb
      cases hb
  | slot i =>
    have q' : (match gt e i with | .own (.lst xs) => if np ≤ i then some (PyData.list xs, e.set i (.val (.list xs))) else none | .val d => some (d, e) | _ => none) = some (d, e1) := q
    have h' : σ[i]? = some (some v) := h
    cases g : gt e i with
    | emp => rw [g] at q'; cases q'
    | val x =>
      rw [g] at q'
      cases q'
      obtain ⟨v2, h1, h2⟩ := s.val g
      rw [h'] at h1
      cases h1
      exact ⟨O, st, s, h2, fun _ z => z, fun _ z => z, fun _ z => .inl z⟩
    | exc c x => rw [g] at q'; cases q'
    | own c =>
      cases c with
      | lst xs =>
        rw [g] at q'
        have q2 : (if np ≤ i then some (PyData.list xs, e.set i (.val (.list xs))) else none) = some (d, e1) := q'
        by_cases hn : np ≤ i
        · rw [if_pos hn] at q2
          cases q2
          obtain ⟨a, h1, m, s1, rp, nm⟩ := s.freeze g
          rw [h'] at h1
          cases h1
          refine ⟨minus O a, ⟨fun b o hb nb => ?_, st.there, fun j c hj hc => ?_⟩, s1, rp, minus_le a, fun b z => z.unset (by intro c w; cases w), fun b hb => ?_⟩
          rotate_left 2
          · by_cases z : b = a
            · exact .inr (.inl (by rw [z]; exact m))
            · exact .inl ⟨hb, z⟩
          · obtain ⟨k1, k2, k3⟩ := st.keep b o hb nb
            have nb2 : b ≠ a := fun z => k3 (by rw [z]; exact m)
            exact ⟨k1, ⟨fun z => k2.mp z.1, fun z => ⟨k2.mpr z, nb2⟩⟩, fun z => k3 (z.unset (by intro c w; cases w))⟩
          · obtain ⟨c', p1, p2⟩ := st.par j c hj hc
            exact ⟨c', by rw [List.getElem?_set_ne (show i ≠ j from fun z => by omega)]; exact p1, p2⟩
        · rw [if_neg hn] at q2
          cases q2
/-- values behind one another; fresh ones stand apart -/
inductive RRs (K : PySem.W.Frag) (O : Own) (σ : St) (H : Hp) (e : FEnv) (H0 : Hp) : List V → List Rs → Prop
  | nil : RRs K O σ H e H0 [] []
  | cons {v : V} {vs : List V} {r : Rs} {rs : List Rs} : RR K O σ H e H0 v r → RRs K O σ H e H0 vs rs → (∀ c, r = .fresh c → ∀ (j : Nat) (c' : ECell), rs[j]? = some (Rs.fresh c') → vs[j]? ≠ some v) → RRs K O σ H e H0 (v :: vs) (r :: rs)
theorem RRs.go {vs : List V} {rs : List Rs} (st : Stp np O σ H e O1 σ H1 e1) (s : SR K O σ H e) (h : RRs K O σ H e H0 vs rs) : RRs K O1 σ H1 e1 H0 vs rs := by
  induction h with
  | nil => exact .nil
  | cons r t n ih => exact .cons (r.go st s) ih n
theorem RRs.back {H00 : Hp} {vs : List V} {rs : List Rs} (h : RRs K O σ H e H0 vs rs) (t : ∀ a, H00 a ≠ none → H0 a ≠ none) : RRs K O σ H e H00 vs rs := by
  induction h with
  | nil => exact .nil
  | cons r w n ih => exact .cons (r.back t) ih n
theorem RRs.length {vs : List V} {rs : List Rs} (h : RRs K O σ H e H0 vs rs) : vs.length = rs.length := by
  induction h with
  | nil => rfl
  | cons _ _ _ ih => rw [List.length_cons, List.length_cons, ih]
theorem RRs.get {vs : List V} {rs : List Rs} (h : RRs K O σ H e H0 vs rs) : ∀ {j : Nat} {r : Rs}, rs[j]? = some r → ∃ v, vs[j]? = some v ∧ RR K O σ H e H0 v r := by
  induction h with
  | nil =>
    intro j r q
    simp at q
  | cons r t n ih =>
    intro j r' q
    cases j with
    | zero =>
      simp at q
      subst q
      exact ⟨_, rfl, r⟩
    | succ j =>
      obtain ⟨v, h1, h2⟩ := ih (j := j) (by simpa using q)
      exact ⟨v, by simpa using h1, h2⟩
/-- what the giving up of a leaves of the others -/
theorem RR.shrink {r : Rs} (h : RR K O σ H e H0 v r) (ho : ∀ b, O1 b → O b) (hm : ∀ b, Mine σ e1 b → Mine σ e b) (hk : ∀ c a, r = .fresh c → v = .ref a → O a → O1 a) : RR K O1 σ H e1 H0 v r := by
  cases r with
  | d x => exact Rep.anti ho h
  | slot i => exact h
  | fresh c =>
    obtain ⟨a, h1, h2, h3, h4, h5⟩ := h
    exact ⟨a, h1, hk c a rfl h1 h2, h3.anti ho, fun z => h4 (hm a z), h5⟩
theorem captAll_ok {Os : Own} {σs : St} {Hs : Hp} {es : FEnv} : ∀ {rs : List Rs} {vs : List V} {O : Own} {e e1 : FEnv} {ds : List D}, Stp np Os σs Hs es O σ H e → SR K O σ H e → RRs K O σ H e Hs vs rs → captAll np e rs = some (ds, e1) →
    ∃ O1, Stp np Os σs Hs es O1 σ H e1 ∧ SR K O1 σ H e1 ∧ RepAll K O1 H vs ds ∧ ∀ a, O1 a → O a
  | [], vs, O, e, e1, ds, st, s, h, q => by
    cases h
    cases q
    exact ⟨O, st, s, .nil, fun _ z => z⟩
  | r :: rs, vs, O, e, e1, ds, st, s, h, q => by
    cases h with
    | @cons v vs r rs h1 h2 h3 =>
      unfold captAll at q
      cases q1 : capt np e r with
      | none =>
        rw [q1] at q
        cases q
      | some p =>
        obtain ⟨d, e2⟩ := p
        rw [q1] at q
        have q' : ((captAll np e2 rs).map fun (x : List D × FEnv) => (d :: x.1, x.2)) = some (ds, e1) := q
        obtain ⟨O2, st2, s2, r2, o2, m2, k2⟩ := capt_ok st s h1 q1
        cases q3 : captAll np e2 rs with
        | none =>
          rw [q3] at q'
          cases q'
        | some p2 =>
          obtain ⟨ds2, e3⟩ := p2
          rw [q3] at q'
          cases q'
          -- the others do not stand where the first one stood
          have key : ∀ {vs' : List V} {rs' : List Rs}, RRs K O σ H e Hs vs' rs' → (∀ c, r = .fresh c → ∀ (j : Nat) (c' : ECell), rs'[j]? = some (Rs.fresh c') → vs'[j]? ≠ some v) → RRs K O2 σ H e2 Hs vs' rs' := by
            intro vs' rs' hh
            induction hh with
            | nil => exact fun _ => .nil
            | @cons w ws r' rs'' a1 a2 a3 ih =>
              intro nn
              refine .cons ?_ (ih fun c hc j c' b1 => by simpa using nn c hc (j + 1) c' (by simpa using b1)) a3
              cases r' with
              | d x => exact Rep.anti o2 a1
              | slot i => exact a1
              | fresh c' =>
                obtain ⟨a, f1, f2, f3, f4, f5⟩ := a1
                refine ⟨a, f1, ?_, f3.anti o2, fun z => f4 (m2 a z), f5⟩
                rcases k2 a f2 with z | z | ⟨c, z1, z2⟩
                · exact z
                · exact absurd z f4
                · exact absurd (by rw [f1, z2]; rfl) (nn c z1 0 c' rfl)
          obtain ⟨O3, st3, s3, r3, o3⟩ := captAll_ok st2 s2 (key h2 h3) q3
          exact ⟨O3, st3, s3, .cons (r2.anti o3) r3, fun a z => o2 a (o3 a z)⟩
end
end Snd
end
section
set_option Elab.async false
set_option linter.all false
set_option maxRecDepth 100000
set_option maxHeartbeats 2000000
/-! a def's promise where the text of no container is being made: what repr of rows needs -/
namespace Snd
open PySem PySem.Spec PyProof.Rows L2
structure FnG (P : Program) (w : World) (K : PySem.W.Frag) (mg : Str → Option Value) (base : Heap) (CX : CXT) (k : Nat) (f : Addr) (fd : FuncData) (ps : List Str) (sp : Sp) : Prop where
  len : ∀ vs H Q E, sp vs H Q E → vs.length = ps.length
  run : ∀ (A : Around) (outer : List Env) (s : Shared) (H : Hp) (args : Args) (us : List Value) (vs : List V) (Q : VK) (E : XK), Room k A → A.guards = some [] → Env0 P w K mg base A outer s H → BindsTo s fd args (ps.zip us) → Vals vs us → sp vs H Q E →
    codeAny (model P w) A (.call (.ref f) args) (CR CX outer P w H s Q E) s
section
variable {X : Cx} {CX : CXT} {k : Nat} {f : Addr} {fd : FuncData} {ps : List Str} {sp : Sp} {E : L2.St → XK} {x : Str} {p pos : Pos} {e : Expr} {es : List Expr} {t : TA}
/-- what a callee's end is to the caller -/
theorem end_of {pins : List (Addr × Obj)} {σ : L2.St} {H : Hp} {s : Shared} {Q : VK} (hx : PassesAt CX X σ (E σ)) (I : Inv X pins σ H s) {q : Result} {s' : Shared} (hq : CR CX X.stack X.prog X.w H s Q (E σ) q s') :
    (match q with | .ok (.ret u) => EP X pins σ Q u s' | .ok _ => False | .error e => X.xe e s') := by
  cases q with
  | error e => exact hx pins H s e s' I hq
  | ok fl =>
    cases fl with
    | ret u => exact I.after hq
    | next => exact hq
    | brk => exact hq
    | cont => exact hq
theorem run_g {pins : List (Addr × Obj)} {σ : L2.St} {H : Hp} {s : Shared} {Q : VK} {us : List Value} {vs : List V} {args : Args} {as : List Value} (F : FnG X.prog X.w X.K X.mg X.base CX k f fd ps sp) (hr : Room k X.A) (hg : X.A.guards = some [])
    (hb : BindsTo s fd ⟨as, args.kw⟩ (ps.zip us)) (hx : PassesAt CX X σ (E σ)) (I : Inv X pins σ H s) (r : Vals vs us) (h : sp vs H Q (E σ)) : wpAny (model X.prog X.w) X.A (call (.ref f) as args.kw) (EP X pins σ Q) X.xe s := by
  refine wpAny_call (codeAny_mono (F.run X.A X.stack s H ⟨as, args.kw⟩ us vs Q (E σ) hr hg I.env0 hb r h) fun q s' hq => ?_)
  have w := end_of hx I hq
  cases q with
  | error e => exact w
  | ok fl => cases fl <;> exact w
theorem pe_callG (F : FnG X.prog X.w X.K X.mg X.base CX k f fd ps sp) (hr : Room k X.A) (hgd : X.A.guards = some []) (hg : Gl X x) (hm : X.mg x = some (.ref f)) (hk : PySem.W.keepIn X.K (.ref f) = true) (hb : Binds X.K fd ps []) (hx : ∀ σ, PassesAt CX X σ (E σ))
    (ha : PA X (e :: es) t) (hdb : (x == ("__debug__" : Str)) = false) (he : starEach (e :: es) X.env = (false, eval e X.env) :: starEach es X.env) (hpl : (backTo pos (starEach es X.env)).any (·.1) = false) :
    PE X (.Call (.Name x p) (e :: es) [] pos) (tCallS sp E t) := by
  refine ⟨fun pins s σ H Q I h => ?_⟩
  refine wpAny_Call_Name_kw (ld_glob I hg hm ?_ hdb)
  refine PySem.W.callWith_K (h₀ := X.base) I.ok.mod.kin hk (thn (ha.run pos pins s σ H _ I h) fun us s1 ⟨vs, H1, I1, r, q⟩ => ⟨I1.kIn, ?_⟩) he hpl
  have b := hb s1 us I1.kIn (by rw [List.append_nil, ← r.length]; exact F.len _ _ _ _ q)
  rw [List.append_nil] at b
  exact run_g (args := ⟨us, []⟩) F hr hgd b (hx σ) I1 r q
end
theorem deeper_guards {A : Around} {env : Env} : (A.deeper env).guards = A.guards := rfl
section
variable {P : Program} {w : World} {K : PySem.W.Frag} {mg : Str → Option Value} {base : Heap} {x qual : Str} {params : Arguments} {body : List Stmt} {scope : Scope} {f : Addr} {fd : FuncData}
/-- such a promise from a def's body -/
theorem FnG.of {CX : CXT} {N ps : List Str} {k : Nat} {sp : Sp} (F : L2.FunD K x qual params body scope [] [] f fd) (S : FnScope N ps scope) (len : ∀ vs H Q E, sp vs H Q E → vs.length = ps.length)
    (hbody : ∀ (cdv : Value) (A : Around) (outer : List Env) (s : Shared) (H : Hp) (vs : List V) (Q : VK) (E : XK), Room k (A.deeper (envOfC qual scope s.heap.objs.size f cdv)) → A.guards = some [] → sp vs H Q E →
      ∃ t, PSs (cxOf CX P w K mg base N qual scope f cdv A outer s H E) body t ∧ t { nx := fun _ H' => Q .non H', rt := Q } (start N vs) H) : FnG P w K mg base CX (k + 1) f fd ps sp := by
  obtain ⟨oc, od, dV, kV, doc, pm, an, cdv, ct, osl, rfl, lk, hcd, _, _⟩ := F.ex
  refine ⟨len, fun A outer s H args us vs Q E hr hg e0 hb r hsp => ?_⟩
  have keep : ∀ b o, base.get? b = some o → s.heap.get? b = some o := fun b o e => (e0.bs b o e).1
  have KX : K.In s.heap := e0.mod.kin.keeps keep
  have names : ∀ y ∈ ps.zip us, scope.names.lookup y.1 = some .local ∨ (scope.names.lookup y.1 = some .cell ∧ ((cellsFrom (s.heap.objs.size + 1) scope.names []).lookup y.1).isSome = true) := fun y hy => by
    rcases S.par y.1 (List.of_mem_zip (a := y.1) (b := y.2) hy).1 with q | q
    · exact .inl q
    · exact .inr ⟨q, PySem.W.cellsFrom_some _ _ _ (.inl q)⟩
  refine codeAny_call_function hr.depth (KX _ _ lk) rfl S.co S.gen rfl (PySem.W.codeRec_of KX hcd) (hb _ _ _ _ ?_)
  refine wpAny_newFunctionEnv_cells S.kind names fun env he s1 z => ?_
  subst he
  refine ⟨(e0.mod.nolimit.keeps keep).keeps z.toInCall.keep, codeAny_func ?_⟩
  obtain ⟨t, ht, hq⟩ := hbody cdv A outer s H vs Q E (hr.deeper _) hg hsp
  have I := inv_start (CX := CX) (E := E) S hr.hd e0 (len _ _ _ _ hsp) r z
  refine wpAny_mono (ht.run [] s1 (start N vs) H _ I hq) (fun fl s' hs => ?_) fun e s' hs => hs
  cases fl with
  | ret u =>
    obtain ⟨v, σ', H', J, rv, q⟩ := hs
    exact ⟨v, H', J.os, J.bare, J.base, J.hok, rv, q⟩
  | next =>
    obtain ⟨σ', H', J, q⟩ := hs
    exact ⟨.non, H', J.os, J.bare, J.base, J.hok, rfl, q⟩
  | brk =>
    obtain ⟨_, _, _, q⟩ := hs
    exact q.elim
  | cont =>
    obtain ⟨_, _, _, q⟩ := hs
    exact q.elim
end
/-- the law's call, from such a promise: the script alone is known to the heap -/
theorem call_lawG {P : Program} {w : World} {K : PySem.W.Frag} {mg mb : Str → Option Value} {CX : CXT} {k : Nat} {fa a : Addr} {fd : FuncData} {x : Str} {sp : Sp} {s₁ : Shared} {vs : List Value} {ns : List Int}
    (KX : K.In s₁.heap) (nl : ∀ b o, K.lookup b = some o → o.cls ≠ .type "list") (hns : s₁.heap.Ns mainGlobals mg) (hb : s₁.heap.Ns builtinsNs mb) (hbb : ∀ x : Str, x ≠ "__name__" → mb x = bootBuiltins x) (hlim : s₁.heap.NoLimit) (hg : s₁.gens = #[])
    (ha : s₁.heap.get? a = some { cls := .type "list", data := .seq vs.toArray }) (hi : IntsAre vs ns) (hl : ns.length ≤ sizeLine) (hr : Room k callerA)
    (F : ∀ base : Heap, K.In base → base.Ns mainGlobals mg → FnG P w K mg base CX k fa fd [x] sp) (hbind : ∀ (s : Shared) (u : Value), BindsTo s fd ⟨[u], []⟩ [(x, u)])
    (hsp : ∀ H : Hp, SqL K H a (ns.map V.int) → sp [.ref a] H (fun v _ => v = .bl true) fun _ _ _ => False)
    (hCX : ∀ H e s', CX [] H s₁ (fun _ _ _ => False) e s' → False) :
    codeAny (model P w) callerA (.call (.ref fa) ⟨[.ref a], []⟩) (fun r s' => r = .ok (.ret (.bool true)) ∧ OldK s₁.heap s'.heap ∧ s'.os = s₁.os ∧ AllBare s'.gens) s₁ := by
  obtain ⟨ob, hob⟩ : ∃ ob : Obj, ob = { cls := .type "list", data := .seq vs.toArray } := ⟨_, rfl⟩
  rw [← hob] at ha
  obtain ⟨H, hH⟩ : ∃ H : Hp, H = fun b => if b = a then some (.frz ob (.lst (ns.map V.int))) else none := ⟨_, rfl⟩
  have Ha : H a = some (.frz ob (.lst (ns.map V.int))) := by rw [hH]; exact if_pos rfl
  have Hn : ∀ b, b ≠ a → H b = none := fun b n => by rw [hH]; exact if_neg n
  have only : ∀ b u, H b = some u → b = a ∧ u = .frz ob (.lst (ns.map V.int)) := fun b u z => by
    by_cases e : b = a
    · subst e
      rw [Ha] at z
      exact ⟨rfl, (Option.some.inj z).symm⟩
    · rw [Hn b e] at z
      cases z
  have hok : HOk P w H s₁.heap := fun b u z => by
    obtain ⟨rfl, rfl⟩ := only b u z
    exact ⟨ha, by rw [List.length_map]; exact hl, vs, _, vals_ints hi, by rw [ha, hob]⟩
  have old : ∀ {b : Addr} {o : Obj}, s₁.heap.get? b = some o → b ≠ a → (hidT s₁.heap H).get? b = some o := fun e n => hidT_get e (Hn _ n)
  have nsK : ∀ {b : Addr} {m : Str → Option Value}, s₁.heap.Ns b m → (hidT s₁.heap H).Ns b m := fun {b m} ⟨o, es, ep, e, d, r⟩ => ⟨o, es, ep, old e (fun z => by
    subst z
    rw [ha] at e
    cases e
    rw [hob] at d
    have d' : Data.seq vs.toArray _ = Data.dict es ep := d
    cases d'), d, r⟩
  have hKb : K.In (hidT s₁.heap H) := fun b o e => old (KX b o e) fun z => by
    subst z
    have e2 := KX _ o e
    rw [ha] at e2
    cases e2
    exact nl _ _ e (by rw [hob])
  have hM : Mod K mg (hidT s₁.heap H) := ⟨hKb, nsK hns, ⟨mb, nsK hb, hbb⟩, let ⟨mc, h1, h2⟩ := hlim; ⟨mc, nsK h1, h2⟩⟩
  have e0 : Env0 P w K mg (hidT s₁.heap H) callerA [] s₁ H := ⟨rfl, hM, fun b o e => of_hidT e, Nat.le_of_eq (hidT_size _ _), trivial, (fun b hb => nomatch (show b ∈ ([] : List Addr) from hb)), hok, .of_eq hg⟩
  refine codeAny_mono ((F _ hKb (nsK hns)).run callerA [] s₁ H ⟨[.ref a], []⟩ [.ref a] [.ref a] _ _ hr rfl e0 (hbind s₁ (.ref a)) (.cons rfl .nil) (hsp H (.inl (.inr ⟨ob, Ha⟩)))) fun r s' h => ?_
  cases r with
  | error e => exact (hCX H e s' h).elim
  | ok fl =>
    cases fl with
    | next => exact h.elim
    | brk => exact h.elim
    | cont => exact h.elim
    | ret u =>
      obtain ⟨v, H', os, bare, un, hok', r', q⟩ := h
      have q' : v = .bl true := q
      subst q'
      obtain rfl : u = Value.bool true := r'
      refine ⟨rfl, OldK.of_keep fun b o e => ?_, os, bare⟩
      by_cases z : b = a
      · subst z
        rw [ha] at e
        cases e
        exact (hok' _ _ (un.frzs _ ob _ Ha)).1
      · exact un.keep b o e (Hn b z) (by intro y; exact nomatch (show b ∈ ([] : List Addr) from y)) (by simp)
theorem walk_lawG {l : PySem.W.OpenLaw} {n k : Nat} {q : Program} {loose : List Str} {XP : (Str → Option Value) → Heap → Prop} {YP : World → Heap → Prop} {d : DefRec} {CX : CXT} {x : Str}
    (hn : l.most = some n) (hn2 : n ≤ sizeLine) (hdf : d.params.defaults = []) (hr : Room k callerA)
    (F : ∀ (w : World) (mg : Str → Option Value) (fa : Addr) (h : Heap), YP w h → h.Ns mainGlobals mg → mg d.name = some (.ref fa) →
      ∃ (K : PySem.W.Frag) (fd : FuncData) (sp : Sp), K.In h ∧ (∀ b o, K.lookup b = some o → o.cls ≠ .type "list") ∧ (∀ (s : Shared) (u : Value), BindsTo s fd ⟨[u], []⟩ [(x, u)]) ∧
        (∀ (H : Hp) (a : Addr) (ns : List Int), ns.length ≤ n → SqL K H a (ns.map V.int) → sp [.ref a] H (fun v _ => v = .bl true) fun _ _ _ => False) ∧
        ∀ base : Heap, K.In base → base.Ns mainGlobals mg → FnG l.prog w K mg base CX k fa fd [x] sp)
    (hCX : ∀ (H : Hp) (s : Shared) (e : Value) (s' : Shared), CX [] H s (fun _ _ _ => False) e s' → False) :
    PySem.W.WalkO q loose XP YP l.row.toRowW d [] (fun f vs => PySem.call f vs) := by
  refine Att.attach_call hn hdf fun w s₀ s₁ mg mb fa o pm cd doc a vs ns G Y ho hd hcd hmg hobj hints hlen hg => ?_
  obtain ⟨K, fd, sp, KX, nl, hb, hsp, hF⟩ := F w mg fa _ Y G.T.g hmg
  exact call_lawG KX nl G.T.g G.T.b G.T.builtins G.T.nolimit hg hobj hints (Nat.le_trans hlen hn2) hr hF hb (fun H hS => hsp H a ns hlen hS) fun H e s' => hCX H s₁ e s'
end Snd
end
section
set_option Elab.async false
set_option linter.all false
set_option maxRecDepth 100000
set_option maxHeartbeats 2000000
namespace Snd
open PySem L2 Ev
/-! ### what a def promises -/
/-- the arguments as they are handed over -/
structure ArgsR (K : PySem.W.Frag) (O : Own) (H : Hp) (vs : List V) (as : List EArg) : Prop where
  len : vs.length = as.length
  d : ∀ (i : Nat) (x : D), as[i]? = some (EArg.d x) → ∃ v, vs[i]? = some v ∧ Rep K O H v x
  own : ∀ (i : Nat) (c : ECell), as[i]? = some (EArg.own c) → ∃ a, vs[i]? = some (V.ref a) ∧ O a ∧ CellR K O H a c
  apart : ∀ (i j : Nat) (c c' : ECell), as[i]? = some (EArg.own c) → as[j]? = some (EArg.own c') → vs[i]? = vs[j]? → i = j
def MineA (vs : List V) (as : List EArg) (a : Addr) : Prop := ∃ (i : Nat) (c : ECell), as[i]? = some (EArg.own c) ∧ vs[i]? = some (V.ref a)
/-- behind the call -/
structure Back (K : PySem.W.Frag) (O : Own) (H : Hp) (vs : List V) (as : List EArg) (fin : List (Option ECell)) (O' : Own) (H' : Hp) : Prop where
  keep : ∀ a o, H a = some o → ¬ MineA vs as a → H' a = some o ∧ (O' a ↔ O a)
  there : ∀ a, H a ≠ none → H' a ≠ none
  fin : ∀ (i : Nat) (c : ECell), as[i]? = some (EArg.own c) → ∃ a c', vs[i]? = some (V.ref a) ∧ fin[i]? = some (some c') ∧ O' a ∧ CellR K O' H' a c'
def RetR (K : PySem.W.Frag) (O' : Own) (H' : Hp) (H : Hp) (v : V) : Rs → Prop
  | .d x => Rep K O' H' v x
  | .fresh c => ∃ a, v = .ref a ∧ O' a ∧ CellR K O' H' a c ∧ H a = none
  | .slot _ => False
def spT (K : PySem.W.Frag) (CA : Nat → Addr) (T : FT) (f : Nat) (n : Nat) : Sp := fun vs H Q E => ∃ (O : Own) (as : List EArg), vs.length = n ∧ ArgsR K O H vs as ∧ (match T f as with
  | .ok r fin => ∀ O' H' v, Back K O H vs as fin O' H' → RetR K O' H' H v r → Q v H'
  | .err c d fin => ∀ O' H' cls dd, Back K O H vs as fin O' H' → ExcR K CA O' H' cls dd c d → E cls dd H'
  | .stuck => False)

/-! ### tables -/
structure Tab where
  fn : List (Str × List Str)
  gl : List Str
  cls : List Str
  gcd : Bool
  kw : List (Nat × Nat × List Str × List Nat)
def bnames : List Str := ["repr", "len", "abs", "max", "min", "sum", "all", "any", "tuple", "list", "int", "str", "bool", "isinstance", "range", "zip", "enumerate", "sorted"]
def pick {α : Type} (l : List α) (perm : List Nat) : List α := perm.filterMap fun i => l[i]?
/-- what the exceptions' own __init__ keeps -/
def spInit (K : PySem.W.Frag) : Sp := fun vs H Q _ => ∃ (a C : Addr) (v : V), vs = [.ref a, v] ∧ OexC K C ∧ PySem.W.findIn K (.ref C) "value" = some none ∧ H a = some (exo a C none) ∧
  ∀ dx, H dx = none → dx ≠ a → Q .non (upd (upd H dx (exd dx [(("value" : Str), v)])) a (exo a C (some dx)))
structure Glo (tb : Tab) (pr : EProg) (T : FT) (CA : Nat → Addr) (k : Nat) (P : Program) (w : World) (K : PySem.W.Frag) (mg : Str → Option Value) (base : Heap) : Prop where
  funs : ∀ (i : Nat) (x : Str) (ps : List Str), tb.fn[i]? = some (x, ps) → ∃ f fd, mg x = some (.ref f) ∧ PySem.W.keepIn K (.ref f) = true ∧ FnG P w K mg base (L2.CX P w) k f fd ps (spT K CA T i ps.length) ∧ Binds K fd ps [] ∧
    (∀ m ks perm, (i, m, ks, perm) ∈ tb.kw → (perm.Nodup ∧ perm.length = ps.length ∧ ∀ j ∈ perm, j < m + ks.length) ∧ ∀ (s : Shared) (us ws : List Value), us.length = m → ws.length = ks.length → BindsTo s fd ⟨us, ks.zip ws⟩ (ps.zip (pick (us ++ ws) perm)))
  gl : ∀ (g : Nat) (x : Str), tb.gl[g]? = some x → ∃ u v d, mg x = some u ∧ RelV v u ∧ pr.globs[g]? = some d ∧ ∀ O H, Rep K O H v d
  blt : ∀ x ∈ bnames, mg x = none
  exc : ∀ (c : Nat) (x : Str), tb.cls[c]? = some x → ∃ fI fd, mg x = some (.ref (CA c)) ∧ OexC K (CA c) ∧ PySem.W.findIn K (.ref (CA c)) "value" = some none ∧ PySem.W.findIn K (.ref (CA c)) "__init__" = some (some (.ref fI)) ∧
    PySem.W.typeIn K (.ref fI) = some (.type "function") ∧ FnOk P w K mg base (L2.CX P w) 2 fI fd ["self", "value"] (spInit K) ∧ Binds K fd ["self", "value"] []
  gcd : tb.gcd = true → mg "gcd" = some (.builtin "math.gcd")
  sub : ∀ c c' b, pr.sub c c' = some b → PySem.W.exmOne K (.ref (CA c)) (.ref (CA c')) = some b ∧ XfC K (CA c) ∧ PySem.W.findIn K (.ref (CA c)) "value" = some none
/-- a context fits -/
structure Good (tb : Tab) (pr : EProg) (T : FT) (CA : Nat → Addr) (k : Nat) (N : List Str) (sc fs : Scope) (X : Cx) : Prop where
  hN : X.N = N
  nd : N.Nodup
  hsc : X.env.scope = sc
  kind : sc.kind = .function
  calm : X.calm = true
  fn : ∀ x, fs.names.lookup x = some .cell → X.fn x = true
  room : Room k X.A
  gd : X.A.guards = some []
  k3 : 3 ≤ k
  glo : Glo tb pr T CA k X.prog X.w X.K X.mg X.base
/-! ### readings -/
section
variable (K : PySem.W.Frag) (CA : Nat → Addr) (pr : EProg) (T : FT) (np : Nat) (W : WX)
def tEv (p : P) : TE := fun σ H Q => ∃ O e, SR K O σ H e ∧ AftE K CA np W O σ H e (ev pr T np p e) fun r O' H' e' => ∀ v, RR K O' σ H' e' H v r → Q v H'
def tEvs (ps : Ps) : TA := fun σ H Q => ∃ O e, SR K O σ H e ∧ AftE K CA np W O σ H e (evs pr T np ps e) fun rs O' H' e' => ∀ vs, RRs K O' σ H' e' H vs rs → Q vs H'
def tTs (p : P) : TT := fun σ H Q => ∃ O e, SR K O σ H e ∧ AftE K CA np W O σ H e (asB (ev pr T np p e)) fun b O' H' e' => Q b H'
end
theorem _root_.L2.PE.imp {X : Cx} {ex : Expr} {t t' : TE} (h : PE X ex t) (i : ∀ σ H Q, t' σ H Q → t σ H Q) : PE X ex t' := ⟨fun pins s σ H Q I q => h.run pins s σ H Q I (i σ H Q q)⟩
theorem _root_.L2.PT.imp {X : Cx} {ex : Expr} {t t' : TT} (h : PT X ex t) (i : ∀ σ H Q, t' σ H Q → t σ H Q) : PT X ex t' := ⟨fun pins s σ H Q I q => h.run pins s σ H Q I (i σ H Q q)⟩
theorem _root_.L2.PW.imp {X : Cx} {ex : Expr} {t t' : TT} (h : PW X ex t) (i : ∀ σ H Q, t' σ H Q → t σ H Q) : PW X ex t' := ⟨fun wh pins s σ H Q I q => h.run wh pins s σ H Q I (i σ H Q q)⟩
theorem _root_.L2.PA.imp {X : Cx} {es : List Expr} {t t' : TA} (h : PA X es t) (i : ∀ σ H Q, t' σ H Q → t σ H Q) : PA X es t' := ⟨fun pos pins s σ H Q I q => h.run pos pins s σ H Q I (i σ H Q q)⟩
/-! ### the heap grows -/
section
variable {K : PySem.W.Frag} {CA : Nat → Addr} {pr : EProg} {T : FT} {np : Nat} {W : WX} {O O1 : Own} {σ : St} {H H0 H1 : Hp} {e e1 : FEnv}
structure Gro (O : Own) (H : Hp) (O1 : Own) (H1 : Hp) : Prop where
  keep : ∀ a o, H a = some o → H1 a = some o ∧ (O1 a ↔ O a)
theorem Gro.step {np : Nat} (g : Gro O H O1 H1) : Stp np O σ H e O1 σ H1 e :=
  ⟨fun a o h n => ⟨(g.keep a o h).1, (g.keep a o h).2, n⟩, fun a h z => (by
    cases q : H a with
    | none => exact h q
    | some o =>
      rw [(g.keep a o q).1] at z
      cases z), fun i c _ h => ⟨c, h, rfl⟩⟩
theorem Gro.sr (g : Gro O H O1 H1) (s : SR K O σ H e) : SR K O1 σ H1 e where
  len := s.len
  at_ := fun i p h => by
    obtain ⟨o, h1, h2⟩ := s.at_ i p h
    have st : Stp 0 O σ H e O1 σ H1 e := g.step
    refine ⟨o, h1, ?_⟩
    cases p with
    | emp => exact h2
    | val d =>
      obtain ⟨v, h3, h4⟩ := h2
      exact ⟨v, h3, st.rep s h4⟩
    | own c =>
      cases c with
      | lst ds =>
        obtain ⟨b, h3, h4, vs, h5, h6⟩ := h2
        exact ⟨b, h3, (g.keep b _ h5).2.mpr h4, vs, (g.keep b _ h5).1, st.repAll s h6⟩
    | exc c d => exact h2
  inj := s.inj
theorem Gro.newT {p : Addr} {o : HO} (h : H p = none) : Gro O H O (upd H p o) := ⟨fun a u q => ⟨by rw [upd_ne (ne_of_none q h)]; exact q, Iff.rfl⟩⟩
def plus (O : Own) (p : Addr) : Own := fun b => O b ∨ b = p
theorem Gro.newL {p : Addr} {o : HO} (h : H p = none) : Gro O H (plus O p) (upd H p o) := ⟨fun a u q => ⟨by rw [upd_ne (ne_of_none q h)]; exact q, ⟨fun z => z.elim id fun z => absurd z (ne_of_none q h), .inl⟩⟩⟩
theorem fresh_of {p : Addr} {vs : List V} {ds : List D} (s : SR K O σ H e) (h : H p = none) (th : ∀ a, H0 a ≠ none → H a ≠ none) (r : RepAll K O H vs ds) : RR K (plus O p) σ (upd H p (.lst vs)) e H0 (.ref p) (.fresh (.lst ds)) := by
  have st : Stp 0 O σ H e (plus O p) σ (upd H p (.lst vs)) e := (Gro.newL h).step
  refine ⟨p, rfl, .inr rfl, ⟨vs, upd_same, st.repAll s r⟩, fun m => ?_, ?_⟩
  · obtain ⟨_, ws, q⟩ := s.mine_own m
    rw [h] at q
    cases q
  · cases q : H0 p with
    | none => rfl
    | some o => exact absurd h (th p (by rw [q]; exact fun z => nomatch z))
theorem tup_of {p : Addr} {vs : List V} {ds : List D} (s : SR K O σ H e) (h : H p = none) (r : RepAll K O H vs ds) : Rep K O (upd H p (.tup vs)) (.ref p) (.tuple ds) := by
  have st : Stp 0 O σ H e O σ (upd H p (.tup vs)) e := (Gro.newT h).step
  exact .tup (SqT.of upd_same) (st.repAll s r)
/-! ### ends of an expression -/
/-- a value that needs nothing new -/
theorem fin_d {d : D} {v : V} {Q : VK} (h : AftE K CA np W O σ H e (.ok (.d d) e1) fun r O' H' e' => ∀ v, RR K O' σ H' e' H0 v r → Q v H') (st : Stp np O σ H e O1 σ H1 e1) (s : SR K O1 σ H1 e1) (r : Rep K O1 H1 v d) : Q v H1 := h O1 H1 st s v r
theorem fin_tup {ds : List D} {vs : List V} {Q : VK} (h : AftE K CA np W O σ H e (.ok (.d (.tuple ds)) e1) fun r O' H' e' => ∀ v, RR K O' σ H' e' H0 v r → Q v H') (st : Stp np O σ H e O1 σ H1 e1) (s : SR K O1 σ H1 e1) (r : RepAll K O1 H1 vs ds) :
    ∀ p, H1 p = none → Q (.ref p) (upd H1 p (.tup vs)) := fun p hp => h _ _ (st.trans (Gro.newT hp).step) ((Gro.newT hp).sr s) _ (tup_of s hp r)
theorem fin_lst {ds : List D} {vs : List V} {Q : VK} (h : AftE K CA np W O σ H e (.ok (.fresh (.lst ds)) e1) fun r O' H' e' => ∀ v, RR K O' σ H' e' H v r → Q v H') (st : Stp np O σ H e O1 σ H1 e1) (s : SR K O1 σ H1 e1) (r : RepAll K O1 H1 vs ds) :
    ∀ p, H1 p = none → Q (.ref p) (upd H1 p (.lst vs)) := fun p hp => h _ _ (st.trans (Gro.newL hp).step) ((Gro.newL hp).sr s) _ (fresh_of s hp st.there r)
end
section
variable {X : Cx} {CA : Nat → Addr} {pr : EProg} {T : FT} {np : Nat} {W : WX}
/-! ### the single expressions -/
theorem e_lit_int {i : Int} {j : Nat} {pos : Pos} : PE X (.Constant (.int i) j pos) (tEv X.K CA pr T np W (.lit (.int i))) := pe_int.imp fun σ H Q ⟨O, e, s, h⟩ => h O H Stp.refl s _ (.int i)
theorem e_lit_str {i : Str} {j : Nat} {pos : Pos} : PE X (.Constant (.str i) j pos) (tEv X.K CA pr T np W (.lit (.str i))) := pe_str.imp fun σ H Q ⟨O, e, s, h⟩ => h O H Stp.refl s _ (.str i)
theorem e_lit_bool {i : Bool} {j : Nat} {pos : Pos} : PE X (.Constant (.bool i) j pos) (tEv X.K CA pr T np W (.lit (.bool i))) := pe_bl.imp fun σ H Q ⟨O, e, s, h⟩ => h O H Stp.refl s _ (.bl i)
theorem e_lit_none {j : Nat} {pos : Pos} : PE X (.Constant .none j pos) (tEv X.K CA pr T np W (.lit .none)) := pe_non.imp fun σ H Q ⟨O, e, s, h⟩ => h O H Stp.refl s _ .non
theorem e_var {i : Nat} {x : Str} {pos : Pos} (hN : X.N[i]? = some x) (hv : Vis X.env.scope x) (hd : (x == ("__debug__" : Str)) = false) (hcd : (x == ("__classdict__" : Str)) = false) : PE X (.Name x pos) (tEv X.K CA pr T np W (.v i)) :=
  (pe_var hN hv hd hcd).imp fun σ H Q ⟨O, e, s, h⟩ => by
    have h' : AftE X.K CA np W O σ H e (match gt e i with | .val d => .ok (.d d) e | .own _ => .ok (.slot i) e | _ => .stuck) fun r O' H' e' => ∀ v, RR X.K O' σ H' e' H v r → Q v H' := h
    cases g : gt e i with
    | emp => rw [g] at h'; exact h'.elim
    | exc c d => rw [g] at h'; exact h'.elim
    | val d =>
      rw [g] at h'
      obtain ⟨v, h1, h2⟩ := s.val g
      exact ⟨v, h1, h' O H Stp.refl s v h2⟩
    | own c =>
      rw [g] at h'
      obtain ⟨a, h1, _⟩ := s.own g
      exact ⟨.ref a, h1, h' O H Stp.refl s _ h1⟩
theorem e_frz {i : Nat} {x : Str} {pos : Pos} (hN : X.N[i]? = some x) (hv : Vis X.env.scope x) (hd : (x == ("__debug__" : Str)) = false) (hcd : (x == ("__classdict__" : Str)) = false) : PE X (.Name x pos) (tEv X.K CA pr T np W (.frz i)) :=
  (pe_var hN hv hd hcd).imp fun σ H Q ⟨O, e, s, h⟩ => by
    have h' : AftE X.K CA np W O σ H e (match capt np e (.slot i) with | some (d, e1) => .ok (.d d) e1 | none => .stuck) fun r O' H' e' => ∀ v, RR X.K O' σ H' e' H v r → Q v H' := h
    cases q : capt np e (.slot i) with
    | none => rw [q] at h'; exact h'.elim
    | some p =>
      obtain ⟨d, e1⟩ := p
      rw [q] at h'
      have hv : ∃ v, σ[i]? = some (some v) := by
        have q' : (match gt e i with | .own (.lst xs) => if np ≤ i then some (PyData.list xs, e.set i (.val (.list xs))) else none | .val d => some (d, e) | _ => none) = some (d, e1) := q
        cases g : gt e i with
        | emp => rw [g] at q'; cases q'
        | exc c d => rw [g] at q'; cases q'
        | val d =>
          obtain ⟨v, h1, h2⟩ := s.val g
          exact ⟨v, h1⟩
        | own c =>
          obtain ⟨a, h1, _⟩ := s.own g
          exact ⟨.ref a, h1⟩
      obtain ⟨v, hv⟩ := hv
      obtain ⟨O1, st, s1, r1, _⟩ := capt_ok (v := v) (r := .slot i) Stp.refl s hv q
      exact ⟨v, hv, h' O1 H st s1 v r1⟩
theorem e_glob {g : Nat} {x : Str} {pos : Pos} {tb : Tab} {k : Nat} {N : List Str} {sc fs : Scope} (G : Good tb pr T CA k N sc fs X) (hx : tb.gl[g]? = some x) (hg : Gl X x) (hd : (x == ("__debug__" : Str)) = false) : PE X (.Name x pos) (tEv X.K CA pr T np W (.glob g)) := by
  obtain ⟨u, v, d, h1, h2, h3, h4⟩ := G.glo.gl g x hx
  refine (pe_glob hg h1 h2 hd).imp fun σ H Q ⟨O, e, s, h⟩ => ?_
  have h' : AftE X.K CA np W O σ H e (lift (pr.globs[g]?.map .d) e) fun r O' H' e' => ∀ v, RR X.K O' σ H' e' H v r → Q v H' := h
  rw [h3] at h'
  exact h' O H Stp.refl s v (h4 O H)
/-- two operands, then an operation on what they show -/
theorem two {a b : P} {op : D → D → Option Rs} {r : R2} {σ : St} {H : Hp} {Q : VK} {O : Own} {e : FEnv} (s : SR X.K O σ H e)
    (h : AftE X.K CA np W O σ H e ((ev pr T np a e).bind fun x e1 => (ev pr T np b e1).bind fun y e2 => lift ((view e2 x).bind fun dx => (view e2 y).bind fun dy => op dx dy) e2) fun r O' H' e' => ∀ v, RR X.K O' σ H' e' H v r → Q v H')
    (ho : ∀ (O2 : Own) (H2 : Hp) (e2 : FEnv) (x y : V) (dx dy : D) (z : Rs), Stp np O σ H e O2 σ H2 e2 → SR X.K O2 σ H2 e2 → ViewR X.K O2 H2 x dx → ViewR X.K O2 H2 y dy → op dx dy = some z →
      AftE X.K CA np W O σ H e (.ok z e2) (fun r O' H' e' => ∀ v, RR X.K O' σ H' e' H v r → Q v H') → r x y H2 Q) : tOp r (tEv X.K CA pr T np W a) (tEv X.K CA pr T np W b) σ H Q := by
  refine ⟨O, e, s, h.bind.mono fun ra O1 H1 e1 st1 s1 h1 x rx => ⟨O1, e1, s1, (h1.bind.from st1).mono fun rb O2 H2 e2 st2 s2 h2 y ry => ?_⟩⟩
  obtain ⟨z, hz, h3⟩ := h2.lift
  cases q1 : view e2 ra with
  | none => rw [q1] at hz; cases hz
  | some dx =>
    rw [q1] at hz
    cases q2 : view e2 rb with
    | none =>
      rw [q2] at hz
      cases hz
    | some dy =>
      rw [q2] at hz
      exact ho O2 H2 e2 x y dx dy z (st1.trans st2) s2 (view_ok s2 (rx.go st2 s1) q1) (view_ok s2 ry q2) hz h3
theorem one {a : P} {op : D → Option Rs} {r : V → Hp → VK → Prop} {σ : St} {H : Hp} {Q : VK} {O : Own} {e : FEnv} (s : SR X.K O σ H e)
    (h : AftE X.K CA np W O σ H e ((ev pr T np a e).bind fun x e1 => lift ((view e1 x).bind op) e1) fun r O' H' e' => ∀ v, RR X.K O' σ H' e' H v r → Q v H')
    (ho : ∀ (O1 : Own) (H1 : Hp) (e1 : FEnv) (x : V) (dx : D) (z : Rs), Stp np O σ H e O1 σ H1 e1 → SR X.K O1 σ H1 e1 → ViewR X.K O1 H1 x dx → op dx = some z →
      AftE X.K CA np W O σ H e (.ok z e1) (fun r O' H' e' => ∀ v, RR X.K O' σ H' e' H v r → Q v H') → r x H1 Q) : tEv X.K CA pr T np W a σ H fun x H1 => r x H1 Q := by
  refine ⟨O, e, s, h.bind.mono fun ra O1 H1 e1 st1 s1 h1 x rx => ?_⟩
  obtain ⟨z, hz, h3⟩ := h1.lift
  cases q1 : view e1 ra with
  | none => rw [q1] at hz; cases hz
  | some dx =>
    rw [q1] at hz
    exact ho O1 H1 e1 x dx z st1 s1 (view_ok s1 rx q1) hz h3
end
end Snd
end
section
set_option Elab.async false
set_option linter.all false
set_option maxRecDepth 100000
set_option maxHeartbeats 2000000
namespace Snd
open PySem L2 Ev
open PySem.Spec PyProof.Rows in
section
variable {X : Cx}
/-- a list that is read, at the machine's level -/
theorem rd_lst {pins : List (Addr × Obj)} {σ : L2.St} {H : Hp} {s : Shared} {a : Addr} {xs : List V} (I : Inv X pins σ H s) (h : Rd H a (.lst xs)) :
    ∃ (its : List Value) (n : Nat), Vals xs its ∧ xs.length = its.length ∧ xs.length ≤ sizeLine ∧ s.heap.get? a = some { cls := .type "list", data := .seq its.toArray n } := by
  have w : ObjOk X.prog X.w H s.heap a (.lst xs) := h.ok I.hok
  obtain ⟨z, its, n, r, e⟩ := w
  exact ⟨its, n, r, r.length, z, e⟩
/-- xs + ys of lists that are read -/
def rCatR : R2 := fun x y H Q => ∃ l b xs zs, x = .ref l ∧ y = .ref b ∧ Rd H l (.lst xs) ∧ Rd H b (.lst zs) ∧ xs.length + zs.length ≤ sizeLine ∧ ∀ p, H p = none → Q (.ref p) (upd H p (.lst (xs ++ zs)))
theorem op_catR : OpR X (binaryOp .Add) rCatR := by
  intro pins s σ H x y v u Q I rx ry h
  obtain ⟨l, b, xs, zs, rfl, rfl, h1, h2, hz, q⟩ := h
  cases rx
  cases ry
  obtain ⟨i1, n1, r1, l1, z1, e1⟩ := rd_lst I h1
  obtain ⟨i2, n2, r2, l2, z2, e2⟩ := rd_lst I h2
  have both : i1.toArray ++ i2.toArray = (i1 ++ i2).toArray := by simp
  have fit : i1.toArray.size + i2.toArray.size ≤ sizeLine := by simp; omega
  refine PySem.P.add_list e1 e2 ?_ fit
  rw [both]
  refine ⟨.ref _, _, I.lnew (t' := s.toks) (r1.append r2) ?_, rfl, q _ I.fresh⟩
  rw [List.length_append]
  exact hz
/-- xs * k -/
def rRepR : R2 := fun x y H Q => ∃ l k xs, x = .ref l ∧ y = .int k ∧ Rd H l (.lst xs) ∧ 0 ≤ k ∧ k ≤ 1000000 ∧ xs.length * k.toNat ≤ sizeLine ∧ ∀ p, H p = none → Q (.ref p) (upd H p (.lst (List.replicate k.toNat xs).flatten))
theorem rep_fold (its : List Value) (m : Nat) : List.foldl (fun x1 x2 => x1 ++ x2) #[] (List.replicate m its.toArray) = (List.replicate m its).flatten.toArray := by
  have w := L2.foldl_rep its m []
  rwa [List.nil_append] at w
theorem op_repR : OpR X (binaryOp .Mult) rRepR := by
  intro pins s σ H x y v u Q I rx ry h
  obtain ⟨l, k, xs, rfl, rfl, h1, k0, k1, hz, q⟩ := h
  cases rx
  obtain ⟨t, rfl⟩ := ry
  obtain ⟨i1, n1, r1, l1, z1, e1⟩ := rd_lst I h1
  have a1 : -(2 ^ 63) ≤ k := by omega
  have a2 : k < 2 ^ 63 := by omega
  have sz : i1.toArray.size * k.toNat ≤ sizeLine := by
    rw [List.size_toArray, ← l1]
    exact hz
  have c1 : ¬ i1.toArray.size * k.toNat > (2 ^ 63 - 1) / 8 := by
    have w : (sizeLine : Nat) ≤ (2 ^ 63 - 1) / 8 := by decide
    exact fun z => absurd (Nat.lt_of_lt_of_le z (Nat.le_trans sz w)) (Nat.lt_irrefl _)
  have c2 : ¬ (!Builtin.List.listFitsIndex k) = true := by rw [fitsIndex_both a1 a2]; decide
  have c3 : ¬ Builtin.List.listTooLong (i1.toArray.size * k.toNat) = true := by rw [notLongL sz]; decide
  have new : List.foldl (fun x1 x2 => x1 ++ x2) #[] (List.replicate (if i1.toArray.isEmpty = true then 0 else k.toNat) i1.toArray) = (List.replicate k.toNat i1).flatten.toArray := by
    rw [rep_fold]
    cases i1 with
    | nil => simp
    | cons a r => simp
  refine wpAny_binaryOp_repeat_ref (T := "list") (U := "int") (by decide) ⟨_, e1, rfl⟩ (fun s' => typeIs_int s' k t) noFill_list_mul F.fills_int_mul F.slot_int_rmul repeat_list F.slot_int_index.lookup ?_
  refine call_meets F.slot_int_rmul (typeIs_int s k t) F.entry_int_rmul (F.args_int_rmul_2 _ _) (int___rmul___int_list k t l i1.toArray n1) ⟨e1, rfl, ⟨_, e1, rfl⟩, ?_⟩
  refine call_meets F.slot_list_mul ⟨_, e1, rfl⟩ F.entry_list_mul (F.args_list_mul_2 _ _) (AutoListH.list___mul___list_int_3 l i1.toArray n1 k t c2 c1 c3) ⟨e1, ?_⟩
  rw [new]
  refine ⟨.ref _, _, I.lnew (t' := s.toks) (r1.rep k.toNat) ?_, rfl, q _ I.fresh⟩
  rw [PyProof.Rows.lm_len_rep_flat, Nat.mul_comm]
  exact hz
/-- i // j where the interpreter divides by itself -/
def CDivA (_ j : Int) : Prop := divOk j = true
theorem op_fdivA : OpR X (binaryOp .FloorDiv) (rI CDivA fun i j => .int (i.fdiv j)) := opI fun i j _ _ _ _ _ hc q => by
  have w := of_decide_eq_true (show decide (j ≠ 0 ∧ j.natAbs.log2 < 9000) = true from hc)
  exact floordiv_int w.1 q (.inl (PyProof.noPylong_of_log2 w.2))
theorem mulOk_ok {i j : Int} (h : mulOk i j = true) : IntMulOk i j := by
  have b : ∀ x : Int, Builtin.Int.intBits x ≤ x.natAbs.log2 + 1 := fun x => by
    unfold Builtin.Int.intBits
    split <;> omega
  have w : i.natAbs.log2 + j.natAbs.log2 < 100000000 := of_decide_eq_true h
  have e : bitsLine = 134217728 := by decide
  intro z
  have z2 := (Bool.and_eq_true_iff.mp z).2
  unfold Builtin.Int.intTooBig at z2
  have z3 := of_decide_eq_true z2
  have b1 := b i
  have b2 := b j
  rw [e] at z3
  omega
def CMulA (i j : Int) : Prop := mulOk i j = true
theorem op_mulA : OpR X (binaryOp .Mult) (rI CMulA fun i j => .int (i * j)) := opI fun _ _ _ _ _ _ _ hc q => mul_int q (mulOk_ok hc)
end
end Snd
end
section
set_option Elab.async false
set_option linter.all false
set_option maxRecDepth 100000
set_option maxHeartbeats 4000000
/-! tuple * 1, and any int's power -/
namespace L2
open PySem PySem.Spec PyProof.Rows
theorem tuple_mul1 (l : Addr) (items : Array Value) (n : Nat) (dd : Option Addr) (sl : Array (Option Value)) (u : Tok) (c0 : (decide ((1 : Int) < -(2 ^ 63)) || decide ((1 : Int) ≥ 2 ^ 63)) = false) (c1 : (items.isEmpty || (1 : Int) == 1) = true) :
    Meets (Builtin.«tuple.__mul__» ⟨[.ref l, .int 1 u], []⟩) (fun _ R s => s.heap.get? l = some { cls := .type "tuple", dict := dd, data := .seq items n, slots := sl } ∧ R (.ok (.ret (Value.ref l))) s) :=
  .of_wp fun prog w A R s h => by
    obtain ⟨hp, g, d, tk, os⟩ := s
    obtain ⟨hl, h⟩ := h
    have f1 := AutoSeq1.idx_int
    wp_walk using wpAny_loadPart' hl
    repeat (first
      | (refine wpAny_ite_false (decide_eq_false (by rw [c0]; exact Bool.false_ne_true)) ?_; wp_walk using wpAny_loadPart' hl)
      | (refine wpAny_ite_true (decide_eq_true (by rw [c1])) ?_; wp_walk using wpAny_loadPart' hl))
    exact ⟨_, rfl, h⟩
def rRepT1 (K : PySem.W.Frag) : R2 := fun x y H Q => ∃ l xs, x = .ref l ∧ y = .int 1 ∧ SqT K H l xs ∧ Q (.ref l) H
section
variable {X : Cx}
theorem op_repT1 : OpR X (binaryOp .Mult) (rRepT1 X.K) := by
  intro pins s σ H x y v u Q I rx ry h
  obtain ⟨l, xs, rfl, rfl, hT, q⟩ := h
  cases rx
  obtain ⟨t, rfl⟩ := ry
  obtain ⟨its, r, ⟨⟨cls, dd, data, sl⟩, ho, hc, n, hd⟩, hs⟩ := I.tuple hT
  simp only at hc hd
  subst hc hd
  refine wpAny_binaryOp_repeat_ref (T := "tuple") (U := "int") (by decide) ⟨_, ho, rfl⟩ (fun s' => typeIs_int s' 1 t) noFill_tuple_mul F.fills_int_mul F.slot_int_rmul repeat_tuple F.slot_int_index.lookup
    (call_meets F.slot_int_rmul (typeIs_int s 1 t) F.entry_int_rmul (F.args_int_rmul_2 _ _) (int_rmul_tuple 1 t l its.toArray n dd sl)
      ⟨ho, rfl, ⟨_, ho, rfl⟩, call_meets F.slot_tuple_mul ⟨_, ho, rfl⟩ F.entry_tuple_mul (F.args_tuple_mul_2 _ _) (tuple_mul1 l its.toArray n dd sl t (by decide) (by simp)) ⟨ho, ?_⟩⟩)
  exact ⟨.ref l, H, I.tok _, rfl, q⟩
end
end L2
namespace Snd
open PySem L2 Ev PyProof.Rows
def CPowA (i j : Int) : Prop := (0 ≤ j ∧ j ≤ 1000000 ∧ i.natAbs < 2 ^ 64) ∨ (0 ≤ j ∧ ((i.natAbs.log2 : Nat) + 1 : Int) * j ≤ 2 ^ 27)
theorem op_powA {X : Cx} : OpR X (binaryOp .Pow) (rI CPowA fun i j => .int (i ^ j.toNat)) := opI fun i j _ _ _ _ _ hc q => by
  rcases hc with hc | hc
  · exact pow_int_small hc.1 hc.2.1 hc.2.2 q
  · refine pow_int hc.1 ?_ q
    have b : (Builtin.Int.intBits i : Int) ≤ (i.natAbs.log2 : Nat) + 1 := by
      unfold Builtin.Int.intBits
      split <;> omega
    exact Int.le_trans (Int.mul_le_mul_of_nonneg_right b hc.1) hc.2
end Snd
end
section
set_option Elab.async false
set_option linter.all false
set_option maxRecDepth 100000
set_option maxHeartbeats 2000000
namespace Snd
open PySem L2 Ev
theorem lim_le {n : Nat} (h : n ≤ lim) : n ≤ sizeLine := by
  have e : sizeLine = 16777216 := sizeLine_eq
  have l : lim = 16000000 := rfl
  omega
theorem lim_lt {n : Nat} (h : n < lim) : n < sizeLine := by
  have e : sizeLine = 16777216 := sizeLine_eq
  have l : lim = 16000000 := rfl
  omega
def opAst : EOp → Operator
  | .add => .Add | .sub => .Sub | .mul => .Mult | .fdiv => .FloorDiv | .mod => .Mod | .pow => .Pow
section
variable {X : Cx} {CA : Nat → Addr} {pr : EProg} {T : FT} {np : Nat} {W : WX} {a b : P} {a' b' : Expr} {pos : Pos}
theorem opD_add {dx dy : D} {z : Rs} (h : opD .add dx dy = some z) : (∃ i j, dx = .int i ∧ dy = .int j ∧ z = .d (.int (i + j))) ∨ (∃ xs ys, dx = .list xs ∧ dy = .list ys ∧ xs.length + ys.length ≤ lim ∧ z = .fresh (.lst (xs ++ ys))) ∨
    (∃ xs ys, dx = .tuple xs ∧ dy = .tuple ys ∧ xs.length + ys.length ≤ lim ∧ z = .d (.tuple (xs ++ ys))) ∨ (∃ x y, dx = .str x ∧ dy = .str y ∧ x.length + y.length ≤ lim ∧ z = .d (.str (x ++ y))) := by
  unfold opD at h
  split at h <;> first | contradiction | skip
  · cases h
    exact .inl ⟨_, _, rfl, rfl, rfl⟩
  · split at h
    · cases h
      exact .inr (.inl ⟨_, _, rfl, rfl, by assumption, rfl⟩)
    · cases h
  · split at h
    · cases h
      exact .inr (.inr (.inl ⟨_, _, rfl, rfl, by assumption, rfl⟩))
    · cases h
  · split at h
    · cases h
      exact .inr (.inr (.inr ⟨_, _, rfl, rfl, by assumption, rfl⟩))
    · cases h
theorem opD_mul {dx dy : D} {z : Rs} (h : opD .mul dx dy = some z) : (∃ i j, dx = .int i ∧ dy = .int j ∧ mulOk i j = true ∧ z = .d (.int (i * j))) ∨
    (∃ xs k, dx = .list xs ∧ dy = .int k ∧ (0 ≤ k ∧ k ≤ 1000000 ∧ xs.length * k.toNat ≤ lim) ∧ z = .fresh (.lst (List.replicate k.toNat xs).flatten)) ∨
    (∃ xs k, dx = .tuple xs ∧ dy = .int k ∧ (1 ≤ k ∧ k ≤ 1000 ∧ 1 ≤ xs.length ∧ xs.length ≤ 1000) ∧ z = .d (.tuple (List.replicate k.toNat xs).flatten)) := by
  unfold opD at h
  split at h <;> first | contradiction | skip
  · split at h
    · cases h
      exact .inl ⟨_, _, rfl, rfl, by assumption, rfl⟩
    · cases h
  · split at h
    · cases h
      exact .inr (.inl ⟨_, _, rfl, rfl, by assumption, rfl⟩)
    · cases h
  · split at h
    · cases h
      exact .inr (.inr ⟨_, _, rfl, rfl, by assumption, rfl⟩)
    · cases h
theorem opD_sub {dx dy : D} {z : Rs} (h : opD .sub dx dy = some z) : ∃ i j, dx = .int i ∧ dy = .int j ∧ z = .d (.int (i - j)) := by
  unfold opD at h
  split at h <;> first | contradiction | skip
  cases h
  exact ⟨_, _, rfl, rfl, rfl⟩
theorem opD_fdiv {dx dy : D} {z : Rs} (h : opD .fdiv dx dy = some z) : ∃ i j, dx = .int i ∧ dy = .int j ∧ divOk j = true ∧ z = .d (.int (i.fdiv j)) := by
  unfold opD at h
  split at h <;> first | contradiction | skip
  split at h
  · cases h
    exact ⟨_, _, rfl, rfl, by assumption, rfl⟩
  · cases h
theorem opD_mod {dx dy : D} {z : Rs} (h : opD .mod dx dy = some z) : ∃ i j, dx = .int i ∧ dy = .int j ∧ j ≠ 0 ∧ z = .d (.int (i.fmod j)) := by
  unfold opD at h
  split at h <;> first | contradiction | skip
  split at h
  · cases h
    exact ⟨_, _, rfl, rfl, by assumption, rfl⟩
  · cases h
theorem opD_pow {dx dy : D} {z : Rs} (h : opD .pow dx dy = some z) : ∃ i j, dx = .int i ∧ dy = .int j ∧ CPowA i j ∧ z = .d (.int (i ^ j.toNat)) := by
  unfold opD at h
  split at h <;> first | contradiction | skip
  split at h
  · cases h
    exact ⟨_, _, rfl, rfl, .inl (by assumption), rfl⟩
  · split at h
    · cases h
      exact ⟨_, _, rfl, rfl, .inr (by assumption), rfl⟩
    · cases h
theorem e_bin {op : EOp} (ha : PE X a' (tEv X.K CA pr T np W a)) (hb : PE X b' (tEv X.K CA pr T np W b)) : PE X (.BinOp a' (opAst op) b' pos) (tEv X.K CA pr T np W (.bin op a b)) := by
  cases op with
  | add =>
    refine (pe_op (L2.OpR.or op_add (L2.OpR.or op_catR (L2.OpR.or op_catA op_add_str))) ha hb).imp fun σ H Q ⟨O, e, s, h⟩ => two (op := opD .add) s h fun O2 H2 e2 x y dx dy z st s2 vx vy hz hk => ?_
    rcases opD_add hz with ⟨i, j, rfl, rfl, rfl⟩ | ⟨xs, ys, rfl, rfl, hl, rfl⟩ | ⟨xs, ys, rfl, rfl, hl, rfl⟩ | ⟨i, j, rfl, rfl, hl, rfl⟩
    · obtain rfl := vx.int
      obtain rfl := vy.int
      exact .inl ⟨i, j, rfl, rfl, fin_d hk st s2 (.int _)⟩
    · obtain ⟨p, us, rfl, h1, r1⟩ := vx.list
      obtain ⟨q, ws, rfl, h2, r2⟩ := vy.list
      exact .inr (.inl ⟨p, q, us, ws, rfl, rfl, h1, h2, by rw [r1.length, r2.length]; exact lim_le hl, fin_lst hk st s2 (r1.append r2)⟩)
    · obtain ⟨p, us, rfl, h1, r1⟩ := vx.tuple
      obtain ⟨q, ws, rfl, h2, r2⟩ := vy.tuple
      refine .inr (.inr (.inl ⟨p, q, us, ws, rfl, rfl, h1, h2, by rw [r1.length, r2.length]; exact lim_le hl, fun z => ?_, fun z z2 => ?_, fun z z2 => fin_tup hk st s2 (r1.append r2)⟩))
      · subst z
        cases r1
        exact fin_d hk st s2 (.tup h2 r2)
      · subst z2
        cases r2
        rw [List.append_nil] at hk
        exact fin_d hk st s2 (.tup h1 r1)
    · obtain rfl := vx.str
      obtain rfl := vy.str
      exact .inr (.inr (.inr ⟨i, j, rfl, rfl, lim_le hl, fin_d hk st s2 (.str _)⟩))
  | sub =>
    refine (pe_op op_sub ha hb).imp fun σ H Q ⟨O, e, s, h⟩ => two (op := opD .sub) s h fun O2 H2 e2 x y dx dy z st s2 vx vy hz hk => ?_
    obtain ⟨i, j, rfl, rfl, rfl⟩ := opD_sub hz
    obtain rfl := vx.int
    obtain rfl := vy.int
    exact ⟨i, j, rfl, rfl, fin_d hk st s2 (.int _)⟩
  | mul =>
    refine (pe_op (L2.OpR.or op_mulA (L2.OpR.or op_repR (L2.OpR.or op_repT op_repT1))) ha hb).imp fun σ H Q ⟨O, e, s, h⟩ => two (op := opD .mul) s h fun O2 H2 e2 x y dx dy z st s2 vx vy hz hk => ?_
    rcases opD_mul hz with ⟨i, j, rfl, rfl, hm, rfl⟩ | ⟨xs, k, rfl, rfl, ⟨k0, k1, hl⟩, rfl⟩ | ⟨xs, k, rfl, rfl, ⟨k0, k1, l0, l1⟩, rfl⟩
    · obtain rfl := vx.int
      obtain rfl := vy.int
      exact .inl ⟨i, j, rfl, rfl, hm, fin_d hk st s2 (.int _)⟩
    · obtain ⟨p, us, rfl, h1, r1⟩ := vx.list
      obtain rfl := vy.int
      exact .inr (.inl ⟨p, k, us, rfl, rfl, h1, k0, k1, by rw [r1.length]; exact lim_le hl, fin_lst hk st s2 (r1.rep _)⟩)
    · obtain ⟨p, us, rfl, h1, r1⟩ := vx.tuple
      obtain rfl := vy.int
      by_cases hk2 : 2 ≤ k
      · refine .inr (.inr (.inl ⟨p, k, us, rfl, rfl, h1, ?_, hk2, k1, by rw [r1.length]; exact l1, fin_tup hk st s2 (r1.rep _)⟩))
        intro z
        have := r1.length
        rw [z] at this
        simp at this
        omega
      · have : k = 1 := by omega
        subst this
        have e : (List.replicate (1 : Int).toNat xs).flatten = xs := by simp
        rw [e] at hk
        exact .inr (.inr (.inr ⟨p, us, rfl, rfl, h1, fin_d hk st s2 (.tup h1 r1)⟩))
  | fdiv =>
    refine (pe_op op_fdivA ha hb).imp fun σ H Q ⟨O, e, s, h⟩ => two (op := opD .fdiv) s h fun O2 H2 e2 x y dx dy z st s2 vx vy hz hk => ?_
    obtain ⟨i, j, rfl, rfl, hc, rfl⟩ := opD_fdiv hz
    obtain rfl := vx.int
    obtain rfl := vy.int
    exact ⟨i, j, rfl, rfl, hc, fin_d hk st s2 (.int _)⟩
  | mod =>
    refine (pe_op op_modN ha hb).imp fun σ H Q ⟨O, e, s, h⟩ => two (op := opD .mod) s h fun O2 H2 e2 x y dx dy z st s2 vx vy hz hk => ?_
    obtain ⟨i, j, rfl, rfl, hc, rfl⟩ := opD_mod hz
    obtain rfl := vx.int
    obtain rfl := vy.int
    exact ⟨i, j, rfl, rfl, hc, fin_d hk st s2 (.int _)⟩
  | pow =>
    refine (pe_op op_powA ha hb).imp fun σ H Q ⟨O, e, s, h⟩ => two (op := opD .pow) s h fun O2 H2 e2 x y dx dy z st s2 vx vy hz hk => ?_
    obtain ⟨i, j, rfl, rfl, hc, rfl⟩ := opD_pow hz
    obtain rfl := vx.int
    obtain rfl := vy.int
    exact ⟨i, j, rfl, rfl, hc, fin_d hk st s2 (.int _)⟩
theorem e_neg (ha : PE X a' (tEv X.K CA pr T np W a)) : PE X (.UnaryOp .USub a' pos) (tEv X.K CA pr T np W (.neg a)) := by
  refine (pe_un un_neg ha).imp fun σ H Q ⟨O, e, s, h⟩ => ?_
  refine ⟨O, e, s, (AftE.bind h).mono fun ra O1 H1 e1 st1 s1 h1 x rx => ?_⟩
  cases q : view e1 ra with
  | none => rw [q] at h1; exact h1.elim
  | some dx =>
    rw [q] at h1
    cases dx with
    | int i =>
      obtain rfl := (view_ok s1 rx q).int
      exact ⟨i, rfl, fin_d h1 st1 s1 (.int _)⟩
    | _ => exact h1.elim

/-! ### comparisons -/
def cmpAst : ECmp → CmpOp
  | .eq => .Eq | .ne => .NotEq | .lt => .Lt | .le => .LtE | .gt => .Gt | .ge => .GtE | .isin => .In | .notin => .NotIn
theorem flat_rep {K : PySem.W.Frag} {O : Own} {H : Hp} {v : V} {d : D} (h : Rep K O H v d) (f : flatD d = true) : flatV v = true := by
  cases h <;> first | rfl | cases f
theorem flat_all {K : PySem.W.Frag} {O : Own} {H : Hp} : ∀ {vs : List V} {ds : List D}, RepAll K O H vs ds → ds.all flatD = true → vs.all flatV = true
  | _, _, .nil, _ => rfl
  | _, _, .cons r t, f => by
    rw [List.all_cons, Bool.and_eq_true] at f
    rw [List.all_cons, flat_rep r f.1, flat_all t f.2]
    rfl
theorem eqv_flat {K : PySem.W.Frag} {O : Own} {H : Hp} {v u : V} {d c : D} (h : Rep K O H v d) (g : Rep K O H u c) (f : flatD d = true) (f2 : flatD c = true) : eqV v u = PyData.eqv d c := by
  cases h with
  | lst => cases f
  | tup => cases f
  | non => cases g <;> first | (cases f2; done) | (simp [eqV, PyData.eqv])
  | bl b => cases g <;> first | (cases f2; done) | (simp [eqV, PyData.eqv])
  | int i => cases g <;> first | (cases f2; done) | (simp [eqV, PyData.eqv])
  | str x => cases g <;> first | (cases f2; done) | (simp [eqV, PyData.eqv])
theorem in_flat {K : PySem.W.Frag} {O : Own} {H : Hp} {v : V} {d : D} (h : Rep K O H v d) (f : flatD d = true) : ∀ {vs : List V} {ds : List D}, RepAll K O H vs ds → ds.all flatD = true → inV v vs = ds.any fun z => PyData.eqv z d
  | _, _, .nil, _ => rfl
  | _, _, .cons r t, f2 => by
    rw [List.all_cons, Bool.and_eq_true] at f2
    have ih := in_flat h f t f2.2
    unfold inV at ih ⊢
    rw [List.any_cons, List.any_cons, ih, eqv_flat r h f2.1 f]
end
end Snd
end
section
set_option Elab.async false
set_option linter.all false
set_option maxRecDepth 100000
set_option maxHeartbeats 2000000
namespace Snd
open PySem L2 Ev
section
variable {X : Cx} {CA : Nat → Addr} {pr : EProg} {T : FT} {np : Nat} {W : WX} {a b c : P} {a' b' c' : Expr} {pos : Pos}
/-- the rule of a comparison -/
def cmpR (K : PySem.W.Frag) : ECmp → R2
  | .eq => rEqD K
  | .ne => rNeD K
  | .lt => fun x y H Q => rI0 (fun i j => .bl (decide (i < j))) x y H Q ∨ ∃ i j, x = .str i ∧ y = .str j ∧ Q (.bl (decide (i.cps.toList < j.cps.toList))) H
  | .le => rI0 fun i j => .bl (decide (i ≤ j))
  | .gt => rI0 fun i j => .bl (decide (j < i))
  | .ge => rI0 fun i j => .bl (decide (j ≤ i))
  | .isin => fun x y H Q => rInD K x y H Q ∨ rIn K false x y H Q
  | .notin => fun x y H Q => rNotInD K x y H Q ∨ rIn K true x y H Q
theorem op_cmp {k : Nat} (hr : Room k X.A) : ∀ op, OpR X (compareOp (cmpAst op)) (cmpR X.K op)
  | .eq => op_eqD hr.units
  | .ne => op_neD hr.units
  | .lt => op_lt.or op_lt_str
  | .le => op_le
  | .gt => op_gt
  | .ge => op_ge
  | .isin => (op_inD (by have := hr.un; omega)).or op_in_seq
  | .notin => (op_notInD (by have := hr.un; omega)).or op_notIn_seq
theorem flat_no_list {K : PySem.W.Frag} {O : Own} {H : Hp} {v : V} {d : D} (h : ViewR K O H v d) (f : flatD d = true) : Rep K O H v d := by
  rcases h with h | ⟨a, vs, ds, _, e, _⟩
  · exact h
  · subst e
    cases f
theorem cmp_ok {K : PySem.W.Frag} {O : Own} {H : Hp} {x y : V} {dx dy : D} {op : ECmp} {k : Bool} {Q : VK} (vx : ViewR K O H x dx) (vy : ViewR K O H y dy) (h : cmpD op dx dy = some k) (q : Q (.bl k) H) : cmpR K op x y H Q := by
  cases op with
  | eq =>
    have h' : (if (okD dx && okD dy) = true then some (PyData.eqv dx dy) else none) = some k := by
      revert h
      cases dx <;> cases dy <;> exact id
    by_cases z : (okD dx && okD dy) = true
    · rw [if_pos z] at h'
      rw [Bool.and_eq_true] at z
      cases h'
      exact ⟨dx, dy, vx.dp, vy.dp, z.1, z.2, q⟩
    · rw [if_neg z] at h'
      cases h'
  | ne =>
    have h' : (if (okD dx && okD dy) = true then some (!PyData.eqv dx dy) else none) = some k := by
      revert h
      cases dx <;> cases dy <;> exact id
    by_cases z : (okD dx && okD dy) = true
    · rw [if_pos z] at h'
      rw [Bool.and_eq_true] at z
      cases h'
      exact ⟨dx, dy, vx.dp, vy.dp, z.1, z.2, q⟩
    · rw [if_neg z] at h'
      cases h'
  | lt =>
    unfold cmpD at h
    split at h <;> first | contradiction | skip
    · cases h
      obtain rfl := vx.int
      obtain rfl := vy.int
      exact .inl ⟨_, _, rfl, rfl, q⟩
    · cases h
      obtain rfl := vx.str
      obtain rfl := vy.str
      exact .inr ⟨_, _, rfl, rfl, q⟩
  | le =>
    unfold cmpD at h
    split at h <;> first | contradiction | skip
    cases h
    obtain rfl := vx.int
    obtain rfl := vy.int
    exact ⟨_, _, rfl, rfl, q⟩
  | gt =>
    unfold cmpD at h
    split at h <;> first | contradiction | skip
    cases h
    obtain rfl := vx.int
    obtain rfl := vy.int
    exact ⟨_, _, rfl, rfl, q⟩
  | ge =>
    unfold cmpD at h
    split at h <;> first | contradiction | skip
    cases h
    obtain rfl := vx.int
    obtain rfl := vy.int
    exact ⟨_, _, rfl, rfl, q⟩
  | isin =>
    unfold cmpD at h
    split at h <;> first | contradiction | skip
    · split at h
      · rename_i z
        rw [Bool.and_eq_true] at z
        cases h
        exact .inl ⟨_, _, vx.dp, vy.dp, z.1, z.2, q⟩
      · cases h
    · split at h
      · rename_i z
        rw [Bool.and_eq_true] at z
        cases h
        obtain ⟨p, vs, rfl, h1, r1⟩ := vy.tuple
        have rx := flat_no_list vx z.1
        refine .inr ⟨p, vs, rfl, .inr h1, flat_rep rx z.1, flat_all r1 z.2, ?_⟩
        rw [if_neg (by decide), in_flat rx z.1 r1 z.2]
        exact q
      · cases h
  | notin =>
    unfold cmpD at h
    split at h <;> first | contradiction | skip
    · split at h
      · rename_i z
        rw [Bool.and_eq_true] at z
        cases h
        exact .inl ⟨_, _, vx.dp, vy.dp, z.1, z.2, q⟩
      · cases h
    · split at h
      · rename_i z
        rw [Bool.and_eq_true] at z
        cases h
        obtain ⟨p, vs, rfl, h1, r1⟩ := vy.tuple
        have rx := flat_no_list vx z.1
        refine .inr ⟨p, vs, rfl, .inr h1, flat_rep rx z.1, flat_all r1 z.2, ?_⟩
        rw [if_pos rfl, in_flat rx z.1 r1 z.2]
        exact q
      · cases h
/-- a result shown as data -/
theorem map_d {o : Option Bool} {z : Rs} (h : (o.map fun k => Rs.d (.bool k)) = some z) : ∃ k, o = some k ∧ z = .d (.bool k) := by
  cases o with
  | none => cases h
  | some k =>
    cases h
    exact ⟨k, rfl, rfl⟩
theorem e_cmp {k : Nat} (hr : Room k X.A) {op : ECmp} (ha : PE X a' (tEv X.K CA pr T np W a)) (hb : PE X b' (tEv X.K CA pr T np W b)) (hm : behindInMarks (cmpAst op) b' = false) :
    PE X (.Compare a' [cmpAst op] [b'] pos) (tEv X.K CA pr T np W (.cmp op a b)) :=
  (pe_cmpR (op_cmp hr op) ha hb hm).imp fun σ H Q ⟨O, e, s, h⟩ => two (op := fun dx dy => (cmpD op dx dy).map fun k => .d (.bool k)) s h fun O2 H2 e2 x y dx dy z st s2 vx vy hz hk => by
    obtain ⟨k, hk1, rfl⟩ := map_d hz
    exact cmp_ok vx vy hk1 (fin_d hk st s2 (.bl _))
/-- what a test is, of an expression -/
theorem asB_of {p : P} {σ : St} {H : Hp} {O : Own} {e : FEnv} {Q : Bool → Hp → Prop} (h : AftE X.K CA np W O σ H e (asB (ev pr T np p e)) fun b O' H' e' => Q b H') :
    AftE X.K CA np W O σ H e (ev pr T np p e) fun r O' H' e' => ∀ v, RR X.K O' σ H' e' H v r → ∃ k, v = .bl k ∧ Q k H' := by
  refine h.bind.mono fun r O1 H1 e1 st s1 h1 v rv => ?_
  obtain ⟨k, hk, h2⟩ := h1.lift
  cases q : view e1 r with
  | none => rw [q] at hk; cases hk
  | some d =>
    rw [q] at hk
    cases d <;> first | (cases hk; done) | skip
    cases hk
    exact ⟨k, (view_ok s1 rv q).bool, h2 O1 H1 st s1⟩
theorem t_val {p : P} {ex : Expr} (h : PE X ex (tEv X.K CA pr T np W p)) (he : ∀ whole, isTrue ex X.env whole = (do let v ← whole; standAt ex.pos; holding [v] (truthy v))) : PT X ex (tTs X.K CA pr T np W p) :=
  (pt_val h he).imp fun σ H Q ⟨O, e, s, h⟩ => ⟨O, e, s, asB_of h⟩
theorem t_cmp {k : Nat} (hr : Room k X.A) {op : ECmp} (ha : PE X a' (tEv X.K CA pr T np W a)) (hb : PE X b' (tEv X.K CA pr T np W b)) (hm : behindInMarks (cmpAst op) b' = false) :
    PT X (.Compare a' [cmpAst op] [b'] pos) (tTs X.K CA pr T np W (.cmp op a b)) :=
  (pt_cmpR (op_cmp hr op) ha hb hm).imp fun σ H Q ⟨O, e, s, h⟩ => two (op := fun dx dy => (cmpD op dx dy).map fun k => .d (.bool k)) s (asB_of h) fun O2 H2 e2 x y dx dy z st s2 vx vy hz hk => by
    obtain ⟨k, hk1, rfl⟩ := map_d hz
    exact cmp_ok vx vy hk1 (fin_d hk st s2 (.bl _))
/-- a chain, from its own reading -/
theorem chain_ok {o1 o2 : ECmp} {σ : St} {H : Hp} {Q : VK} {O : Own} {e : FEnv} (s : SR X.K O σ H e)
    (h : AftE X.K CA np W O σ H e (ev pr T np (.chain o1 o2 a b c) e) fun r O' H' e' => ∀ v, RR X.K O' σ H' e' H v r → Q v H') :
    tChain (cmpR X.K o1) (cmpR X.K o2) (tEv X.K CA pr T np W a) (tEv X.K CA pr T np W b) (tEv X.K CA pr T np W c) σ H Q := by
  refine ⟨O, e, s, (AftE.bind h).mono fun ra O1 H1 e1 st1 s1 h1 x rx => ⟨O1, e1, s1, (AftE.bind (h1.from st1)).mono fun rb O2 H2 e2 st2 s2 h2 y ry => ?_⟩⟩
  obtain ⟨k, hk, h3⟩ := h2.bind.lift
  cases q1 : view e2 ra with
  | none => rw [q1] at hk; cases hk
  | some dx =>
    rw [q1] at hk
    cases q2 : view e2 rb with
    | none => rw [q2] at hk; cases hk
    | some dy =>
      rw [q2] at hk
      refine cmp_ok (view_ok s2 (rx.go st2 s1) q1) (view_ok s2 ry q2) hk ⟨k, rfl, ?_⟩
      have h4 := h3 O2 H2 st2 s2
      cases k with
      | false =>
        rw [if_neg (by decide)] at h4 ⊢
        exact h4 O2 H2 st2 s2 _ (.bl _)
      | true =>
        rw [if_pos rfl] at h4 ⊢
        refine ⟨O2, e2, s2, (AftE.bind (h4.from st2)).mono fun rc O3 H3 e3 st3 s3 h5 z rz => ?_⟩
        obtain ⟨z', hz, h6⟩ := h5.lift
        cases q3 : view e3 rb with
        | none => rw [q3] at hz; cases hz
        | some dy2 =>
          rw [q3] at hz
          cases q4 : view e3 rc with
          | none => rw [q4] at hz; cases hz
          | some dz =>
            rw [q4] at hz
            obtain ⟨k2, hk2, rfl⟩ := map_d hz
            exact cmp_ok (view_ok s3 (ry.go st3 s2) q3) (view_ok s3 rz q4) hk2 (h6 O3 H3 st3 s3 _ (.bl _))
theorem e_chain {k : Nat} (hr : Room k X.A) {o1 o2 : ECmp} (ha : PE X a' (tEv X.K CA pr T np W a)) (hb : PE X b' (tEv X.K CA pr T np W b)) (hc : PE X c' (tEv X.K CA pr T np W c))
    (hm : lastMarks [cmpAst o1, cmpAst o2] [b', c'] = false) : PE X (.Compare a' [cmpAst o1, cmpAst o2] [b', c'] pos) (tEv X.K CA pr T np W (.chain o1 o2 a b c)) :=
  (pe_chain (op_cmp hr o1) (op_cmp hr o2) ha hb hc hm).imp fun σ H Q ⟨O, e, s, h⟩ => chain_ok s h
theorem t_chain {k : Nat} (hr : Room k X.A) {o1 o2 : ECmp} (ha : PE X a' (tEv X.K CA pr T np W a)) (hb : PE X b' (tEv X.K CA pr T np W b)) (hc : PE X c' (tEv X.K CA pr T np W c))
    (hm : lastMarks [cmpAst o1, cmpAst o2] [b', c'] = false) : PT X (.Compare a' [cmpAst o1, cmpAst o2] [b', c'] pos) (tTs X.K CA pr T np W (.chain o1 o2 a b c)) :=
  (pt_chain (op_cmp hr o1) (op_cmp hr o2) ha hb hc hm).imp fun σ H Q ⟨O, e, s, h⟩ => chain_ok s (asB_of h)
end
end Snd
end
section
set_option Elab.async false
set_option linter.all false
set_option maxRecDepth 100000
set_option maxHeartbeats 2000000
namespace Snd
open PySem L2 Ev
section
variable {X : Cx} {CA : Nat → Addr} {pr : EProg} {T : FT} {np : Nat} {W : WX} {a b c : P} {a' b' c' : Expr} {pos pos' : Pos}
/-! ### None -/
theorem isn_ok {f : D → Bool} {σ : St} {H : Hp} {Q : VK} {O : Own} {e : FEnv} (s : SR X.K O σ H e)
    (h : AftE X.K CA np W O σ H e ((ev pr T np a e).bind fun x e1 => lift ((view e1 x).map fun d => .d (.bool (f d))) e1) fun r O' H' e' => ∀ v, RR X.K O' σ H' e' H v r → Q v H') :
    tEv X.K CA pr T np W a σ H fun x H1 => ∃ d O1, ViewR X.K O1 H1 x d ∧ Q (.bl (f d)) H1 := by
  refine ⟨O, e, s, h.bind.mono fun ra O1 H1 e1 st1 s1 h1 x rx => ?_⟩
  obtain ⟨z, hz, h3⟩ := h1.lift
  cases q1 : view e1 ra with
  | none => rw [q1] at hz; cases hz
  | some dx =>
    rw [q1] at hz
    cases hz
    exact ⟨dx, O1, view_ok s1 rx q1, h3 O1 H1 st1 s1 _ (.bl _)⟩
theorem notn {K : PySem.W.Frag} {O : Own} {H : Hp} {x : V} {d : D} (h : ViewR K O H x d) : (!decide (x = .non)) = (match d with | .none => false | _ => true) := by
  rw [h.is_none]
  cases d <;> rfl
theorem isN_ok {σ : St} {H : Hp} {Q : VK} {O : Own} {e : FEnv} (s : SR X.K O σ H e) (h : AftE X.K CA np W O σ H e (ev pr T np (.isN a) e) fun r O' H' e' => ∀ v, RR X.K O' σ H' e' H v r → Q v H') :
    tOp (fun x y H Q => y = .non ∧ Q (.bl (decide (x = .non))) H) (tEv X.K CA pr T np W a) (tC .non) σ H Q := by
  obtain ⟨O', e', s', h'⟩ := isn_ok (f := fun d => match d with | .none => true | _ => false) s h
  refine ⟨O', e', s', h'.mono fun r O1 H1 e1 st s1 q v rv => ?_⟩
  obtain ⟨d, O2, vd, q2⟩ := q v rv
  refine ⟨rfl, ?_⟩
  rw [vd.is_none]
  cases d <;> exact q2
theorem notN_ok {σ : St} {H : Hp} {Q : VK} {O : Own} {e : FEnv} (s : SR X.K O σ H e) (h : AftE X.K CA np W O σ H e (ev pr T np (.notN a) e) fun r O' H' e' => ∀ v, RR X.K O' σ H' e' H v r → Q v H') :
    tOp (fun x y H Q => y = .non ∧ Q (.bl (!decide (x = .non))) H) (tEv X.K CA pr T np W a) (tC .non) σ H Q := by
  obtain ⟨O', e', s', h'⟩ := isn_ok (f := fun d => match d with | .none => false | _ => true) s h
  refine ⟨O', e', s', h'.mono fun r O1 H1 e1 st s1 q v rv => ?_⟩
  obtain ⟨d, O2, vd, q2⟩ := q v rv
  refine ⟨rfl, ?_⟩
  rw [notn vd]
  cases d <;> exact q2
theorem e_isN {j : Nat} (ha : PE X a' (tEv X.K CA pr T np W a)) : PE X (.Compare a' [.Is] [.Constant .none j pos'] pos) (tEv X.K CA pr T np W (.isN a)) :=
  (pe_cmpR op_isN ha pe_non rfl).imp fun σ H Q ⟨O, e, s, h⟩ => isN_ok s h
theorem t_isN {j : Nat} (ha : PE X a' (tEv X.K CA pr T np W a)) : PT X (.Compare a' [.Is] [.Constant .none j pos'] pos) (tTs X.K CA pr T np W (.isN a)) :=
  (pt_cmpR op_isN ha pe_non rfl).imp fun σ H Q ⟨O, e, s, h⟩ => isN_ok s (asB_of h)
theorem e_notN {j : Nat} (ha : PE X a' (tEv X.K CA pr T np W a)) : PE X (.Compare a' [.IsNot] [.Constant .none j pos'] pos) (tEv X.K CA pr T np W (.notN a)) :=
  (pe_cmpR op_notN ha pe_non rfl).imp fun σ H Q ⟨O, e, s, h⟩ => notN_ok s h
theorem t_notN {j : Nat} (ha : PE X a' (tEv X.K CA pr T np W a)) : PT X (.Compare a' [.IsNot] [.Constant .none j pos'] pos) (tTs X.K CA pr T np W (.notN a)) :=
  (pt_cmpR op_notN ha pe_non rfl).imp fun σ H Q ⟨O, e, s, h⟩ => notN_ok s (asB_of h)
/-! ### not, and, or -/
theorem asB_bind {α : Type} (o : Out α) (f : α → FEnv → Out Rs) : asB (o.bind f) = o.bind fun x e => asB (f x e) := by
  cases o <;> rfl
theorem asB_bool {b : Bool} {e : FEnv} : asB (.ok (.d (.bool b)) e) = .ok b e := rfl
theorem asB_asB {o : Out Bool} : asB (o.bind fun y e => .ok (.d (.bool y)) e) = o := by
  cases o <;> rfl
/-- a test, from what is wanted behind the value -/
theorem e_nt (ha : PE X a' (tEv X.K CA pr T np W a)) : PE X (.UnaryOp .Not a' pos) (tEv X.K CA pr T np W (.nt a)) :=
  (pe_not ha).imp fun σ H Q ⟨O, e, s, h⟩ => ⟨O, e, s, asB_of ((AftE.bind h).mono fun b O1 H1 e1 st s1 q => fin_d q st s1 (.bl _))⟩
theorem t_nt (ha : PT X a' (tTs X.K CA pr T np W a)) : PT X (.UnaryOp .Not a' pos) (tTs X.K CA pr T np W (.nt a)) :=
  (pt_not ha).imp fun σ H Q ⟨O, e, s, h⟩ => ⟨O, e, s, by
    have h' : AftE X.K CA np W O σ H e (asB ((asB (ev pr T np a e)).bind fun b e1 => .ok (.d (.bool (!b))) e1)) fun b O' H' e' => Q b H' := h
    rw [asB_bind] at h'
    exact h'.bind.mono fun b O1 H1 e1 st s1 q => q O1 H1 st s1⟩
theorem e_and {rest : List Expr} (ha : PE X a' (tEv X.K CA pr T np W a)) (hb : PE X (.BoolOp .And (b' :: rest) pos) (tEv X.K CA pr T np W b)) : PE X (.BoolOp .And (a' :: b' :: rest) pos) (tEv X.K CA pr T np W (.and a b)) :=
  (pe_and ha hb).imp fun σ H Q ⟨O, e, s, h⟩ => ⟨O, e, s, asB_of ((AftE.bind h).mono fun x O1 H1 e1 st s1 q => by
    cases x with
    | false =>
      rw [if_neg (by decide)] at q ⊢
      exact fin_d q st s1 (.bl _)
    | true =>
      rw [if_pos rfl] at q ⊢
      refine ⟨O1, e1, s1, (asB_of (Q := fun y H' => Q (.bl y) H') ((q.from st).bind.mono fun y O2 H2 e2 st2 s2 q2 => fin_d q2 st2 s2 (.bl _))).mono fun r O2 H2 e2 st2 s2 q2 v rv => ?_⟩
      obtain ⟨k, rfl, q3⟩ := q2 v rv
      exact q3)⟩
theorem e_or {rest : List Expr} (ha : PE X a' (tEv X.K CA pr T np W a)) (hb : PE X (.BoolOp .Or (b' :: rest) pos) (tEv X.K CA pr T np W b)) : PE X (.BoolOp .Or (a' :: b' :: rest) pos) (tEv X.K CA pr T np W (.or a b)) :=
  (pe_or ha hb).imp fun σ H Q ⟨O, e, s, h⟩ => ⟨O, e, s, asB_of ((AftE.bind h).mono fun x O1 H1 e1 st s1 q => by
    cases x with
    | true =>
      rw [if_pos rfl] at q ⊢
      exact fin_d q st s1 (.bl _)
    | false =>
      rw [if_neg (by decide)] at q ⊢
      refine ⟨O1, e1, s1, (asB_of (Q := fun y H' => Q (.bl y) H') ((q.from st).bind.mono fun y O2 H2 e2 st2 s2 q2 => fin_d q2 st2 s2 (.bl _))).mono fun r O2 H2 e2 st2 s2 q2 v rv => ?_⟩
      obtain ⟨k, rfl, q3⟩ := q2 v rv
      exact q3)⟩
theorem and_t {σ : St} {H : Hp} {Q : Bool → Hp → Prop} (h : tTs X.K CA pr T np W (.and a b) σ H Q) : tAnd (tTs X.K CA pr T np W a) (tTs X.K CA pr T np W b) σ H Q := by
  obtain ⟨O, e, s, h⟩ := h
  have h' : AftE X.K CA np W O σ H e (asB ((asB (ev pr T np a e)).bind fun x e1 => if x then (asB (ev pr T np b e1)).bind fun y e2 => .ok (.d (.bool y)) e2 else .ok (.d (.bool false)) e1)) fun b O' H' e' => Q b H' := h
  rw [asB_bind] at h'
  refine ⟨O, e, s, h'.bind.mono fun x O1 H1 e1 st s1 q => ?_⟩
  cases x with
  | false =>
    rw [if_neg (by decide)] at q ⊢
    exact q O1 H1 st s1
  | true =>
    rw [if_pos rfl] at q ⊢
    rw [asB_asB] at q
    exact ⟨O1, e1, s1, q.from st⟩
theorem or_t {σ : St} {H : Hp} {Q : Bool → Hp → Prop} (h : tTs X.K CA pr T np W (.or a b) σ H Q) : tOr (tTs X.K CA pr T np W a) (tTs X.K CA pr T np W b) σ H Q := by
  obtain ⟨O, e, s, h⟩ := h
  have h' : AftE X.K CA np W O σ H e (asB ((asB (ev pr T np a e)).bind fun x e1 => if x then .ok (.d (.bool true)) e1 else (asB (ev pr T np b e1)).bind fun y e2 => .ok (.d (.bool y)) e2)) fun b O' H' e' => Q b H' := h
  rw [asB_bind] at h'
  refine ⟨O, e, s, h'.bind.mono fun x O1 H1 e1 st s1 q => ?_⟩
  cases x with
  | true =>
    rw [if_pos rfl] at q ⊢
    exact q O1 H1 st s1
  | false =>
    rw [if_neg (by decide)] at q ⊢
    rw [asB_asB] at q
    exact ⟨O1, e1, s1, q.from st⟩
theorem w_and {rest : List Expr} (ha : PT X a' (tTs X.K CA pr T np W a)) (hb : PW X (.BoolOp .And (b' :: rest) pos) (tTs X.K CA pr T np W b)) : PW X (.BoolOp .And (a' :: b' :: rest) pos) (tTs X.K CA pr T np W (.and a b)) :=
  (pw_and ha hb).imp fun σ H Q h => and_t h
theorem w_or {rest : List Expr} (ha : PT X a' (tTs X.K CA pr T np W a)) (hb : PW X (.BoolOp .Or (b' :: rest) pos) (tTs X.K CA pr T np W b)) : PW X (.BoolOp .Or (a' :: b' :: rest) pos) (tTs X.K CA pr T np W (.or a b)) :=
  (pw_or ha hb).imp fun σ H Q h => or_t h
/-! ### a if c else b -/
theorem capt_fin {σ : St} {Q : VK} {Os : Own} {Hs : Hp} {es : FEnv} {O : Own} {e1 : FEnv} {H1 : Hp} {r : Rs} {v : V} {Hr : Hp}
    (h : AftE X.K CA np W Os σ Hs es (match capt np e1 r with | some (d, e3) => .ok (.d d) e3 | none => .stuck) fun r O' H' e' => ∀ v, RR X.K O' σ H' e' Hr v r → Q v H') (st : Stp np Os σ Hs es O σ H1 e1) (s : SR X.K O σ H1 e1) (rv : RR X.K O σ H1 e1 Hs v r) : Q v H1 := by
  cases q : capt np e1 r with
  | none => rw [q] at h; exact h.elim
  | some p =>
    obtain ⟨d, e3⟩ := p
    rw [q] at h
    obtain ⟨O3, st3, s3, r3, _⟩ := capt_ok st s rv q
    exact h O3 H1 st3 s3 v r3
theorem e_ite (hc : PT X c' (tTs X.K CA pr T np W c)) (ha : PE X a' (tEv X.K CA pr T np W a)) (hb : PE X b' (tEv X.K CA pr T np W b)) : PE X (.IfExp c' a' b' pos) (tEv X.K CA pr T np W (.ite c a b)) :=
  (pe_ifExp hc ha hb).imp fun σ H Q ⟨O, e, s, h⟩ => ⟨O, e, s, (AftE.bind h).mono fun k O1 H1 e1 st s1 q => by
    cases k with
    | true =>
      rw [if_pos rfl] at q ⊢
      exact ⟨O1, e1, s1, (AftE.bind (q.from st)).mono fun r O2 H2 e2 st2 s2 q2 v rv => capt_fin q2 st2 s2 rv⟩
    | false =>
      rw [if_neg (by decide)] at q ⊢
      exact ⟨O1, e1, s1, (AftE.bind (q.from st)).mono fun r O2 H2 e2 st2 s2 q2 v rv => capt_fin q2 st2 s2 rv⟩⟩
end
end Snd
end
section
set_option Elab.async false
set_option linter.all false
set_option maxRecDepth 100000
set_option maxHeartbeats 2000000
namespace Snd
open PySem L2 Ev
/-! ### lists of expressions -/
def psLen : Ps → Nat
  | .nil => 0
  | .cons _ r => psLen r + 1
section
variable {X : Cx} {CA : Nat → Addr} {pr : EProg} {T : FT} {np : Nat} {W : WX} {a b c : P} {a' b' c' : Expr} {pos pos' : Pos} {xs : Ps} {es : List Expr}
theorem bind_ok {α β : Type} {o : Out α} {f : α → FEnv → Out β} {b : β} {e' : FEnv} (h : o.bind f = .ok b e') : ∃ a e1, o = .ok a e1 ∧ f a e1 = .ok b e' := by
  cases o with
  | ok a e1 => exact ⟨a, e1, rfl, h⟩
  | err c d e => cases h
  | stuck => cases h
theorem evs_len : ∀ {xs : Ps} {e e' : FEnv} {rs : List Rs}, evs pr T np xs e = .ok rs e' → rs.length = psLen xs
  | .nil, e, e', rs, h => by
    cases h
    rfl
  | .cons x xs, e, e', rs, h => by
    obtain ⟨r, e1, _, h2⟩ := bind_ok (show ((ev pr T np x e).bind fun r e1 => (evs pr T np xs e1).bind fun rs e2 => .ok (r :: rs) e2) = .ok rs e' from h)
    obtain ⟨rs2, e2, h3, h4⟩ := bind_ok h2
    cases h4
    rw [List.length_cons, evs_len h3]
    rfl
theorem AftE.eqn {K : PySem.W.Frag} {α : Type} {O : Own} {σ : St} {H : Hp} {e : FEnv} {o : Out α} {k : α → Own → Hp → FEnv → Prop} (h : AftE K CA np W O σ H e o k) : AftE K CA np W O σ H e o fun a O' H' e' => o = .ok a e' ∧ k a O' H' e' := by
  cases o with
  | ok a e1 => exact fun O1 H1 st s1 => ⟨rfl, h O1 H1 st s1⟩
  | err c d e1 => exact h
  | stuck => exact h
def noStar : Expr → Bool
  | .Starred .. => false
  | _ => true
theorem noStar_ok {e : Expr} (h : noStar e = true) (es : List Expr) (env : Env) : starEach (e :: es) env = (false, eval e env) :: starEach es env := by
  cases e <;> first | rfl | cases h
theorem a_nil : PA X [] (tEvs X.K CA pr T np W .nil) := pa_nil.imp fun σ H Q ⟨O, e, s, h⟩ => h O H Stp.refl s [] .nil
theorem a_cons (ha : PE X a' (tEv X.K CA pr T np W a)) (hr : PA X es (tEvs X.K CA pr T np W xs)) (hn : noStar a' = true) : PA X (a' :: es) (tEvs X.K CA pr T np W (.cons a xs)) :=
  (pa_cons ha hr (noStar_ok hn es X.env)).imp fun σ H Q ⟨O, e, s, h⟩ => by
    refine ⟨O, e, s, (AftE.bind h).mono fun r O1 H1 e1 st1 s1 h1 v rv => ⟨O1, e1, s1, (AftE.bind (h1.from st1)).mono fun rs O2 H2 e2 st2 s2 h2 vs rvs => ?_⟩⟩
    have rv2 := rv.go st2 s1
    refine h2 O2 H2 st2 s2 (v :: vs) (.cons rv2 (rvs.back st1.there) fun c hc j c' hj hv => ?_)
    subst hc
    obtain ⟨p, rfl, h3, h4, h5, h6⟩ := rv
    obtain ⟨w, hw, p2, hp2, _, _, _, hn2⟩ := rvs.get hj
    rw [hv] at hw
    cases hw
    cases hp2
    obtain ⟨o, ho⟩ := h4.some
    rw [hn2] at ho
    cases ho
theorem e_tup {k : Nat} (h : PA X es (tEvs X.K CA pr T np W xs)) (hl : psLen xs ≤ 1000) : PE X (.Tuple es k pos) (tEv X.K CA pr T np W (.tup xs)) :=
  (pe_tup h).imp fun σ H Q ⟨O, e, s, h⟩ => ⟨O, e, s, (AftE.bind h).eqn.mono fun rs O1 H1 e1 st s1 ⟨q0, q⟩ vs rvs => by
    have hz : vs.length ≤ sizeLine := by
      rw [rvs.length, evs_len q0]
      exact lim_le (Nat.le_trans hl (by decide))
    cases q1 : captAll np e1 rs with
    | none => rw [q1] at q; exact q.elim
    | some p =>
      obtain ⟨ds, e2⟩ := p
      rw [q1] at q
      obtain ⟨O2, st2, s2, r2, _⟩ := captAll_ok st s1 rvs q1
      exact ⟨hz, fin_tup q st2 s2 r2⟩⟩
theorem e_lst (h : PA X es (tEvs X.K CA pr T np W xs)) (hl : psLen xs ≤ 1000) : PE X (.List es pos) (tEv X.K CA pr T np W (.lst xs)) :=
  (pe_lst h).imp fun σ H Q ⟨O, e, s, h⟩ => ⟨O, e, s, (AftE.bind h).eqn.mono fun rs O1 H1 e1 st s1 ⟨q0, q⟩ vs rvs => by
    have hz : vs.length ≤ sizeLine := by
      rw [rvs.length, evs_len q0]
      exact lim_le (Nat.le_trans hl (by decide))
    cases q1 : captAll np e1 rs with
    | none => rw [q1] at q; exact q.elim
    | some p =>
      obtain ⟨ds, e2⟩ := p
      rw [q1] at q
      obtain ⟨O2, st2, s2, r2, _⟩ := captAll_ok st s1 rvs q1
      exact ⟨hz, fin_lst q st2 s2 r2⟩⟩
/-! ### a[i] -/
def noSlice : Expr → Bool
  | .Slice .. => false
  | _ => true
theorem noSlice_ok {b : Expr} (h : noSlice b = true) : PlainIx b := by
  intro o i
  cases b <;> first | rfl | cases h
theorem e_ix (ha : PE X a' (tEv X.K CA pr T np W a)) (hb : PE X b' (tEv X.K CA pr T np W b)) (hs : noSlice b' = true) : PE X (.Subscript a' b' pos) (tEv X.K CA pr T np W (.ix a b)) :=
  (pe_ix ix_seq ha hb (noSlice_ok hs)).imp fun σ H Q ⟨O, e, s, h⟩ => two (op := fun dx dy => (ixD dx dy).map .d) s h fun O2 H2 e2 x y dx dy z st s2 vx vy hz hk => by
    have hz' : (ixD dx dy).map Rs.d = some z := hz
    cases hd : ixD dx dy with
    | none => rw [hd] at hz'; cases hz'
    | some d =>
      rw [hd] at hz'
      cases hz'
      have get : ∀ {vs : List V} {ds : List D} {i : Int}, RepAll X.K O2 H2 vs ds → Ev.atI ds i = some d → ∃ v, L2.atI vs i = some v ∧ Rep X.K O2 H2 v d := fun {vs ds i} r q => by
        unfold Ev.atI at q
        unfold L2.atI
        rw [r.length]
        cases hx : Ev.ixN ds.length i with
        | none => rw [hx] at q; cases q
        | some j =>
          rw [hx] at q
          obtain ⟨v, h1, h2⟩ := r.get (show ds[j]? = some d from q)
          exact ⟨v, by rw [show L2.ixN ds.length i = Ev.ixN ds.length i from rfl, hx]; exact h1, h2⟩
      unfold ixD at hd
      split at hd <;> first | contradiction | skip
      · obtain ⟨p, us, rfl, h1, r1⟩ := vx.list
        obtain rfl := vy.int
        obtain ⟨v, hv, rv⟩ := get r1 hd
        exact .inl ⟨p, us, _, v, rfl, rfl, .inl h1, hv, fin_d hk st s2 rv⟩
      · obtain ⟨p, us, rfl, h1, r1⟩ := vx.tuple
        obtain rfl := vy.int
        obtain ⟨v, hv, rv⟩ := get r1 hd
        exact .inr (.inl ⟨p, us, _, v, rfl, rfl, h1, hv, fin_d hk st s2 rv⟩)
/-! ### a[lo:hi] -/
def partE (pr : EProg) (T : FT) (np : Nat) (lo : P) (e : FEnv) : Out (Option Int) := (ev pr T np lo e).bind fun y e2 => lift ((view e2 y).bind (partP lo)) e2
def tPo (K : PySem.W.Frag) (CA : Nat → Addr) (pr : EProg) (T : FT) (np : Nat) (W : WX) (lo : P) : TO := fun σ H Q => ∃ O e, SR K O σ H e ∧ AftE K CA np W O σ H e (partE pr T np lo e) fun o O' H' e' => Q o H'
theorem _root_.L2.PO.imp {X : Cx} {ex : Option Expr} {t t' : TO} (h : PO X ex t) (i : ∀ σ H Q, t' σ H Q → t σ H Q) : PO X ex t' := ⟨fun pins s σ H Q I q => h.run pins s σ H Q I (i σ H Q q)⟩
def isNonP : P → Bool
  | .non => true
  | _ => false
theorem o_none : PO X none (tPo X.K CA pr T np W .non) := po_none.imp fun σ H Q ⟨O, e, s, h⟩ => h O H Stp.refl s
theorem o_some (ha : PE X a' (tEv X.K CA pr T np W a)) (hn : isNonP a = false) : PO X (some a') (tPo X.K CA pr T np W a) :=
  (po_some ha).imp fun σ H Q ⟨O, e, s, h⟩ => ⟨O, e, s, (AftE.bind h).mono fun r O1 H1 e1 st s1 q v rv => by
    obtain ⟨o, ho, q2⟩ := q.lift
    cases q1 : view e1 r with
    | none => rw [q1] at ho; cases ho
    | some d =>
      rw [q1] at ho
      have ho' : partP a d = some o := ho
      unfold partP at ho'
      split at ho' <;> first | contradiction | skip
      cases ho'
      exact ⟨_, (view_ok s1 rv q1).int, q2 O1 H1 st s1⟩⟩
theorem cIx_eq (n d : Nat) (o : Option Int) : cIx n d o = HT.sIx n d o := by
  cases o <;> rfl
theorem cut_rep {K : PySem.W.Frag} {O : Own} {H : Hp} {vs : List V} {ds : List D} (r : RepAll K O H vs ds) (lo hi : Option Int) : RepAll K O H (cutV vs lo hi) (cut ds lo hi) := by
  unfold cutV cut
  rw [cIx_eq, cIx_eq, r.length]
  exact (r.drop _).take _
theorem e_sl {lo hi : P} {lo' hi' : Option Expr} {p2 : Pos} (ha : PE X a' (tEv X.K CA pr T np W a)) (hl : PO X lo' (tPo X.K CA pr T np W lo)) (hh : PO X hi' (tPo X.K CA pr T np W hi)) :
    PE X (.Subscript a' (.Slice lo' hi' none p2) pos) (tEv X.K CA pr T np W (.sl a lo hi)) :=
  (pe_slice (sl_list.or sl_tupA) ha hl hh).imp fun σ H Q ⟨O, e, s, h⟩ => ⟨O, e, s, (AftE.bind h).mono fun r O1 H1 e1 st1 s1 h1 v rv => ⟨O1, e1, s1, (AftE.bind (h1.from st1)).mono fun l O2 H2 e2 st2 s2 h2 => ⟨O2, e2, s2, (AftE.bind (h2.from st2)).mono fun u O3 H3 e3 st3 s3 h3 => by
    obtain ⟨z, hz, h4⟩ := h3.lift
    cases q1 : view e3 r with
    | none => rw [q1] at hz; cases hz
    | some dx =>
      rw [q1] at hz
      have vx := view_ok s3 ((rv.go st2 s1).go st3 s2) q1
      have hz' : slD dx l u = some z := hz
      have st := (st1.trans st2).trans st3
      unfold slD at hz'
      split at hz' <;> first | contradiction | skip
      · cases hz'
        obtain ⟨p, us, rfl, g1, r1⟩ := vx.list
        refine .inl ⟨p, us, rfl, .inl g1, fun q hq => ?_⟩
        exact h4 _ _ (st3.trans (Gro.newL hq).step) ((Gro.newL hq).sr s3) _ (fresh_of s3 hq st.there (cut_rep r1 l u))
      · cases hz'
        obtain ⟨p, us, rfl, g1, r1⟩ := vx.tuple
        refine .inr ⟨p, us, rfl, g1, fun w => ?_, fun w q hq => ?_⟩
        · have e1 : cut _ l u = _ := show cut _ l u = _ from by
            unfold cut
            rw [cIx_eq, cIx_eq, ← r1.length, w.1, w.2, List.drop_zero, Nat.sub_zero, r1.length, List.take_length]
          rw [e1] at h4
          exact h4 O3 H3 st3 s3 _ (.tup g1 r1)
        · exact h4 _ _ (st3.trans (Gro.newT hq).step) ((Gro.newT hq).sr s3) _ (tup_of s3 hq (cut_rep r1 l u))⟩⟩⟩
end
end Snd
end
section
set_option Elab.async false
set_option linter.all false
set_option maxRecDepth 100000
set_option maxHeartbeats 2000000
/-! a tuple from behind -/
namespace Snd
section
open PySem PyProof.Rows HT
variable {prog : Program} {w : World} {A : Around} {E : Value → Shared → Prop} {s : Shared}
theorem places_rev (n : Nat) : Builtin.Slice.slicePlaces ((n : Int) - 1) (-1) (-1) = n := by
  unfold Builtin.Slice.slicePlaces
  rw [if_neg (by decide)]
  by_cases h : (n : Int) - 1 > -1
  · rw [if_pos h, show (-(-1) : Int) = 1 by decide, Int.ediv_one]
    omega
  · rw [if_neg h]
    omega
theorem applied_rev {sl : Addr} {vl vu vs : Value} {n : Nat} {Q : Int × Int × Nat → Shared → Prop} (hs : s.heap.IsSliceOf sl vl vu vs) (pl : IsPart vl none) (pu : IsPart vu none) (ps : IsPart vs (some (-1)))
    (h : Q ((n : Int) - 1, -1, n) s) : wpAny (model prog w) A (Builtin.Slice.sliceApplied (.ref sl) (pure (n : Int))) Q E s := by
  obtain ⟨os, hos, hcs, hds⟩ := id hs
  unfold Builtin.Slice.sliceApplied Builtin.Slice.sliceFields
  refine wpAny_bind (wpAny_bind (wpAny_field hos hds (x := vl) rfl (wpAny_bind (wpAny_field hos hds (x := vu) rfl (wpAny_bind (wpAny_field hos hds (x := vs) rfl (wpAny_pure ?_)))))))
  refine wpAny_bind (slicePart_ ps ?_)
  show wpAny _ _ (if ((-1 : Int) == 0) = true then _ else _) _ _ s
  rw [if_neg (by decide)]
  refine wpAny_bind (slicePart_ pl (wpAny_bind (slicePart_ pu (wpAny_bind (wpAny_pure ?_)))))
  show wpAny _ _ (pure ((n : Int) - 1, (-1 : Int), Builtin.Slice.slicePlaces ((n : Int) - 1) (-1) (-1))) _ _ s
  rw [places_rev]
  exact wpAny_pure h
theorem fm_congr {α β : Type} {f g : α → Option β} : ∀ {l : List α}, (∀ m ∈ l, f m = g m) → l.filterMap f = l.filterMap g
  | [], _ => rfl
  | a :: l, h => by
    rw [List.filterMap_cons, List.filterMap_cons, h a List.mem_cons_self, fm_congr fun m hm => h m (List.mem_cons_of_mem _ hm)]
theorem pick_rev (xs : Array Value) : ((List.range xs.size).filterMap fun (m : Nat) => xs[(((xs.size : Int) - 1) + (m : Int) * (-1)).toNat]?).toArray = xs.toList.reverse.toArray := by
  have e : ∀ m ∈ List.range xs.size, xs[(((xs.size : Int) - 1) + (m : Int) * (-1)).toNat]? = xs[xs.size - 1 - m]? := by
    intro m hm
    have : (((xs.size : Int) - 1) + (m : Int) * (-1)).toNat = xs.size - 1 - m := by
      have := List.mem_range.mp hm
      omega
    rw [this]
  rw [fm_congr e]
  have : (List.range xs.size).filterMap (fun m => xs[xs.size - 1 - m]?) = ((List.range xs.size).map fun k => xs.size - 1 - k).filterMap (xs[·]?) := by
    rw [List.filterMap_map]
    rfl
  rw [this, PySem.W.krv_range, List.filterMap_reverse, PySem.W.krv_all]
theorem getItem_tuple_rev {t sl : Addr} {items : Array Value} {vl vu vs : Value} {Q : Value → Shared → Prop} (ht : IsTup s.heap t items) (hs : s.heap.IsSliceOf sl vl vu vs) (pl : IsPart vl none) (pu : IsPart vu none) (ps : IsPart vs (some (-1)))
    (h : Q (.ref s.heap.objs.size) { s with heap := s.heap.push { cls := .type "tuple", data := .seq items.toList.reverse.toArray } }) (hsz : items.size ≤ sizeLine) : wpAny (model prog w) A (getItem (.ref t) (.ref sl)) Q E s := by
  have htake : sizeOk (.seq items.toList.reverse.toArray) := by
    show items.toList.reverse.toArray.size ≤ sizeLine
    rw [List.size_toArray, List.length_reverse, Array.length_toList]
    exact hsz
  obtain ⟨os, hos, hcs, hds⟩ := id hs
  have hTs : s.TypeIs (.ref sl) "slice" := ⟨os, hos, hcs⟩
  unfold getItem
  try with_reducible refine wpAny_holding ?_
  first | refine wpAny_bind (wpAny_pure ?_) | skip
  refine wpAny_bind (wpAny_sequenceKey ht.typeIs (by decide) ?_)
  refine wpAny_bind (wpAny_callSpecial?_slot (name := Str.ofString "__getitem__") ht.typeIs PyProof.Rows.slot_tuple_getitem
    (wpAny_call_entry PyProof.Rows.slot_tuple_getitem ht.typeIs entry_tuple_getitem ?_ (args_tuple_getitem _ _)))
  show wpAny _ _ (Builtin.Tuple.tupleItemsOf (.ref t) >>= _) _ _ s
  refine wpAny_bind (tupleItemsOf_ ht ?_)
  refine wpAny_bind (wpAny_typeOf hTs ?_)
  rw [if_pos (by decide)]
  refine wpAny_bind (applied_rev hs pl pu ps ?_)
  have hno : ¬ ((((items.size : Int) - 1) == 0 && (-1 : Int) == 1 && items.size == items.size) = true) := by
    intro q
    rw [Bool.and_eq_true, Bool.and_eq_true] at q
    exact absurd q.1.2 (by decide)
  show wpAny _ _ (if (((items.size : Int) - 1) == 0 && (-1 : Int) == 1 && items.size == items.size) = true then _ else _) _ _ s
  rw [if_neg hno, pick_rev]
  first
    | exact wpAny_bind (m := Builtin.Tuple.tupleExact _) (wpAny_newObj_type (wpAny_pure ⟨_, rfl, wpAny_pure h⟩) htake)
    | exact wpAny_bind (m := Builtin.Tuple.tupleExact _) (wpAny_newObj_type (wpAny_bind (wpAny_pure (wpAny_pure ⟨_, rfl, wpAny_pure h⟩))) htake)
    | exact wpAny_bind (wpAny_bind (m := Builtin.Tuple.tupleExact _) (wpAny_newObj_type (wpAny_pure (wpAny_pure ⟨_, rfl, wpAny_pure h⟩)) htake))
    | exact wpAny_bind (wpAny_bind (m := Builtin.Tuple.tupleExact _) (wpAny_newObj_type (wpAny_pure ⟨_, rfl, wpAny_pure h⟩) htake))
end
section
open PySem L2 PyProof.Rows
def tRevA (K : PySem.W.Frag) (te : TE) : TE := fun σ H Q => te σ H fun x H1 => ∃ a xs, x = .ref a ∧ ((SqL K H1 a xs ∧ ∀ p, H1 p = none → Q (.ref p) (upd H1 p (.lst xs.reverse))) ∨ (SqT K H1 a xs ∧ ∀ p, H1 p = none → Q (.ref p) (upd H1 p (.tup xs.reverse))))
theorem pe_revA {X : Cx} {e : Expr} {te : TE} {k : Nat} {p1 p2 p3 pos : Pos} (he : PE X e te) : PE X (.Subscript e (.Slice none none (some (.UnaryOp .USub (.Constant (.int 1) k p1) p2)) p3) pos) (tRevA X.K te) := by
  refine ⟨fun pins s σ H Q I h => ?_⟩
  refine Subscript_ (thn (he.run pins s σ H _ I h) fun v s1 ⟨x, H1, I1, r1, a, xs, ex, q⟩ => ?_)
  subst ex
  cases r1
  have hst : PO X (some (.UnaryOp .USub (.Constant (.int 1) k p1) p2)) (tPart (tUn (rU fun i => .int (-i)) (tC (.int 1)))) := po_some (pe_un un_neg pe_int)
  refine wpAny_Slice (thn (po_none.run pins s1 σ H1 (fun o H2 => o = none ∧ H2 = H1) I1 ⟨rfl, rfl⟩) fun vl s2 ⟨l, H2, I2, pl, el, e2⟩ => ?_)
  subst el e2
  refine thn (po_none.run pins s2 σ H2 (fun o H3 => o = none ∧ H3 = H2) I2 ⟨rfl, rfl⟩) fun vu s3 ⟨u, H3, I3, pu, eu, e3⟩ => ?_
  subst eu e3
  refine thn (hst.run pins s3 σ H3 (fun o H4 => o = some (-1) ∧ H4 = H3) I3 ⟨1, rfl, -1, rfl, rfl, rfl⟩) fun vs s4 ⟨o, H4, I4, ps, eo, e4⟩ => ?_
  subst eo e4
  have I5 : Inv X pins σ H4 { s4 with heap := s4.heap.push { cls := .type "slice", data := .fields #[vl, vu, vs] } } := I4.kept (t' := s4.toks) fun b ob q => Heap.get?_push_of_some _ q
  show wpAny (model X.prog X.w) X.A (subscriptTail e (.Slice none none (some (.UnaryOp .USub (.Constant (.int 1) k p1) p2)) p3) (.ref a) (.ref s4.heap.objs.size)) (EP X pins σ Q) X.xe { s4 with heap := s4.heap.push { cls := .type "slice", data := .fields #[vl, vu, vs] } }
  rcases q with ⟨hx, q⟩ | ⟨hx, q⟩
  · obtain ⟨its, r, ht, hz⟩ := I5.list hx
    have hlen := r.length
    refine tail_any (ops := [.ref a, .ref s4.heap.objs.size]) ht.isList.typeIs (PySem.slot_list_getitem.lookup) ?_ (by with_unfolding_all rfl)
    refine wpAny_getItem_list_slice ht.isList (Heap.IsSliceOf.new _ vl vu vs) pl pu ps (by decide) ?_ (by rw [List.size_toArray]; omega)
    rw [PySem.W.krv_pick]
    refine ⟨.ref _, _, I5.laid (t' := s4.toks) (o := .lst xs.reverse) (fun b ob q => Heap.get?_push_of_some _ q) (Nat.le_refl _) ?_, rfl, q _ (I5.hok.fresh (Nat.le_refl _))⟩
    exact ⟨by rw [List.length_reverse]; exact hz, _, 0, r.reverse, Heap.get?_push_size _ rfl⟩
  · obtain ⟨its, r, ht, hz⟩ := I5.tuple hx
    have hlen := r.length
    refine tail_any (ops := [.ref a, .ref s4.heap.objs.size]) ht.typeIs (PyProof.Rows.slot_tuple_getitem.lookup) ?_ (by with_unfolding_all rfl)
    refine getItem_tuple_rev ht (Heap.IsSliceOf.new _ vl vu vs) pl pu ps ?_ (by rw [List.size_toArray]; omega)
    refine ⟨.ref _, _, I5.laid (t' := s4.toks) (o := .tup xs.reverse) (fun b ob q => Heap.get?_push_of_some _ q) (Nat.le_refl _) ?_, rfl, q _ (I5.hok.fresh (Nat.le_refl _))⟩
    exact ⟨by rw [List.length_reverse]; exact hz, _, r.reverse, ⟨_, Heap.get?_push_size _ rfl, rfl, _, rfl⟩⟩
end
open PySem L2 Ev
section
variable {X : Cx} {CA : Nat → Addr} {pr : EProg} {T : FT} {np : Nat} {W : WX} {a b c : P} {a' b' c' : Expr} {pos pos' : Pos} {xs : Ps} {es : List Expr}
theorem e_rev {k : Nat} {p1 p2 p3 : Pos} (ha : PE X a' (tEv X.K CA pr T np W a)) : PE X (.Subscript a' (.Slice none none (some (.UnaryOp .USub (.Constant (.int 1) k p1) p2)) p3) pos) (tEv X.K CA pr T np W (.rev a)) :=
  (pe_revA ha).imp fun σ H Q ⟨O, e, s, h⟩ => one (r := fun x H1 Q => ∃ a xs, x = .ref a ∧ ((SqL X.K H1 a xs ∧ ∀ p, H1 p = none → Q (.ref p) (upd H1 p (.lst xs.reverse))) ∨ (SqT X.K H1 a xs ∧ ∀ p, H1 p = none → Q (.ref p) (upd H1 p (.tup xs.reverse))))) (op := revD) s h
    fun O1 H1 e1 x dx z st s1 vx hz hk => by
      unfold revD at hz
      split at hz <;> first | contradiction | skip
      · cases hz
        obtain ⟨p, us, rfl, g1, r1⟩ := vx.list
        exact ⟨p, us, rfl, .inl ⟨.inl g1, fin_lst hk st s1 r1.rev⟩⟩
      · cases hz
        obtain ⟨p, us, rfl, g1, r1⟩ := vx.tuple
        exact ⟨p, us, rfl, .inr ⟨g1, fin_tup hk st s1 r1.rev⟩⟩
/-! ### built-in calls -/
inductive ViewAllR (K : PySem.W.Frag) (O : Own) (H : Hp) : List V → List D → Prop
  | nil : ViewAllR K O H [] []
  | cons {v : V} {vs : List V} {d : D} {ds : List D} : ViewR K O H v d → ViewAllR K O H vs ds → ViewAllR K O H (v :: vs) (d :: ds)
theorem viewAll_ok {K : PySem.W.Frag} {O : Own} {σ : St} {H H0 : Hp} {e : FEnv} (s : SR K O σ H e) {vs : List V} {rs : List Rs} (h : RRs K O σ H e H0 vs rs) : ∀ {ds : List D}, viewAll e rs = some ds → ViewAllR K O H vs ds := by
  induction h with
  | nil =>
    intro ds q
    cases q
    exact .nil
  | @cons v vs r rs r1 t n ih =>
    intro ds q
    have q' : ((view e r).bind fun a => (viewAll e rs).map (a :: ·)) = some ds := q
    cases q1 : view e r with
    | none => rw [q1] at q'; cases q'
    | some d =>
      rw [q1] at q'
      cases q2 : viewAll e rs with
      | none => rw [q2] at q'; cases q'
      | some es =>
        rw [q2] at q'
        cases q'
        exact .cons (view_ok s r1 q1) (ih q2)
theorem ints_of {K : PySem.W.Frag} {O : Own} {H : Hp} : ∀ {ds : List D} {vs : List V} {ns : List Int}, RepAll K O H vs ds → intsD ds = some ns → vs = ns.map V.int
  | [], vs, ns, r, h => by
    cases r
    cases h
    rfl
  | d :: ds, vs, ns, r, h => by
    cases r with
    | cons r1 r2 =>
      cases d <;> first | (cases h; done) | skip
      rename_i i
      have h' : (intsD ds).map (i :: ·) = some ns := h
      cases q : intsD ds with
      | none => rw [q] at h'; cases h'
      | some ms =>
        rw [q] at h'
        cases h'
        cases r1
        rw [ints_of r2 q]
        rfl
theorem bools_of {K : PySem.W.Frag} {O : Own} {H : Hp} : ∀ {ds : List D} {vs : List V} {ns : List Bool}, RepAll K O H vs ds → boolsD ds = some ns → vs = ns.map V.bl
  | [], vs, ns, r, h => by
    cases r
    cases h
    rfl
  | d :: ds, vs, ns, r, h => by
    cases r with
    | cons r1 r2 =>
      cases d <;> first | (cases h; done) | skip
      rename_i i
      have h' : (boolsD ds).map (i :: ·) = some ns := h
      cases q : boolsD ds with
      | none => rw [q] at h'; cases h'
      | some ms =>
        rw [q] at h'
        cases h'
        cases r1
        rw [bools_of r2 q]
        rfl
theorem sortI_of {ns ns' : List Int} (hp : ns'.Perm ns) (hs : ns'.Pairwise (· ≤ ·)) : ns' = sortI ns := by
  refine List.Perm.eq_of_pairwise (le := (· ≤ ·)) (fun a b _ _ h1 h2 => Int.le_antisymm h1 h2) hs ?_ (hp.trans (List.mergeSort_perm _ _).symm)
  refine (List.pairwise_mergeSort (le := fun a b : Int => decide (a ≤ b)) (fun a b c h1 h2 => ?_) (fun a b => ?_) ns).imp fun h => of_decide_eq_true h
  · exact decide_eq_true (Int.le_trans (of_decide_eq_true h1) (of_decide_eq_true h2))
  · rw [Bool.or_eq_true]
    rcases Int.le_total a b with h | h
    · exact .inl (decide_eq_true h)
    · exact .inr (decide_eq_true h)
theorem reps_ints {K : PySem.W.Frag} {O : Own} {H : Hp} : ∀ ns : List Int, RepAll K O H (ns.map V.int) (ns.map PyData.int)
  | [] => .nil
  | n :: ns => .cons (.int n) (reps_ints ns)
def bltS : B → Str
  | .len => "len" | .abs => "abs" | .max2 => "max" | .min2 => "min" | .sum => "sum" | .all => "all" | .any => "any" | .tuple => "tuple" | .list => "list" | .int => "int" | .gcd => "gcd" | .sorted => "sorted" | .minL => "min" | .maxL => "max" | .repr => "repr"
def bltV : B → Value
  | .len => .builtin "len" | .abs => .builtin "abs" | .max2 => .builtin "max" | .min2 => .builtin "min" | .sum => .builtin "sum" | .all => .builtin "all" | .any => .builtin "any" | .tuple => .type "tuple" | .list => .type "list" | .int => .type "int" | .gcd => .builtin "math.gcd" | .sorted => .builtin "sorted" | .minL => .builtin "min" | .maxL => .builtin "max" | .repr => .builtin "repr"
def rRepr (K : PySem.W.Frag) : List V → Hp → VK → Prop := fun xs H Q => ∃ (a : Addr) (d : D), xs = [.ref a] ∧ Dp K H (.ref a) d ∧ PyData.showable d = true ∧ PyData.hasDict d = false ∧ PyData.depth d ≤ 60 ∧ (PyData.shown d).length ≤ sizeLine ∧ Q (.str (PyData.shown d)) H
theorem cr_repr (hgd : X.A.guards = some []) (hu : X.A.units + 64 < cLine) : CallR X (.builtin "repr") (rRepr X.K) := by
  intro pins s σ H xs us Q I r h
  obtain ⟨a, d, rfl, hd, h1, h2, h3, h4, q⟩ := h
  obtain ⟨u, rfl, ru⟩ := vals1 r
  obtain rfl : u = Value.ref a := ru
  obtain ⟨as, rd⟩ := Dp.reads I d _ _ hd rfl
  exact repr_of_reads' rd h1 (fun z => by rw [h2] at z; cases z) hgd (by omega) (fun b o e => e) (fun h' u tk hk => ⟨.str _, H, I.kept (t' := tk) hk, ⟨u, rfl⟩, q⟩) h4
def bltR (K : PySem.W.Frag) : B → List V → Hp → VK → Prop
  | .len => fun xs H Q => (∃ p ys, xs = [.ref p] ∧ (SqL K H p ys ∨ SqT K H p ys) ∧ Q (.int ys.length) H) ∨ ∃ z, xs = [.str z] ∧ z.length ≤ sizeLine ∧ Q (.int z.length) H
  | .abs => fun xs H Q => ∃ i, xs = [.int i] ∧ Q (.int (if i < 0 then -i else i)) H
  | .max2 => fun xs H Q => ∃ i j, xs = [.int i, .int j] ∧ Q (.int (if j > i then j else i)) H
  | .min2 => fun xs H Q => ∃ i j, xs = [.int i, .int j] ∧ Q (.int (if j < i then j else i)) H
  | .sum => rSum K
  | .all => rAll K
  | .any => rAny K
  | .tuple => fun xs H Q => ∃ p ys, xs = [.ref p] ∧ ((SqL K H p ys ∧ ∀ l, H l = none → Q (.ref l) (upd H l (.tup ys))) ∨ (SqT K H p ys ∧ Q (.ref p) H))
  | .list => fun xs H Q => ∃ p ys, xs = [.ref p] ∧ (SqL K H p ys ∨ SqT K H p ys) ∧ ∀ l, H l = none → Q (.ref l) (upd H l (.lst ys))
  | .int => fun xs H Q => (∃ i, xs = [.int i] ∧ Q (.int i) H) ∨ ∃ k, xs = [.bl k] ∧ Q (.int (if k then 1 else 0)) H
  | .gcd => rGcd
  | .sorted => rSortedI K
  | .minL => rMin K
  | .maxL => rMax K
  | .repr => rRepr K
theorem cr_blt (hc : X.calm = true) (hgd : X.A.guards = some []) (hu : X.A.units + 64 < cLine) : ∀ b, CallR X (bltV b) (bltR X.K b)
  | .len => call_len_seq.or call_len_str
  | .abs => call_abs
  | .max2 => call_max2 hc
  | .min2 => call_min2 hc
  | .sum => cr_sum hc
  | .all => cr_all hc
  | .any => cr_any hc
  | .tuple => call_tuple_of
  | .list => call_list_of
  | .int => call_int1
  | .gcd => cr_gcd
  | .sorted => cr_sortedI
  | .minL => cr_min hc
  | .maxL => cr_max hc
  | .repr => cr_repr hgd hu
theorem blt_ok {b : B} {vs : List V} {ds : List D} {z : Rs} {O O1 : Own} {σ : St} {H H1 : Hp} {e e1 : FEnv} {Q : VK} (st : Stp np O σ H e O1 σ H1 e1) (s : SR X.K O1 σ H1 e1) (v : ViewAllR X.K O1 H1 vs ds) (hz : bltD b ds = some z)
    (hk : AftE X.K CA np W O σ H e (.ok z e1) fun r O' H' e' => ∀ v, RR X.K O' σ H' e' H v r → Q v H') : bltR X.K b vs H1 Q := by
  unfold bltD at hz
  split at hz <;> first | contradiction | skip
  · cases hz
    cases v with | cons v1 v2 => ?_
    cases v2
    obtain ⟨p, us, rfl, g1, r1⟩ := v1.list
    refine .inl ⟨p, us, rfl, .inl (.inl g1), ?_⟩
    rw [r1.length]
    exact fin_d hk st s (.int _)
  · cases hz
    cases v with | cons v1 v2 => ?_
    cases v2
    obtain ⟨p, us, rfl, g1, r1⟩ := v1.tuple
    refine .inl ⟨p, us, rfl, .inr g1, ?_⟩
    rw [r1.length]
    exact fin_d hk st s (.int _)
  · split at hz
    · cases hz
      cases v with | cons v1 v2 => ?_
      cases v2
      obtain rfl := v1.str
      exact .inr ⟨_, rfl, lim_le (by assumption), fin_d hk st s (.int _)⟩
    · cases hz
  · cases hz
    cases v with | cons v1 v2 => ?_
    cases v2
    obtain rfl := v1.int
    exact ⟨_, rfl, fin_d hk st s (.int _)⟩
  · cases hz
    cases v with | cons v1 v2 => ?_
    cases v2 with | cons v3 v4 => ?_
    cases v4
    obtain rfl := v1.int
    obtain rfl := v3.int
    exact ⟨_, _, rfl, fin_d hk st s (.int _)⟩
  · cases hz
    cases v with | cons v1 v2 => ?_
    cases v2 with | cons v3 v4 => ?_
    cases v4
    obtain rfl := v1.int
    obtain rfl := v3.int
    exact ⟨_, _, rfl, fin_d hk st s (.int _)⟩
  · cases v with | cons v1 v2 => ?_
    cases v2
    obtain ⟨p, us, rfl, g1, r1⟩ := v1.list
    rename_i ds
    cases q : intsD ds with
    | none => rw [q] at hz; cases hz
    | some ns =>
      rw [q] at hz
      cases hz
      obtain rfl := ints_of r1 q
      exact ⟨p, ns, rfl, .inl g1, fin_d hk st s (.int _)⟩
  · cases v with | cons v1 v2 => ?_
    cases v2
    obtain ⟨p, us, rfl, g1, r1⟩ := v1.list
    rename_i ds
    cases q : boolsD ds with
    | none => rw [q] at hz; cases hz
    | some ns =>
      rw [q] at hz
      cases hz
      obtain rfl := bools_of r1 q
      exact ⟨p, ns, rfl, .inl g1, fin_d hk st s (.bl _)⟩
  · cases v with | cons v1 v2 => ?_
    cases v2
    obtain ⟨p, us, rfl, g1, r1⟩ := v1.list
    rename_i ds
    cases q : boolsD ds with
    | none => rw [q] at hz; cases hz
    | some ns =>
      rw [q] at hz
      cases hz
      obtain rfl := bools_of r1 q
      exact ⟨p, ns, rfl, .inl g1, fin_d hk st s (.bl _)⟩
  · cases hz
    cases v with | cons v1 v2 => ?_
    cases v2
    obtain ⟨p, us, rfl, g1, r1⟩ := v1.list
    exact ⟨p, us, rfl, .inl ⟨.inl g1, fin_tup hk st s r1⟩⟩
  · cases hz
    cases v with | cons v1 v2 => ?_
    cases v2
    obtain ⟨p, us, rfl, g1, r1⟩ := v1.tuple
    exact ⟨p, us, rfl, .inr ⟨g1, fin_d hk st s (.tup g1 r1)⟩⟩
  · cases hz
    cases v with | cons v1 v2 => ?_
    cases v2
    obtain ⟨p, us, rfl, g1, r1⟩ := v1.list
    exact ⟨p, us, rfl, .inl (.inl g1), fin_lst hk st s r1⟩
  · cases hz
    cases v with | cons v1 v2 => ?_
    cases v2
    obtain ⟨p, us, rfl, g1, r1⟩ := v1.tuple
    exact ⟨p, us, rfl, .inr g1, fin_lst hk st s r1⟩
  · cases hz
    cases v with | cons v1 v2 => ?_
    cases v2
    obtain rfl := v1.int
    exact .inl ⟨_, rfl, fin_d hk st s (.int _)⟩
  · cases hz
    cases v with | cons v1 v2 => ?_
    cases v2
    obtain rfl := v1.bool
    exact .inr ⟨_, rfl, fin_d hk st s (.int _)⟩
  · cases hz
    cases v with | cons v1 v2 => ?_
    cases v2 with | cons v3 v4 => ?_
    cases v4
    obtain rfl := v1.int
    obtain rfl := v3.int
    exact ⟨_, _, rfl, fin_d hk st s (.int _)⟩
  · cases v with | cons v1 v2 => ?_
    cases v2
    obtain ⟨p, us, rfl, g1, r1⟩ := v1.list
    rename_i ds
    cases q : intsD ds with
    | none => rw [q] at hz; cases hz
    | some ns =>
      rw [q] at hz
      obtain rfl := ints_of r1 q
      cases hm : ns.min? with
      | none =>
        have hz : (ns.min?).map (fun i => Rs.d (.int i)) = some z := hz
        rw [hm] at hz
        cases hz
      | some i =>
        have hz : (ns.min?).map (fun i => Rs.d (.int i)) = some z := hz
        rw [hm] at hz
        cases hz
        have mi := List.min?_eq_some_iff.mp hm
        refine ⟨p, ns, rfl, .inl g1, List.length_pos_of_mem mi.1, fun m h1 h2 => ?_⟩
        have e : ns.min? = some m := List.min?_eq_some_iff.mpr ⟨h1, h2⟩
        rw [hm] at e
        cases e
        exact fin_d hk st s (.int _)
  · cases v with | cons v1 v2 => ?_
    cases v2
    obtain ⟨p, us, rfl, g1, r1⟩ := v1.list
    rename_i ds
    cases q : intsD ds with
    | none => rw [q] at hz; cases hz
    | some ns =>
      rw [q] at hz
      obtain rfl := ints_of r1 q
      cases hm : ns.max? with
      | none =>
        have hz : (ns.max?).map (fun i => Rs.d (.int i)) = some z := hz
        rw [hm] at hz
        cases hz
      | some i =>
        have hz : (ns.max?).map (fun i => Rs.d (.int i)) = some z := hz
        rw [hm] at hz
        cases hz
        have mi := List.max?_eq_some_iff.mp hm
        refine ⟨p, ns, rfl, .inl g1, List.length_pos_of_mem mi.1, fun m h1 h2 => ?_⟩
        have e : ns.max? = some m := List.max?_eq_some_iff.mpr ⟨h1, h2⟩
        rw [hm] at e
        cases e
        exact fin_d hk st s (.int _)
  · cases v with | cons v1 v2 => ?_
    cases v2
    obtain ⟨p, us, rfl, g1, r1⟩ := v1.list
    rename_i ds
    cases q : intsD ds with
    | none => rw [q] at hz; cases hz
    | some ns =>
      rw [q] at hz
      cases hz
      obtain rfl := ints_of r1 q
      refine ⟨p, ns, rfl, .inl g1, fun ns' l hp hs hl => ?_⟩
      rw [sortI_of hp hs]
      exact fin_lst hk st s (reps_ints _) l hl
  · cases v with | cons v1 v2 => ?_
    cases v2
    obtain ⟨p, us, rfl, g1, r1⟩ := v1.list
    unfold reprD at hz
    split at hz
    · rename_i ok
      cases hz
      obtain ⟨ok, k4⟩ := Bool.and_eq_true_iff.mp ok
      obtain ⟨ok, k3⟩ := Bool.and_eq_true_iff.mp ok
      obtain ⟨k1, k2⟩ := Bool.and_eq_true_iff.mp ok
      rw [Bool.not_eq_true'] at k2
      exact ⟨p, _, rfl, v1.dp, k1, k2, of_decide_eq_true k3, lim_le (of_decide_eq_true k4), fin_d hk st s (.str _)⟩
    · cases hz
  · cases v with | cons v1 v2 => ?_
    cases v2
    obtain ⟨p, us, rfl, g1, r1⟩ := v1.tuple
    unfold reprD at hz
    split at hz
    · rename_i ok
      cases hz
      obtain ⟨ok, k4⟩ := Bool.and_eq_true_iff.mp ok
      obtain ⟨ok, k3⟩ := Bool.and_eq_true_iff.mp ok
      obtain ⟨k1, k2⟩ := Bool.and_eq_true_iff.mp ok
      rw [Bool.not_eq_true'] at k2
      exact ⟨p, _, rfl, v1.dp, k1, k2, of_decide_eq_true k3, lim_le (of_decide_eq_true k4), fin_d hk st s (.str _)⟩
    · cases hz
theorem noStars {es : List Expr} (h : es.all noStar = true) (pos : Pos) (env : Env) : (backTo pos (starEach es env)).any (·.1) = false := by
  induction es with
  | nil => rfl
  | cons e es ih =>
    rw [List.all_cons, Bool.and_eq_true] at h
    rw [noStar_ok h.1]
    show (false || (backTo pos (starEach es env)).any (·.1)) = false
    rw [ih h.2]
    rfl
theorem e_blt {b : B} {x : Str} {p : Pos} {e1 : Expr} (hc : X.calm = true) (hgd : X.A.guards = some []) (hu : X.A.units + 64 < cLine) (hx : x = bltS b) (hb : b ≠ .gcd) (hg : Gl X x) (hm : X.mg x = none) (ha : PA X (e1 :: es) (tEvs X.K CA pr T np W xs)) (hs : (e1 :: es).all noStar = true) :
    PE X (.Call (.Name x p) (e1 :: es) [] pos) (tEv X.K CA pr T np W (.blt b xs)) := by
  have st : noStar e1 = true ∧ es.all noStar = true := by rwa [List.all_cons, Bool.and_eq_true] at hs
  have base : PE X (.Call (.Name x p) (e1 :: es) [] pos) (tCB (bltR X.K b) (tEvs X.K CA pr T np W xs)) := by
    have hcr := cr_blt hc hgd hu b
    subst hx
    cases b with
    | len => exact pe_callB hcr hg hm rfl ha (by decide) (by decide) (noStar_ok st.1 _ _) (noStars st.2 _ _)
    | abs => exact pe_callB hcr hg hm rfl ha (by decide) (by decide) (noStar_ok st.1 _ _) (noStars st.2 _ _)
    | max2 => exact pe_callB hcr hg hm rfl ha (by decide) (by decide) (noStar_ok st.1 _ _) (noStars st.2 _ _)
    | min2 => exact pe_callB hcr hg hm rfl ha (by decide) (by decide) (noStar_ok st.1 _ _) (noStars st.2 _ _)
    | sum => exact pe_callB hcr hg hm rfl ha (by decide) (by decide) (noStar_ok st.1 _ _) (noStars st.2 _ _)
    | all => exact pe_callB hcr hg hm rfl ha (by decide) (by decide) (noStar_ok st.1 _ _) (noStars st.2 _ _)
    | any => exact pe_callB hcr hg hm rfl ha (by decide) (by decide) (noStar_ok st.1 _ _) (noStars st.2 _ _)
    | tuple => exact pe_callTy hcr hg hm rfl ha (by decide) (by decide) (noStar_ok st.1 _ _) (noStars st.2 _ _)
    | list => exact pe_callTy hcr hg hm rfl ha (by decide) (by decide) (noStar_ok st.1 _ _) (noStars st.2 _ _)
    | int => exact pe_callTy hcr hg hm rfl ha (by decide) (by decide) (noStar_ok st.1 _ _) (noStars st.2 _ _)
    | gcd => exact absurd rfl hb
    | minL => exact pe_callB hcr hg hm rfl ha (by decide) (by decide) (noStar_ok st.1 _ _) (noStars st.2 _ _)
    | repr => exact pe_callB hcr hg hm rfl ha (by decide) (by decide) (noStar_ok st.1 _ _) (noStars st.2 _ _)
    | maxL => exact pe_callB hcr hg hm rfl ha (by decide) (by decide) (noStar_ok st.1 _ _) (noStars st.2 _ _)
    | sorted => exact pe_callB hcr hg hm rfl ha (by decide) (by decide) (noStar_ok st.1 _ _) (noStars st.2 _ _)
  refine base.imp fun σ H Q ⟨O, e, s, h⟩ => ⟨O, e, s, (AftE.bind h).mono fun rs O1 H1 e1 st s1 h1 vs rvs => ?_⟩
  obtain ⟨z, hz, h3⟩ := h1.lift
  cases q1 : viewAll e1 rs with
  | none => rw [q1] at hz; cases hz
  | some ds =>
    rw [q1] at hz
    exact blt_ok st s1 (viewAll_ok s1 rvs q1) hz h3
theorem e_gcd {x : Str} {p : Pos} {e1 : Expr} (hc : X.calm = true) (hgd : X.A.guards = some []) (hu : X.A.units + 64 < cLine) (hd : (x == ("__debug__" : Str)) = false) (hg : Gl X x) (hm : X.mg x = some (.builtin "math.gcd")) (ha : PA X (e1 :: es) (tEvs X.K CA pr T np W xs)) (hs : (e1 :: es).all noStar = true) :
    PE X (.Call (.Name x p) (e1 :: es) [] pos) (tEv X.K CA pr T np W (.blt .gcd xs)) := by
  have st : noStar e1 = true ∧ es.all noStar = true := by rwa [List.all_cons, Bool.and_eq_true] at hs
  have base : PE X (.Call (.Name x p) (e1 :: es) [] pos) (tCB (bltR X.K .gcd) (tEvs X.K CA pr T np W xs)) := pe_callBfun (cr_blt hc hgd hu .gcd) hg hm ha hd (noStar_ok st.1 _ _) (noStars st.2 _ _)
  refine base.imp fun σ H Q ⟨O, e, s, h⟩ => ⟨O, e, s, (AftE.bind h).mono fun rs O1 H1 e1 st s1 h1 vs rvs => ?_⟩
  obtain ⟨z, hz, h3⟩ := h1.lift
  cases q1 : viewAll e1 rs with
  | none => rw [q1] at hz; cases hz
  | some ds =>
    rw [q1] at hz
    exact blt_ok st s1 (viewAll_ok s1 rvs q1) hz h3
/-- xs.index(e) -/
theorem e_indx {k : Nat} {a b : P} {b' : Expr} {x : Str} {px ap cp : Pos} (hr : Room k X.A) (ha : PE X (.Name x px) (tEv X.K CA pr T np W a)) (hb : PE X b' (tEv X.K CA pr T np W b)) (hn : noStar b' = true) (hl : (ap.endLine == cp.line) = true) :
    PE X (.Call (.Attribute (.Name x px) "index" ap) [b'] [] cp) (tEv X.K CA pr T np W (.indx a b)) := by
  refine (pe_bm PySem.F.plainAttrs_list PySem.F.slot_list_index PySem.F.type_list_index (mt_indexD (by have := hr.un; omega)) ha (pa_cons hb pa_nil (noStar_ok hn _ _)) rfl ?_ hl (noStar_ok hn _ _) rfl).imp fun σ H Q ⟨O, e, s, h⟩ => ⟨O, e, s, (AftE.bind h).mono fun ra O1 H1 e1 st1 s1 q v rv => ?_⟩
  · rw [noStar_ok hn]
    rfl
  by_cases hi : isL (view e1 ra) = true
  · rw [if_pos hi] at q
    cases q1 : view e1 ra with
    | none => rw [q1] at hi; cases hi
    | some d1 =>
      rw [q1] at hi
      cases d1 <;> first | (cases hi; done) | skip
      obtain ⟨p, us, rfl, g1, r1⟩ := (view_ok s1 rv q1).list
      refine ⟨.inl ⟨rfl, _, .inl g1⟩, O1, e1, s1, (q.bind.from st1).mono fun rb O2 H2 e2 st2 s2 h2 y ry => ?_⟩
      obtain ⟨z, hz, h3⟩ := h2.lift
      cases q3 : view e2 ra with
      | none => rw [q3] at hz; cases hz
      | some dx =>
        rw [q3] at hz
        cases q4 : view e2 rb with
        | none =>
          rw [q4] at hz
          cases hz
        | some dy =>
          rw [q4] at hz
          have vx := view_ok s2 (rv.go st2 s1) q3
          have vy := view_ok s2 ry q4
          have hz' : indD dx dy = some z := hz
          cases dx <;> first | (cases hz'; done) | skip
          rename_i ds
          have hz' : (if okD dy && okD (.list ds) then (ds.findIdx? fun z => PyData.eqv z dy).map fun j => Rs.d (.int (j : Nat)) else none) = some z := hz'
          split at hz'
          · rename_i ok
            rw [Bool.and_eq_true] at ok
            cases hf : ds.findIdx? fun z => PyData.eqv z dy with
            | none => rw [hf] at hz'; cases hz'
            | some j =>
              rw [hf] at hz'
              cases hz'
              obtain ⟨hj, hp, hno⟩ := List.findIdx?_eq_some_iff_getElem.mp hf
              refine ⟨p, y, dy, ds, j, ds[j], rfl, rfl, vx.dp, vy.dp, ok.2, ok.1, List.getElem?_eq_getElem hj, hp, fun m z' hm hz' => ?_, fin_d h3 (st1.trans st2) s2 (.int _)⟩
              have hml : m < ds.length := by omega
              rw [List.getElem?_eq_getElem hml] at hz'
              cases hz'
              exact Bool.eq_false_iff.mpr (hno m hm)
          · cases hz'
  · rw [if_neg hi] at q
    exact q.elim
end
end Snd
end
section
set_option Elab.async false
set_option linter.all false
set_option maxRecDepth 100000
set_option maxHeartbeats 2000000
namespace Snd
open PySem L2 Ev
/-! ### results by their places -/
structure RRx (K : PySem.W.Frag) (O : Own) (σ : St) (H : Hp) (e : FEnv) (H0 : Hp) (vs : List V) (rs : List Rs) : Prop where
  len : vs.length = rs.length
  at_ : ∀ (i : Nat) (r : Rs), rs[i]? = some r → ∃ v, vs[i]? = some v ∧ RR K O σ H e H0 v r
  apart : ∀ (i j : Nat) (c c' : ECell), rs[i]? = some (Rs.fresh c) → rs[j]? = some (Rs.fresh c') → vs[i]? = vs[j]? → i = j
section
variable {K : PySem.W.Frag} {CA : Nat → Addr} {np : Nat} {O O1 : Own} {σ : St} {H H0 H1 : Hp} {e e1 : FEnv}
theorem RRs.x {vs : List V} {rs : List Rs} (h : RRs K O σ H e H0 vs rs) : RRx K O σ H e H0 vs rs where
  len := h.length
  at_ := fun i r q => h.get q
  apart := by
    induction h with
    | nil =>
      intro i j c c' q
      simp at q
    | @cons v vs r rs r1 t n ih =>
      have lt : ∀ {j : Nat} {c' : ECell}, rs[j]? = some (Rs.fresh c') → ∃ w, vs[j]? = some w := fun {j c'} q => by
        obtain ⟨w, hw, _⟩ := t.get q
        exact ⟨w, hw⟩
      intro i j c c' q1 q2 q3
      cases i with
      | zero =>
        cases j with
        | zero => rfl
        | succ j =>
          simp at q1 q2 q3
          exact absurd q3.symm (n c q1 j c' q2)
      | succ i =>
        cases j with
        | zero =>
          simp at q1 q2 q3
          exact absurd q3 (n c' q2 i c q1)
        | succ j =>
          simp at q1 q2 q3
          rw [ih i j c c' q1 q2 q3]
theorem RRx.append {xs ys : List V} {rs qs : List Rs} {Hm : Hp} (h : RRx K O σ H e H0 xs rs) (h2 : RRx K O σ H e Hm ys qs) (th : ∀ a, H0 a ≠ none → Hm a ≠ none) (old : ∀ (i : Nat) (c : ECell) (a : Addr), rs[i]? = some (Rs.fresh c) → xs[i]? = some (V.ref a) → Hm a ≠ none) :
    RRx K O σ H e H0 (xs ++ ys) (rs ++ qs) where
  len := by rw [List.length_append, List.length_append, h.len, h2.len]
  at_ := fun i r q => by
    by_cases hi : i < rs.length
    · rw [List.getElem?_append_left hi] at q
      obtain ⟨v, q1, q2⟩ := h.at_ i r q
      exact ⟨v, by rw [List.getElem?_append_left (by rw [h.len]; exact hi)]; exact q1, q2⟩
    · rw [List.getElem?_append_right (by omega)] at q
      obtain ⟨v, q1, q2⟩ := h2.at_ _ r q
      exact ⟨v, by rw [List.getElem?_append_right (by rw [h.len]; omega), h.len]; exact q1, q2.back th⟩
  apart := fun i j c c' q1 q2 q3 => by
    have two : ∀ (i j : Nat) (c c' : ECell), i < rs.length → ¬ j < rs.length → (rs ++ qs)[i]? = some (Rs.fresh c) → (rs ++ qs)[j]? = some (Rs.fresh c') → (xs ++ ys)[i]? = (xs ++ ys)[j]? → False := fun i j c c' hi hj q1 q2 q3 => by
      rw [List.getElem?_append_left hi] at q1
      rw [List.getElem?_append_right (by omega)] at q2
      rw [List.getElem?_append_left (by rw [h.len]; exact hi), List.getElem?_append_right (by rw [h.len]; omega), h.len] at q3
      obtain ⟨v, g1, a, rfl, g2, g3, g4, g5⟩ := h.at_ i _ q1
      obtain ⟨w, g6, b, rfl, g7, g8, g9, g10⟩ := h2.at_ _ _ q2
      rw [g1, g6] at q3
      cases q3
      exact old i c a q1 g1 g10
    by_cases hi : i < rs.length
    · by_cases hj : j < rs.length
      · rw [List.getElem?_append_left hi] at q1
        rw [List.getElem?_append_left hj] at q2
        rw [List.getElem?_append_left (by rw [h.len]; exact hi), List.getElem?_append_left (by rw [h.len]; exact hj)] at q3
        exact h.apart i j c c' q1 q2 q3
      · exact (two i j c c' hi hj q1 q2 q3).elim
    · by_cases hj : j < rs.length
      · exact (two j i c' c hj hi q2 q1 q3.symm).elim
      · rw [List.getElem?_append_right (by omega)] at q1 q2
        rw [List.getElem?_append_right (by rw [h.len]; omega), List.getElem?_append_right (by rw [h.len]; omega), h.len] at q3
        have := h2.apart _ _ c c' q1 q2 q3
        omega
/-- by a row of places -/
theorem pick_get {α : Type} {l : List α} : ∀ {perm : List Nat}, (∀ j ∈ perm, j < l.length) → ∀ i : Nat, (pick l perm)[i]? = perm[i]?.bind fun j => l[j]?
  | [], _, i => by simp [pick]
  | j :: perm, h, i => by
    have hj : j < l.length := h j List.mem_cons_self
    have e : pick l (j :: perm) = l[j] :: pick l perm := by
      unfold pick
      rw [List.filterMap_cons, List.getElem?_eq_getElem hj]
    rw [e]
    cases i with
    | zero => simp [hj]
    | succ i =>
      rw [List.getElem?_cons_succ, List.getElem?_cons_succ]
      exact pick_get (fun k hk => h k (List.mem_cons_of_mem _ hk)) i
theorem pick_len {α : Type} {l : List α} : ∀ {perm : List Nat}, (∀ j ∈ perm, j < l.length) → (pick l perm).length = perm.length
  | [], _ => rfl
  | j :: perm, h => by
    have hj : j < l.length := h j List.mem_cons_self
    unfold pick
    rw [List.filterMap_cons, List.getElem?_eq_getElem hj]
    show (pick l perm).length + 1 = _
    rw [pick_len fun k hk => h k (List.mem_cons_of_mem _ hk)]
    rfl
theorem RRx.pick {vs : List V} {rs : List Rs} {perm : List Nat} (h : RRx K O σ H e H0 vs rs) (hp : ∀ j ∈ perm, j < rs.length) (nd : perm.Nodup) : RRx K O σ H e H0 (pick vs perm) (pick rs perm) := by
  have hv : ∀ j ∈ perm, j < vs.length := fun j hj => by rw [h.len]; exact hp j hj
  have inv : ∀ {i : Nat} {r : Rs}, (Snd.pick rs perm)[i]? = some r → ∃ j, perm[i]? = some j ∧ rs[j]? = some r := fun {i r} q => by
    rw [pick_get hp] at q
    cases hq : perm[i]? with
    | none => rw [hq] at q; cases q
    | some j =>
      rw [hq] at q
      exact ⟨j, rfl, q⟩
  refine ⟨by rw [pick_len hv, pick_len hp], fun i r q => ?_, fun i j c c' q1 q2 q3 => ?_⟩
  · obtain ⟨j, h1, h2⟩ := inv q
    obtain ⟨v, h3, h4⟩ := h.at_ j r h2
    exact ⟨v, by rw [pick_get hv, h1]; exact h3, h4⟩
  · obtain ⟨a, h1, h2⟩ := inv q1
    obtain ⟨b, h3, h4⟩ := inv q2
    rw [pick_get hv, pick_get hv, h1, h3] at q3
    have e : a = b := h.apart a b c c' h2 h4 q3
    subst e
    have hi : i < perm.length := (List.getElem?_eq_some_iff.mp h1).1
    exact (List.getElem?_inj hi nd).mp (h1.trans h3.symm)
/-! ### what is handed over -/
theorem mkArgs_get : ∀ {rs : List Rs} {as : List EArg}, mkArgs e rs = some as → rs.length = as.length ∧ ∀ (i : Nat) (r : Rs), rs[i]? = some r → ∃ x, as[i]? = some x ∧ mkArg e r = some x
  | [], as, h => by
    cases h
    exact ⟨rfl, fun i r q => by simp at q⟩
  | r :: rs, as, h => by
    have h' : ((mkArg e r).bind fun a => (mkArgs e rs).map (a :: ·)) = some as := h
    cases q1 : mkArg e r with
    | none => rw [q1] at h'; cases h'
    | some a =>
      rw [q1] at h'
      cases q2 : mkArgs e rs with
      | none => rw [q2] at h'; cases h'
      | some as' =>
        rw [q2] at h'
        cases h'
        obtain ⟨l, g⟩ := mkArgs_get q2
        refine ⟨by rw [List.length_cons, List.length_cons, l], fun i r' q => ?_⟩
        cases i with
        | zero =>
          simp at q
          subst q
          exact ⟨a, rfl, q1⟩
        | succ i => exact g i r' (by simpa using q)
theorem lent_mem {j : Nat} : ∀ {rs : List Rs} {i : Nat}, rs[i]? = some (Rs.slot j) → isOwn (gt e j) = true → j ∈ lent e rs
  | [], i, h, _ => by simp at h
  | r :: rs, 0, h, o => by
    simp at h
    subst h
    show j ∈ (if isOwn (gt e j) then j :: lent e rs else lent e rs)
    rw [if_pos o]
    exact List.mem_cons_self
  | r :: rs, i + 1, h, o => by
    have w : j ∈ lent e rs := lent_mem (by simpa using h) o
    cases r with
    | d x => exact w
    | fresh c => exact w
    | slot k =>
      show j ∈ (if isOwn (gt e k) then k :: lent e rs else lent e rs)
      split
      · exact List.mem_cons_of_mem _ w
      · exact w
theorem nodupB_cons {i : Nat} {r : List Nat} (h : nodupB (i :: r) = true) : i ∉ r ∧ nodupB r = true := by
  have h' : (!r.contains i && nodupB r) = true := h
  rw [Bool.and_eq_true, Bool.not_eq_true'] at h'
  exact ⟨fun z => (by rw [List.contains_iff_mem.mpr z] at h'; exact absurd h'.1 (by decide)), h'.2⟩
theorem lent_once {k : Nat} (o : isOwn (gt e k) = true) : ∀ {rs : List Rs} {i j : Nat}, nodupB (lent e rs) = true → rs[i]? = some (Rs.slot k) → rs[j]? = some (Rs.slot k) → i = j
  | [], i, j, _, h, _ => by simp at h
  | r :: rs, i, j, nd, h1, h2 => by
    have tl : nodupB (lent e rs) = true ∧ (r = .slot k → k ∉ lent e rs) := by
      cases r with
      | d x => exact ⟨nd, fun z => nomatch z⟩
      | fresh c => exact ⟨nd, fun z => nomatch z⟩
      | slot m =>
        have nd' : nodupB (if isOwn (gt e m) then m :: lent e rs else lent e rs) = true := nd
        by_cases hm : isOwn (gt e m) = true
        · rw [if_pos hm] at nd'
          obtain ⟨n1, n2⟩ := nodupB_cons nd'
          exact ⟨n2, fun z => by cases z; exact n1⟩
        · rw [if_neg hm] at nd'
          exact ⟨nd', fun z => by cases z; exact absurd o hm⟩
    cases i with
    | zero =>
      simp at h1
      cases j with
      | zero => rfl
      | succ j => exact absurd (lent_mem (by simpa using h2) o) (tl.2 h1)
    | succ i =>
      cases j with
      | zero =>
        simp at h2
        exact absurd (lent_mem (by simpa using h1) o) (tl.2 h2)
      | succ j =>
        have w : i = j := lent_once o tl.1 (show rs[i]? = some (Rs.slot k) by simpa using h1) (show rs[j]? = some (Rs.slot k) by simpa using h2)
        rw [w]
/-- an argument of one's own, where it stands -/
theorem own_arg {vs : List V} {rs : List Rs} {as : List EArg} (s : SR K O σ H e) (h : RRx K O σ H e H0 vs rs) (m : mkArgs e rs = some as) {i : Nat} {c : ECell} (q : as[i]? = some (EArg.own c)) :
    ∃ a, vs[i]? = some (V.ref a) ∧ O a ∧ CellR K O H a c ∧ ((rs[i]? = some (Rs.fresh c) ∧ ¬ Mine σ e a ∧ H0 a = none) ∨ ∃ j, rs[i]? = some (Rs.slot j) ∧ gt e j = .own c ∧ σ[j]? = some (some (V.ref a))) := by
  obtain ⟨l, g⟩ := mkArgs_get m
  have hi : i < rs.length := by
    rw [l]
    exact (List.getElem?_eq_some_iff.mp q).1
  obtain ⟨x, h1, h2⟩ := g i rs[i] (List.getElem?_eq_getElem hi)
  rw [q] at h1
  cases h1
  obtain ⟨v, hv, rv⟩ := h.at_ i rs[i] (List.getElem?_eq_getElem hi)
  have hr : rs[i]? = some rs[i] := List.getElem?_eq_getElem hi
  generalize rs[i] = r at h2 rv hr
  cases r with
  | d x => cases h2
  | fresh c' =>
    cases h2
    obtain ⟨a, rfl, g2, g3, g4, g5⟩ := rv
    exact ⟨a, hv, g2, g3, .inl ⟨hr, g4, g5⟩⟩
  | slot j =>
    have h2' : (match gt e j with | .own c => some (EArg.own c) | .val d => some (.d d) | _ => none) = some (EArg.own c) := h2
    cases gj : gt e j with
    | emp => rw [gj] at h2'; cases h2'
    | val d => rw [gj] at h2'; cases h2'
    | exc c d => rw [gj] at h2'; cases h2'
    | own c' =>
      rw [gj] at h2'
      cases h2'
      obtain ⟨a, g1, g2, g3, g4⟩ := s.own gj
      have rv' : σ[j]? = some (some v) := rv
      rw [g1] at rv'
      cases rv'
      exact ⟨a, hv, g2, g3, .inr ⟨j, hr, gj, g1⟩⟩
theorem args_ok {vs : List V} {rs : List Rs} {as : List EArg} (s : SR K O σ H e) (h : RRx K O σ H e H0 vs rs) (m : mkArgs e rs = some as) (nd : nodupB (lent e rs) = true) : ArgsR K O H vs as where
  len := h.len.trans (mkArgs_get m).1
  d := fun i x q => by
    obtain ⟨l, g⟩ := mkArgs_get m
    have hi : i < rs.length := by
      rw [l]
      exact (List.getElem?_eq_some_iff.mp q).1
    obtain ⟨y, h1, h2⟩ := g i rs[i] (List.getElem?_eq_getElem hi)
    rw [q] at h1
    cases h1
    obtain ⟨v, hv, rv⟩ := h.at_ i rs[i] (List.getElem?_eq_getElem hi)
    generalize rs[i] = r at h2 rv
    refine ⟨v, hv, ?_⟩
    cases r with
    | d y =>
      cases h2
      exact rv
    | fresh c => cases h2
    | slot j =>
      have h2' : (match gt e j with | .own c => some (EArg.own c) | .val d => some (.d d) | _ => none) = some (EArg.d x) := h2
      cases gj : gt e j with
      | emp => rw [gj] at h2'; cases h2'
      | own c => rw [gj] at h2'; cases h2'
      | exc c d => rw [gj] at h2'; cases h2'
      | val d =>
        rw [gj] at h2'
        cases h2'
        obtain ⟨w, g1, g2⟩ := s.val gj
        have rv' : σ[j]? = some (some v) := rv
        rw [g1] at rv'
        cases rv'
        exact g2
  own := fun i c q => by
    obtain ⟨a, h1, h2, h3, _⟩ := own_arg s h m q
    exact ⟨a, h1, h2, h3⟩
  apart := fun i j c c' q1 q2 q3 => by
    obtain ⟨a, h1, h2, h3, h4⟩ := own_arg s h m q1
    obtain ⟨b, g1, g2, g3, g4⟩ := own_arg s h m q2
    rw [h1, g1] at q3
    cases q3
    rcases h4 with ⟨h4, h5, h6⟩ | ⟨k, h4, h5, h6⟩
    · rcases g4 with ⟨g4, g5, g6⟩ | ⟨k, g4, g5, g6⟩
      · exact h.apart i j c c' h4 g4 (by rw [h1, g1])
      · exact absurd ⟨k, c', get_some g5 (fun z => nomatch z), g6⟩ h5
    · rcases g4 with ⟨g4, g5, g6⟩ | ⟨k2, g4, g5, g6⟩
      · exact absurd ⟨k, c, get_some h5 (fun z => nomatch z), h6⟩ g5
      · have e : k = k2 := s.inj k k2 c c' a (get_some h5 (fun z => nomatch z)) (get_some g5 (fun z => nomatch z)) h6 g6
        subst e
        exact lent_once (by rw [h5]; rfl) nd h4 g4
end
end Snd
end
section
set_option Elab.async false
set_option linter.all false
set_option maxRecDepth 100000
set_option maxHeartbeats 2000000
namespace Snd
open PySem L2 Ev
section
variable {K : PySem.W.Frag} {CA : Nat → Addr} {np : Nat} {O O1 : Own} {σ : St} {H H0 H1 : Hp} {e e1 : FEnv}
theorem gt_set {i j : Nat} {s : Plc} : gt (e.set i s) j = if i = j ∧ i < e.length then s else gt e j := by
  unfold gt
  rw [List.getD_eq_getElem?_getD, List.getD_eq_getElem?_getD, List.getElem?_set]
  by_cases h : i = j
  · subst h
    rw [if_pos rfl]
    by_cases hl : i < e.length
    · rw [if_pos hl, if_pos ⟨rfl, hl⟩]
      rfl
    · rw [if_neg hl, if_neg (fun z => hl z.2), List.getElem?_eq_none (by omega)]
  · rw [if_neg h, if_neg (fun z => h z.1)]
theorem own_lt {j : Nat} (o : isOwn (gt e j) = true) : j < e.length := by
  by_cases h : j < e.length
  · exact h
  · unfold gt at o
    rw [List.getD_eq_getElem?_getD, List.getElem?_eq_none (by omega)] at o
    cases o
/-- what comes back: own places change, and nothing else -/
theorem back_len : ∀ {rs : List Rs} {fin : List (Option ECell)} {e : FEnv}, (back e rs fin).length = e.length
  | [], fin, e => by cases fin <;> rfl
  | r :: rs, [], e => by cases r <;> rfl
  | .d x :: rs, c :: fin, e => back_len (rs := rs) (fin := fin) (e := e)
  | .fresh x :: rs, c :: fin, e => back_len (rs := rs) (fin := fin) (e := e)
  | .slot i :: rs, none :: fin, e => back_len (rs := rs) (fin := fin) (e := e)
  | .slot i :: rs, some c :: fin, e => by
    show (back (if isOwn (gt e i) then e.set i (.own c) else e) rs fin).length = e.length
    rw [back_len]
    split
    · rw [List.length_set]
    · rfl
theorem back_gt {j : Nat} : ∀ {rs : List Rs} {fin : List (Option ECell)} {e : FEnv}, (isOwn (gt e j) = false → gt (back e rs fin) j = gt e j) ∧ (isOwn (gt e j) = true → ((∀ i : Nat, rs[i]? ≠ some (Rs.slot j)) → gt (back e rs fin) j = gt e j) ∧ ∃ c, gt (back e rs fin) j = .own c)
  | [], fin, e => by
    have q : back e [] fin = e := by cases fin <;> rfl
    rw [q]
    refine ⟨fun _ => rfl, fun o => ⟨fun _ => rfl, ?_⟩⟩
    cases g : gt e j with
    | own c => exact ⟨c, rfl⟩
    | emp => rw [g] at o; cases o
    | val d => rw [g] at o; cases o
    | exc c d => rw [g] at o; cases o
  | r :: rs, [], e => by
    have q : back e (r :: rs) [] = e := by cases r <;> rfl
    rw [q]
    refine ⟨fun _ => rfl, fun o => ⟨fun _ => rfl, ?_⟩⟩
    cases g : gt e j with
    | own c => exact ⟨c, rfl⟩
    | emp => rw [g] at o; cases o
    | val d => rw [g] at o; cases o
    | exc c d => rw [g] at o; cases o
  | .d x :: rs, c :: fin, e => by
    obtain ⟨h1, h2⟩ := back_gt (j := j) (rs := rs) (fin := fin) (e := e)
    exact ⟨h1, fun o => ⟨fun n => (h2 o).1 fun i z => n (i + 1) (by simpa using z), (h2 o).2⟩⟩
  | .fresh x :: rs, c :: fin, e => by
    obtain ⟨h1, h2⟩ := back_gt (j := j) (rs := rs) (fin := fin) (e := e)
    exact ⟨h1, fun o => ⟨fun n => (h2 o).1 fun i z => n (i + 1) (by simpa using z), (h2 o).2⟩⟩
  | .slot k :: rs, none :: fin, e => by
    obtain ⟨h1, h2⟩ := back_gt (j := j) (rs := rs) (fin := fin) (e := e)
    exact ⟨h1, fun o => ⟨fun n => (h2 o).1 fun i z => n (i + 1) (by simpa using z), (h2 o).2⟩⟩
  | .slot k :: rs, some c :: fin, e => by
    show (isOwn (gt e j) = false → gt (back (if isOwn (gt e k) then e.set k (.own c) else e) rs fin) j = gt e j) ∧ (isOwn (gt e j) = true → ((∀ i : Nat, (Rs.slot k :: rs)[i]? ≠ some (Rs.slot j)) → gt (back (if isOwn (gt e k) then e.set k (.own c) else e) rs fin) j = gt e j) ∧ ∃ c', gt (back (if isOwn (gt e k) then e.set k (.own c) else e) rs fin) j = .own c')
    by_cases ok : isOwn (gt e k) = true
    · rw [if_pos ok]
      obtain ⟨h1, h2⟩ := back_gt (j := j) (rs := rs) (fin := fin) (e := e.set k (.own c))
      by_cases hk : k = j
      · subst hk
        have g : gt (e.set k (.own c)) k = .own c := by rw [gt_set, if_pos ⟨rfl, own_lt ok⟩]
        rw [g] at h2
        exact ⟨fun z => (by rw [ok] at z; cases z), fun _ => ⟨fun n => absurd rfl (n 0), (h2 rfl).2⟩⟩
      · have g : gt (e.set k (.own c)) j = gt e j := by rw [gt_set, if_neg fun z => hk z.1]
        rw [g] at h1 h2
        exact ⟨h1, fun o => ⟨fun n => (h2 o).1 fun i z => n (i + 1) (by simpa using z), (h2 o).2⟩⟩
    · rw [if_neg ok]
      obtain ⟨h1, h2⟩ := back_gt (j := j) (rs := rs) (fin := fin) (e := e)
      exact ⟨h1, fun o => ⟨fun n => (h2 o).1 fun i z => n (i + 1) (by simpa using z), (h2 o).2⟩⟩
/-- a place that is lent once holds what comes back -/
theorem back_at {j : Nat} {c : ECell} : ∀ {rs : List Rs} {fin : List (Option ECell)} {e : FEnv} {i : Nat}, isOwn (gt e j) = true → nodupB (lent e rs) = true → rs[i]? = some (Rs.slot j) → fin[i]? = some (some c) → gt (back e rs fin) j = .own c
  | [], fin, e, i, _, _, h, _ => by simp at h
  | r :: rs, [], e, i, _, _, _, h => by simp at h
  | r :: rs, f :: fin, e, 0, o, nd, h, hf => by
    simp at h hf
    subst h hf
    have nd' : nodupB (if isOwn (gt e j) then j :: lent e rs else lent e rs) = true := nd
    rw [if_pos o] at nd'
    obtain ⟨n1, n2⟩ := nodupB_cons nd'
    show gt (back (if isOwn (gt e j) then e.set j (.own c) else e) rs fin) j = .own c
    rw [if_pos o]
    have g : gt (e.set j (.own c)) j = .own c := by rw [gt_set, if_pos ⟨rfl, own_lt o⟩]
    rw [(((back_gt (j := j) (rs := rs) (fin := fin) (e := e.set j (.own c))).2 (by rw [g]; rfl)).1 fun m z => n1 (lent_mem z o)), g]
  | r :: rs, f :: fin, e, i + 1, o, nd, h, hf => by
    have h' : rs[i]? = some (Rs.slot j) := by simpa using h
    have hf' : fin[i]? = some (some c) := by simpa using hf
    cases r with
    | d x => exact back_at (rs := rs) (fin := fin) o nd h' hf'
    | fresh x => exact back_at (rs := rs) (fin := fin) o nd h' hf'
    | slot k =>
      have nd' : nodupB (if isOwn (gt e k) then k :: lent e rs else lent e rs) = true := nd
      cases f with
      | none =>
        refine back_at (rs := rs) (fin := fin) o ?_ h' hf'
        by_cases ok : isOwn (gt e k) = true
        · rw [if_pos ok] at nd'
          exact (nodupB_cons nd').2
        · rwa [if_neg ok] at nd'
      | some c' =>
        show gt (back (if isOwn (gt e k) then e.set k (.own c') else e) rs fin) j = .own c
        by_cases ok : isOwn (gt e k) = true
        · rw [if_pos ok] at nd' ⊢
          obtain ⟨n1, n2⟩ := nodupB_cons nd'
          have hk : k ≠ j := fun z => by
            subst z
            exact n1 (lent_mem h' ok)
          have same : ∀ q : List Rs, lent (e.set k (.own c')) q = lent e q := by
            intro q
            induction q with
            | nil => rfl
            | cons r q ih =>
              cases r with
              | d x => exact ih
              | fresh x => exact ih
              | slot m =>
                show (if isOwn (gt (e.set k (.own c')) m) then m :: lent (e.set k (.own c')) q else lent (e.set k (.own c')) q) = (if isOwn (gt e m) then m :: lent e q else lent e q)
                have : isOwn (gt (e.set k (.own c')) m) = isOwn (gt e m) := by
                  rw [gt_set]
                  split
                  · rename_i z
                    rw [← z.1, ok]
                    rfl
                  · rfl
                rw [ih, this]
          refine back_at (rs := rs) (fin := fin) ?_ ?_ h' hf'
          · rw [gt_set, if_neg fun z => hk z.1]
            exact o
          · rw [same]
            exact n2
        · rw [if_neg ok] at nd' ⊢
          exact back_at (rs := rs) (fin := fin) o nd' h' hf'
theorem gt_get {j : Nat} {s : Plc} (h : e[j]? = some s) : gt e j = s := by
  unfold gt
  rw [List.getD_eq_getElem?_getD, h]
  rfl
/-- the state behind a call -/
theorem call_back {Os : Own} {Hs : Hp} {es : FEnv} {vs : List V} {rs : List Rs} {as : List EArg} {fin : List (Option ECell)} (st : Stp np Os σ Hs es O σ H e) (s : SR K O σ H e) (h : RRx K O σ H e Hs vs rs) (m : mkArgs e rs = some as) (nd : nodupB (lent e rs) = true)
    (b : Back K O H vs as fin O1 H1) : Stp np Os σ Hs es O1 σ H1 (back e rs fin) ∧ SR K O1 σ H1 (back e rs fin) ∧ ∀ a, Mine σ (back e rs fin) a → Mine σ e a := by
  have mono : ∀ a, Mine σ (back e rs fin) a → Mine σ e a := fun a ⟨j, c, h1, h2⟩ => by
    have g := gt_get h1
    obtain ⟨b1, b2⟩ := back_gt (j := j) (rs := rs) (fin := fin) (e := e)
    cases o : isOwn (gt e j) with
    | false =>
      rw [b1 o] at g
      rw [g] at o
      cases o
    | true =>
      cases q : gt e j with
      | own c' => exact ⟨j, c', get_some q (fun z => nomatch z), h2⟩
      | emp => rw [q] at o; cases o
      | val d => rw [q] at o; cases o
      | exc c d => rw [q] at o; cases o
  -- no argument of one's own stands at a
  have other : ∀ a, (∃ o, Hs a = some o) → ¬ Mine σ e a → ¬ MineA vs as a := fun a ⟨o, ho⟩ hn ⟨i, c, q1, q2⟩ => by
    obtain ⟨a', h1, h2, h3, h4⟩ := own_arg s h m q1
    rw [q2] at h1
    cases h1
    rcases h4 with ⟨_, _, h5⟩ | ⟨j, _, h5, h6⟩
    · rw [ho] at h5
      cases h5
    · exact hn ⟨j, c, get_some h5 (fun z => nomatch z), h6⟩
  have notO : ∀ a, ¬ O a → ¬ MineA vs as a := fun a hn ⟨i, c, q1, q2⟩ => by
    obtain ⟨a', h1, h2, _⟩ := own_arg s h m q1
    rw [q2] at h1
    cases h1
    exact hn h2
  have rd : (∀ a xs, Rd H a (.lst xs) → ¬ O a → Rd H1 a (.lst xs) ∧ ¬ O1 a) ∧ (∀ a xs, SqT K H a xs → SqT K H1 a xs) := by
    refine ⟨fun a xs r n => ?_, fun a xs r => ?_⟩
    · rcases r with r | ⟨o, r⟩
      · obtain ⟨k1, k2⟩ := b.keep a _ r (notO a n)
        exact ⟨.inl k1, fun z => n (k2.mp z)⟩
      · obtain ⟨k1, k2⟩ := b.keep a _ r (notO a n)
        exact ⟨.inr ⟨o, k1⟩, fun z => n (k2.mp z)⟩
    · have nt : ∀ {o : HO}, H a = some o → (∀ vs, o ≠ .lst vs) → ¬ MineA vs as a := fun ho n ⟨i, c, q1, q2⟩ => by
        obtain ⟨a', h1, h2, h3, _⟩ := own_arg s h m q1
        rw [q2] at h1
        cases h1
        cases c with
        | lst ds =>
          obtain ⟨ws, h5, _⟩ := h3
          rw [ho] at h5
          exact n ws (Option.some.inj h5)
      rcases r with (r | ⟨o, r⟩) | r
      · exact .inl (.inl (b.keep a _ r (nt r fun vs z => nomatch z)).1)
      · exact .inl (.inr ⟨o, (b.keep a _ r (nt r fun vs z => nomatch z)).1⟩)
      · exact .inr r
  refine ⟨⟨fun a o ho hn => ?_, fun a ha => b.there a (st.there a ha), fun i c hi hc => ?_⟩, ⟨by rw [back_len]; exact s.len, fun i p hp => ?_, fun i j c c' a q1 q2 q3 q4 => ?_⟩, mono⟩
  · obtain ⟨k1, k2, k3⟩ := st.keep a o ho hn
    obtain ⟨l1, l2⟩ := b.keep a o k1 (other a ⟨o, ho⟩ k3)
    exact ⟨l1, l2.trans k2, fun z => k3 (mono a z)⟩
  · obtain ⟨c', h1, h2⟩ := st.par i c hi hc
    obtain ⟨_, b2⟩ := back_gt (j := i) (rs := rs) (fin := fin) (e := e)
    obtain ⟨_, c'', g⟩ := b2 (by rw [gt_get h1]; rfl)
    exact ⟨c'', get_some g (fun z => nomatch z), rfl⟩
  · have hl : i < e.length := by
      have := (List.getElem?_eq_some_iff.mp hp).1
      rwa [back_len] at this
    have he : e[i]? = some e[i] := List.getElem?_eq_getElem hl
    obtain ⟨o, h1, h2⟩ := s.at_ i _ he
    have g := gt_get hp
    have g0 := gt_get he
    generalize e[i] = p0 at he h2 g0
    obtain ⟨b1, b2⟩ := back_gt (j := i) (rs := rs) (fin := fin) (e := e)
    refine ⟨o, h1, ?_⟩
    cases p0 with
    | emp =>
      rw [b1 (by rw [g0]; rfl), g0] at g
      subst g
      exact h2
    | exc c d =>
      rw [b1 (by rw [g0]; rfl), g0] at g
      subst g
      exact h2
    | val d =>
      rw [b1 (by rw [g0]; rfl), g0] at g
      subst g
      obtain ⟨v, h3, h4⟩ := h2
      exact ⟨v, h3, Rep.go rd.1 rd.2 d v h4⟩
    | own c =>
      have ow : isOwn (gt e i) = true := by rw [g0]; rfl
      obtain ⟨a, h3, h4, h5⟩ := h2
      by_cases hx : ∃ k : Nat, rs[k]? = some (Rs.slot i)
      · obtain ⟨k, hk⟩ := hx
        obtain ⟨_, ga⟩ := mkArgs_get m
        obtain ⟨x, q1, q2⟩ := ga k _ hk
        have q2' : (match gt e i with | .own c => some (EArg.own c) | .val d => some (.d d) | _ => none) = some x := q2
        rw [g0] at q2'
        cases q2'
        obtain ⟨a', c', r1, r2, r3, r4⟩ := b.fin k c q1
        rw [back_at ow nd hk r2] at g
        subst g
        obtain ⟨v, r5, r6⟩ := h.at_ k _ hk
        rw [r1] at r5
        cases r5
        have r6' : σ[i]? = some (some (V.ref a')) := r6
        rw [h1, h3] at r6'
        cases r6'
        exact ⟨a, h3, r3, r4⟩
      · rw [(b2 ow).1 fun k z => hx ⟨k, z⟩, g0] at g
        subst g
        have na : ¬ MineA vs as a := fun ⟨k, c', q1, q2⟩ => by
          obtain ⟨a', r1, r2, r3, r4⟩ := own_arg s h m q1
          rw [q2] at r1
          cases r1
          rcases r4 with ⟨_, r5, _⟩ | ⟨j, r5, r6, r7⟩
          · exact r5 ⟨i, c, he, by rw [h1, h3]⟩
          · have ij : i = j := s.inj i j c c' a he (get_some r6 (fun z => nomatch z)) (by rw [h1, h3]) r7
            subst ij
            exact hx ⟨k, r5⟩
        cases c with
        | lst ds =>
          obtain ⟨ws, w1, w2⟩ := h5
          obtain ⟨k1, k2⟩ := b.keep a _ w1 na
          exact ⟨a, h3, k2.mpr h4, ws, k1, RepAll.go rd.1 rd.2 ds ws w2⟩
  · have pre : ∀ {i : Nat} {c : ECell}, (back e rs fin)[i]? = some (Plc.own c) → ∃ c0, e[i]? = some (Plc.own c0) := fun {i c} q => by
      have g := gt_get q
      obtain ⟨b1, _⟩ := back_gt (j := i) (rs := rs) (fin := fin) (e := e)
      cases o : isOwn (gt e i) with
      | false =>
        rw [b1 o] at g
        rw [g] at o
        cases o
      | true =>
        cases q : gt e i with
        | own c' => exact ⟨c', get_some q (fun z => nomatch z)⟩
        | emp => rw [q] at o; cases o
        | val d => rw [q] at o; cases o
        | exc c d => rw [q] at o; cases o
    obtain ⟨c0, g1⟩ := pre q1
    obtain ⟨c1, g2⟩ := pre q2
    exact s.inj i j c0 c1 a g1 g2 q3 q4
end
section
variable {X : Cx} {CA : Nat → Addr} {pr : EProg} {T : FT} {np : Nat} {W : WX} {xs ks : Ps} {es : List Expr}
/-- a call, from its arguments -/
theorem call_ok {O0 O : Own} {σ : St} {H0 H : Hp} {e0 e : FEnv} {vs : List V} {rs : List Rs} {f n : Nat} {Q : VK} (st : Stp np O0 σ H0 e0 O σ H e) (s : SR X.K O σ H e) (h : RRx X.K O σ H e H0 vs rs) (hn : vs.length = n)
    (hk : AftE X.K CA np W O0 σ H0 e0 (callF T f rs e) fun r O' H' e' => ∀ v, RR X.K O' σ H' e' H0 v r → Q v H') : spT X.K CA T f n vs H Q (WE W σ) := by
  unfold callF at hk
  cases m : mkArgs e rs with
  | none => rw [m] at hk; exact hk.elim
  | some as =>
    rw [m] at hk
    have hk' : AftE X.K CA np W O0 σ H0 e0 (if nodupB (lent e rs) = true then (match T f as with | .ok r fin => .ok r (back e rs fin) | .err c v fin => .err c v (back e rs fin) | .stuck => .stuck) else .stuck) fun r O' H' e' => ∀ v, RR X.K O' σ H' e' H0 v r → Q v H' := hk
    by_cases nd : nodupB (lent e rs) = true
    · rw [if_pos nd] at hk'
      refine ⟨O, as, hn, args_ok s h m nd, ?_⟩
      cases t : T f as with
      | stuck => rw [t] at hk'; exact hk'.elim
      | ok r fin =>
        rw [t] at hk'
        intro O' H' v b rv
        obtain ⟨st1, s1, m1⟩ := call_back st s h m nd b
        refine hk' O' H' st1 s1 v ?_
        cases r with
        | d x => exact rv
        | slot i => exact rv.elim
        | fresh c =>
          obtain ⟨a, h1, h2, h3, h4⟩ := rv
          refine ⟨a, h1, h2, h3, fun z => ?_, ?_⟩
          · obtain ⟨_, ws, q⟩ := s.mine_own (m1 a z)
            rw [h4] at q
            cases q
          · cases q : H0 a with
            | none => rfl
            | some o => exact absurd h4 (st.there a (by rw [q]; exact fun z => nomatch z))
      | err c d fin =>
        rw [t] at hk'
        intro O' H' cls dd b ex
        obtain ⟨st1, s1, m1⟩ := call_back st s h m nd b
        exact hk' O' H' cls dd st1 s1 ex
    · rw [if_neg nd] at hk'
      exact hk'.elim
variable {tb : Tab} {k : Nat} {N : List Str} {sc fs : Scope}
/-- f(e, ..) -/
theorem e_call {f : Nat} {x : Str} {ps : List Str} {p pos : Pos} {e1 : Expr} (G : Good tb pr T CA k N sc fs X) (tk : Takes X W) (hf : tb.fn[f]? = some (x, ps)) (hg : Gl X x) (hd : (x == ("__debug__" : Str)) = false) (hl : psLen xs = ps.length)
    (ha : PA X (e1 :: es) (tEvs X.K CA pr T np W xs)) (hs : (e1 :: es).all noStar = true) : PE X (.Call (.Name x p) (e1 :: es) [] pos) (tEv X.K CA pr T np W (.call f xs .nil [])) := by
  obtain ⟨a, fd, h1, h2, F, hb, _⟩ := G.glo.funs f x ps hf
  have sn : noStar e1 = true ∧ es.all noStar = true := by rwa [List.all_cons, Bool.and_eq_true] at hs
  refine (pe_callG F G.room G.gd hg h1 h2 hb (passAt tk) ha hd (noStar_ok sn.1 _ _) (noStars sn.2 _ _)).imp fun σ H Q ⟨O, e, s, h⟩ => ⟨O, e, s, (AftE.bind h).eqn.mono fun rs O1 H1 e1 st s1 ⟨q0, q⟩ vs rvs => ?_⟩
  have q' : AftE X.K CA np W O σ H e (callF T f (permute (rs ++ []) []) e1) fun r O' H' e' => ∀ v, RR X.K O' σ H' e' H v r → Q v H' := q
  have e2 : permute (rs ++ []) [] = rs := by
    show rs ++ [] = rs
    rw [List.append_nil]
  rw [e2] at q'
  exact call_ok st s1 rvs.x (by rw [rvs.length, evs_len q0, hl]) q'
end
end Snd
end
section
set_option Elab.async false
set_option linter.all false
set_option maxRecDepth 100000
set_option maxHeartbeats 2000000
namespace Snd
open PySem L2 Ev
theorem pick_rel : ∀ {perm : List Nat} {vs : List V} {us : List Value}, Vals vs us → (∀ j ∈ perm, j < vs.length) → Vals (pick vs perm) (pick us perm)
  | [], vs, us, r, h => .nil
  | j :: perm, vs, us, r, h => by
    have hj := h j List.mem_cons_self
    have hl := r.length
    have e1 : pick vs (j :: perm) = vs[j] :: pick vs perm := by
      unfold pick
      rw [List.filterMap_cons, List.getElem?_eq_getElem hj]
    have e2 : pick us (j :: perm) = us[j] :: pick us perm := by
      unfold pick
      rw [List.filterMap_cons, List.getElem?_eq_getElem (by omega)]
    rw [e1, e2]
    refine .cons ?_ (pick_rel r fun k hk => h k (List.mem_cons_of_mem _ hk))
    have at_ : ∀ {vs : List V} {us : List Value} (r : Vals vs us) (j : Nat) (h1 : j < vs.length) (h2 : j < us.length), RelV vs[j] us[j] := by
      intro vs us r
      induction r with
      | nil => intro j h1; exact absurd h1 (Nat.not_lt_zero _)
      | cons q t ih =>
        intro j h1 h2
        cases j with
        | zero => exact q
        | succ j => exact ih j (by simpa using h1) (by simpa using h2)
    exact at_ r j hj (by omega)
section
variable {X : Cx} {CX : CXT} {k : Nat} {f : Addr} {fd : FuncData} {ps ks : List Str} {perm : List Nat} {sp : Sp} {E : St → XK} {x : Str} {p pos : Pos} {e : Expr} {es : List Expr} {kws : List Keyword} {t tk : TA} {m : Nat}
/-- a call with keywords, whose exception is told at the slots -/
theorem run_kwS {pins : List (Addr × Obj)} {σ : St} {H : Hp} {s : Shared} {Q : VK} {us ws : List Value} {vs zs : List V} (F : FnG X.prog X.w X.K X.mg X.base CX k f fd ps sp) (hr : Room k X.A) (hgd : X.A.guards = some [])
    (hb : ∀ (s : Shared) (us ws : List Value), us.length = m → ws.length = ks.length → BindsTo s fd ⟨us, ks.zip ws⟩ (ps.zip (pick (us ++ ws) perm))) (hp : ∀ j ∈ perm, j < m + ks.length) (hx : PassesAt CX X σ (E σ))
    (I : Inv X pins σ H s) (r : Vals vs us) (rz : Vals zs ws) (h1 : vs.length = m) (h2 : zs.length = ks.length) (h : sp (pick (vs ++ zs) perm) H Q (E σ)) : wpAny (model X.prog X.w) X.A (call (.ref f) us (ks.zip ws)) (EP X pins σ Q) X.xe s := by
  have r2 : Vals (pick (vs ++ zs) perm) (pick (us ++ ws) perm) := pick_rel (r.append rz) fun j hj => by rw [List.length_append, h1, h2]; exact hp j hj
  refine wpAny_call (codeAny_mono (F.run X.A X.stack s H ⟨us, ks.zip ws⟩ (pick (us ++ ws) perm) _ Q (E σ) hr hgd I.env0 (hb s us ws (by rw [← r.length]; exact h1) (by rw [← rz.length]; exact h2)) r2 h) fun q s' hq => ?_)
  cases q with
  | error e => exact hx pins H s e s' I hq
  | ok fl =>
    cases fl with
    | ret u => exact I.after hq
    | next => exact False.elim hq
    | brk => exact False.elim hq
    | cont => exact False.elim hq
def tCallKS (sp : Sp) (perm : List Nat) (m n : Nat) (E : St → XK) (t tk : TA) : TE := fun σ H Q => t σ H fun vs H1 => tk σ H1 fun zs H2 => vs.length = m ∧ zs.length = n ∧ sp (pick (vs ++ zs) perm) H2 Q (E σ)
theorem pe_kwS (F : FnG X.prog X.w X.K X.mg X.base CX k f fd ps sp) (hr : Room k X.A) (hgd : X.A.guards = some []) (hg : Gl X x) (hm : X.mg x = some (.ref f)) (hk : PySem.W.keepIn X.K (.ref f) = true)
    (hb : ∀ (s : Shared) (us ws : List Value), us.length = m → ws.length = ks.length → BindsTo s fd ⟨us, ks.zip ws⟩ (ps.zip (pick (us ++ ws) perm))) (hp : ∀ j ∈ perm, j < m + ks.length) (hx : ∀ σ, PassesAt CX X σ (E σ))
    (ha : PA X (e :: es) t) (hkw : PK X kws tk) (hall : (backToKw pos (keywordEach kws X.env)).all (·.1.isSome) = true) (hks : (backToKw pos (keywordEach kws X.env)).filterMap (·.1) = ks)
    (hdb : (x == ("__debug__" : Str)) = false) (he : starEach (e :: es) X.env = (false, eval e X.env) :: starEach es X.env)
    (hpl : ((backTo pos (starEach (e :: es) X.env)).any (·.1) || (backToKw pos (keywordEach kws X.env)).any (·.1.isNone)) = false) :
    PE X (.Call (.Name x p) (e :: es) kws pos) (tCallKS sp perm m ks.length E t tk) := by
  refine ⟨fun pins s σ H Q I h => ?_⟩
  refine wpAny_Call_Name_kw (ld_glob I hg hm ?_ hdb)
  refine PySem.W.callWith_KW (h₀ := X.base) I.ok.mod.kin hk hall (thn (ha.run pos pins s σ H _ I h) fun us s1 ⟨vs, H1, I1, r, q⟩ => ?_) hpl he
  refine thn (hkw.run pos pins s1 σ H1 _ I1 q) fun ws s2 ⟨zs, H2, I2, rz, l1, l2, q2⟩ => ⟨I2.kIn, ?_⟩
  rw [hks]
  exact run_kwS F hr hgd hb hp (hx σ) I2 r rz l1 l2 q2
theorem pe_kwS0 (F : FnG X.prog X.w X.K X.mg X.base CX k f fd ps sp) (hr : Room k X.A) (hgd : X.A.guards = some []) (hg : Gl X x) (hm : X.mg x = some (.ref f)) (hk : PySem.W.keepIn X.K (.ref f) = true)
    (hb : ∀ (s : Shared) (us ws : List Value), us.length = 0 → ws.length = ks.length → BindsTo s fd ⟨us, ks.zip ws⟩ (ps.zip (pick (us ++ ws) perm))) (hp : ∀ j ∈ perm, j < 0 + ks.length) (hx : ∀ σ, PassesAt CX X σ (E σ))
    (hkw : PK X kws tk) (hall : (backToKw pos (keywordEach kws X.env)).all (·.1.isSome) = true) (hks : (backToKw pos (keywordEach kws X.env)).filterMap (·.1) = ks)
    (hdb : (x == ("__debug__" : Str)) = false) (hpl : ((backTo pos (starEach [] X.env)).any (·.1) || (backToKw pos (keywordEach kws X.env)).any (·.1.isNone)) = false) :
    PE X (.Call (.Name x p) [] kws pos) (tCallKS sp perm 0 ks.length E tNil tk) := by
  refine ⟨fun pins s σ H Q I h => ?_⟩
  refine wpAny_Call_Name_kw (ld_glob I hg hm ?_ hdb)
  refine PySem.W.callWith_KW0 (h₀ := X.base) I.ok.mod.kin hk hall (thn (hkw.run pos pins s σ H _ I h) fun ws s2 ⟨zs, H2, I2, rz, l1, l2, q2⟩ => ⟨I2.kIn, ?_⟩) hpl
  rw [hks]
  exact run_kwS (us := []) (vs := []) F hr hgd hb hp (hx σ) I2 .nil rz rfl l2 q2
end
def kwNames : List Keyword → List Str
  | [] => []
  | ⟨some n, _, _⟩ :: r => n :: kwNames r
  | ⟨none, _, _⟩ :: r => kwNames r
def kwNamed : List Keyword → Bool
  | [] => true
  | ⟨some _, _, _⟩ :: r => kwNamed r
  | ⟨none, _, _⟩ :: _ => false
theorem kw_ok {pos : Pos} {env : Env} : ∀ {kws : List Keyword}, kwNamed kws = true → (backToKw pos (keywordEach kws env)).all (·.1.isSome) = true ∧ (backToKw pos (keywordEach kws env)).filterMap (·.1) = kwNames kws ∧ (backToKw pos (keywordEach kws env)).any (·.1.isNone) = false
  | [], _ => ⟨rfl, rfl, rfl⟩
  | ⟨none, _, _⟩ :: r, h => by cases h
  | ⟨some n, v, q⟩ :: r, h => by
    obtain ⟨h1, h2, h3⟩ := kw_ok (pos := pos) (env := env) (kws := r) h
    refine ⟨?_, ?_, ?_⟩
    · show (true && (backToKw pos (keywordEach r env)).all (·.1.isSome)) = true
      rw [h1]
      rfl
    · show n :: (backToKw pos (keywordEach r env)).filterMap (·.1) = n :: kwNames r
      rw [h2]
    · show (false || (backToKw pos (keywordEach r env)).any (·.1.isNone)) = false
      rw [h3]
      rfl
section
variable {X : Cx} {CA : Nat → Addr} {pr : EProg} {T : FT} {np : Nat} {W : WX} {xs ks : Ps} {es : List Expr} {kws : List Keyword} {a : P} {a' : Expr}
theorem _root_.L2.PK.imp {X : Cx} {es : List Keyword} {t t' : TA} (h : PK X es t) (i : ∀ σ H Q, t' σ H Q → t σ H Q) : PK X es t' := ⟨fun pos pins s σ H Q I q => h.run pos pins s σ H Q I (i σ H Q q)⟩
theorem k_nil : PK X [] (tEvs X.K CA pr T np W .nil) := pk_nil.imp fun σ H Q ⟨O, e, s, h⟩ => h O H Stp.refl s [] .nil
theorem k_cons {n : Option Str} {kpos : Pos} (ha : PE X a' (tEv X.K CA pr T np W a)) (hr : PK X kws (tEvs X.K CA pr T np W xs)) : PK X (⟨n, a', kpos⟩ :: kws) (tEvs X.K CA pr T np W (.cons a xs)) :=
  (pk_cons ha hr).imp fun σ H Q ⟨O, e, s, h⟩ => by
    refine ⟨O, e, s, (AftE.bind h).mono fun r O1 H1 e1 st1 s1 h1 v rv => ⟨O1, e1, s1, (AftE.bind (h1.from st1)).mono fun rs O2 H2 e2 st2 s2 h2 vs rvs => ?_⟩⟩
    have rv2 := rv.go st2 s1
    refine h2 O2 H2 st2 s2 (v :: vs) (.cons rv2 (rvs.back st1.there) fun c hc j c' hj hv => ?_)
    subst hc
    obtain ⟨p, rfl, h3, h4, h5, h6⟩ := rv
    obtain ⟨w, hw, p2, hp2, _, _, _, hn2⟩ := rvs.get hj
    rw [hv] at hw
    cases hw
    cases hp2
    obtain ⟨o, ho⟩ := h4.some
    rw [hn2] at ho
    cases ho
variable {tb : Tab} {k : Nat} {N : List Str} {sc fs : Scope}
/-- f(.., k = e) -/
theorem kw_fin {f : Nat} {ps kn : List Str} {perm : List Nat} {σ : St} {H : Hp} {Q : VK} (hp : perm.Nodup ∧ perm.length = ps.length ∧ ∀ j ∈ perm, j < psLen xs + kn.length) (hk : psLen ks = kn.length) (hps : perm ≠ [])
    (h : tEv X.K CA pr T np W (.call f xs ks perm) σ H Q) : tCallKS (spT X.K CA T f ps.length) perm (psLen xs) kn.length (WE W) (tEvs X.K CA pr T np W xs) (tEvs X.K CA pr T np W ks) σ H Q := by
  obtain ⟨O, e, s, h⟩ := h
  refine ⟨O, e, s, (AftE.bind h).eqn.mono fun rs O1 H1 e1 st s1 ⟨q0, q⟩ vs rvs => ⟨O1, e1, s1, (AftE.bind (q.from st)).eqn.mono fun rs2 O2 H2 e2 st2 s2 ⟨q1, q2⟩ zs rzs => ?_⟩⟩
  have l1 : vs.length = psLen xs := by rw [rvs.length, evs_len q0]
  have l2 : zs.length = kn.length := by rw [rzs.length, evs_len q1, hk]
  refine ⟨l1, l2, ?_⟩
  have q2' : AftE X.K CA np W O1 σ H1 e1 (callF T f (permute (rs ++ rs2) perm) e2) fun r O' H' e' => ∀ v, RR X.K O' σ H' e' H v r → Q v H' := q2
  have e3 : permute (rs ++ rs2) perm = pick (rs ++ rs2) perm := by
    unfold permute
    cases perm with
    | nil => exact absurd rfl hps
    | cons j r => rfl
  rw [e3] at q2'
  have hb : ∀ j ∈ perm, j < (rs ++ rs2).length := fun j hj => by
    have := hp.2.2 j hj
    rw [List.length_append, evs_len q0, evs_len q1, hk]
    exact this
  have rx1 : RRx X.K O2 σ H2 e2 H vs rs := (rvs.go st2 s1).x
  have rx := (rx1.append rzs.x st.there fun i c a h1 h2 => by
    obtain ⟨v, h3, a', h4, h5, h6, _⟩ := rvs.get h1
    rw [h2] at h3
    cases h3
    cases h4
    obtain ⟨o, ho⟩ := h6.some
    rw [ho]
    exact fun z => nomatch z).pick hb hp.1
  have lv : ∀ j ∈ perm, j < (vs ++ zs).length := fun j hj => by
    rw [List.length_append, l1, l2]
    exact hp.2.2 j hj
  -- from the start of all
  have h0 : AftE X.K CA np W O σ H e (callF T f (pick (rs ++ rs2) perm) e2) fun r O' H' e' => ∀ v, RR X.K O' σ H' e' H v r → Q v H' := by
    exact (fun (z : AftE X.K CA np W O σ H e (callF T f (permute (rs ++ rs2) perm) e2) fun r O' H' e' => ∀ v, RR X.K O' σ H' e' H v r → Q v H') => by rw [e3] at z; exact z) (by
      have h' : AftE X.K CA np W O σ H e ((evs pr T np xs e).bind fun rs e1 => (evs pr T np ks e1).bind fun rs2 e2 => callF T f (permute (rs ++ rs2) perm) e2) fun r O' H' e' => ∀ v, RR X.K O' σ H' e' H v r → Q v H' := h
      rw [q0] at h'
      have h'' : AftE X.K CA np W O σ H e ((evs pr T np ks e1).bind fun rs2 e2 => callF T f (permute (rs ++ rs2) perm) e2) fun r O' H' e' => ∀ v, RR X.K O' σ H' e' H v r → Q v H' := h'
      rw [q1] at h''
      exact h'')
  exact call_ok (st.trans st2) s2 rx (by rw [pick_len lv]; exact hp.2.1) h0
theorem e_callK {f : Nat} {x : Str} {ps : List Str} {perm : List Nat} {p pos : Pos} {e1 : Expr} (G : Good tb pr T CA k N sc fs X) (tk : Takes X W) (hf : tb.fn[f]? = some (x, ps)) (hg : Gl X x) (hd : (x == ("__debug__" : Str)) = false)
    (hkw : (f, psLen xs, kwNames kws, perm) ∈ tb.kw) (hn : kwNamed kws = true) (hk : psLen ks = (kwNames kws).length) (hps : perm ≠ [])
    (ha : PA X (e1 :: es) (tEvs X.K CA pr T np W xs)) (hs : (e1 :: es).all noStar = true) (hks : PK X kws (tEvs X.K CA pr T np W ks)) : PE X (.Call (.Name x p) (e1 :: es) kws pos) (tEv X.K CA pr T np W (.call f xs ks perm)) := by
  obtain ⟨a, fd, h1, h2, F, _, hb⟩ := G.glo.funs f x ps hf
  obtain ⟨hp, hb⟩ := hb _ _ _ hkw
  have sn : noStar e1 = true ∧ es.all noStar = true := by rwa [List.all_cons, Bool.and_eq_true] at hs
  obtain ⟨k1, k2, k3⟩ := kw_ok (pos := pos) (env := X.env) hn
  refine (pe_kwS F G.room G.gd hg h1 h2 hb hp.2.2 (passAt tk) ha hks k1 k2 hd (noStar_ok sn.1 _ _) (by rw [noStars hs, k3]; rfl)).imp fun σ H Q h => kw_fin hp hk hps h
theorem e_callK0 {f : Nat} {x : Str} {ps : List Str} {perm : List Nat} {p pos : Pos} (G : Good tb pr T CA k N sc fs X) (tk : Takes X W) (hf : tb.fn[f]? = some (x, ps)) (hg : Gl X x) (hd : (x == ("__debug__" : Str)) = false)
    (hkw : (f, 0, kwNames kws, perm) ∈ tb.kw) (hn : kwNamed kws = true) (hk : psLen ks = (kwNames kws).length) (hps : perm ≠ []) (hks : PK X kws (tEvs X.K CA pr T np W ks)) :
    PE X (.Call (.Name x p) [] kws pos) (tEv X.K CA pr T np W (.call f .nil ks perm)) := by
  obtain ⟨a, fd, h1, h2, F, _, hb⟩ := G.glo.funs f x ps hf
  obtain ⟨hp, hb⟩ := hb _ _ _ hkw
  obtain ⟨k1, k2, k3⟩ := kw_ok (pos := pos) (env := X.env) hn
  refine (pe_kwS0 F G.room G.gd hg h1 h2 hb hp.2.2 (passAt tk) hks k1 k2 hd (by rw [k3]; rfl)).imp fun σ H Q h => ?_
  have w := kw_fin (xs := .nil) (ps := ps) hp hk hps h
  obtain ⟨O, e, s, q⟩ := w
  exact q O H Stp.refl s [] .nil
end
end Snd
end
section
set_option Elab.async false
set_option linter.all false
set_option maxRecDepth 100000
set_option maxHeartbeats 2000000
namespace Snd
open PySem L2 Ev
/-! ### rows that are walked -/
def Kept (K : PySem.W.Frag) (O : Own) (H : Hp) (O' : Own) (H' : Hp) : Prop := (∀ a xs, Rd H a (.lst xs) → ¬ O a → Rd H' a (.lst xs) ∧ ¬ O' a) ∧ (∀ a xs, SqT K H a xs → SqT K H' a xs)
section
variable {K : PySem.W.Frag} {O O1 O2 : Own} {H H1 H2 : Hp}
theorem Kept.refl : Kept K O H O H := ⟨fun _ _ r n => ⟨r, n⟩, fun _ _ r => r⟩
theorem Kept.trans (a : Kept K O H O1 H1) (b : Kept K O1 H1 O2 H2) : Kept K O H O2 H2 := ⟨fun x xs r n => b.1 x xs (a.1 x xs r n).1 (a.1 x xs r n).2, fun x xs r => b.2 x xs (a.2 x xs r)⟩
theorem Kept.rep (k : Kept K O H O1 H1) {v : V} {d : D} (r : Rep K O H v d) : Rep K O1 H1 v d := Rep.go k.1 k.2 d v r
theorem Kept.repAll (k : Kept K O H O1 H1) {vs : List V} {ds : List D} (r : RepAll K O H vs ds) : RepAll K O1 H1 vs ds := RepAll.go k.1 k.2 ds vs r
structure Serves (K : PySem.W.Frag) (O : Own) (H : Hp) (J : It) (xs : List D) : Prop where
  go : ∀ (O' : Own) (H' : Hp), Kept K O H O' H' → ∀ (i : Nat) (d : D), xs[i]? = some d → J.go i H' ∧ ∀ x H'', J.yld i H' x H'' → Gro O' H' O' H'' ∧ Rep K O' H'' x d
  stop : ∀ (O' : Own) (H' : Hp), Kept K O H O' H' → J.stop xs.length H'
theorem Gro.refl : Gro O H O H := ⟨fun _ _ h => ⟨h, Iff.rfl⟩⟩
theorem serves_list {a : Addr} {vs : List V} {ds : List D} (h : Rd H a (.lst vs)) (n : ¬ O a) (r : RepAll K O H vs ds) : Serves K O H (Itl K a) ds where
  go := fun O' H' k i d q => by
    obtain ⟨v, h1, h2⟩ := r.get q
    have h3 := (k.1 a vs h n).1
    refine ⟨⟨vs, v, .inl h3, h1⟩, fun x H'' y => ?_⟩
    obtain ⟨rfl, y2⟩ := y
    have := y2 vs (.inl h3)
    rw [h1] at this
    cases this
    exact ⟨Gro.refl, k.rep h2⟩
  stop := fun O' H' k => ⟨vs, .inl (k.1 a vs h n).1, by rw [r.length]; exact Nat.le_refl _⟩
theorem serves_tup {a : Addr} {vs : List V} {ds : List D} (h : SqT K H a vs) (r : RepAll K O H vs ds) : Serves K O H (Itt K a) ds where
  go := fun O' H' k i d q => by
    obtain ⟨v, h1, h2⟩ := r.get q
    have h3 := k.2 a vs h
    refine ⟨⟨vs, v, h3, h1⟩, fun x H'' y => ?_⟩
    obtain ⟨rfl, y2⟩ := y
    have := y2 vs h3
    rw [h1] at this
    cases this
    exact ⟨Gro.refl, k.rep h2⟩
  stop := fun O' H' k => ⟨vs, k.2 a vs h, by rw [r.length]; exact Nat.le_refl _⟩
theorem rangeL_get {lo : Int} {n i : Nat} {d : D} (h : (rangeL lo n)[i]? = some d) : i < n ∧ d = .int (lo + (i : Int)) := by
  unfold rangeL at h
  rw [List.getElem?_map] at h
  by_cases hi : i < n
  · rw [List.getElem?_range hi] at h
    cases h
    exact ⟨hi, rfl⟩
  · rw [List.getElem?_eq_none (by rw [List.length_range]; omega)] at h
    cases h
theorem rangeL_len (lo : Int) (n : Nat) : (rangeL lo n).length = n := by
  unfold rangeL
  rw [List.length_map, List.length_range]
theorem serves_range (lo : Int) (n : Nat) : Serves K O H (Itr lo n) (rangeL lo n) where
  go := fun O' H' k i d q => by
    obtain ⟨h1, rfl⟩ := rangeL_get q
    refine ⟨h1, fun x H'' y => ?_⟩
    obtain ⟨rfl, rfl⟩ := y
    exact ⟨Gro.refl, .int _⟩
  stop := fun O' H' k => by
    rw [rangeL_len]
    exact Nat.le_refl n
theorem pair_of {p : Addr} {x y : V} {c d : D} (h : H p = none) (r : Rep K O H x c) (q : Rep K O H y d) : Gro O H O (upd H p (.tup [x, y])) ∧ Rep K O (upd H p (.tup [x, y])) (.ref p) (.tuple [c, d]) := by
  have g : Gro O H O (upd H p (.tup [x, y])) := Gro.newT h
  have k : Kept K O H O (upd H p (.tup [x, y])) := by
    refine ⟨fun a xs r n => ⟨?_, n⟩, fun a xs r => ?_⟩
    · rcases r with r | ⟨o, r⟩
      · exact .inl (g.keep a _ r).1
      · exact .inr ⟨o, (g.keep a _ r).1⟩
    · rcases r with (r | ⟨o, r⟩) | r
      · exact .inl (.inl (g.keep a _ r).1)
      · exact .inl (.inr ⟨o, (g.keep a _ r).1⟩)
      · exact .inr r
  exact ⟨g, .tup (SqT.of upd_same) (.cons (k.rep r) (.cons (k.rep q) .nil))⟩
theorem enum_get : ∀ {ds : List D} {k i : Nat} {d : D}, (enumFrom k ds)[i]? = some d → ∃ x, ds[i]? = some x ∧ d = .tuple [.int ((k + i : Nat) : Int), x]
  | [], k, i, d, h => by simp [enumFrom] at h
  | x :: xs, k, 0, d, h => by
    simp [enumFrom] at h
    exact ⟨x, rfl, h.symm⟩
  | x :: xs, k, i + 1, d, h => by
    have h' : (enumFrom (k + 1) xs)[i]? = some d := by simpa [enumFrom] using h
    obtain ⟨y, h1, h2⟩ := enum_get h'
    exact ⟨y, by simpa using h1, by rw [h2, Nat.add_right_comm, Nat.add_assoc]⟩
theorem enum_len : ∀ (ds : List D) (k : Nat), (enumFrom k ds).length = ds.length
  | [], _ => rfl
  | x :: xs, k => by
    show (enumFrom (k + 1) xs).length + 1 = _
    rw [enum_len]
    rfl
theorem serves_enum {a : Addr} {vs : List V} {ds : List D} (h : Rd H a (.lst vs)) (n : ¬ O a) (r : RepAll K O H vs ds) : Serves K O H (Ite K a) (enumFrom 0 ds) where
  go := fun O' H' k i d q => by
    obtain ⟨y, q1, rfl⟩ := enum_get q
    obtain ⟨v, h1, h2⟩ := r.get q1
    have h3 := (k.1 a vs h n).1
    refine ⟨⟨vs, v, .inl h3, h1⟩, fun x H'' y => ?_⟩
    obtain ⟨p, w, rfl, hp, rfl, y2⟩ := y
    have := y2 vs (.inl h3)
    rw [h1] at this
    cases this
    rw [Nat.zero_add]
    exact pair_of hp (.int _) (k.rep h2)
  stop := fun O' H' k => ⟨vs, .inl (k.1 a vs h n).1, by rw [enum_len, r.length]; exact Nat.le_refl _⟩
theorem zip_get {xs ys : List D} {i : Nat} {d : D} (h : (List.zipWith (fun x y => PyData.tuple [x, y]) xs ys)[i]? = some d) : ∃ x y, xs[i]? = some x ∧ ys[i]? = some y ∧ d = .tuple [x, y] := by
  rw [List.getElem?_zipWith] at h
  cases q1 : xs[i]? with
  | none => rw [q1] at h; simp at h
  | some x =>
    cases q2 : ys[i]? with
    | none => rw [q1, q2] at h; simp at h
    | some y =>
      rw [q1, q2] at h
      simp at h
      exact ⟨x, y, rfl, rfl, h.symm⟩
theorem serves_zipL {a b : Addr} {vs ws : List V} {xs ys : List D} (h : Rd H a (.lst vs)) (n : ¬ O a) (r : RepAll K O H vs xs) (h' : Rd H b (.lst ws)) (n' : ¬ O b) (r' : RepAll K O H ws ys) : Serves K O H (Itz K a b) (List.zipWith (fun x y => .tuple [x, y]) xs ys) where
  go := fun O' H' k i d q => by
    obtain ⟨x, y, q1, q2, rfl⟩ := zip_get q
    obtain ⟨v, h1, h2⟩ := r.get q1
    obtain ⟨w, g1, g2⟩ := r'.get q2
    have h3 := (k.1 a vs h n).1
    have g3 := (k.1 b ws h' n').1
    refine ⟨⟨vs, ws, v, w, .inl h3, .inl g3, h1, g1⟩, fun x H'' y => ?_⟩
    obtain ⟨p, v', w', rfl, hp, rfl, y1, y2⟩ := y
    have e1 := y1 vs (.inl h3)
    have e2 := y2 ws (.inl g3)
    rw [h1] at e1
    rw [g1] at e2
    cases e1
    cases e2
    exact pair_of hp (k.rep h2) (k.rep g2)
  stop := fun O' H' k => by
    refine ⟨vs, ws, .inl (k.1 a vs h n).1, .inl (k.1 b ws h' n').1, ?_⟩
    rw [List.length_zipWith, r.length, r'.length]
    omega
theorem serves_zipT {a b : Addr} {vs ws : List V} {xs ys : List D} (h : SqT K H a vs) (r : RepAll K O H vs xs) (h' : SqT K H b ws) (r' : RepAll K O H ws ys) : Serves K O H (RZ.ItzT K a b) (List.zipWith (fun x y => .tuple [x, y]) xs ys) where
  go := fun O' H' k i d q => by
    obtain ⟨x, y, q1, q2, rfl⟩ := zip_get q
    obtain ⟨v, h1, h2⟩ := r.get q1
    obtain ⟨w, g1, g2⟩ := r'.get q2
    have h3 := k.2 a vs h
    have g3 := k.2 b ws h'
    refine ⟨⟨vs, ws, v, w, h3, g3, h1, g1⟩, fun x H'' y => ?_⟩
    obtain ⟨p, v', w', rfl, hp, rfl, y1, y2⟩ := y
    have e1 := y1 vs h3
    have e2 := y2 ws g3
    rw [h1] at e1
    rw [g1] at e2
    cases e1
    cases e2
    exact pair_of hp (k.rep h2) (k.rep g2)
  stop := fun O' H' k => by
    refine ⟨vs, ws, k.2 a vs h, k.2 b ws h', ?_⟩
    rw [List.length_zipWith, r.length, r'.length]
    omega
end
section
variable (K : PySem.W.Frag) (CA : Nat → Addr) (pr : EProg) (T : FT) (np : Nat) (W : WX)
def tIt (it : EIt) : TI := fun σ H R => ∃ O e, SR K O σ H e ∧ AftE K CA np W O σ H e (items pr T np it e) fun xs O' H' e' => ∀ J, Serves K O' H' J xs → R J H'
end
/-- a list or a tuple -/
def iSeq (K : PySem.W.Frag) (te : TE) : TI := fun σ H R => te σ H fun x H1 => ∃ a, x = .ref a ∧ (((∃ xs, SqL K H1 a xs) ∧ R (Itl K a) H1) ∨ ((∃ xs, SqT K H1 a xs) ∧ R (Itt K a) H1))
section
open PyProof.Rows
theorem pi_seq {X : Cx} {tg l : Expr} {tl : TE} (hl : PE X l tl) : PI X tg l (iSeq X.K tl) := by
  refine ⟨fun pins s σ H R I h => ?_⟩
  refine thn (hl.run pins s σ H _ I h) fun v s1 ⟨x, H1, I1, r1, a, e, q1⟩ => ?_
  subst e
  cases r1
  rcases q1 with ⟨⟨xs, hq⟩, q⟩ | ⟨⟨xs, hq⟩, q⟩
  · obtain ⟨its, rv, p, hz⟩ := I1.list hq
    refine wpAny_pyIter_list p.isList ⟨s1.heap.objs.size, [s1.heap.objs.size], _, _, H1, rfl, I1.kept (t' := s1.toks) fun b o e => Heap.get?_push_of_some _ e, turn_list a _, ⟨_, Heap.get?_push_size _ rfl, rfl, rfl⟩, fun b hb => ?_, q⟩
    have e : b = s1.heap.objs.size := by simpa using hb
    subst e
    exact I1.fpOk (Nat.le_refl _) (I1.hok.fresh (Nat.le_refl _))
  · obtain ⟨its, rv, p, hz⟩ := I1.tuple hq
    refine wpAny_pyIter_tuple (show s1.heap.IsTuple a its.toArray from p) ⟨s1.heap.objs.size, [s1.heap.objs.size], _, _, H1, rfl, I1.kept (t' := s1.toks) fun b o e => Heap.get?_push_of_some _ e, turn_tuple a _, ⟨_, Heap.get?_push_size _ rfl, rfl, rfl⟩, fun b hb => ?_, q⟩
    have e : b = s1.heap.objs.size := by simpa using hb
    subst e
    exact I1.fpOk (Nat.le_refl _) (I1.hok.fresh (Nat.le_refl _))
end
theorem _root_.L2.PI.imp {X : Cx} {tg ex : Expr} {t t' : TI} (h : PI X tg ex t) (i : ∀ σ H Q, t' σ H Q → t σ H Q) : PI X tg ex t' := ⟨fun pins s σ H Q I q => h.run pins s σ H Q I (i σ H Q q)⟩
section
variable {X : Cx} {CA : Nat → Addr} {pr : EProg} {T : FT} {np : Nat} {W : WX} {a b : P} {a' b' tg : Expr}
theorem i_seq (ha : PE X a' (tEv X.K CA pr T np W a)) : PI X tg a' (tIt X.K CA pr T np W (.seq a)) :=
  (pi_seq ha).imp fun σ H R ⟨O, e, s, h⟩ => ⟨O, e, s, (AftE.bind h).mono fun r O1 H1 e1 st s1 q v rv => by
    cases q1 : capt np e1 r with
    | none => rw [q1] at q; exact q.elim
    | some p =>
      obtain ⟨d, e2⟩ := p
      rw [q1] at q
      obtain ⟨O2, st2, s2, r2, _⟩ := capt_ok st s1 rv q1
      obtain ⟨xs, hx, q2⟩ := AftE.lift q
      have q3 := q2 O2 H1 st2 s2
      unfold itemsD at hx
      split at hx <;> first | contradiction | skip
      · cases hx
        cases r2 with
        | lst g1 g2 g3 => exact ⟨_, rfl, .inl ⟨⟨_, .inl g1⟩, q3 _ (serves_list g1 g2 g3)⟩⟩
      · cases hx
        cases r2 with
        | tup g1 g2 => exact ⟨_, rfl, .inr ⟨⟨_, g1⟩, q3 _ (serves_tup g1 g2)⟩⟩⟩
theorem small_of {i : Int} (h : small62 i = true) : -(2 ^ 62) ≤ i ∧ i < 2 ^ 62 := of_decide_eq_true h
theorem i_r1 {p pos : Pos} (hg : Gl X "range") (hm : X.mg "range" = none) (hn : noStar a' = true) (ha : PE X a' (tEv X.K CA pr T np W a)) : PI X tg (.Call (.Name "range" p) [a'] [] pos) (tIt X.K CA pr T np W (.r1 a)) :=
  (pi_range1 hg hm (pa_cons ha pa_nil (noStar_ok hn _ _)) (noStar_ok hn _ _)).imp fun σ H R ⟨O, e, s, h⟩ => ⟨O, e, s, (AftE.bind h).mono fun r O1 H1 e1 st s1 q v rv => by
    cases q1 : view e1 r with
    | none => rw [q1] at q; exact q.elim
    | some d =>
      rw [q1] at q
      cases d with
      | int n =>
        obtain rfl := (view_ok s1 rv q1).int
        have q' : AftE X.K CA np W O σ H e (if small62 n = true then .ok (rangeL 0 n.toNat) e1 else .stuck) fun xs O' H' e' => ∀ J, Serves X.K O' H' J xs → R J H' := q
        by_cases hs : small62 n = true
        · rw [if_pos hs] at q'
          have w := small_of hs
          exact ⟨n, rfl, w.1, w.2, q' O1 H1 st s1 _ (serves_range 0 _)⟩
        · rw [if_neg hs] at q'
          exact q'.elim
      | _ => exact q.elim⟩
theorem i_r2 {p pos : Pos} (hg : Gl X "range") (hm : X.mg "range" = none) (hn : noStar a' = true) (hn2 : noStar b' = true) (ha : PE X a' (tEv X.K CA pr T np W a)) (hb : PE X b' (tEv X.K CA pr T np W b)) :
    PI X tg (.Call (.Name "range" p) [a', b'] [] pos) (tIt X.K CA pr T np W (.r2 a b)) :=
  (pi_range2 hg hm (pa_cons ha (pa_cons hb pa_nil (noStar_ok hn2 _ _)) (noStar_ok hn _ _)) (by rw [noStar_ok hn, noStar_ok hn2]; rfl) (noStar_ok hn2 _ _)).imp fun σ H R ⟨O, e, s, h⟩ => ⟨O, e, s, (AftE.bind h).mono fun r O1 H1 e1 st s1 q v rv => ⟨O1, e1, s1, (AftE.bind (q.from st)).mono fun r2 O2 H2 e2 st2 s2 q2 w rw2 => by
    cases q1 : view e2 r with
    | none => rw [q1] at q2; exact q2.elim
    | some d =>
      cases q3 : view e2 r2 with
      | none => rw [q1, q3] at q2; cases d <;> exact q2.elim
      | some d2 =>
        rw [q1, q3] at q2
        cases d with
        | int i =>
          cases d2 with
          | int j =>
            obtain rfl := (view_ok s2 (rv.go st2 s1) q1).int
            obtain rfl := (view_ok s2 rw2 q3).int
            have q' : AftE X.K CA np W O1 σ H1 e1 (if (small62 i && small62 j) = true then .ok (rangeL i (j - i).toNat) e2 else .stuck) fun xs O' H' e' => ∀ J, Serves X.K O' H' J xs → R J H' := q2
            by_cases hs : (small62 i && small62 j) = true
            · rw [if_pos hs] at q'
              rw [Bool.and_eq_true] at hs
              have w1 := small_of hs.1
              have w2 := small_of hs.2
              exact ⟨i, j, rfl, ⟨w1.1, w1.2, w2.1, w2.2⟩, q' O2 H2 st2 s2 _ (serves_range i _)⟩
            · rw [if_neg hs] at q'
              exact q'.elim
          | _ => exact q2.elim
        | _ => exact q2.elim⟩⟩
end
end Snd
end
section
set_option linter.all false
set_option maxRecDepth 100000
set_option maxHeartbeats 4000000
/-! zip of two tuples with one name as target: the tuple handed out is held, each turn makes a new one -/
namespace SndZ
open PySem PySem.Spec PyProof.Rows L2
abbrev IsZipK (h : Heap) (z TI TO T : Addr) (f : Bool) : Prop :=
  h.get? z = some { cls := .type "zip", dict := none, data := .fields #[rawInt T, .bool f, .bool false, .ref TI, .ref TO], slots := #[] }
section
variable {prog : Program} {w : World} {A : Around} {E : Value → Shared → Prop} {s : Shared}
theorem free_no {z TI TO T : Addr} {f : Bool} {o : Obj} {Q : Bool → Shared → Prop} (hz : IsZipK s.heap z TI TO T f) (hT : s.heap.get? T = some o)
    (hQ : ∀ h', IsZipK h' z TI TO T true → Heap.SameBut z s.heap h' → Q false { s with heap := h' }) : wpAny (model prog w) A (Builtin.SmallTypes.ownedTupleIsFree (.ref z)) Q E s := by
  unfold Builtin.SmallTypes.ownedTupleIsFree
  refine wpAny_bind (wpAny_field hz rfl (x := rawInt T) rfl ?_)
  show wpAny _ _ (loadIfAlive ((T : Int).toNat) >>= _) _ _ _
  rw [Int.toNat_natCast]
  refine wpAny_bind (PySem.W.kdx_alive hT ?_)
  simp only [Option.isNone_some, Bool.false_eq_true, if_false]
  refine wpAny_bind (wpAny_field hz rfl (x := .bool f) rfl ?_)
  cases f with
  | true =>
    rw [if_neg (show ¬ ((Value.bool true != Value.bool true) = true) from Bool.false_ne_true)]
    exact wpAny_pure (hQ s.heap hz (Heap.SameBut.refl _ _))
  | false =>
    rw [if_pos (show (Value.bool false != Value.bool true) = true from rfl)]
    refine wpAny_bind (wpAny_setField_rec hz (by simp) fun h₃ he₃ hs₃ => ?_)
    exact wpAny_pure (hQ h₃ he₃ hs₃)
theorem zipK_next_item {z TI TO T i1 i2 l1 l2 : Addr} {k1 k2 : Nat} {xs ys : Array Value} {x y a b : Value} {f : Bool} {o : Obj} {Q : Value → Shared → Prop} (D : ZipApart z TI TO i1 i2 l1 l2)
    (hz : IsZipK s.heap z TI TO T f) (hT : s.heap.get? T = some o) (hTI : IsPair s.heap TI (.ref i1) (.ref i2)) (hTO : IsPair s.heap TO a b)
    (h1 : s.heap.IsTupleIter i1 l1 k1) (h2 : s.heap.IsTupleIter i2 l2 k2) (hl1 : s.heap.IsTuple l1 xs) (hl2 : s.heap.IsTuple l2 ys) (hx : xs[k1]? = some x) (hy : ys[k2]? = some y)
    (hQ : ∀ h', IsZipK h' z TI TO T true → h'.IsTupleIter i1 l1 (k1 + 1) → h'.IsTupleIter i2 l2 (k2 + 1) → IsPair h' s.heap.objs.size x y → h'.objs.size = s.heap.objs.size + 1 →
      (∀ c o, c ≠ z → c ≠ i1 → c ≠ i2 → s.heap.get? c = some o → h'.get? c = some o) → Q (.ref s.heap.objs.size) { s with heap := h' }) :
    wpAny (model prog w) A (Builtin.«zip.__next__» ⟨[.ref z], []⟩) (fun fin s' => ∃ v, fin = .done (.ret v) ∧ Q v s') E s := by
  show wpAny _ _ (field (.ref z) 2 >>= _) _ _ _
  refine wpAny_bind (wpAny_field hz rfl (x := .bool false) rfl ?_)
  show wpAny _ _ (field (.ref z) 3 >>= _) _ _ _
  refine wpAny_bind (wpAny_field hz rfl (x := .ref TI) rfl ?_)
  refine wpAny_bind (wpAny_seqItems hTI rfl ?_)
  show wpAny _ _ (Builtin.SmallTypes.ownedTupleIsFree (.ref z) >>= _) _ _ _
  refine wpAny_bind (free_no hz hT fun h₁ hz₁ hs₁ => ?_)
  simp only [Bool.false_eq_true, if_false]
  refine wpAny_bind ?_
  rw [← Array.forIn_toList]
  simp only [List.forIn_cons, List.forIn_nil]
  refine wpAny_bind (wpAny_bind (wpAny_holding ?_))
  show wpAny _ _ (Builtin.SmallTypes.nextOf (.ref i1) >>= _) _ _ _
  refine wpAny_bind (RZ.nextOf_tuple_item (h1.extBut hs₁.extBut D.i1z) (hl1.extBut hs₁.extBut D.l1z) hx fun h₂ h1₂ hs₂ => wpAny_pure (wpAny_pure ?_))
  refine wpAny_bind (wpAny_bind (wpAny_holding ?_))
  show wpAny _ _ (Builtin.SmallTypes.nextOf (.ref i2) >>= _) _ _ _
  refine wpAny_bind (RZ.nextOf_tuple_item ((h2.extBut hs₁.extBut D.i2z).extBut hs₂.extBut D.i12.symm) ((hl2.extBut hs₁.extBut D.l2z).extBut hs₂.extBut D.l2i1) hy fun h₃ h2₃ hs₃ => wpAny_pure (wpAny_pure (wpAny_pure ?_)))
  have hsz : h₃.objs.size = s.heap.objs.size := by rw [hs₃.1, hs₂.1, hs₁.1]
  have hz₃ : IsZipK h₃ z TI TO T true := hs₃.extBut _ _ D.i2z.symm (hs₂.extBut _ _ D.i1z.symm hz₁)
  have hk₃ : ∀ c o, c ≠ z → c ≠ i1 → c ≠ i2 → s.heap.get? c = some o → h₃.get? c = some o := fun c o c1 c3 c4 e => hs₃.extBut _ _ c4 (hs₂.extBut _ _ c3 (hs₁.extBut _ _ c1 e))
  have h1₃ : h₃.IsTupleIter i1 l1 (k1 + 1) := h1₂.extBut hs₃.extBut D.i12
  show wpAny _ _ (newTuple [x, y] >>= _) _ _ _
  refine wpAny_bind (wpAny_newTuple ?_)
  have hn : (h₃.push { cls := .type "tuple", data := .seq #[x, y] }).get? h₃.objs.size = some { cls := .type "tuple", data := .seq #[x, y] } := Heap.get?_push_size _ rfl
  refine wpAny_pure ⟨_, rfl, ?_⟩
  show Q (.ref h₃.objs.size) _
  rw [hsz]
  rw [hsz] at hn
  exact hQ _ (Heap.get?_push_of_some _ hz₃) (h1₃.at fun o e => Heap.get?_push_of_some _ e) (h2₃.at fun o e => Heap.get?_push_of_some _ e) hn (by rw [Heap.size_push, hsz]) fun c o c1 c3 c4 e => Heap.get?_push_of_some _ (hk₃ c o c1 c3 c4 e)
theorem zipK_next_end {z TI TO T i1 i2 l1 l2 : Addr} {k1 k2 : Nat} {xs ys : Array Value} {a b : Value} {f : Bool} {o : Obj} {Q : Fin → Shared → Prop} (hh : A.handled = none) (D : ZipApart z TI TO i1 i2 l1 l2)
    (hz : IsZipK s.heap z TI TO T f) (hT : s.heap.get? T = some o) (hTI : IsPair s.heap TI (.ref i1) (.ref i2)) (hTO : IsPair s.heap TO a b)
    (h1 : s.heap.IsTupleIter i1 l1 k1) (h2 : s.heap.IsTupleIter i2 l2 k2) (hl1 : s.heap.IsTuple l1 xs) (hl2 : s.heap.IsTuple l2 ys) (hend : xs[k1]? = none ∨ ys[k2]? = none)
    (hE : ∀ h' e, (∀ c o, c ≠ z → c ≠ i1 → c ≠ i2 → s.heap.get? c = some o → h'.get? c = some o) → (∃ o, h'.get? e = some o ∧ o.cls = .type "StopIteration") → E (.ref e) { s with heap := h' }) :
    wpAny (model prog w) A (Builtin.«zip.__next__» ⟨[.ref z], []⟩) Q E s := by
  show wpAny _ _ (field (.ref z) 2 >>= _) _ _ _
  refine wpAny_bind (wpAny_field hz rfl (x := .bool false) rfl ?_)
  show wpAny _ _ (field (.ref z) 3 >>= _) _ _ _
  refine wpAny_bind (wpAny_field hz rfl (x := .ref TI) rfl ?_)
  refine wpAny_bind (wpAny_seqItems hTI rfl ?_)
  show wpAny _ _ (Builtin.SmallTypes.ownedTupleIsFree (.ref z) >>= _) _ _ _
  refine wpAny_bind (free_no hz hT fun h₁ hz₁ hs₁ => ?_)
  simp only [Bool.false_eq_true, if_false]
  refine wpAny_bind ?_
  rw [← Array.forIn_toList]
  simp only [List.forIn_cons, List.forIn_nil]
  refine wpAny_bind (wpAny_bind (wpAny_holding ?_))
  show wpAny _ _ (Builtin.SmallTypes.nextOf (.ref i1) >>= _) _ _ _
  cases hx : xs[k1]? with
  | none =>
    exact wpAny_bind (RZ.nextOf_tuple_end hh (h1.extBut hs₁.extBut D.i1z) (hl1.extBut hs₁.extBut D.l1z) hx fun h₂ e hs₂ he => hE h₂ e (fun c o c1 c3 _ x => hs₂ _ _ c3 (hs₁.extBut _ _ c1 x)) he)
  | some x =>
    have hy : ys[k2]? = none := by rcases hend with h | h; rw [hx] at h; cases h; exact h
    refine wpAny_bind (RZ.nextOf_tuple_item (h1.extBut hs₁.extBut D.i1z) (hl1.extBut hs₁.extBut D.l1z) hx fun h₂ h1₂ hs₂ => wpAny_pure (wpAny_pure ?_))
    refine wpAny_bind (wpAny_bind (wpAny_holding ?_))
    show wpAny _ _ (Builtin.SmallTypes.nextOf (.ref i2) >>= _) _ _ _
    exact wpAny_bind (RZ.nextOf_tuple_end hh ((h2.extBut hs₁.extBut D.i2z).extBut hs₂.extBut D.i12.symm) ((hl2.extBut hs₁.extBut D.l2z).extBut hs₂.extBut D.l2i1) hy fun h₃ e hs₃ he => hE h₃ e (fun c o c1 c3 c4 x => hs₃ _ _ c4 (hs₂.extBut _ _ c3 (hs₁.extBut _ _ c1 x))) he)
theorem pyNext_zipK_item {z TI TO T i1 i2 l1 l2 : Addr} {k1 k2 : Nat} {xs ys : Array Value} {x y a b : Value} {f : Bool} {o : Obj} {Q : Option Value → Shared → Prop} (D : ZipApart z TI TO i1 i2 l1 l2)
    (hz : IsZipK s.heap z TI TO T f) (hT : s.heap.get? T = some o) (hTI : IsPair s.heap TI (.ref i1) (.ref i2)) (hTO : IsPair s.heap TO a b)
    (h1 : s.heap.IsTupleIter i1 l1 k1) (h2 : s.heap.IsTupleIter i2 l2 k2) (hl1 : s.heap.IsTuple l1 xs) (hl2 : s.heap.IsTuple l2 ys) (hx : xs[k1]? = some x) (hy : ys[k2]? = some y)
    (hQ : ∀ h', IsZipK h' z TI TO T true → h'.IsTupleIter i1 l1 (k1 + 1) → h'.IsTupleIter i2 l2 (k2 + 1) → IsPair h' s.heap.objs.size x y → h'.objs.size = s.heap.objs.size + 1 →
      (∀ c o, c ≠ z → c ≠ i1 → c ≠ i2 → s.heap.get? c = some o → h'.get? c = some o) → Q (some (.ref s.heap.objs.size)) { s with heap := h' }) :
    wpAny (model prog w) A (pyNext (.ref z)) Q E s := by
  have hT' : s.TypeIs (.ref z) "zip" := ⟨_, hz, rfl⟩
  unfold pyNext
  exact wpAny_bind (wpAny_attempt (wpAny_callSpecial?_slot (name := Str.ofString "__next__") hT' F.slot_zip_next
    (wpAny_call_entry F.slot_zip_next hT' F.entry_zip_next
      (zipK_next_item D hz hT hTI hTO h1 h2 hl1 hl2 hx hy fun h' a1 a3 a4 a5 a6 a7 => wpAny_pure (hQ h' a1 a3 a4 a5 a6 a7)) (F.args_zip_next_1 _))))
theorem pyNext_zipK_end {z TI TO T i1 i2 l1 l2 : Addr} {k1 k2 : Nat} {xs ys : Array Value} {a b : Value} {f : Bool} {o : Obj} {Q : Option Value → Shared → Prop} (hh : A.handled = none) (D : ZipApart z TI TO i1 i2 l1 l2)
    (hz : IsZipK s.heap z TI TO T f) (hT : s.heap.get? T = some o) (hTI : IsPair s.heap TI (.ref i1) (.ref i2)) (hTO : IsPair s.heap TO a b)
    (h1 : s.heap.IsTupleIter i1 l1 k1) (h2 : s.heap.IsTupleIter i2 l2 k2) (hl1 : s.heap.IsTuple l1 xs) (hl2 : s.heap.IsTuple l2 ys) (hend : xs[k1]? = none ∨ ys[k2]? = none)
    (hQ : ∀ h', (∀ c o, c ≠ z → c ≠ i1 → c ≠ i2 → s.heap.get? c = some o → h'.get? c = some o) → Q none { s with heap := h' }) :
    wpAny (model prog w) A (pyNext (.ref z)) Q E s := by
  have hT' : s.TypeIs (.ref z) "zip" := ⟨_, hz, rfl⟩
  unfold pyNext
  refine wpAny_bind (wpAny_attempt (wpAny_callSpecial?_slot (name := Str.ofString "__next__") hT' F.slot_zip_next
    (wpAny_call_entry F.slot_zip_next hT' F.entry_zip_next (zipK_next_end hh D hz hT hTI hTO h1 h2 hl1 hl2 hend fun h' e hk he => ?_) (F.args_zip_next_1 _))))
  obtain ⟨o, ho, hc⟩ := he
  refine wpAny_bind (wpAny_isInstance (T := "StopIteration") (b := true) ⟨o, ho, hc⟩ isSubtype_stop ?_)
  exact wpAny_pure (hQ _ hk)
/-- the zip's record, whatever its two first fields -/
abbrev ZipR (h : Heap) (z TI TO : Addr) (f0 f1 : Value) : Prop :=
  h.get? z = some { cls := .type "zip", dict := none, data := .fields #[f0, f1, .bool false, .ref TI, .ref TO], slots := #[] }
theorem free_yes {z TI TO T : Addr} {f : Bool} {Q : Bool → Shared → Prop} (hz : IsZipK s.heap z TI TO T f) (hT : s.heap.get? T = none) (hQ : Q true s) : wpAny (model prog w) A (Builtin.SmallTypes.ownedTupleIsFree (.ref z)) Q E s := by
  unfold Builtin.SmallTypes.ownedTupleIsFree
  refine wpAny_bind (wpAny_field hz rfl (x := rawInt T) rfl ?_)
  show wpAny _ _ (loadIfAlive ((T : Int).toNat) >>= _) _ _ _
  rw [Int.toNat_natCast]
  have al : ∀ {R : Option Obj → Shared → Prop}, R none s → wpAny (model prog w) A (loadIfAlive T) R E s := fun {R} h => by
    have h' : R (s.heap.get? T) s := by rw [hT]; exact h
    exact fun _ _ _ => h'
  refine wpAny_bind (al ?_)
  exact wpAny_pure hQ
/-- the held tuple is gone: the owned one is filled and a copy handed out -/
theorem zipD_next_item {z TI TO T i1 i2 l1 l2 : Addr} {k1 k2 : Nat} {xs ys : Array Value} {x y a b : Value} {f : Bool} {Q : Value → Shared → Prop} (D : ZipApart z TI TO i1 i2 l1 l2)
    (hz : IsZipK s.heap z TI TO T f) (hT : s.heap.get? T = none) (hTI : IsPair s.heap TI (.ref i1) (.ref i2)) (hTO : IsPair s.heap TO a b)
    (h1 : s.heap.IsTupleIter i1 l1 k1) (h2 : s.heap.IsTupleIter i2 l2 k2) (hl1 : s.heap.IsTuple l1 xs) (hl2 : s.heap.IsTuple l2 ys) (hx : xs[k1]? = some x) (hy : ys[k2]? = some y)
    (hQ : ∀ h', IsZipK h' z TI TO s.heap.objs.size false → IsPair h' TO x y → h'.IsTupleIter i1 l1 (k1 + 1) → h'.IsTupleIter i2 l2 (k2 + 1) → IsPair h' s.heap.objs.size x y → h'.objs.size = s.heap.objs.size + 1 →
      (∀ c o, c ≠ z → c ≠ TO → c ≠ i1 → c ≠ i2 → s.heap.get? c = some o → h'.get? c = some o) → Q (.ref s.heap.objs.size) { s with heap := h' }) :
    wpAny (model prog w) A (Builtin.«zip.__next__» ⟨[.ref z], []⟩) (fun fin s' => ∃ v, fin = .done (.ret v) ∧ Q v s') E s := by
  show wpAny _ _ (field (.ref z) 2 >>= _) _ _ _
  refine wpAny_bind (wpAny_field hz rfl (x := .bool false) rfl ?_)
  show wpAny _ _ (field (.ref z) 3 >>= _) _ _ _
  refine wpAny_bind (wpAny_field hz rfl (x := .ref TI) rfl ?_)
  refine wpAny_bind (wpAny_seqItems hTI rfl ?_)
  show wpAny _ _ (Builtin.SmallTypes.ownedTupleIsFree (.ref z) >>= _) _ _ _
  refine wpAny_bind (free_yes hz hT ?_)
  simp only [if_true]
  refine wpAny_bind (wpAny_rule ?_)
  refine wpAny_bind (wpAny_field hz rfl (x := .ref TO) rfl ?_)
  refine wpAny_bind (wpAny_setField_rec hz (by simp) fun hA zA kA => ?_)
  have zA : ZipR hA z TI TO .ellipsis (.bool f) := zA
  refine wpAny_bind ?_
  simp only [List.zipIdx_cons, List.zipIdx_nil, List.forIn_cons, List.forIn_nil]
  refine wpAny_bind (wpAny_bind (wpAny_onRaise ?_))
  show wpAny _ _ (Builtin.SmallTypes.nextOf (.ref i1) >>= _) _ _ _
  refine wpAny_bind (RZ.nextOf_tuple_item (h1.extBut kA.extBut D.i1z) (hl1.extBut kA.extBut D.l1z) hx fun hB iB kB => wpAny_pure ?_)
  have oB : IsPair hB TO a b := kB.extBut _ _ D.TOi1 (kA.extBut _ _ D.TOz hTO)
  refine wpAny_bind (wpAny_seqItems oB rfl ?_)
  refine wpAny_bind (wpAny_updateSeq_pair oB fun hC oC kC => ?_)
  have oC : IsPair hC TO x b := oC
  refine wpAny_bind (wpAny_letGo (wpAny_pure ?_))
  refine wpAny_bind (wpAny_bind (wpAny_onRaise ?_))
  show wpAny _ _ (Builtin.SmallTypes.nextOf (.ref i2) >>= _) _ _ _
  have j2 : hC.IsTupleIter i2 l2 k2 := ((h2.extBut kA.extBut D.i2z).extBut kB.extBut D.i12.symm).extBut kC.extBut D.TOi2.symm
  have m2 : hC.IsTuple l2 ys := ((hl2.extBut kA.extBut D.l2z).extBut kB.extBut D.l2i1).extBut kC.extBut D.l2TO
  refine wpAny_bind (RZ.nextOf_tuple_item j2 m2 hy fun hD iD kD => wpAny_pure ?_)
  have oD : IsPair hD TO x b := kD.extBut _ _ D.TOi2 oC
  refine wpAny_bind (wpAny_seqItems oD rfl ?_)
  refine wpAny_bind (wpAny_updateSeq_pair oD fun hE' oE kE => ?_)
  have oE : IsPair hE' TO x y := oE
  refine wpAny_bind (wpAny_letGo (wpAny_pure (wpAny_pure ?_)))
  refine wpAny_bind (wpAny_seqItems oE rfl ?_)
  refine wpAny_bind (wpAny_newTuple ?_)
  have sz : hE'.objs.size = s.heap.objs.size := by rw [kE.1, kD.1, kC.1, kB.1, kA.1]
  have zE : ZipR hE' z TI TO .ellipsis (.bool f) := kE.extBut _ _ D.TOz.symm (kD.extBut _ _ D.i2z.symm (kC.extBut _ _ D.TOz.symm (kB.extBut _ _ D.i1z.symm zA)))
  have old : ∀ c o, c ≠ z → c ≠ TO → c ≠ i1 → c ≠ i2 → s.heap.get? c = some o → hE'.get? c = some o := fun c o n1 n2 n3 n4 e =>
    kE.extBut _ _ n2 (kD.extBut _ _ n4 (kC.extBut _ _ n2 (kB.extBut _ _ n3 (kA.extBut _ _ n1 e))))
  have i1E : hE'.IsTupleIter i1 l1 (k1 + 1) := ((iB.extBut kC.extBut D.TOi1.symm).extBut kD.extBut D.i12).extBut kE.extBut D.TOi1.symm
  have i2E : hE'.IsTupleIter i2 l2 (k2 + 1) := iD.extBut kE.extBut D.TOi2.symm
  have zlt : z < hE'.objs.size := Heap.lt_size zE
  show wpAny _ _ (Builtin.SmallTypes.ownedTupleHandOut (.ref z) (.ref hE'.objs.size) >>= _) _ _ _
  refine wpAny_bind ?_
  unfold Builtin.SmallTypes.ownedTupleHandOut
  have zF : ZipR (hE'.push { cls := .type "tuple", data := .seq #[x, y] }) z TI TO .ellipsis (.bool f) := Heap.get?_push_of_some _ zE
  refine wpAny_bind (wpAny_setField_rec zF (by simp) fun hG zG kG => ?_)
  have zG : ZipR hG z TI TO (rawInt hE'.objs.size) (.bool f) := zG
  refine wpAny_setField_rec zG (by simp) fun hH zH kH => ?_
  have zH : IsZipK hH z TI TO hE'.objs.size false := zH
  have up : ∀ c o, c ≠ z → hE'.get? c = some o → hH.get? c = some o := fun c o n e => kH.extBut _ _ n (kG.extBut _ _ n (Heap.get?_push_of_some _ e))
  have nw : IsPair hH hE'.objs.size x y := kH.extBut _ _ (Nat.ne_of_gt zlt) (kG.extBut _ _ (Nat.ne_of_gt zlt) (Heap.get?_push_size _ rfl))
  have szH : hH.objs.size = hE'.objs.size + 1 := by rw [kH.1, kG.1, Heap.size_push]
  rw [sz] at zH nw szH
  refine wpAny_pure ⟨_, rfl, ?_⟩
  show Q (.ref hE'.objs.size) _
  rw [sz]
  exact hQ hH zH (up _ _ D.TOz oE) (i1E.at fun o e => up _ o D.i1z e) (i2E.at fun o e => up _ o D.i2z e) nw szH fun c o n1 n2 n3 n4 e => up c o n1 (old c o n1 n2 n3 n4 e)
theorem zipD_next_end {z TI TO T i1 i2 l1 l2 : Addr} {k1 k2 : Nat} {xs ys : Array Value} {a b : Value} {f : Bool} {Q : Fin → Shared → Prop} (hh : A.handled = none) (D : ZipApart z TI TO i1 i2 l1 l2)
    (hz : IsZipK s.heap z TI TO T f) (hT : s.heap.get? T = none) (hTI : IsPair s.heap TI (.ref i1) (.ref i2)) (hTO : IsPair s.heap TO a b)
    (h1 : s.heap.IsTupleIter i1 l1 k1) (h2 : s.heap.IsTupleIter i2 l2 k2) (hl1 : s.heap.IsTuple l1 xs) (hl2 : s.heap.IsTuple l2 ys) (hend : xs[k1]? = none ∨ ys[k2]? = none)
    (hE : ∀ h' e, (∀ c o, c ≠ z → c ≠ TO → c ≠ i1 → c ≠ i2 → s.heap.get? c = some o → h'.get? c = some o) → (∃ o, h'.get? e = some o ∧ o.cls = .type "StopIteration") → E (.ref e) { s with heap := h' }) :
    wpAny (model prog w) A (Builtin.«zip.__next__» ⟨[.ref z], []⟩) Q E s := by
  show wpAny _ _ (field (.ref z) 2 >>= _) _ _ _
  refine wpAny_bind (wpAny_field hz rfl (x := .bool false) rfl ?_)
  show wpAny _ _ (field (.ref z) 3 >>= _) _ _ _
  refine wpAny_bind (wpAny_field hz rfl (x := .ref TI) rfl ?_)
  refine wpAny_bind (wpAny_seqItems hTI rfl ?_)
  show wpAny _ _ (Builtin.SmallTypes.ownedTupleIsFree (.ref z) >>= _) _ _ _
  refine wpAny_bind (free_yes hz hT ?_)
  simp only [if_true]
  refine wpAny_bind (wpAny_rule ?_)
  refine wpAny_bind (wpAny_field hz rfl (x := .ref TO) rfl ?_)
  refine wpAny_bind (wpAny_setField_rec hz (by simp) fun hA zA kA => ?_)
  have zA : ZipR hA z TI TO .ellipsis (.bool f) := zA
  refine wpAny_bind ?_
  simp only [List.zipIdx_cons, List.zipIdx_nil, List.forIn_cons, List.forIn_nil]
  refine wpAny_bind (wpAny_bind (wpAny_onRaise ?_))
  show wpAny _ _ (Builtin.SmallTypes.nextOf (.ref i1) >>= _) _ _ _
  cases hx : xs[k1]? with
  | none =>
    refine wpAny_bind (RZ.nextOf_tuple_end hh (h1.extBut kA.extBut D.i1z) (hl1.extBut kA.extBut D.l1z) hx fun hB e kB he => ?_)
    obtain ⟨oe, hoe, hce⟩ := he
    have zB : ZipR hB z TI TO .ellipsis (.bool f) := kB _ _ D.i1z.symm zA
    have ne : e ≠ z := fun q => by subst q; rw [zB] at hoe; cases hoe; simp at hce
    exact wpAny_setField_rec zB (by simp) fun hC _ kC => hE hC e (fun c o n1 _ n3 _ q => kC.extBut _ _ n1 (kB _ _ n3 (kA.extBut _ _ n1 q))) ⟨oe, kC.extBut _ _ ne hoe, hce⟩
  | some x =>
    have hy : ys[k2]? = none := by rcases hend with h | h; rw [hx] at h; cases h; exact h
    refine wpAny_bind (RZ.nextOf_tuple_item (h1.extBut kA.extBut D.i1z) (hl1.extBut kA.extBut D.l1z) hx fun hB iB kB => wpAny_pure ?_)
    have oB : IsPair hB TO a b := kB.extBut _ _ D.TOi1 (kA.extBut _ _ D.TOz hTO)
    refine wpAny_bind (wpAny_seqItems oB rfl ?_)
    refine wpAny_bind (wpAny_updateSeq_pair oB fun hC oC kC => ?_)
    refine wpAny_bind (wpAny_letGo (wpAny_pure ?_))
    refine wpAny_bind (wpAny_bind (wpAny_onRaise ?_))
    show wpAny _ _ (Builtin.SmallTypes.nextOf (.ref i2) >>= _) _ _ _
    have j2 : hC.IsTupleIter i2 l2 k2 := ((h2.extBut kA.extBut D.i2z).extBut kB.extBut D.i12.symm).extBut kC.extBut D.TOi2.symm
    have m2 : hC.IsTuple l2 ys := ((hl2.extBut kA.extBut D.l2z).extBut kB.extBut D.l2i1).extBut kC.extBut D.l2TO
    refine wpAny_bind (RZ.nextOf_tuple_end hh j2 m2 hy fun hD e kD he => ?_)
    obtain ⟨oe, hoe, hce⟩ := he
    have zD : ZipR hD z TI TO .ellipsis (.bool f) := kD _ _ D.i2z.symm (kC.extBut _ _ D.TOz.symm (kB.extBut _ _ D.i1z.symm zA))
    have ne : e ≠ z := fun q => by subst q; rw [zD] at hoe; cases hoe; simp at hce
    exact wpAny_setField_rec zD (by simp) fun hF _ kF => hE hF e (fun c o n1 n2 n3 n4 q => kF.extBut _ _ n1 (kD _ _ n4 (kC.extBut _ _ n2 (kB.extBut _ _ n3 (kA.extBut _ _ n1 q))))) ⟨oe, kF.extBut _ _ ne hoe, hce⟩
/-- both together: whatever has become of the held tuple -/
theorem zipN_item {z TI TO T i1 i2 l1 l2 : Addr} {k1 k2 : Nat} {xs ys : Array Value} {x y a b : Value} {f : Bool} {Q : Option Value → Shared → Prop} (D : ZipApart z TI TO i1 i2 l1 l2)
    (hz : IsZipK s.heap z TI TO T f) (hTI : IsPair s.heap TI (.ref i1) (.ref i2)) (hTO : IsPair s.heap TO a b)
    (h1 : s.heap.IsTupleIter i1 l1 k1) (h2 : s.heap.IsTupleIter i2 l2 k2) (hl1 : s.heap.IsTuple l1 xs) (hl2 : s.heap.IsTuple l2 ys) (hx : xs[k1]? = some x) (hy : ys[k2]? = some y)
    (hQ : ∀ h', (∃ T f, IsZipK h' z TI TO T f) → (∃ a b, IsPair h' TO a b) → h'.IsTupleIter i1 l1 (k1 + 1) → h'.IsTupleIter i2 l2 (k2 + 1) → IsPair h' s.heap.objs.size x y → h'.objs.size = s.heap.objs.size + 1 →
      (∀ c o, c ≠ z → c ≠ TO → c ≠ i1 → c ≠ i2 → s.heap.get? c = some o → h'.get? c = some o) → Q (some (.ref s.heap.objs.size)) { s with heap := h' }) :
    wpAny (model prog w) A (pyNext (.ref z)) Q E s := by
  have hT' : s.TypeIs (.ref z) "zip" := ⟨_, hz, rfl⟩
  cases hT : s.heap.get? T with
  | some o =>
    exact pyNext_zipK_item D hz hT hTI hTO h1 h2 hl1 hl2 hx hy fun h' a1 a3 a4 a5 a6 a7 => hQ h' ⟨_, _, a1⟩ ⟨_, _, a7 _ _ D.TOz D.TOi1 D.TOi2 hTO⟩ a3 a4 a5 a6 fun c o n1 _ n3 n4 e => a7 c o n1 n3 n4 e
  | none =>
    unfold pyNext
    exact wpAny_bind (wpAny_attempt (wpAny_callSpecial?_slot (name := Str.ofString "__next__") hT' F.slot_zip_next
      (wpAny_call_entry F.slot_zip_next hT' F.entry_zip_next
        (zipD_next_item D hz hT hTI hTO h1 h2 hl1 hl2 hx hy fun h' a1 a2 a3 a4 a5 a6 a7 => wpAny_pure (hQ h' ⟨_, _, a1⟩ ⟨_, _, a2⟩ a3 a4 a5 a6 a7)) (F.args_zip_next_1 _))))
theorem zipN_end {z TI TO T i1 i2 l1 l2 : Addr} {k1 k2 : Nat} {xs ys : Array Value} {a b : Value} {f : Bool} {Q : Option Value → Shared → Prop} (hh : A.handled = none) (D : ZipApart z TI TO i1 i2 l1 l2)
    (hz : IsZipK s.heap z TI TO T f) (hTI : IsPair s.heap TI (.ref i1) (.ref i2)) (hTO : IsPair s.heap TO a b)
    (h1 : s.heap.IsTupleIter i1 l1 k1) (h2 : s.heap.IsTupleIter i2 l2 k2) (hl1 : s.heap.IsTuple l1 xs) (hl2 : s.heap.IsTuple l2 ys) (hend : xs[k1]? = none ∨ ys[k2]? = none)
    (hQ : ∀ h', (∀ c o, c ≠ z → c ≠ TO → c ≠ i1 → c ≠ i2 → s.heap.get? c = some o → h'.get? c = some o) → Q none { s with heap := h' }) :
    wpAny (model prog w) A (pyNext (.ref z)) Q E s := by
  have hT' : s.TypeIs (.ref z) "zip" := ⟨_, hz, rfl⟩
  cases hT : s.heap.get? T with
  | some o => exact pyNext_zipK_end hh D hz hT hTI hTO h1 h2 hl1 hl2 hend fun h' hk => hQ h' fun c o n1 _ n3 n4 e => hk c o n1 n3 n4 e
  | none =>
    unfold pyNext
    refine wpAny_bind (wpAny_attempt (wpAny_callSpecial?_slot (name := Str.ofString "__next__") hT' F.slot_zip_next
      (wpAny_call_entry F.slot_zip_next hT' F.entry_zip_next (zipD_next_end hh D hz hT hTI hTO h1 h2 hl1 hl2 hend fun h' e hk he => ?_) (F.args_zip_next_1 _))))
    obtain ⟨o, ho, hc⟩ := he
    refine wpAny_bind (wpAny_isInstance (T := "StopIteration") (b := true) ⟨o, ho, hc⟩ isSubtype_stop ?_)
    exact wpAny_pure (hQ _ hk)
end
/-- the zip, before its first turn or behind it -/
def ZipN (h : Heap) (z TI TO : Addr) : Prop := IsZip h z TI TO .none ∨ ∃ T f, IsZipK h z TI TO T f
theorem ZipN.obj {h : Heap} {z TI TO : Addr} (x : ZipN h z TI TO) : ∃ o, h.get? z = some o ∧ ∀ v, o.data ≠ .cell v := by
  rcases x with x | ⟨T, f, x⟩
  · exact ⟨_, x, fun v q => nomatch q⟩
  · exact ⟨_, x, fun v q => nomatch q⟩
theorem ZipN.keep {h h' : Heap} {z TI TO : Addr} (x : ZipN h z TI TO) (k : ∀ o, h.get? z = some o → h'.get? z = some o) : ZipN h' z TI TO := by
  rcases x with x | ⟨T, f, x⟩
  · exact .inl (k _ x)
  · exact .inr ⟨T, f, k _ x⟩
section
variable {prog : Program} {w : World} {A : Around} {E : Value → Shared → Prop} {s : Shared}
theorem zipA_item {z TI TO i1 i2 l1 l2 : Addr} {k1 k2 : Nat} {xs ys : Array Value} {x y a b : Value} {Q : Option Value → Shared → Prop} (D : ZipApart z TI TO i1 i2 l1 l2)
    (hz : ZipN s.heap z TI TO) (hTI : IsPair s.heap TI (.ref i1) (.ref i2)) (hTO : IsPair s.heap TO a b)
    (h1 : s.heap.IsTupleIter i1 l1 k1) (h2 : s.heap.IsTupleIter i2 l2 k2) (hl1 : s.heap.IsTuple l1 xs) (hl2 : s.heap.IsTuple l2 ys) (hx : xs[k1]? = some x) (hy : ys[k2]? = some y)
    (hQ : ∀ h', ZipN h' z TI TO → (∃ a b, IsPair h' TO a b) → h'.IsTupleIter i1 l1 (k1 + 1) → h'.IsTupleIter i2 l2 (k2 + 1) → IsPair h' s.heap.objs.size x y → h'.objs.size = s.heap.objs.size + 1 →
      (∀ c o, c ≠ z → c ≠ TO → c ≠ i1 → c ≠ i2 → s.heap.get? c = some o → h'.get? c = some o) → Q (some (.ref s.heap.objs.size)) { s with heap := h' }) :
    wpAny (model prog w) A (pyNext (.ref z)) Q E s := by
  rcases hz with hz | ⟨T, f, hz⟩
  · exact RZ.pyNext_zipT_item D hz hTI hTO h1 h2 hl1 hl2 hx hy fun h' a1 a2 a3 a4 a5 a6 a7 => hQ h' (.inr ⟨_, false, a1⟩) ⟨_, _, a2⟩ a3 a4 a5 a6 a7
  · exact zipN_item D hz hTI hTO h1 h2 hl1 hl2 hx hy fun h' a1 a2 a3 a4 a5 a6 a7 => hQ h' (.inr a1) a2 a3 a4 a5 a6 a7
theorem zipA_end {z TI TO i1 i2 l1 l2 : Addr} {k1 k2 : Nat} {xs ys : Array Value} {a b : Value} {Q : Option Value → Shared → Prop} (hh : A.handled = none) (D : ZipApart z TI TO i1 i2 l1 l2)
    (hz : ZipN s.heap z TI TO) (hTI : IsPair s.heap TI (.ref i1) (.ref i2)) (hTO : IsPair s.heap TO a b)
    (h1 : s.heap.IsTupleIter i1 l1 k1) (h2 : s.heap.IsTupleIter i2 l2 k2) (hl1 : s.heap.IsTuple l1 xs) (hl2 : s.heap.IsTuple l2 ys) (hend : xs[k1]? = none ∨ ys[k2]? = none)
    (hQ : ∀ h', (∀ c o, c ≠ z → c ≠ TO → c ≠ i1 → c ≠ i2 → s.heap.get? c = some o → h'.get? c = some o) → Q none { s with heap := h' }) :
    wpAny (model prog w) A (pyNext (.ref z)) Q E s := by
  rcases hz with hz | ⟨T, f, hz⟩
  · exact RZ.pyNext_zipT_end hh D hz hTI hTO h1 h2 hl1 hl2 hend hQ
  · exact zipN_end hh D hz hTI hTO h1 h2 hl1 hl2 hend hQ
end
theorem turn_zipN {P : Program} {w : World} {K : PySem.W.Frag} {nm : Str} {np : Pos} {a b z TI TO i1 i2 : Addr} (D : ZipApart z TI TO i1 i2 a b) :
    Turn P w K (.Name nm np) (RZ.ItzT K a b) [z, TI, TO, i1, i2] z (fun i h => ZipN h z TI TO ∧ IsPair h TI (.ref i1) (.ref i2) ∧ (∃ x y, IsPair h TO x y) ∧ h.IsTupleIter i1 a i ∧ h.IsTupleIter i2 b i) where
  mem := by simp
  obj := fun i h st c hc => by
    obtain ⟨hz, hTI, ⟨x, y, hTO⟩, ⟨o1, e1, _, d1⟩, ⟨o2, e2, _, d2⟩⟩ := st
    have e' : c = z ∨ c = TI ∨ c = TO ∨ c = i1 ∨ c = i2 := by simpa using hc
    rcases e' with q | q | q | q | q
    · rw [q]; exact hz.obj
    · rw [q]; exact ⟨_, hTI, fun v q => nomatch q⟩
    · rw [q]; exact ⟨_, hTO, fun v q => nomatch q⟩
    · rw [q]; exact ⟨o1, e1, fun v q => by rw [d1] at q; cases q⟩
    · rw [q]; exact ⟨o2, e2, fun v q => by rw [d2] at q; cases q⟩
  keep := fun i h h' st k => by
    obtain ⟨hz, hTI, ⟨x, y, hTO⟩, h1, h2⟩ := st
    exact ⟨hz.keep fun o q => k z (by simp) o q, k TI (by simp) _ hTI, ⟨x, y, k TO (by simp) _ hTO⟩, h1.at fun o q => k i1 (by simp) o q, h2.at fun o q => k i2 (by simp) o q⟩
  item := by
    intro X hP hw hK hc i pins s σ H E I hf st hg
    subst hP hw hK
    obtain ⟨hz, hTI, ⟨x0, y0, hTO⟩, h1, h2⟩ := st
    obtain ⟨xs, ys, x, y, hqx, hqy, hx, hy⟩ := hg
    obtain ⟨its, rv, p, _⟩ := I.tuple hqx
    obtain ⟨its2, rv2, p2, _⟩ := I.tuple hqy
    obtain ⟨u, hu, ru⟩ := rv.get hx
    obtain ⟨u2, hu2, ru2⟩ := rv2.get hy
    refine zipA_item D hz hTI hTO h1 h2 p p2 (x := u) (y := u2) (by simpa using hu) (by simpa using hu2) fun h' z' TO' h1' h2' hT hsz hk => ?_
    refine ⟨_, rfl, wpAny_pure ?_⟩
    have new : ObjOk X.prog X.w (upd H s.heap.objs.size (.tup [x, y])) h' s.heap.objs.size (.tup [x, y]) :=
      ⟨by show 2 ≤ sizeLine; decide, [u, u2], .cons ru (.cons ru2 .nil), ⟨_, hT, rfl, _, rfl⟩⟩
    have I1 : Inv X pins σ (upd H s.heap.objs.size (.tup [x, y])) { s with heap := h' } :=
      I.turnedNew (t' := s.toks) (ch := [z, TI, TO, i1, i2]) (fun c o hb q => hk c o (fun q' => hb (by simp [q'])) (fun q' => hb (by simp [q'])) (fun q' => hb (by simp [q'])) (fun q' => hb (by simp [q'])) q) hf (Nat.le_refl _) new
    refine ⟨.ref s.heap.objs.size, _, I1, rfl, ⟨_, x, y, rfl, I.hok.fresh (Nat.le_refl _), rfl, fun l hl => by rw [I.tuple_inj hl hqx]; exact hx, fun l hl => by rw [I.tuple_inj hl hqy]; exact hy⟩, ⟨z', hk _ _ D.TIz D.TITO D.TIi1 D.TIi2 hTI, TO', h1', h2'⟩, fun c hcm => ?_⟩
    have hlt : c < s.heap.objs.size := by
      have e' : c = z ∨ c = TI ∨ c = TO ∨ c = i1 ∨ c = i2 := by simpa using hcm
      rcases e' with q | q | q | q | q
      · rw [q]; obtain ⟨_, e, _⟩ := hz.obj; exact Heap.lt_size e
      · rw [q]; exact Heap.lt_size hTI
      · rw [q]; exact Heap.lt_size hTO
      · rw [q]; obtain ⟨_, e1, _⟩ := h1; exact Heap.lt_size e1
      · rw [q]; obtain ⟨_, e2, _⟩ := h2; exact Heap.lt_size e2
    rw [upd_ne (Nat.ne_of_lt hlt)]
    exact (hf c hcm).1
  done := by
    intro X hP hw hK hc i pins s σ H E I hf st hg
    subst hP hw hK
    obtain ⟨hz, hTI, ⟨x0, y0, hTO⟩, h1, h2⟩ := st
    obtain ⟨xs, ys, hqx, hqy, hend⟩ := hg
    obtain ⟨its, rv, p, _⟩ := I.tuple hqx
    obtain ⟨its2, rv2, p2, _⟩ := I.tuple hqy
    have l1 := rv.length
    have l2 := rv2.length
    have he : its.toArray[i]? = none ∨ its2.toArray[i]? = none := by
      rcases hend with q | q
      · exact .inl (by simp; omega)
      · exact .inr (by simp; omega)
    exact zipA_end (I.ok.hd hc) D hz hTI hTO h1 h2 p p2 he fun h' hk => ⟨rfl, I.turnedL (t' := s.toks) (ch := [z, TI, TO, i1, i2]) (fun c o hb q =>
      hk c o (fun q' => hb (by simp [q'])) (fun q' => hb (by simp [q'])) (fun q' => hb (by simp [q'])) (fun q' => hb (by simp [q'])) q) hf⟩
  self := fun A i s Q E st h => by
    rcases st.1 with q | ⟨T, f, q⟩
    · exact wpAny_pyIter_zip q h
    · have hT : s.TypeIs (.ref z) "zip" := ⟨_, q, rfl⟩
      refine wpAny_pyIter_slot hT F.slot_zip_iter (wpAny_call_entry F.slot_zip_iter hT F.entry_zip_iter ?_ (F.args_zip_iter_1 _))
      show wpAny _ _ (ret (.ref z)) _ _ s
      exact wpAny_pure ⟨_, rfl, "zip", _, hT, F.slot_zip_next.lookup, h⟩
def iZipN (K : PySem.W.Frag) (ta : TA) : TI := fun σ H R => ta σ H fun vs H1 => ∃ a b xs ys, vs = [.ref a, .ref b] ∧ SqT K H1 a xs ∧ SqT K H1 b ys ∧ R (RZ.ItzT K a b) H1
theorem pi_zipN {X : Cx} {e e2 : Expr} {ta : TA} {p pos npos : Pos} {nm : Str} (hg : Gl X "zip") (hm : X.mg "zip" = none) (ha : PA X [e, e2] ta)
    (hs : starEach [e, e2] X.env = (false, eval e X.env) :: starEach [e2] X.env := by rfl) (hpl : (backTo pos (starEach [e2] X.env)).any (·.1) = false := by rfl) :
    PI X (.Name nm npos) (.Call (.Name "zip" p) [e, e2] [] pos) (iZipN X.K ta) := by
  refine ⟨fun pins s σ H R I h => ?_⟩
  refine Call_ (ld_blt I hg hm PyProof.Rows.boot_zip (PyProof.Rows.callWith_type1 (thn (ha.run pos pins s σ H _ I h) fun us s1 ⟨vs, H1, I1, r1, q1⟩ => ?_) hs hpl))
  obtain ⟨a, b, xs, ys, ex, hqx, hqy, q⟩ := q1
  subst ex
  cases r1 with
  | cons r rr =>
    cases rr with
    | cons r' rr =>
      cases rr
      cases r
      cases r'
      obtain ⟨its, rv, p1, _⟩ := I1.tuple hqx
      obtain ⟨its2, rv2, p2, _⟩ := I1.tuple hqy
      obtain ⟨o1, ho1, _⟩ := id p1
      obtain ⟨o2, ho2, _⟩ := id p2
      have new5 : ∀ c, c ∈ [s1.heap.objs.size + 4, s1.heap.objs.size + 2, s1.heap.objs.size + 3, s1.heap.objs.size, s1.heap.objs.size + 1] → FpOk X pins H1 c := fun c hcm => by
        have hle : s1.heap.objs.size ≤ c := by
          have e' : c = s1.heap.objs.size + 4 ∨ c = s1.heap.objs.size + 2 ∨ c = s1.heap.objs.size + 3 ∨ c = s1.heap.objs.size ∨ c = s1.heap.objs.size + 1 := by simpa using hcm
          omega
        exact I1.fpOk hle (I1.hok.fresh hle)
      refine RZ.call_zipT (show s1.heap.IsTuple a its.toArray from p1) (show s1.heap.IsTuple b its2.toArray from p2) fun h' hz hTI hTO h1 h2 hsz hk => wpAny_pyIter_zip hz ?_
      have I2 : Inv X pins σ H1 { s1 with heap := h' } := I1.kept (t' := s1.toks) hk
      exact ⟨s1.heap.objs.size + 4, [s1.heap.objs.size + 4, s1.heap.objs.size + 2, s1.heap.objs.size + 3, s1.heap.objs.size, s1.heap.objs.size + 1], _, _, H1, rfl, I2, turn_zipN (PySem.W.ktu_apart s1.heap.objs.size a b (Heap.lt_size ho1) (Heap.lt_size ho2)), ⟨.inl hz, hTI, ⟨_, _, hTO⟩, h1, h2⟩, new5, q⟩
end SndZ
end
section
set_option Elab.async false
set_option linter.all false
set_option maxRecDepth 100000
set_option maxHeartbeats 2000000
namespace Snd
open PySem L2 Ev
section
variable {X : Cx} {CA : Nat → Addr} {pr : EProg} {T : FT} {np : Nat} {W : WX} {a b : P} {a' b' : Expr}
/-- zip of two tuples, a name as target -/
theorem i_zipN {p pos npos : Pos} {nm : Str} (hg : Gl X "zip") (hm : X.mg "zip" = none) (hn : noStar a' = true) (hn2 : noStar b' = true) (ha : PE X a' (tEv X.K CA pr T np W a)) (hb : PE X b' (tEv X.K CA pr T np W b)) :
    PI X (.Name nm npos) (.Call (.Name "zip" p) [a', b'] [] pos) (tIt X.K CA pr T np W (.zipn a b)) :=
  (SndZ.pi_zipN hg hm (a_cons ha (a_cons hb a_nil hn2) hn) (noStar_ok hn _ _) (noStars (by rw [List.all_cons, hn2]; rfl) _ _)).imp fun σ H R ⟨O, e, s, h⟩ => ⟨O, e, s, by
    have h' : AftE X.K CA np W O σ H e ((ev pr T np a e).bind fun r e1 => (ev pr T np b e1).bind fun s e2 => (match captAll np e2 [r, s] with | some ([x, y], e3) => lift (zipT x y) e3 | _ => .stuck)) fun xs O' H' e' => ∀ J, Serves X.K O' H' J xs → R J H' := h
    have h2 : AftE X.K CA np W O σ H e (evs pr T np (.cons a (.cons b .nil)) e) fun rs _ _ e2 => AftE X.K CA np W O σ H e (match captAll np e2 rs with | some ([x, y], e3) => lift (zipT x y) e3 | _ => .stuck) fun xs O' H' e' => ∀ J, Serves X.K O' H' J xs → R J H' := by
      show AftE X.K CA np W O σ H e ((ev pr T np a e).bind fun r e1 => ((ev pr T np b e1).bind fun r2 e2 => Out.bind (.ok [] e2) fun rs e3 => .ok (r2 :: rs) e3).bind fun rs e2 => .ok (r :: rs) e2) _
      cases q : ev pr T np a e with
      | stuck => rw [q] at h'; exact h'.elim
      | err c d e1 => rw [q] at h'; exact h'
      | ok r e1 =>
        rw [q] at h'
        have h3 : AftE X.K CA np W O σ H e ((ev pr T np b e1).bind fun s e2 => (match captAll np e2 [r, s] with | some ([x, y], e3) => lift (zipT x y) e3 | _ => .stuck)) fun xs O' H' e' => ∀ J, Serves X.K O' H' J xs → R J H' := h'
        show AftE X.K CA np W O σ H e (((ev pr T np b e1).bind fun r2 e2 => Out.bind (.ok [] e2) fun rs e3 => .ok (r2 :: rs) e3).bind fun rs e2 => .ok (r :: rs) e2) _
        cases q2 : ev pr T np b e1 with
        | stuck => rw [q2] at h3; exact h3.elim
        | err c d e2 => rw [q2] at h3; exact h3
        | ok r2 e2 =>
          rw [q2] at h3
          exact fun O2 H2 st2 s2 => h3
    refine h2.mono fun rs O1 H1 e1 st s1 q vs rvs => ?_
    cases q1 : captAll np e1 rs with
    | none => rw [q1] at q; exact q.elim
    | some p =>
      obtain ⟨ds, e2⟩ := p
      rw [q1] at q
      obtain ⟨O2, st2, s2, r2, _⟩ := captAll_ok st s1 rvs q1
      cases r2 with
      | nil => exact q.elim
      | cons g1 g2 =>
        cases g2 with
        | nil => exact q.elim
        | cons g3 g4 =>
          cases g4 with
          | cons => exact q.elim
          | nil =>
            obtain ⟨xs, hx, q2⟩ := AftE.lift q
            have q3 := q2 O2 H1 st2 s2
            unfold zipT at hx
            split at hx <;> first | contradiction | skip
            cases hx
            cases g1 with
            | tup a1 a2 =>
              cases g3 with
              | tup b1 b2 => exact ⟨_, _, _, _, rfl, a1, b1, q3 _ (serves_zipT a1 a2 b1 b2)⟩⟩
theorem repAll_range {K : PySem.W.Frag} {O : Own} {H : Hp} (n : Int) : RepAll K O H (rgV 0 n) (rangeL 0 n.toNat) := by
  unfold rgV rangeL
  rw [Int.sub_zero]
  generalize List.range n.toNat = l
  induction l with
  | nil => exact .nil
  | cons x l ih => exact .cons (.int _) ih
/-- list(range(..)) -/
theorem e_lrng {p q pos pos2 : Pos} (hc : X.calm = true) (hg : Gl X "list") (hm : X.mg "list" = none) (hg2 : Gl X "range") (hm2 : X.mg "range" = none) (hn : noStar a' = true) (ha : PE X a' (tEv X.K CA pr T np W a)) :
    PE X (.Call (.Name "list" p) [.Call (.Name "range" q) [a'] [] pos2] [] pos) (tEv X.K CA pr T np W (.lrng a)) :=
  (pe_listRg hc hg hm (prg_1 hg2 hm2 ha (noStar_ok hn _ _)) rfl).imp fun σ H Q ⟨O, e, s, h⟩ => ⟨O, e, s, (AftE.bind h).mono fun r O1 H1 e1 st s1 q v rv => by
    cases q1 : view e1 r with
    | none => rw [q1] at q; exact q.elim
    | some d =>
      rw [q1] at q
      cases d with
      | int n =>
        obtain rfl := (view_ok s1 rv q1).int
        have q' : AftE X.K CA np W O σ H e (if smallL n = true then .ok (.fresh (.lst (rangeL 0 n.toNat))) e1 else .stuck) fun r O' H' e' => ∀ v, RR X.K O' σ H' e' H v r → Q v H' := q
        by_cases hs : smallL n = true
        · rw [if_pos hs] at q'
          have w : -(2 ^ 62) ≤ n ∧ n ≤ 16000000 := of_decide_eq_true hs
          exact ⟨n, rfl, ⟨by decide, by decide, w.1, by omega, by omega⟩, fun p hp => fin_lst q' st s1 (repAll_range n) p hp⟩
        · rw [if_neg hs] at q'
          exact q'.elim
      | _ => exact q.elim⟩
end
end Snd
end
section
set_option Elab.async false
set_option linter.all false
set_option maxRecDepth 100000
set_option maxHeartbeats 2000000
/-! zip of lists and tuples in any mix, a target of several names -/
namespace SndM
open PySem PySem.Spec PyProof.Rows L2
def SqK (K : PySem.W.Frag) (H : Hp) (a : Addr) : Bool → List V → Prop
  | true, xs => SqT K H a xs
  | false, xs => SqL K H a xs
def ItK (h : Heap) (it a : Addr) (i : Nat) : Bool → Prop
  | true => h.IsTupleIter it a i
  | false => h.IsListIter it a i
def SeqK (h : Heap) (a : Addr) (its : Array Value) : Bool → Prop
  | true => h.IsTuple a its
  | false => h.IsList a its
theorem SqK.its {X : Cx} {pins : List (Addr × Obj)} {σ : L2.St} {H : Hp} {s : Shared} {a : Addr} {xs : List V} {k : Bool} (I : Inv X pins σ H s) (h : SqK X.K H a k xs) : ∃ its : List Value, Vals xs its ∧ SeqK s.heap a its.toArray k := by
  cases k with
  | true =>
    obtain ⟨its, r, p, _⟩ := I.tuple h
    exact ⟨its, r, p⟩
  | false =>
    obtain ⟨its, r, p, _⟩ := I.list h
    exact ⟨its, r, p.isList⟩
theorem SqK.inj {X : Cx} {pins : List (Addr × Obj)} {σ : L2.St} {H : Hp} {s : Shared} {a : Addr} {xs ys : List V} {k : Bool} (I : Inv X pins σ H s) (h : SqK X.K H a k xs) (h' : SqK X.K H a k ys) : xs = ys := by
  cases k with
  | true => exact I.tuple_inj h h'
  | false => exact I.list_inj h h'
theorem ItK.obj {h : Heap} {it a : Addr} {i : Nat} {k : Bool} (x : ItK h it a i k) : ∃ o, h.get? it = some o ∧ ∀ v, o.data ≠ .cell v := by
  cases k with
  | true =>
    obtain ⟨o, e, _, d⟩ := x
    exact ⟨o, e, fun v q => by rw [d] at q; cases q⟩
  | false =>
    obtain ⟨o, e, _, d⟩ := x
    exact ⟨o, e, fun v q => by rw [d] at q; cases q⟩
theorem ItK.keep {h h' : Heap} {it a : Addr} {i : Nat} {k : Bool} (x : ItK h it a i k) (e : ∀ o, h.get? it = some o → h'.get? it = some o) : ItK h' it a i k := by
  cases k with
  | true => exact Heap.IsTupleIter.at x e
  | false => exact Heap.IsListIter.at x e
theorem SeqK.lt {h : Heap} {a : Addr} {its : Array Value} {k : Bool} (x : SeqK h a its k) : a < h.objs.size := by
  cases k with
  | true => obtain ⟨o, e, _⟩ := x; exact Heap.lt_size e
  | false => obtain ⟨o, e, _⟩ := x; exact Heap.lt_size e
theorem draws {prog : Program} {w : World} {A : Around} (hh : A.handled = none) (it a : Addr) (hne : a ≠ it) (its : Array Value) (k : Bool) :
    Draws prog w A it [it, a] its.size (fun i v => its[i]? = some v) (fun i h => ItK h it a i k ∧ SeqK h a its k) := by
  cases k with
  | true => exact Draws.tuple hh it a hne its
  | false => exact Draws.list hh it a hne its
def itO (a : Addr) (k : Bool) : Obj := { cls := .type (if k then "tuple_iterator" else "list_iterator"), data := .fields #[.ref a, .int 0 0] }
theorem begins (a : Addr) (its : Array Value) (k : Bool) : Begins (.ref a) (itO a k) fun h => SeqK h a its k := by
  cases k with
  | true => exact begins_tuple a its
  | false => exact begins_list a its
def ItM (K : PySem.W.Frag) (k1 k2 : Bool) (a b : Addr) : It :=
  ⟨fun i H => ∃ (xs ys : List V) (x y : V), SqK K H a k1 xs ∧ SqK K H b k2 ys ∧ xs[i]? = some x ∧ ys[i]? = some y,
    fun i H v H' => ∃ T x y, v = .ref T ∧ H T = none ∧ H' = upd H T (.tup [x, y]) ∧ (∀ xs, SqK K H a k1 xs → xs[i]? = some x) ∧ ∀ ys, SqK K H b k2 ys → ys[i]? = some y,
    fun i H => ∃ xs ys : List V, SqK K H a k1 xs ∧ SqK K H b k2 ys ∧ i = min xs.length ys.length⟩
def tnM (z TI TO i1 i2 a b : Addr) (k1 k2 : Bool) (i : Nat) (h : Heap) : Prop := IsZip h z TI TO .none ∧ IsTupOf2 h TI (.ref i1) (.ref i2) ∧ (∃ x y, IsTupOf2 h TO x y) ∧ ItK h i1 a i k1 ∧ ItK h i2 b i k2
theorem tnM.obj {z TI TO i1 i2 a b : Addr} {k1 k2 : Bool} {i : Nat} {h : Heap} (st : tnM z TI TO i1 i2 a b k1 k2 i h) : ∀ c ∈ [z, TI, TO, i1, i2], ∃ o, h.get? c = some o ∧ ∀ v, o.data ≠ .cell v := fun c hc => by
  obtain ⟨hz, hTI, ⟨x, y, hTO⟩, h1, h2⟩ := st
  have e' : c = z ∨ c = TI ∨ c = TO ∨ c = i1 ∨ c = i2 := by simpa using hc
  rcases e' with q | q | q | q | q
  · rw [q]; exact ⟨_, hz, fun v q => nomatch q⟩
  · rw [q]; exact ⟨_, hTI, fun v q => nomatch q⟩
  · rw [q]; exact ⟨_, hTO, fun v q => nomatch q⟩
  · rw [q]; exact h1.obj
  · rw [q]; exact h2.obj
theorem turnM {P : Program} {w : World} {K : PySem.W.Frag} {elts : List Expr} {kk : Nat} {tpos : Pos} {a b z TI TO i1 i2 : Addr} {k1 k2 : Bool} (S : ZipSep2 z TI TO i1 i2 [i1, a] [i2, b]) (ha : a ≠ i1) (hb : b ≠ i2) :
    Turn P w K (.Tuple elts kk tpos) (ItM K k1 k2 a b) [z, TI, TO, i1, i2] z (tnM z TI TO i1 i2 a b k1 k2) where
  mem := by simp
  obj := fun i h st => st.obj
  keep := fun i h h' st k => by
    obtain ⟨hz, hTI, ⟨x, y, hTO⟩, h1, h2⟩ := st
    exact ⟨k z (by simp) _ hz, k TI (by simp) _ hTI, ⟨x, y, k TO (by simp) _ hTO⟩, h1.keep fun o q => k i1 (by simp) o q, h2.keep fun o q => k i2 (by simp) o q⟩
  item := by
    intro X hP hw hK hc i pins s σ H E I hf st hg
    subst hP hw hK
    obtain ⟨xs, ys, x, y, hqx, hqy, hx, hy⟩ := hg
    obtain ⟨its, rv, p⟩ := hqx.its I
    obtain ⟨its2, rv2, p2⟩ := hqy.its I
    obtain ⟨u, hu, ru⟩ := rv.get hx
    obtain ⟨u2, hu2, ru2⟩ := rv2.get hy
    have hh := I.ok.hd hc
    have W := GoesN.zip2 (elts := elts) (x1 := kk) (pos := tpos) S (draws (prog := X.prog) (w := X.w) (A := X.A.in1) hh i1 a ha its.toArray k1) (draws (prog := X.prog) (w := X.w) (A := X.A.in1) hh i2 b hb its2.toArray k2)
    have l1 : i < its.length := (List.getElem?_eq_some_iff.mp hu).1
    have l2 : i < its2.length := (List.getElem?_eq_some_iff.mp hu2).1
    have live := st.obj
    obtain ⟨hz, hTI, hTO, h1, h2⟩ := st
    refine W.goes i s _ E (by simp; omega) ⟨hz, hTI, hTO, ⟨h1, p⟩, h2, p2⟩ fun v h' tk hY st' hk htk => ?_
    obtain ⟨T, w1, w2, ev, hle, e1, e2, hT⟩ := hY
    subst ev
    have e1 : w1 = u := by
      rw [List.getElem?_toArray, hu] at e1
      exact (Option.some.inj e1).symm
    have e2 : w2 = u2 := by
      rw [List.getElem?_toArray, hu2] at e2
      exact (Option.some.inj e2).symm
    subst e1 e2
    obtain ⟨hz', hTI', hTO', ⟨h1', _⟩, h2', _⟩ := st'
    have new : ObjOk X.prog X.w (upd H T (.tup [x, y])) h' T (.tup [x, y]) := ⟨by show 2 ≤ sizeLine; decide, [w1, w2], .cons ru (.cons ru2 .nil), hT⟩
    have I1 : Inv X pins σ (upd H T (.tup [x, y])) { s with heap := h', toks := tk } :=
      I.turnedNew (t' := tk) (ch := [z, TI, TO, i1, i2]) (fun c o hb q => hk c o (fun q' => hb (by simp at q' ⊢; rcases q' with q' | q' | q' | q' <;> simp [q'])) q) hf hle new
    refine ⟨.ref T, _, I1, rfl, ⟨T, x, y, rfl, I.hok.fresh hle, rfl, fun l hl => by rw [SqK.inj I hl hqx]; exact hx, fun l hl => by rw [SqK.inj I hl hqy]; exact hy⟩, ⟨hz', hTI', hTO', h1', h2'⟩, fun c hcm => ?_⟩
    obtain ⟨o, ho, _⟩ := live c hcm
    rw [upd_ne (Nat.ne_of_lt (Nat.lt_of_lt_of_le (Heap.lt_size ho) hle))]
    exact (hf c hcm).1
  done := by
    intro X hP hw hK hc i pins s σ H E I hf st hg
    subst hP hw hK
    obtain ⟨hz, hTI, hTO, h1, h2⟩ := st
    obtain ⟨xs, ys, hqx, hqy, hend⟩ := hg
    obtain ⟨its, rv, p⟩ := hqx.its I
    obtain ⟨its2, rv2, p2⟩ := hqy.its I
    have l1 := rv.length
    have l2 := rv2.length
    have hh := I.ok.hd hc
    have W := GoesN.zip2 (elts := elts) (x1 := kk) (pos := tpos) S (draws (prog := X.prog) (w := X.w) (A := X.A.in1) hh i1 a ha its.toArray k1) (draws (prog := X.prog) (w := X.w) (A := X.A.in1) hh i2 b hb its2.toArray k2)
    have hn : i = min its.toArray.size its2.toArray.size := by simp; omega
    rw [hn] at h1 h2
    exact W.stops s (fun s1 => Inv X pins σ H s1) E ⟨hz, hTI, hTO, ⟨h1, p⟩, h2, p2⟩ fun h' tk hk htk => I.turnedL (t' := tk) (ch := [z, TI, TO, i1, i2]) (fun c o hb q => hk c o (fun q' => hb (by simp at q' ⊢; rcases q' with q' | q' | q' | q' <;> simp [q'])) q) hf
  self := fun A i s Q E st h => wpAny_pyIter_zip st.1 h
def iZipM (K : PySem.W.Frag) (ta : TA) : TI := fun σ H R => ta σ H fun vs H1 => ∃ a b k1 k2 xs ys, vs = [.ref a, .ref b] ∧ SqK K H1 a k1 xs ∧ SqK K H1 b k2 ys ∧ R (ItM K k1 k2 a b) H1
theorem pi_zipM {X : Cx} {e e2 : Expr} {ta : TA} {p pos tpos : Pos} {elts : List Expr} {kk : Nat} (hg : Gl X "zip") (hm : X.mg "zip" = none) (ha : PA X [e, e2] ta)
    (hs : starEach [e, e2] X.env = (false, eval e X.env) :: starEach [e2] X.env := by rfl) (hpl : (backTo pos (starEach [e2] X.env)).any (·.1) = false := by rfl) :
    PI X (.Tuple elts kk tpos) (.Call (.Name "zip" p) [e, e2] [] pos) (iZipM X.K ta) := by
  refine ⟨fun pins s σ H R I h => ?_⟩
  refine Call_ (ld_blt I hg hm PyProof.Rows.boot_zip (PyProof.Rows.callWith_type1 (thn (ha.run pos pins s σ H _ I h) fun us s1 ⟨vs, H1, I1, r1, q1⟩ => ?_) hs hpl))
  obtain ⟨a, b, k1, k2, xs, ys, ex, hqx, hqy, q⟩ := q1
  subst ex
  cases r1 with
  | cons r rr =>
    cases rr with
    | cons r' rr =>
      cases rr
      cases r
      cases r'
      obtain ⟨its, rv, p1⟩ := hqx.its I1
      obtain ⟨its2, rv2, p2⟩ := hqy.its I1
      have la := p1.lt
      have lb := p2.lt
      have new5 : ∀ c, c ∈ [s1.heap.objs.size + 4, s1.heap.objs.size + 2, s1.heap.objs.size + 3, s1.heap.objs.size, s1.heap.objs.size + 1] → FpOk X pins H1 c := fun c hcm => by
        have hle : s1.heap.objs.size ≤ c := by
          have e' : c = s1.heap.objs.size + 4 ∨ c = s1.heap.objs.size + 2 ∨ c = s1.heap.objs.size + 3 ∨ c = s1.heap.objs.size ∨ c = s1.heap.objs.size + 1 := by simpa using hcm
          omega
        exact I1.fpOk hle (I1.hok.fresh hle)
      refine zip_begins2 (begins a its.toArray k1) (begins b its2.toArray k2) p1 p2 fun h' hz hTI hTO g1 g2 hsz hk => wpAny_pyIter_zip hz ?_
      have I2 : Inv X pins σ H1 { s1 with heap := h' } := I1.kept (t' := s1.toks) hk
      have S : ZipSep2 (s1.heap.objs.size + 4) (s1.heap.objs.size + 2) (s1.heap.objs.size + 3) s1.heap.objs.size (s1.heap.objs.size + 1) [s1.heap.objs.size, a] [s1.heap.objs.size + 1, b] := zip_sep2 (fun c hc => by rw [List.mem_singleton.mp hc]; exact la) (fun c hc => by rw [List.mem_singleton.mp hc]; exact lb)
      have it1 : ItK h' s1.heap.objs.size a 0 k1 := by
        cases k1 with
        | true => exact ⟨_, g1, rfl, rfl⟩
        | false => exact ⟨_, g1, rfl, rfl⟩
      have it2 : ItK h' (s1.heap.objs.size + 1) b 0 k2 := by
        cases k2 with
        | true => exact ⟨_, g2, rfl, rfl⟩
        | false => exact ⟨_, g2, rfl, rfl⟩
      exact ⟨s1.heap.objs.size + 4, [s1.heap.objs.size + 4, s1.heap.objs.size + 2, s1.heap.objs.size + 3, s1.heap.objs.size, s1.heap.objs.size + 1], _, _, H1, rfl, I2, turnM (k1 := k1) (k2 := k2) S (Nat.ne_of_lt la) (Nat.ne_of_lt (Nat.lt_succ_of_lt lb)), ⟨hz, hTI, ⟨_, _, hTO⟩, it1, it2⟩, new5, q⟩
end SndM
end
section
set_option Elab.async false
set_option linter.all false
set_option maxRecDepth 100000
set_option maxHeartbeats 2000000
namespace Snd
open PySem L2 Ev SndM
section
variable {K : PySem.W.Frag} {O O1 O2 : Own} {H H1 H2 : Hp}
def DK (K : PySem.W.Frag) (O : Own) (H : Hp) (a : Addr) : Bool → List V → Prop
  | true, vs => SqT K H a vs
  | false, vs => Rd H a (.lst vs) ∧ ¬ O a
theorem DK.go {a : Addr} {k : Bool} {vs : List V} (h : DK K O H a k vs) {O' : Own} {H' : Hp} (kp : Kept K O H O' H') : SqK K H' a k vs := by
  cases k with
  | true => exact kp.2 a vs h
  | false => exact .inl (kp.1 a vs h.1 h.2).1
theorem SqK.get {a : Addr} {k : Bool} {vs : List V} {i : Nat} {x v : V} {H' : Hp} (h : SqK K H' a k vs) (g : ∀ xs, SqK K H' a k xs → xs[i]? = some x) (e : vs[i]? = some v) : x = v := by
  have := g vs h
  rw [e] at this
  exact (Option.some.inj this).symm
theorem serves_zipM {a b : Addr} {k1 k2 : Bool} {vs ws : List V} {xs ys : List D} (h : DK K O H a k1 vs) (r : RepAll K O H vs xs) (h' : DK K O H b k2 ws) (r' : RepAll K O H ws ys) : Serves K O H (ItM K k1 k2 a b) (List.zipWith (fun x y => .tuple [x, y]) xs ys) where
  go := fun O' H' kp i d q => by
    obtain ⟨x, y, q1, q2, rfl⟩ := zip_get q
    obtain ⟨v, h1, h2⟩ := r.get q1
    obtain ⟨w, g1, g2⟩ := r'.get q2
    have h3 := h.go kp
    have g3 := h'.go kp
    refine ⟨⟨vs, ws, v, w, h3, g3, h1, g1⟩, fun x H'' y => ?_⟩
    obtain ⟨p, v', w', rfl, hp, rfl, y1, y2⟩ := y
    obtain rfl := SqK.get h3 y1 h1
    obtain rfl := SqK.get g3 y2 g1
    exact pair_of hp (kp.rep h2) (kp.rep g2)
  stop := fun O' H' kp => ⟨vs, ws, h.go kp, h'.go kp, by rw [List.length_zipWith, r.length, r'.length]⟩
theorem rep_items {v : V} {d : D} {xs : List D} (r : Rep K O H v d) (h : itemsD d = some xs) : ∃ a k vs, v = .ref a ∧ DK K O H a k vs ∧ RepAll K O H vs xs := by
  cases r with
  | lst h1 h2 h3 =>
    cases h
    exact ⟨_, false, _, rfl, ⟨h1, h2⟩, h3⟩
  | tup h1 h2 =>
    cases h
    exact ⟨_, true, _, rfl, h1, h2⟩
  | non => cases h
  | bl b => cases h
  | int i => cases h
  | str x => cases h
end
section
variable {X : Cx} {CA : Nat → Addr} {pr : EProg} {T : FT} {np : Nat} {W : WX} {a b : P} {a' b' : Expr}
theorem i_zip {p pos tpos : Pos} {elts : List Expr} {kk : Nat} (hg : Gl X "zip") (hm : X.mg "zip" = none) (hn : noStar a' = true) (hn2 : noStar b' = true) (ha : PE X a' (tEv X.K CA pr T np W a)) (hb : PE X b' (tEv X.K CA pr T np W b)) :
    PI X (.Tuple elts kk tpos) (.Call (.Name "zip" p) [a', b'] [] pos) (tIt X.K CA pr T np W (.zip a b)) :=
  (SndM.pi_zipM hg hm (a_cons ha (a_cons hb a_nil hn2) hn) (noStar_ok hn _ _) (noStars (by rw [List.all_cons, hn2]; rfl) _ _)).imp fun σ H R ⟨O, e, s, h⟩ => ⟨O, e, s, by
    have h' : AftE X.K CA np W O σ H e ((ev pr T np a e).bind fun r e1 => (ev pr T np b e1).bind fun s e2 => (match captAll np e2 [r, s] with | some ([x, y], e3) => lift (zipL x y) e3 | _ => .stuck)) fun xs O' H' e' => ∀ J, Serves X.K O' H' J xs → R J H' := h
    have h2 : AftE X.K CA np W O σ H e (evs pr T np (.cons a (.cons b .nil)) e) fun rs _ _ e2 => AftE X.K CA np W O σ H e (match captAll np e2 rs with | some ([x, y], e3) => lift (zipL x y) e3 | _ => .stuck) fun xs O' H' e' => ∀ J, Serves X.K O' H' J xs → R J H' := by
      show AftE X.K CA np W O σ H e ((ev pr T np a e).bind fun r e1 => ((ev pr T np b e1).bind fun r2 e2 => Out.bind (.ok [] e2) fun rs e3 => .ok (r2 :: rs) e3).bind fun rs e2 => .ok (r :: rs) e2) _
      cases q : ev pr T np a e with
      | stuck => rw [q] at h'; exact h'.elim
      | err c d e1 => rw [q] at h'; exact h'
      | ok r e1 =>
        rw [q] at h'
        have h3 : AftE X.K CA np W O σ H e ((ev pr T np b e1).bind fun s e2 => (match captAll np e2 [r, s] with | some ([x, y], e3) => lift (zipL x y) e3 | _ => .stuck)) fun xs O' H' e' => ∀ J, Serves X.K O' H' J xs → R J H' := h'
        show AftE X.K CA np W O σ H e (((ev pr T np b e1).bind fun r2 e2 => Out.bind (.ok [] e2) fun rs e3 => .ok (r2 :: rs) e3).bind fun rs e2 => .ok (r :: rs) e2) _
        cases q2 : ev pr T np b e1 with
        | stuck => rw [q2] at h3; exact h3.elim
        | err c d e2 => rw [q2] at h3; exact h3
        | ok r2 e2 =>
          rw [q2] at h3
          exact fun O2 H2 st2 s2 => h3
    refine h2.mono fun rs O1 H1 e1 st s1 q vs rvs => ?_
    cases q1 : captAll np e1 rs with
    | none => rw [q1] at q; exact q.elim
    | some p =>
      obtain ⟨ds, e2⟩ := p
      rw [q1] at q
      obtain ⟨O2, st2, s2, r2, _⟩ := captAll_ok st s1 rvs q1
      cases r2 with
      | nil => exact q.elim
      | cons g1 g2 =>
        cases g2 with
        | nil => exact q.elim
        | cons g3 g4 =>
          cases g4 with
          | cons => exact q.elim
          | nil =>
            obtain ⟨xs, hx, q2⟩ := AftE.lift q
            have q3 := q2 O2 H1 st2 s2
            unfold zipL at hx
            obtain ⟨us, hu, hx⟩ := Option.bind_eq_some_iff.mp hx
            obtain ⟨ws, hw, rfl⟩ := Option.map_eq_some_iff.mp hx
            obtain ⟨p1, k1, vs1, rfl, d1, s1⟩ := rep_items g1 hu
            obtain ⟨p2, k2, vs2, rfl, d2, s2⟩ := rep_items g3 hw
            exact ⟨_, _, _, _, _, _, rfl, d1.go Kept.refl, d2.go Kept.refl, q3 _ (serves_zipM d1 s1 d2 s2)⟩⟩
end
end Snd
end
section
set_option Elab.async false
set_option linter.all false
set_option maxRecDepth 100000
set_option maxHeartbeats 4000000
/-! enumerate over a tuple -/
namespace Snd
open PySem L2 Ev PyProof.Rows
/-- enumerate.__new__ with one thing whose iterator is known -/
theorem new_enum1 {v : Value} {o : Obj} {G : Heap → Prop} (B : Begins v o G) :
    Meets (Builtin.«enumerate.__new__» ⟨[.type "enumerate", v], []⟩) (fun _ R s => G s.heap ∧
      R (.ok (.ret (.ref (s.heap.push o).objs.size))) { s with heap := (s.heap.push o).push { cls := .type "enumerate", data := .fields #[.none, .bool false, .ref s.heap.objs.size, rawInt 0, .none, .none] } }) :=
  .of_wp fun prog w A R s ⟨hG, hR⟩ => by
    obtain ⟨hp, gg, dd, tt, oo⟩ := s
    have hsub := sub_enumerate
    have one : ∀ {A' : Around} {E : Value → Shared → Prop} {Q : Value → Shared → Prop}, Q (.ref hp.objs.size) ⟨hp.push o, gg, dd, tt, oo⟩ → wpAny (model prog w) A' (pyIter v) Q E ⟨hp, gg, dd, tt, oo⟩ :=
      fun q => B.iter prog w _ _ ⟨hp, gg, dd, tt, oo⟩ _ hG q
    wp_walk using one
    refine wpAny_stack_any fun st => wpAny_pure ?_
    split
    · rename_i c _ _ _ _ _
      cases (c == Value.type "enumerate") <;> (wp_walk using one; exact ⟨_, rfl, hR⟩)
    · wp_walk using one
      exact ⟨_, rfl, hR⟩
theorem call_enum1 {prog : Program} {w : World} {A : Around} {E : Value → Shared → Prop} {s : Shared} {v : Value} {o : Obj} {G : Heap → Prop} {Q : Value → Shared → Prop} (B : Begins v o G) (hG : G s.heap)
    (hQ : ∀ h', IsEnum h' (s.heap.objs.size + 1) s.heap.objs.size 0 .none → h'.get? s.heap.objs.size = some o → (∀ b u, s.heap.get? b = some u → h'.get? b = some u) → Q (.ref (s.heap.objs.size + 1)) { s with heap := h' }) :
    wpAny (model prog w) A (call (.type "enumerate") [v]) Q E s := by
  refine callType_new F.called_enumerate (by decide) (F.typeCall_enumerate_1 _) (F.newCall_enumerate_1 _) (fun obj => F.args_object_init_2 obj _) F.entry_enumerate_new (new_enum1 B) ⟨hG, ?_⟩
  have z : (s.heap.push o).objs.size = s.heap.objs.size + 1 := Heap.size_push ..
  have made : IsEnum ((s.heap.push o).push { cls := .type "enumerate", data := .fields #[.none, .bool false, .ref s.heap.objs.size, rawInt 0, .none, .none] }) (s.heap.objs.size + 1) s.heap.objs.size 0 .none := by
    have m := Heap.get?_push_size (s.heap.push o) (o := { cls := .type "enumerate", data := .fields #[.none, .bool false, .ref s.heap.objs.size, rawInt 0, .none, .none] }) rfl
    rw [z] at m
    exact m
  show _ ∧ _
  rw [z]
  exact ⟨⟨_, made, rfl⟩, hQ _ made (Heap.get?_push_of_some _ (Heap.get?_push_size _ B.free)) fun b u x => Heap.get?_push_of_some _ (Heap.get?_push_of_some _ x)⟩
/-- the tuple at a at each turn, each item in a new pair -/
def ItE (K : PySem.W.Frag) (a : Addr) : It :=
  ⟨fun i H => ∃ (l : List V) (x : V), SqT K H a l ∧ l[i]? = some x, fun i H v H' => ∃ t x, v = .ref t ∧ H t = none ∧ H' = upd H t (.tup [.int (i : Nat), x]) ∧ ∀ l, SqT K H a l → l[i]? = some x, fun i H => ∃ l : List V, SqT K H a l ∧ l.length = i⟩
theorem turn_enumT {P : Program} {w : World} {K : PySem.W.Frag} {elts : List Expr} {kk : Nat} {tpos : Pos} (a e it : Addr) (ha : a ≠ it) (hea : e ≠ a) :
    Turn P w K (.Tuple elts kk tpos) (ItE K a) [e, it] e (fun i h => (∃ old, IsEnum h e it ((i : Nat) : Int) old) ∧ h.IsTupleIter it a i ∧ e ≠ it) where
  mem := by simp
  obj := fun i h st b hb => by
    obtain ⟨⟨old, s1⟩, ⟨o, s2, _, s3⟩, _⟩ := st
    have two : b = e ∨ b = it := by simpa using hb
    rcases two with rfl | rfl
    · exact ⟨_, s1, fun v q => nomatch q⟩
    · exact ⟨o, s2, fun v q => by rw [s3] at q; cases q⟩
  keep := fun i h h' st k => ⟨⟨st.1.choose, k e (by simp) _ st.1.choose_spec⟩, st.2.1.at fun o q => k it (by simp) o q, st.2.2⟩
  item := by
    rintro X rfl rfl rfl hc i pins s σ H E I hf ⟨⟨old, s1⟩, s2, s3⟩ ⟨l, x, g1, g2⟩
    obtain ⟨its, rv, p, _⟩ := I.tuple g1
    obtain ⟨u, hu, ru⟩ := rv.get g2
    have z1 : e < s.heap.objs.size := Heap.lt_size s1
    have z2 : it < s.heap.objs.size := by obtain ⟨_, q, _⟩ := s2; exact Heap.lt_size q
    have hi : i < its.toArray.size := by
      obtain ⟨m, _⟩ := List.getElem?_eq_some_iff.mp hu
      simpa using m
    have hD := Draws.tuple (prog := X.prog) (w := X.w) (A := X.A.in1) (I.ok.hd hc) it a ha its.toArray
    refine wpAny_pyNext_enum_itemD hD s1 ⟨s2, (show s.heap.IsTuple a its.toArray from p)⟩ hi s3 (by simp [s3, hea]) fun y h' tk hy ho hs' hT hsz hk => ?_
    have hy' : its.toArray[i]? = some y := hy
    have ey : y = u := by
      rw [List.getElem?_toArray, hu] at hy'
      exact (Option.some.inj hy').symm
    subst ey
    refine ⟨_, rfl, wpAny_letOwnedTupleGo_enum (s := { s with heap := h', toks := tk + 1 }) ho fun h2 he2 sb => ?_⟩
    have hT2 : h2.get? s.heap.objs.size = some { cls := .type "tuple", data := .seq #[.int i tk, y] } := (sb.2 _ (Nat.ne_of_gt z1)).trans hT
    have nw : ObjOk X.prog X.w (upd H s.heap.objs.size (.tup [.int (i : Nat), x])) h2 s.heap.objs.size (.tup [.int (i : Nat), x]) :=
      ⟨by show 2 ≤ sizeLine; decide, [.int i tk, y], .cons ⟨_, rfl⟩ (.cons ru .nil), ⟨_, hT2, rfl, _, rfl⟩⟩
    have J : Inv X pins σ (upd H s.heap.objs.size (.tup [.int (i : Nat), x])) { s with heap := h2, toks := tk + 1 } :=
      I.turnedNew (ch := [e, it]) (fun b ob hb q => (sb.2 b (fun z => hb (by simp [z]))).trans (hk b ob (fun z => hb (by simp [z])) (fun z => hb (by simp [z])) q)) hf (Nat.le_refl _) nw
    refine ⟨.ref s.heap.objs.size, _, J, rfl, ⟨_, x, rfl, I.hok.fresh (Nat.le_refl _), rfl, fun m hm => by rw [I.tuple_inj hm g1]; exact g2⟩, ⟨⟨y, ?_⟩, hs'.1.at fun o q => (sb.2 it (Ne.symm s3)).trans q, s3⟩, fun b hb => ?_⟩
    · rw [show ((i + 1 : Nat) : Int) = (i : Int) + 1 by omega]
      exact he2
    · have lt : b < s.heap.objs.size := by
        have two : b = e ∨ b = it := by simpa using hb
        rcases two with q | q <;> (rw [q]; assumption)
      rw [upd_ne (Nat.ne_of_lt lt)]
      exact (hf b hb).1
  done := by
    rintro X rfl rfl rfl hc i pins s σ H E I hf ⟨⟨old, s1⟩, s2, s3⟩ ⟨l, g1, g2⟩
    obtain ⟨its, rv, p, _⟩ := I.tuple g1
    obtain ⟨f0, f1, f2, f3, f4, f5⟩ := hf it (by simp)
    have hl := rv.length
    have hD := Draws.tuple (prog := X.prog) (w := X.w) (A := X.A.in1) (I.ok.hd hc) it a ha its.toArray
    have ei : i = its.toArray.size := by rw [List.size_toArray]; omega
    subst ei
    exact wpAny_pyNext_enum_endD hD s1 ⟨s2, (show s.heap.IsTuple a its.toArray from p)⟩ fun h' eb => ⟨rfl, I.turned (t' := s.toks) (fun b o hb q => eb b o hb q) f0 f1 f3 f4 f5⟩
  self := fun A i s Q E st h => wpAny_pyIter_enum st.1.choose_spec h
def iEnumA (K : PySem.W.Frag) (ta : TA) : TI := fun σ H R => ta σ H fun vs H1 => ∃ a l, vs = [.ref a] ∧ ((SqL K H1 a l ∧ R (Ite K a) H1) ∨ (SqT K H1 a l ∧ R (ItE K a) H1))
theorem pi_enumA {X : Cx} {e : Expr} {ta : TA} {p pos tpos : Pos} {elts : List Expr} {kk : Nat} (hg : Gl X "enumerate") (hm : X.mg "enumerate" = none) (ha : PA X [e] ta) (hs : starEach [e] X.env = [(false, eval e X.env)]) :
    PI X (.Tuple elts kk tpos) (.Call (.Name "enumerate" p) [e] [] pos) (iEnumA X.K ta) := by
  refine ⟨fun pins s σ H R I h => Call_ (ld_blt I hg hm boot_enumerate (PyProof.Rows.callWith_type1 (thn (ha.run pos pins s σ H _ I h) fun us s1 ⟨vs, H1, J, r1, a, l, ex, q⟩ => ?_) hs rfl))⟩
  subst ex
  cases r1 with
  | cons r rr =>
    cases rr
    cases r
    have new2 : ∀ b, b ∈ [s1.heap.objs.size + 1, s1.heap.objs.size] → FpOk X pins H1 b := fun b hb => by
      have le : s1.heap.objs.size ≤ b := by
        rcases List.mem_cons.mp hb with q | q
        · rw [q]; exact Nat.le_add_right _ _
        · rw [List.mem_singleton.mp q]; exact Nat.le_refl _
      exact J.fpOk le (J.hok.fresh le)
    rcases q with ⟨g, q⟩ | ⟨g, q⟩
    · obtain ⟨its, _, pl, _⟩ := J.list g
      refine call_enumerate_list pl.isList fun h' g1 g2 _ g3 => wpAny_pyIter_enum g1 ?_
      exact ⟨s1.heap.objs.size + 1, [s1.heap.objs.size + 1, s1.heap.objs.size], _, _, H1, rfl, J.kept (t' := s1.toks) g3, turn_enum a (s1.heap.objs.size + 1) s1.heap.objs.size, ⟨⟨.none, g1⟩, g2, Nat.succ_ne_self _⟩, new2, q⟩
    · obtain ⟨its, _, pt, _⟩ := J.tuple g
      have lt : a < s1.heap.objs.size := by obtain ⟨_, z, _⟩ := id pt; exact Heap.lt_size z
      refine call_enum1 (begins_tuple a its.toArray) (show s1.heap.IsTuple a its.toArray from pt) fun h' g1 g2 g3 => wpAny_pyIter_enum g1 ?_
      exact ⟨s1.heap.objs.size + 1, [s1.heap.objs.size + 1, s1.heap.objs.size], _, _, H1, rfl, J.kept (t' := s1.toks) g3, turn_enumT a (s1.heap.objs.size + 1) s1.heap.objs.size (Nat.ne_of_lt lt) (Nat.ne_of_gt (Nat.lt_succ_of_lt lt)), ⟨⟨.none, g1⟩, ⟨_, g2, rfl, rfl⟩, Nat.succ_ne_self _⟩, new2, q⟩
theorem serves_enumT {K : PySem.W.Frag} {O : Own} {H : Hp} {a : Addr} {vs : List V} {ds : List D} (h : SqT K H a vs) (r : RepAll K O H vs ds) : Serves K O H (ItE K a) (enumFrom 0 ds) where
  go := fun O' H' k i d q => by
    obtain ⟨y, q1, rfl⟩ := enum_get q
    obtain ⟨v, g1, g2⟩ := r.get q1
    have g3 := k.2 a vs h
    refine ⟨⟨vs, v, g3, g1⟩, fun x H'' z => ?_⟩
    obtain ⟨t, w, rfl, ht, rfl, z2⟩ := z
    have z3 := z2 vs g3
    rw [g1] at z3
    cases z3
    rw [Nat.zero_add]
    exact pair_of ht (.int _) (k.rep g2)
  stop := fun O' H' k => ⟨vs, k.2 a vs h, by rw [enum_len, r.length]⟩
section
variable {X : Cx} {CA : Nat → Addr} {pr : EProg} {T : FT} {np : Nat} {W : WX} {a : P} {a' tg : Expr}
theorem i_enum {p pos tpos : Pos} {elts : List Expr} {kk : Nat} (hg : Gl X "enumerate") (hm : X.mg "enumerate" = none) (hn : noStar a' = true) (ha : PE X a' (tEv X.K CA pr T np W a)) :
    PI X (.Tuple elts kk tpos) (.Call (.Name "enumerate" p) [a'] [] pos) (tIt X.K CA pr T np W (.enum a)) :=
  (pi_enumA hg hm (pa_cons ha pa_nil (noStar_ok hn _ _)) (noStar_ok hn _ _)).imp fun σ H R ⟨O, e, s, h⟩ => ⟨O, e, s, (AftE.bind h).mono fun r O1 H1 e1 st s1 q v rv => by
    cases q1 : capt np e1 r with
    | none => rw [q1] at q; exact q.elim
    | some z =>
      obtain ⟨d, e2⟩ := z
      rw [q1] at q
      obtain ⟨O2, st2, s2, r2, _⟩ := capt_ok st s1 rv q1
      obtain ⟨xs, hx, q2⟩ := AftE.lift q
      have q3 := q2 O2 H1 st2 s2
      cases d with
      | list ds =>
        cases hx
        cases r2 with
        | lst g1 g2 g3 => exact ⟨_, _, rfl, .inl ⟨.inl g1, q3 _ (serves_enum g1 g2 g3)⟩⟩
      | tuple ds =>
        cases hx
        cases r2 with
        | tup g1 g2 => exact ⟨_, _, rfl, .inr ⟨g1, q3 _ (serves_enumT g1 g2)⟩⟩
      | _ => cases hx⟩
end
end Snd
end
section
set_option Elab.async false
set_option linter.all false
set_option maxRecDepth 100000
set_option maxHeartbeats 2000000
namespace Snd
open PySem L2 Ev
/-! ### places set in a row -/
def setAll {α : Type} (f : Nat → α) (l : List α) : List Nat → List α
  | [] => l
  | i :: r => (setAll f l r).set i (f i)
theorem setAll_len {α : Type} {f : Nat → α} {l : List α} : ∀ r : List Nat, (setAll f l r).length = l.length
  | [] => rfl
  | i :: r => by
    show ((setAll f l r).set i (f i)).length = l.length
    rw [List.length_set, setAll_len r]
theorem setAll_get {α : Type} {f : Nat → α} {l : List α} {j : Nat} : ∀ r : List Nat, (j ∉ r → (setAll f l r)[j]? = l[j]?) ∧ (j ∈ r → j < l.length → (setAll f l r)[j]? = some (f j))
  | [] => ⟨fun _ => rfl, fun h => absurd h List.not_mem_nil⟩
  | i :: r => by
    obtain ⟨h1, h2⟩ := setAll_get (f := f) (l := l) (j := j) r
    show (j ∉ i :: r → ((setAll f l r).set i (f i))[j]? = l[j]?) ∧ (j ∈ i :: r → j < l.length → ((setAll f l r).set i (f i))[j]? = some (f j))
    refine ⟨fun n => ?_, fun m hl => ?_⟩
    · rw [List.getElem?_set_ne fun z => n (by rw [z]; exact List.mem_cons_self)]
      exact h1 fun z => n (List.mem_cons_of_mem _ z)
    · by_cases hi : i = j
      · subst hi
        rw [List.getElem?_set_self (by rw [setAll_len]; exact hl)]
      · rw [List.getElem?_set_ne hi]
        exact h2 ((List.mem_cons.mp m).elim (fun z => absurd z.symm hi) id) hl
theorem wipeE_eq (e : FEnv) : ∀ r : List Nat, Ev.wipe e r = setAll (fun _ => .emp) e r
  | [] => rfl
  | i :: r => by
    show (Ev.wipe e r).set i .emp = (setAll _ e r).set i .emp
    rw [wipeE_eq e r]
theorem wipeS_eq (σ : St) : ∀ r : List Nat, L2.wipe σ r = setAll (fun _ => none) σ r
  | [] => rfl
  | i :: r => by
    show (L2.wipe σ r).set i none = (setAll _ σ r).set i none
    rw [wipeS_eq σ r]
theorem restore_eq (e0 e : FEnv) : ∀ r : List Nat, restore e0 e r = setAll (gt e0) e r
  | [] => rfl
  | i :: r => by
    show (restore e0 e r).set i (gt e0 i) = (setAll _ e r).set i (gt e0 i)
    rw [restore_eq e0 e r]
theorem setAll_ext {α : Type} {f : Nat → α} {l l' : List α} {r : List Nat} (hl : l.length = l'.length) (h : ∀ j, j ∉ r → l[j]? = l'[j]?) : setAll f l r = setAll f l' r := by
  refine List.ext_getElem? fun j => ?_
  by_cases hj : j ∈ r
  · by_cases hb : j < l.length
    · rw [(setAll_get r).2 hj hb, (setAll_get r).2 hj (by omega)]
    · rw [List.getElem?_eq_none (by rw [setAll_len]; omega), List.getElem?_eq_none (by rw [setAll_len]; omega)]
  · rw [(setAll_get r).1 hj, (setAll_get r).1 hj, h j hj]
theorem setAll_out {α : Type} {f : Nat → α} {l l' : List α} {r : List Nat} (h : setAll f l r = setAll f l' r) : l.length = l'.length ∧ ∀ j, j ∉ r → l[j]? = l'[j]? := by
  refine ⟨?_, fun j hj => ?_⟩
  · have w := congrArg List.length h
    rwa [setAll_len, setAll_len] at w
  · have w := congrArg (fun z => z[j]?) h
    rwa [(setAll_get r).1 hj, (setAll_get r).1 hj] at w
section
variable {K : PySem.W.Frag} {CA : Nat → Addr} {np : Nat} {O O1 O2 : Own} {σ σ1 σ2 : St} {H H0 H1 H2 : Hp} {e e0 e1 e2 : FEnv} {own : List Nat}
theorem restore_self : restore e e own = e := by
  rw [restore_eq]
  refine List.ext_getElem? fun j => ?_
  by_cases hj : j ∈ own
  · by_cases hb : j < e.length
    · rw [(setAll_get own).2 hj hb]
      unfold gt
      rw [List.getD_eq_getElem?_getD, List.getElem?_eq_getElem hb]
      rfl
    · rw [List.getElem?_eq_none (by rw [setAll_len]; omega), List.getElem?_eq_none (by omega)]
  · rw [(setAll_get own).1 hj]
theorem plain_no (h : plainOwn e own = true) {i : Nat} (hi : i ∈ own) : isOwn (gt e i) = false := by
  have w := List.all_eq_true.mp h i hi
  rwa [Bool.not_eq_true'] at w
/-- one's own of a restored frame is no comprehension's name -/
theorem rest_own (p : plainOwn e0 own = true) {i : Nat} {c : ECell} (h : (restore e0 e own)[i]? = some (Plc.own c)) : i ∉ own ∧ e[i]? = some (Plc.own c) := by
  rw [restore_eq] at h
  by_cases hi : i ∈ own
  · by_cases hb : i < e.length
    · rw [(setAll_get own).2 hi hb] at h
      have w := plain_no p hi
      rw [Option.some.inj h] at w
      cases w
    · rw [List.getElem?_eq_none (by rw [setAll_len]; omega)] at h
      cases h
  · rw [(setAll_get own).1 hi] at h
    exact ⟨hi, h⟩
theorem rest_out {i : Nat} (hi : i ∉ own) : (restore e0 e own)[i]? = e[i]? := by
  rw [restore_eq, (setAll_get own).1 hi]
theorem wipeE_own {i : Nat} {c : ECell} (h : (Ev.wipe e own)[i]? = some (Plc.own c)) : i ∉ own ∧ e[i]? = some (Plc.own c) := by
  rw [wipeE_eq] at h
  by_cases hi : i ∈ own
  · by_cases hb : i < e.length
    · rw [(setAll_get own).2 hi hb] at h
      cases h
    · rw [List.getElem?_eq_none (by rw [setAll_len]; omega)] at h
      cases h
  · rw [(setAll_get own).1 hi] at h
    exact ⟨hi, h⟩
theorem wipeE_out {i : Nat} (hi : i ∉ own) : (Ev.wipe e own)[i]? = e[i]? := by
  rw [wipeE_eq, (setAll_get own).1 hi]
theorem wipeS_out {i : Nat} (hi : i ∉ own) : (L2.wipe σ own)[i]? = σ[i]? := by
  rw [wipeS_eq, (setAll_get own).1 hi]
theorem wipeS_same {i : Nat} (h : L2.wipe σ1 own = L2.wipe σ own) (hi : i ∉ own) : σ1[i]? = σ[i]? := by
  rw [wipeS_eq, wipeS_eq] at h
  exact (setAll_out h).2 i hi
theorem wipe_sr (p : plainOwn e0 own = true) (s : SR K O σ H (restore e0 e own)) : SR K O (L2.wipe σ own) H (Ev.wipe e own) where
  len := by rw [L2.wipe_length, wipeE_eq, setAll_len, s.len, restore_eq, setAll_len]
  at_ := fun i q h => by
    by_cases hi : i ∈ own
    · have hb : i < e.length := by
        have := (List.getElem?_eq_some_iff.mp h).1
        rwa [wipeE_eq, setAll_len] at this
      have hs : i < σ.length := by rw [s.len, restore_eq, setAll_len]; exact hb
      rw [wipeE_eq, (setAll_get own).2 hi hb] at h
      cases h
      exact ⟨none, by rw [wipeS_eq, (setAll_get own).2 hi hs], trivial⟩
    · rw [wipeE_out hi] at h
      obtain ⟨o, h1, h2⟩ := s.at_ i q (by rw [rest_out hi]; exact h)
      exact ⟨o, by rw [wipeS_out hi]; exact h1, h2⟩
  inj := fun i j c c' a q1 q2 q3 q4 => by
    obtain ⟨i1, i2⟩ := wipeE_own q1
    obtain ⟨j1, j2⟩ := wipeE_own q2
    rw [wipeS_out i1] at q3
    rw [wipeS_out j1] at q4
    exact s.inj i j c c' a (by rw [rest_out i1]; exact i2) (by rw [rest_out j1]; exact j2) q3 q4
theorem unwipe_sr (p : plainOwn e0 own = true) (s : SR K O σ H (restore e0 e own)) (k : Kept K O H O2 H2) (s2 : SR K O2 σ2 H2 e2) (w : L2.wipe σ2 own = L2.wipe σ own) : SR K O2 σ H2 (restore e0 e2 own) where
  len := by
    have l := congrArg List.length w
    rw [L2.wipe_length, L2.wipe_length] at l
    rw [← l, s2.len, restore_eq, setAll_len]
  at_ := fun i q h => by
    by_cases hi : i ∈ own
    · have l := congrArg List.length w
      rw [L2.wipe_length, L2.wipe_length] at l
      have hb : i < e2.length := by
        have := (List.getElem?_eq_some_iff.mp h).1
        rwa [restore_eq, setAll_len] at this
      have he : i < e.length := by
        have := s.len
        rw [restore_eq, setAll_len] at this
        have := s2.len
        omega
      rw [restore_eq, (setAll_get own).2 hi hb] at h
      cases h
      obtain ⟨o, h1, h2⟩ := s.at_ i (gt e0 i) (by rw [restore_eq, (setAll_get own).2 hi he])
      refine ⟨o, h1, ?_⟩
      have np := plain_no p hi
      generalize gt e0 i = q at h2 np
      cases q with
      | emp => exact h2
      | exc c d => exact h2
      | own c => cases np
      | val d =>
        obtain ⟨v, h3, h4⟩ := h2
        exact ⟨v, h3, k.rep h4⟩
    · rw [rest_out hi] at h
      obtain ⟨o, h1, h2⟩ := s2.at_ i q h
      exact ⟨o, by rw [← wipeS_same w hi]; exact h1, h2⟩
  inj := fun i j c c' a q1 q2 q3 q4 => by
    obtain ⟨i1, i2⟩ := rest_own p q1
    obtain ⟨j1, j2⟩ := rest_own p q2
    rw [← wipeS_same w i1] at q3
    rw [← wipeS_same w j1] at q4
    exact s2.inj i j c c' a i2 j2 q3 q4
theorem mine_wipe {a : Addr} (m : Mine (L2.wipe σ own) (Ev.wipe e own) a) : Mine σ (restore e0 e own) a := by
  obtain ⟨i, c, h1, h2⟩ := m
  obtain ⟨i1, i2⟩ := wipeE_own h1
  exact ⟨i, c, by rw [rest_out i1]; exact i2, by rw [← wipeS_out i1]; exact h2⟩
theorem comp_stp (p : plainOwn e0 own = true) (st : Stp np O (L2.wipe σ own) H (Ev.wipe e own) O2 σ2 H2 e2) (w : L2.wipe σ2 own = L2.wipe σ own) : Stp np O σ H (restore e0 e own) O2 σ H2 (restore e0 e2 own) where
  keep := fun a o h n => by
    obtain ⟨k1, k2, k3⟩ := st.keep a o h fun m => n (mine_wipe m)
    refine ⟨k1, k2, fun ⟨i, c, h1, h2⟩ => ?_⟩
    obtain ⟨i1, i2⟩ := rest_own p h1
    exact k3 ⟨i, c, i2, by rw [wipeS_same w i1]; exact h2⟩
  there := st.there
  par := fun i c hi h => by
    obtain ⟨i1, i2⟩ := rest_own p h
    obtain ⟨c', h1, h2⟩ := st.par i c hi (by rw [wipeE_out i1]; exact i2)
    exact ⟨c', by rw [rest_out i1]; exact h1, rfl⟩
/-! ### a name gets a value -/
theorem put_some {i : Nat} {s : Plc} (h : put np e i s = some e1) : i < e.length ∧ (isOwn (gt e i) = true → np ≤ i) ∧ e1 = e.set i s := by
  unfold put at h
  split at h
  · rename_i hl
    split at h
    · cases h
    · rename_i hn
      cases h
      refine ⟨hl, fun o => ?_, rfl⟩
      rw [o, Bool.true_and, decide_eq_true_eq] at hn
      omega
  · cases h
theorem put_stp {i : Nat} {s : Plc} {o : Option V} (hs : ∀ c, s ≠ .own c) (h : put np e i s = some e1) : Stp np O σ H e O (σ.set i o) H e1 := by
  obtain ⟨hl, hn, rfl⟩ := put_some h
  refine ⟨fun a ob ha nm => ⟨ha, Iff.rfl, fun ⟨j, c, h1, h2⟩ => ?_⟩, fun _ z => z, fun j c hj hc => ?_⟩
  · by_cases hij : i = j
    · subst hij
      rw [List.getElem?_set_self hl] at h1
      exact hs c (Option.some.inj h1)
    · rw [List.getElem?_set_ne hij] at h1 h2
      exact nm ⟨j, c, h1, h2⟩
  · have hij : i ≠ j := fun z => by
      subst z
      have := hn (by rw [gt_get hc]; rfl)
      omega
    exact ⟨c, by rw [List.getElem?_set_ne hij]; exact hc, by rw [List.getElem?_set_ne hij]⟩
theorem put_sr {i : Nat} {s : Plc} {o : Option V} (sr : SR K O σ H e) (hs : ∀ c, s ≠ .own c) (hp : PlcR K O H o s) (h : put np e i s = some e1) : SR K O (σ.set i o) H e1 := by
  obtain ⟨hl, hn, rfl⟩ := put_some h
  refine ⟨by rw [List.length_set, List.length_set, sr.len], fun j p hj => ?_, fun j k c c' a q1 q2 q3 q4 => ?_⟩
  · by_cases hij : i = j
    · subst hij
      rw [List.getElem?_set_self hl] at hj
      cases hj
      exact ⟨o, by rw [List.getElem?_set_self (by rw [sr.len]; exact hl)], hp⟩
    · rw [List.getElem?_set_ne hij] at hj
      obtain ⟨o', h1, h2⟩ := sr.at_ j p hj
      exact ⟨o', by rw [List.getElem?_set_ne hij]; exact h1, h2⟩
  · have ne : ∀ {j : Nat} {c : ECell}, (e.set i s)[j]? = some (Plc.own c) → i ≠ j ∧ e[j]? = some (Plc.own c) := fun {j c} q => by
      by_cases hij : i = j
      · subst hij
        rw [List.getElem?_set_self hl] at q
        exact absurd (Option.some.inj q) (hs c)
      · rw [List.getElem?_set_ne hij] at q
        exact ⟨hij, q⟩
    obtain ⟨j1, j2⟩ := ne q1
    obtain ⟨k1, k2⟩ := ne q2
    rw [List.getElem?_set_ne j1] at q3
    rw [List.getElem?_set_ne k1] at q4
    exact sr.inj j k c c' a j2 k2 q3 q4
def tgs : Tg → List Nat
  | .v i => [i]
  | .vs is => is
def gNames : List Nat → TGs
  | [] => gNil
  | i :: r => gCons (gName i) (gNames r)
def gTg (K : PySem.W.Frag) : Tg → TG
  | .v i => gName i
  | .vs is => gTup K is.length (gNames is)
theorem wipe_set {i : Nat} {o : Option V} (hi : i ∈ own) : L2.wipe (σ.set i o) own = L2.wipe σ own := by
  rw [wipeS_eq, wipeS_eq]
  refine setAll_ext (by rw [List.length_set]) fun j hj => ?_
  rw [List.getElem?_set_ne fun z => hj (by rw [← z]; exact hi)]
theorem names_ok {R : St → Hp → Prop} : ∀ {is : List Nat} {vs : List V} {ds : List D} {σ : St} {e e1 : FEnv}, SR K O σ H e → RepAll K O H vs ds → putAll np e is ds = some e1 →
    (∀ σ2, SR K O σ2 H e1 → Stp np O σ H e O σ2 H e1 → (∀ own : List Nat, (∀ i ∈ is, i ∈ own) → L2.wipe σ2 own = L2.wipe σ own) → R σ2 H) → gNames is vs σ H R
  | [], vs, ds, σ, e, e1, s, r, h, hk => by
    cases r with
    | nil =>
      cases h
      exact ⟨rfl, hk σ s Stp.refl fun _ _ => rfl⟩
    | cons => cases h
  | i :: is, vs, ds, σ, e, e1, s, r, h, hk => by
    cases r with
    | nil => cases h
    | @cons v vs d ds r1 r2 =>
      have h' : ((put np e i (.val d)).bind fun e1 => putAll np e1 is ds) = some e1 := h
      cases q : put np e i (.val d) with
      | none => rw [q] at h'; cases h'
      | some e2 =>
        rw [q] at h'
        have st1 : Stp np O σ H e O (σ.set i (some v)) H e2 := put_stp (s := .val d) (fun c z => nomatch z) q
        have s1 : SR K O (σ.set i (some v)) H e2 := put_sr (s := .val d) s (fun c z => nomatch z) ⟨v, rfl, r1⟩ q
        refine ⟨v, vs, rfl, names_ok s1 r2 h' fun σ2 s2 st2 w2 => hk σ2 s2 (st1.trans st2) fun own ho => ?_⟩
        rw [w2 own fun j hj => ho j (List.mem_cons_of_mem _ hj), wipe_set (ho i List.mem_cons_self)]
theorem putAll_len : ∀ {is : List Nat} {ds : List D} {e e1 : FEnv}, putAll np e is ds = some e1 → ds.length = is.length
  | [], [], e, e1, h => rfl
  | [], d :: ds, e, e1, h => by cases h
  | i :: is, [], e, e1, h => by cases h
  | i :: is, d :: ds, e, e1, h => by
    have h' : ((put np e i (.val d)).bind fun e1 => putAll np e1 is ds) = some e1 := h
    cases q : put np e i (.val d) with
    | none => rw [q] at h'; cases h'
    | some e2 =>
      rw [q] at h'
      rw [List.length_cons, List.length_cons, putAll_len h']
theorem tg_ok {R : St → Hp → Prop} {tg : Tg} {v : V} {d : D} (s : SR K O σ H e) (r : Rep K O H v d) (h : assignTg np e tg d = some e1)
    (hk : ∀ σ2, SR K O σ2 H e1 → Stp np O σ H e O σ2 H e1 → (∀ own : List Nat, (∀ i ∈ tgs tg, i ∈ own) → L2.wipe σ2 own = L2.wipe σ own) → R σ2 H) : gTg K tg v σ H R := by
  cases tg with
  | v i =>
    have h' : put np e i (.val d) = some e1 := h
    exact hk _ (put_sr (s := .val d) s (fun c z => nomatch z) ⟨v, rfl, r⟩ h') (put_stp (s := .val d) (fun c z => nomatch z) h') fun own ho => wipe_set (ho i List.mem_cons_self)
  | vs is =>
    cases d <;> first | (cases h; done) | skip
    rename_i ds
    have h' : putAll np e is ds = some e1 := h
    cases r with
    | tup g1 g2 => exact ⟨_, _, rfl, g1, by rw [g2.length, putAll_len h'], names_ok s g2 h' hk⟩
/-! ### a list of one's own that no slot holds -/
theorem kept_upd {a : Addr} {xs ys : List V} (h : H a = some (.lst xs)) (o : O a) : Kept K O H O (upd H a (.lst ys)) := by
  refine ⟨fun b zs r n => ⟨?_, n⟩, fun b zs r => ?_⟩
  · have hb : b ≠ a := fun z => n (by rw [z]; exact o)
    unfold Rd at r ⊢
    rw [upd_ne hb]
    exact r
  · rcases r with r | r
    · have hb : b ≠ a := fun z => by
        subst z
        rcases r with r | ⟨o, r⟩
        · rw [h] at r
          cases r
        · rw [h] at r
          cases r
      refine .inl ?_
      unfold Rd at r ⊢
      rw [upd_ne hb]
      exact r
    · exact .inr r
theorem sr_upd {a : Addr} {xs ys : List V} (s : SR K O σ H e) (h : H a = some (.lst xs)) (o : O a) (n : ¬ Mine σ e a) : SR K O σ (upd H a (.lst ys)) e where
  len := s.len
  at_ := fun i p hp => by
    have k : Kept K O H O (upd H a (.lst ys)) := kept_upd h o
    obtain ⟨q, h1, h2⟩ := s.at_ i p hp
    refine ⟨q, h1, ?_⟩
    cases p with
    | emp => exact h2
    | exc c d => exact h2
    | val d =>
      obtain ⟨v, h3, h4⟩ := h2
      exact ⟨v, h3, k.rep h4⟩
    | own c =>
      obtain ⟨b, h3, h4, h5⟩ := h2
      have hb : b ≠ a := fun z => n ⟨i, c, hp, by rw [h1, h3, z]⟩
      cases c with
      | lst ds =>
        obtain ⟨ws, w1, w2⟩ := h5
        exact ⟨b, h3, h4, ws, by rw [upd_ne hb]; exact w1, k.repAll w2⟩
  inj := s.inj
theorem stp_upd {Os : Own} {σs : St} {Hs : Hp} {es : FEnv} {a : Addr} {ys : List V} (st : Stp np Os σs Hs es O σ H e) (h : Hs a = none) : Stp np Os σs Hs es O σ (upd H a (.lst ys)) e := by
  refine ⟨fun b o hb nb => ?_, fun b hb => ?_, st.par⟩
  · obtain ⟨k1, k2, k3⟩ := st.keep b o hb nb
    have ne : b ≠ a := fun z => by rw [z, h] at hb; cases hb
    exact ⟨by rw [upd_ne ne]; exact k1, k2, k3⟩
  · by_cases ne : b = a
    · subst ne
      rw [upd_same]
      exact fun z => nomatch z
    · rw [upd_ne ne]
      exact st.there b hb
end
end Snd
end
section
set_option Elab.async false
set_option linter.all false
set_option maxRecDepth 100000
set_option maxHeartbeats 2000000
namespace Snd
open PySem L2 Ev
theorem no_ok {α β : Type} {o : Out α} {f : α → FEnv → Out β} {b : β} {e' : FEnv} (h : o.no f = .ok b e') : ∃ a e1, o = .ok a e1 ∧ f a e1 = .ok b e' := by
  cases o with
  | ok a e1 => exact ⟨a, e1, rfl, h⟩
  | err c d e => cases h
  | stuck => cases h
def WF : WX := fun _ _ _ _ => False
section
variable {K : PySem.W.Frag} {CA : Nat → Addr} {np : Nat} {W : WX} {α β : Type} {O : Own} {σ : St} {H : Hp} {e e' : FEnv}
theorem AftE.noE {o : Out α} {f : α → FEnv → Out β} {k : β → Own → Hp → FEnv → Prop} (h : AftE K CA np W O σ H e (o.no f) k) :
    AftE K CA np W O σ H e o fun a _ _ e1 => AftE K CA np W O σ H e (f a e1) k := by
  cases o with
  | ok a e1 => exact fun _ _ _ _ => h
  | err c d e1 => exact h.elim
  | stuck => exact h
theorem AftE.of_ok {o : Out α} {a : α} {k : α → Own → Hp → FEnv → Prop} (q : o = .ok a e') (h : ∀ O' H', Stp np O σ H e O' σ H' e' → SR K O' σ H' e' → k a O' H' e') : AftE K CA np W O σ H e o k := by
  subst q
  exact h
theorem AftE.not_stuck {o : Out α} {k : α → Own → Hp → FEnv → Prop} (h : AftE K CA np W O σ H e o k) : o ≠ .stuck := fun z => by
  rw [z] at h
  exact h
end
section
variable {K : PySem.W.Frag} {CA : Nat → Addr} {pr : EProg} {T : FT} {np : Nat}
theorem lc_ok {Os O1 : Own} {σ : St} {Hs H1 : Hp} {es e1 e2 : FEnv} {own : List Nat} {tg : Tg} {cond elt : P} {J : It} {xs ds : List D} {Q : VK} (st : Stp np Os σ Hs es O1 σ H1 e1) (s : SR K O1 σ H1 e1) (p : plainOwn e1 own = true) (sv : Serves K O1 H1 J xs)
    (ht : ∀ i ∈ tgs tg, i ∈ own) (hc : compL np own tg (fun e => asB (ev pr T np cond e)) (fun e => ev pr T np elt e) xs e1 [] = .ok ds e2)
    (hq : ∀ O' H' D, Stp np Os σ Hs es O' σ H' (restore e1 e2 own) → SR K O' σ H' (restore e1 e2 own) → RR K O' σ H' (restore e1 e2 own) Hs (.ref D) (.fresh (.lst ds)) → Q (.ref D) H') :
    ∀ D, H1 D = none → ∃ Wi : Nat → Nat → Hp → Prop, (∃ m, Wi 0 m (upd H1 D (.lst []))) ∧ ∀ i m H, Wi i m H →
      (J.stop i H ∧ Q (.ref D) H) ∨ (J.go i H ∧ ∃ Nx : Hp → Prop, (∀ H', Nx H' → ∃ m', m' < m ∧ Wi (i + 1) m' H') ∧ ∀ x H', J.yld i H x H' → gTg K tg x (L2.wipe σ own) H' fun σ2 H2 => L2.wipe σ2 own = L2.wipe σ own ∧ tTs K CA pr T np WF cond σ2 H2 fun b H3 =>
        if b = true then tEv K CA pr T np WF elt σ2 H3 fun y H4 => ∃ acc, H4 D = some (.lst acc) ∧ acc.length < sizeLine ∧ Nx (upd H4 D (.lst (acc ++ [y]))) else Nx H3) := by
  intro D hD
  have hsD : Hs D = none := by
    cases q : Hs D with
    | none => rfl
    | some o => exact absurd hD (st.there D (by rw [q]; exact fun z => nomatch z))
  refine ⟨fun i m H => m = xs.length - i ∧ i ≤ xs.length ∧ ∃ O e accD accV, compL np own tg (fun e => asB (ev pr T np cond e)) (fun e => ev pr T np elt e) (xs.drop i) e accD = .ok ds e2 ∧ Kept K O1 H1 O H ∧ Stp np Os σ Hs es O σ H (restore e1 e own) ∧
    SR K O σ H (restore e1 e own) ∧ H D = some (.lst accV) ∧ O D ∧ ¬ Mine σ (restore e1 e own) D ∧ RepAll K O H accV accD, ⟨xs.length, by omega, Nat.zero_le _, plus O1 D, e1, [], [], ?_⟩, ?_⟩
  · have g : Gro O1 H1 (plus O1 D) (upd H1 D (.lst [])) := Gro.newL hD
    have g1 : Stp np O1 σ H1 e1 (plus O1 D) σ (upd H1 D (.lst [])) e1 := g.step
    rw [restore_self]
    refine ⟨hc, g1.rd s, st.trans g1, g.sr s, upd_same, .inr rfl, fun m => ?_, .nil⟩
    obtain ⟨_, ws, w⟩ := s.mine_own m
    rw [hD] at w
    cases w
  · rintro i m H ⟨rfl, hi, O, e, accD, accV, hcL, kp, stp, sr, hDl, oD, nD, rA⟩
    by_cases hlt : i < xs.length
    · have hx : xs[i]? = some xs[i] := List.getElem?_eq_getElem hlt
      have hdrop : xs.drop i = xs[i] :: xs.drop (i + 1) := List.drop_eq_getElem_cons hlt
      generalize xs[i] = x at hx hdrop
      rw [hdrop] at hcL
      obtain ⟨go, yl⟩ := sv.go O H kp i x hx
      refine .inr ⟨go, fun H' => ∃ O e accD accV, compL np own tg (fun e => asB (ev pr T np cond e)) (fun e => ev pr T np elt e) (xs.drop (i + 1)) e accD = .ok ds e2 ∧ Kept K O1 H1 O H' ∧ Stp np Os σ Hs es O σ H' (restore e1 e own) ∧
        SR K O σ H' (restore e1 e own) ∧ H' D = some (.lst accV) ∧ O D ∧ ¬ Mine σ (restore e1 e own) D ∧ RepAll K O H' accV accD, fun H' nx => ⟨xs.length - (i + 1), by omega, rfl, hlt, nx⟩, fun y H' hy => ?_⟩
      obtain ⟨g, ry⟩ := yl y H' hy
      have gs : Stp np O σ H (restore e1 e own) O σ H' (restore e1 e own) := g.step
      have sr' := g.sr sr
      have kp' : Kept K O1 H1 O H' := kp.trans (gs.rd sr)
      have rA' := gs.repAll sr rA
      have hDl' := (g.keep D _ hDl).1
      have w1 : compL np own tg (fun e => asB (ev pr T np cond e)) (fun e => ev pr T np elt e) (x :: xs.drop (i + 1)) e accD = (match assignTg np (Ev.wipe e own) tg x with
        | none => .stuck
        | some e1 => (asB (ev pr T np cond e1)).no fun b e2 => if b then (ev pr T np elt e2).no fun r e3 => (match capt np e3 r with
            | none => .stuck
            | some (d, e4) => if accD.length < lim then compL np own tg (fun e => asB (ev pr T np cond e)) (fun e => ev pr T np elt e) (xs.drop (i + 1)) e4 (accD ++ [d]) else .stuck) else compL np own tg (fun e => asB (ev pr T np cond e)) (fun e => ev pr T np elt e) (xs.drop (i + 1)) e2 accD) := rfl
      rw [w1] at hcL
      cases ha : assignTg np (Ev.wipe e own) tg x with
      | none => rw [ha] at hcL; cases hcL
      | some ea =>
        rw [ha] at hcL
        obtain ⟨b, eb, hb, hcL⟩ := no_ok hcL
        refine tg_ok (wipe_sr p sr') ry ha fun σ2 s2 st2 wo => ⟨by rw [wo own ht, wipeS_eq, wipeS_eq]; exact setAll_ext (by rw [setAll_len]) fun j hj => (setAll_get own).1 hj, O, ea, s2, AftE.of_ok hb fun O3 H3 st3 s3 => ?_⟩
        have wo2 : L2.wipe σ2 own = L2.wipe σ own := by rw [wo own ht, wipeS_eq, wipeS_eq]; exact setAll_ext (by rw [setAll_len]) fun j hj => (setAll_get own).1 hj
        have st23 : Stp np O (L2.wipe σ own) H' (Ev.wipe e own) O3 σ2 H3 eb := st2.trans st3
        have nDw : ¬ Mine (L2.wipe σ own) (Ev.wipe e own) D := fun m => nD (mine_wipe m)
        cases b with
        | false =>
          simp only [Bool.false_eq_true, if_false] at hcL ⊢
          have cs := comp_stp p st23 wo2
          have kk := cs.rd sr'
          obtain ⟨d1, d2, d3⟩ := cs.keep D _ hDl' nD
          exact ⟨O3, eb, accD, accV, hcL, kp'.trans kk, (stp.trans gs).trans cs, unwipe_sr p sr' kk s3 wo2, d1, d2.mpr oD, d3, cs.repAll sr' rA'⟩
        | true =>
          simp only [if_true] at hcL ⊢
          obtain ⟨r, ec, hr, hcL⟩ := no_ok hcL
          refine ⟨O3, eb, s3, AftE.of_ok hr fun O4 H4 st4 s4 v rv => ?_⟩
          cases hcap : capt np ec r with
          | none => rw [hcap] at hcL; cases hcL
          | some pd =>
            obtain ⟨d, ed⟩ := pd
            rw [hcap] at hcL
            have hcL' : (if accD.length < lim then compL np own tg (fun e => asB (ev pr T np cond e)) (fun e => ev pr T np elt e) (xs.drop (i + 1)) ed (accD ++ [d]) else .stuck) = .ok ds e2 := hcL
            by_cases hlim : accD.length < lim
            · rw [if_pos hlim] at hcL'
              obtain ⟨O5, st5, s5, r5, _⟩ := capt_ok st4 s4 rv hcap
              have cs := comp_stp p (st23.trans st5) wo2
              have kk := cs.rd sr'
              obtain ⟨d1, d2, d3⟩ := cs.keep D _ hDl' nD
              have s6 := unwipe_sr p sr' kk s5 wo2
              have oD5 := d2.mpr oD
              have ku : Kept K O5 H4 O5 (upd H4 D (.lst (accV ++ [v]))) := kept_upd d1 oD5
              refine ⟨accV, d1, by rw [rA.length]; exact lim_lt hlim, O5, ed, accD ++ [d], accV ++ [v], hcL', (kp'.trans kk).trans ku, stp_upd ((stp.trans gs).trans cs) hsD, sr_upd s6 d1 oD5 d3, upd_same, oD5, d3, ?_⟩
              exact (ku.repAll (cs.repAll sr' rA')).append (.cons (ku.rep r5) .nil)
            · rw [if_neg hlim] at hcL'
              cases hcL'
    · have ei : i = xs.length := by omega
      subst ei
      rw [List.drop_length] at hcL
      have w1 : Out.ok accD e = Out.ok ds e2 := hcL
      cases w1
      exact .inl ⟨sv.stop O H kp, hq O H D stp sr ⟨D, rfl, oD, ⟨accV, hDl, rA⟩, nD, hsD⟩⟩
end
section
variable {X : Cx} {CA : Nat → Addr} {pr : EProg} {T : FT} {np : Nat} {W : WX} {tb : Tab} {k : Nat} {N : List Str} {sc fs : Scope}
theorem takes_blk {s : Shared} {H : Hp} {scope : Scope} {cenv : Env} {fp : List Addr} : Takes (X.blk s H scope cenv fp) WF := by
  rintro e s' ⟨a, B, sI, pins, σ, H, cls, d, e, I, nb, up, sky, na, os, ag, w⟩
  exact w.elim
theorem Good.blk (G : Good tb pr T CA k N sc fs X) {scope : Scope} {own : List (Str × Nat)} (ok : BlkOk N sc scope own) (s : Shared) (H : Hp) (C : Addr) (cl : List (Str × Addr)) (fp : List Addr) :
    Good tb pr T CA k N (relS scope sc) scope (X.blk s H scope (compEnvC scope cl C X.env) fp) where
  hN := G.hN
  nd := G.nd
  hsc := by
    show relS scope X.env.scope = relS scope sc
    rw [G.hsc]
  kind := ok.kind
  calm := G.calm
  fn := fun x h => by
    show (scope.names.lookup x == some .cell) = true
    rw [h]
    rfl
  room := G.room
  gd := G.gd
  k3 := G.k3
  glo := G.glo
theorem lc_read {it : EIt} {tg : Tg} {cond elt : P} {own : List Nat} (ht : ∀ i ∈ tgs tg, i ∈ own) {σ : St} {H : Hp} {Q : VK} (h : tEv X.K CA pr T np W (.comp elt tg it cond own) σ H Q) :
    tLc (tIt X.K CA pr T np W it) (gTg X.K tg) (tTs X.K CA pr T np WF cond) (tEv X.K CA pr T np WF elt) own σ H Q := by
  obtain ⟨O, e, s, h⟩ := h
  refine ⟨O, e, s, (AftE.noE h).mono fun xs O1 H1 e1 st s1 q J sv => ?_⟩
  have q' : AftE X.K CA np W O σ H e (if plainOwn e1 own = true then ((compL np own tg (fun e => asB (ev pr T np cond e)) (fun e => ev pr T np elt e) xs e1 []).no fun ds e2 => .ok (.fresh (.lst ds)) (restore e1 e2 own)) else .stuck) fun r O' H' e' => ∀ v, RR X.K O' σ H' e' H v r → Q v H' := q
  by_cases p : plainOwn e1 own = true
  · rw [if_pos p] at q'
    cases hc : compL np own tg (fun e => asB (ev pr T np cond e)) (fun e => ev pr T np elt e) xs e1 [] with
    | stuck => rw [hc] at q'; exact q'.elim
    | err c d e2 => rw [hc] at q'; exact q'.elim
    | ok ds e2 =>
      rw [hc] at q'
      exact lc_ok st s1 p sv ht hc fun O' H' D st' s' rr => q' O' H' st' s' _ rr
  · rw [if_neg p] at q'
    exact q'.elim
end
end Snd
end
section
set_option Elab.async false
set_option linter.all false
set_option maxRecDepth 100000
set_option maxHeartbeats 2000000
/-! comprehensions over a list of one's own, which stays one's own -/
namespace Snd
open PySem L2 Ev
section
variable {K : PySem.W.Frag} {CA : Nat → Addr} {pr : EProg} {T : FT} {np : Nat}
theorem lco_ok {Os O1 : Own} {σ : St} {Hs H1 : Hp} {es e1 e2 : FEnv} {own : List Nat} {tg : Tg} {cond elt : P} {w : Nat} {a : Addr} {fuel : Nat} {ds : List D} {Q : VK} (st : Stp np Os σ Hs es O1 σ H1 e1) (s : SR K O1 σ H1 e1) (p : plainOwn e1 own = true) (hw : w ∉ own) (ha : σ[w]? = some (some (V.ref a)))
    (ht : ∀ i ∈ tgs tg, i ∈ own) (hc : compLo np own tg (fun e => asB (ev pr T np cond e)) (fun e => ev pr T np elt e) w fuel 0 e1 [] = .ok ds e2)
    (hq : ∀ O' H' D, Stp np Os σ Hs es O' σ H' (restore e1 e2 own) → SR K O' σ H' (restore e1 e2 own) → RR K O' σ H' (restore e1 e2 own) Hs (.ref D) (.fresh (.lst ds)) → Q (.ref D) H') :
    ∀ D, H1 D = none → ∃ Wi : Nat → Nat → Hp → Prop, (∃ m, Wi 0 m (upd H1 D (.lst []))) ∧ ∀ i m H, Wi i m H →
      ((Itl K a).stop i H ∧ Q (.ref D) H) ∨ ((Itl K a).go i H ∧ ∃ Nx : Hp → Prop, (∀ H', Nx H' → ∃ m', m' < m ∧ Wi (i + 1) m' H') ∧ ∀ x H', (Itl K a).yld i H x H' → gTg K tg x (L2.wipe σ own) H' fun σ2 H2 => L2.wipe σ2 own = L2.wipe σ own ∧ tTs K CA pr T np WF cond σ2 H2 fun b H3 =>
        if b = true then tEv K CA pr T np WF elt σ2 H3 fun y H4 => ∃ acc, H4 D = some (.lst acc) ∧ acc.length < sizeLine ∧ Nx (upd H4 D (.lst (acc ++ [y]))) else Nx H3) := by
  intro D hD
  have hsD : Hs D = none := by
    cases q : Hs D with
    | none => rfl
    | some o => exact absurd hD (st.there D (by rw [q]; exact fun z => nomatch z))
  refine ⟨fun i m H => ∃ O e accD accV, compLo np own tg (fun e => asB (ev pr T np cond e)) (fun e => ev pr T np elt e) w m i e accD = .ok ds e2 ∧ Kept K O1 H1 O H ∧ Stp np Os σ Hs es O σ H (restore e1 e own) ∧
    SR K O σ H (restore e1 e own) ∧ H D = some (.lst accV) ∧ O D ∧ ¬ Mine σ (restore e1 e own) D ∧ RepAll K O H accV accD, ⟨fuel, plus O1 D, e1, [], [], ?_⟩, ?_⟩
  · have g : Gro O1 H1 (plus O1 D) (upd H1 D (.lst [])) := Gro.newL hD
    have g1 : Stp np O1 σ H1 e1 (plus O1 D) σ (upd H1 D (.lst [])) e1 := g.step
    rw [restore_self]
    refine ⟨hc, g1.rd s, st.trans g1, g.sr s, upd_same, .inr rfl, fun m => ?_, .nil⟩
    obtain ⟨_, ws, w⟩ := s.mine_own m
    rw [hD] at w
    cases w
  · rintro i m H ⟨O, e, accD, accV, hcL, kp, stp, sr, hDl, oD, nD, rA⟩
    cases m with
    | zero => cases hcL
    | succ m =>
      have w1 : compLo np own tg (fun e => asB (ev pr T np cond e)) (fun e => ev pr T np elt e) w (m + 1) i e accD = (match gt e w with
        | .own (.lst ys) => (match ys[i]? with
          | none => .ok accD e
          | some x => (match assignTg np (Ev.wipe e own) tg x with
            | none => .stuck
            | some e1 => (asB (ev pr T np cond e1)).no fun b e2 => if b then (ev pr T np elt e2).no fun r e3 => (match capt np e3 r with
                | none => .stuck
                | some (d, e4) => if accD.length < lim then compLo np own tg (fun e => asB (ev pr T np cond e)) (fun e => ev pr T np elt e) w m (i + 1) e4 (accD ++ [d]) else .stuck) else compLo np own tg (fun e => asB (ev pr T np cond e)) (fun e => ev pr T np elt e) w m (i + 1) e2 accD))
        | _ => .stuck) := rfl
      rw [w1] at hcL
      have gw : gt (restore e1 e own) w = gt e w := by
        unfold gt
        rw [List.getD_eq_getElem?_getD, List.getD_eq_getElem?_getD, restore_eq, (setAll_get own).1 hw]
      cases g0 : gt e w with
      | emp => rw [g0] at hcL; cases hcL
      | val d => rw [g0] at hcL; cases hcL
      | exc c d => rw [g0] at hcL; cases hcL
      | own c =>
        cases c with
        | lst ys =>
          rw [g0] at hcL
          obtain ⟨b, hb, ob, ⟨ws, h3, h4⟩, _⟩ := sr.own (gw.trans g0)
          rw [ha] at hb
          cases hb
          cases hy : ys[i]? with
          | none =>
            have hcL : (match ys[i]? with
              | none => Out.ok accD e
              | some x => _) = Out.ok ds e2 := hcL
            rw [hy] at hcL
            cases hcL
            have hl : ws.length ≤ i := by
              rw [h4.length]
              exact List.getElem?_eq_none_iff.mp hy
            exact .inl ⟨⟨ws, .inl (.inl h3), hl⟩, hq O H D stp sr ⟨D, rfl, oD, ⟨accV, hDl, rA⟩, nD, hsD⟩⟩
          | some x =>
            have hcL : (match ys[i]? with
              | none => Out.ok accD e
              | some x => (match assignTg np (Ev.wipe e own) tg x with
                | none => .stuck
                | some e1 => (asB (ev pr T np cond e1)).no fun b e2 => if b then (ev pr T np elt e2).no fun r e3 => (match capt np e3 r with
                    | none => .stuck
                    | some (d, e4) => if accD.length < lim then compLo np own tg (fun e => asB (ev pr T np cond e)) (fun e => ev pr T np elt e) w m (i + 1) e4 (accD ++ [d]) else .stuck) else compLo np own tg (fun e => asB (ev pr T np cond e)) (fun e => ev pr T np elt e) w m (i + 1) e2 accD)) = Out.ok ds e2 := hcL
            rw [hy] at hcL
            obtain ⟨v, hv, rv⟩ := h4.get hy
            refine .inr ⟨⟨ws, v, .inl (.inl h3), hv⟩, fun H' => ∃ O e accD accV, compLo np own tg (fun e => asB (ev pr T np cond e)) (fun e => ev pr T np elt e) w m (i + 1) e accD = .ok ds e2 ∧ Kept K O1 H1 O H' ∧ Stp np Os σ Hs es O σ H' (restore e1 e own) ∧
              SR K O σ H' (restore e1 e own) ∧ H' D = some (.lst accV) ∧ O D ∧ ¬ Mine σ (restore e1 e own) D ∧ RepAll K O H' accV accD, fun H' nx => ⟨m, Nat.lt_succ_self m, nx⟩, fun y H' hy2 => ?_⟩
            obtain ⟨rfl, hy3⟩ := hy2
            have ev1 := hy3 ws (.inl (.inl h3))
            rw [hv] at ev1
            cases ev1
            cases hta : assignTg np (Ev.wipe e own) tg x with
            | none => simp only [hta] at hcL; cases hcL
            | some ea =>
              simp only [hta] at hcL
              obtain ⟨b, eb, hb, hcL⟩ := no_ok hcL
              refine tg_ok (wipe_sr p sr) rv hta fun σ2 s2 st2 wo => ⟨by rw [wo own ht, wipeS_eq, wipeS_eq]; exact setAll_ext (by rw [setAll_len]) fun j hj => (setAll_get own).1 hj, O, ea, s2, AftE.of_ok hb fun O3 H3 st3 s3 => ?_⟩
              have wo2 : L2.wipe σ2 own = L2.wipe σ own := by rw [wo own ht, wipeS_eq, wipeS_eq]; exact setAll_ext (by rw [setAll_len]) fun j hj => (setAll_get own).1 hj
              have st23 := st2.trans st3
              cases b with
              | false =>
                simp only [Bool.false_eq_true, if_false] at hcL ⊢
                have cs := comp_stp p st23 wo2
                have kk := cs.rd sr
                obtain ⟨d1, d2, d3⟩ := cs.keep D _ hDl nD
                exact ⟨O3, eb, accD, accV, hcL, kp.trans kk, stp.trans cs, unwipe_sr p sr kk s3 wo2, d1, d2.mpr oD, d3, cs.repAll sr rA⟩
              | true =>
                simp only [if_true] at hcL ⊢
                obtain ⟨r, ec, hr, hcL⟩ := no_ok hcL
                refine ⟨O3, eb, s3, AftE.of_ok hr fun O4 H4 st4 s4 v rv => ?_⟩
                cases hcap : capt np ec r with
                | none => simp only [hcap] at hcL; cases hcL
                | some pd =>
                  obtain ⟨d, ed⟩ := pd
                  simp only [hcap] at hcL
                  by_cases hlim : accD.length < lim
                  · rw [if_pos hlim] at hcL
                    obtain ⟨O5, st5, s5, r5, _⟩ := capt_ok st4 s4 rv hcap
                    have cs := comp_stp p (st23.trans st5) wo2
                    have kk := cs.rd sr
                    obtain ⟨d1, d2, d3⟩ := cs.keep D _ hDl nD
                    have s6 := unwipe_sr p sr kk s5 wo2
                    have oD5 := d2.mpr oD
                    have ku : Kept K O5 H4 O5 (upd H4 D (.lst (accV ++ [v]))) := kept_upd d1 oD5
                    refine ⟨accV, d1, by rw [rA.length]; exact lim_lt hlim, O5, ed, accD ++ [d], accV ++ [v], hcL, (kp.trans kk).trans ku, stp_upd (stp.trans cs) hsD, sr_upd s6 d1 oD5 d3, upd_same, oD5, d3, ?_⟩
                    exact (ku.repAll (cs.repAll sr rA)).append (.cons (ku.rep r5) .nil)
                  · rw [if_neg hlim] at hcL
                    cases hcL
end
section
variable {X : Cx} {CA : Nat → Addr} {pr : EProg} {T : FT} {np : Nat} {W : WX}
theorem lco_read {w : Nat} {tg : Tg} {cond elt : P} {own : List Nat} (ht : ∀ i ∈ tgs tg, i ∈ own) {σ : St} {H : Hp} {Q : VK} (h : tEv X.K CA pr T np W (.compo elt tg w cond own) σ H Q) :
    tLc (iList X.K (tVar w)) (gTg X.K tg) (tTs X.K CA pr T np WF cond) (tEv X.K CA pr T np WF elt) own σ H Q := by
  obtain ⟨O, e, s, h⟩ := h
  have q' : AftE X.K CA np W O σ H e (if (isOwn (gt e w) && plainOwn e own) = true then ((compLo np own tg (fun e => asB (ev pr T np cond e)) (fun e => ev pr T np elt e) w lim 0 e []).no fun ds e2 => .ok (.fresh (.lst ds)) (restore e e2 own)) else .stuck) fun r O' H' e' => ∀ v, RR X.K O' σ H' e' H v r → Q v H' := h
  by_cases p : (isOwn (gt e w) && plainOwn e own) = true
  · rw [if_pos p] at q'
    rw [Bool.and_eq_true] at p
    obtain ⟨p0, p1⟩ := p
    have hw : w ∉ own := fun z => by
      have := List.all_eq_true.mp p1 w z
      rw [p0] at this
      cases this
    cases g0 : gt e w with
    | emp => rw [g0] at p0; cases p0
    | val d => rw [g0] at p0; cases p0
    | exc c d => rw [g0] at p0; cases p0
    | own c =>
      obtain ⟨a, ha, _, hc0, _⟩ := s.own g0
      cases c with
      | lst ys =>
        obtain ⟨ws, h3, _⟩ := hc0
        cases hc : compLo np own tg (fun e => asB (ev pr T np cond e)) (fun e => ev pr T np elt e) w lim 0 e [] with
        | stuck => rw [hc] at q'; exact q'.elim
        | err c d e2 => rw [hc] at q'; exact q'.elim
        | ok ds e2 =>
          rw [hc] at q'
          exact ⟨.ref a, ha, a, rfl, ⟨ws, .inl (.inl h3)⟩, lco_ok Stp.refl s p1 hw ha ht hc fun O' H' D st' s' rr => q' O' H' st' s' _ rr⟩
  · rw [if_neg p] at q'
    exact q'.elim
end
end Snd
end
section
set_option Elab.async false
set_option linter.all false
set_option maxRecDepth 100000
set_option maxHeartbeats 4000000
/-! comprehensions of two clauses -/
namespace Snd
open PySem L2 Ev
section
variable {K : PySem.W.Frag} {CA : Nat → Addr} {pr : EProg} {T : FT} {np : Nat}
theorem rest_rest {e1 e3 e4 : FEnv} {own vs1 : List Nat} (hs : ∀ i ∈ vs1, i ∈ own) : restore e1 (restore e3 e4 vs1) own = restore e1 e4 own := by
  rw [restore_eq, restore_eq, restore_eq]
  exact setAll_ext (by rw [setAll_len]) fun j hj => (setAll_get vs1).1 fun z => hj (hs j z)
theorem wipe_sub {σ2 σ3 : St} {own vs1 : List Nat} (hs : ∀ i ∈ vs1, i ∈ own) (h : L2.wipe σ3 vs1 = L2.wipe σ2 vs1) : L2.wipe σ3 own = L2.wipe σ2 own := by
  rw [wipeS_eq, wipeS_eq] at h ⊢
  obtain ⟨l, q⟩ := setAll_out h
  exact setAll_ext l fun j hj => q j fun z => hj (hs j z)
/-- what stands while a list is gathered at D: the frame restored, the list, what it shows -/
structure Gath (K : PySem.W.Frag) (np : Nat) (Os : Own) (σs : St) (Hs : Hp) (es : FEnv) (σ : St) (e1 : FEnv) (own : List Nat) (D : Addr) (O : Own) (H : Hp) (e : FEnv) (ds : List PyData) : Prop where
  stp : Stp np Os σs Hs es O σ H (restore e1 e own)
  sr : SR K O σ H (restore e1 e own)
  acc : ∃ vs, H D = some (.lst vs) ∧ RepAll K O H vs ds
  mine : O D
  apart : ¬ Mine σ (restore e1 e own) D
variable {Os O O3 : Own} {σs σ σ2 : St} {Hs H H3 : Hp} {es e1 e e3 : FEnv} {own vs1 : List Nat} {D : Addr} {ds : List PyData}
/-- a step between the frame's names wiped -/
theorem Gath.step (p : plainOwn e1 own = true) (g : Gath K np Os σs Hs es σ e1 own D O H e ds) (st : Stp np O (L2.wipe σ own) H (Ev.wipe e own) O3 σ2 H3 e3) (s3 : SR K O3 σ2 H3 e3) (w : L2.wipe σ2 own = L2.wipe σ own) :
    Gath K np Os σs Hs es σ e1 own D O3 H3 e3 ds ∧ Kept K O H O3 H3 := by
  have cs := comp_stp (e0 := e1) p st w
  have kk := cs.rd g.sr
  obtain ⟨vs, hD, rA⟩ := g.acc
  obtain ⟨d1, d2, d3⟩ := cs.keep D _ hD g.apart
  exact ⟨⟨g.stp.trans cs, unwipe_sr p g.sr kk s3 w, ⟨vs, d1, cs.repAll g.sr rA⟩, d2.mpr g.mine, d3⟩, kk⟩
/-- one more item -/
theorem Gath.app {v : V} {d : PyData} (hsD : Hs D = none) (g : Gath K np Os σs Hs es σ e1 own D O H e ds) {vs : List V} (hD : H D = some (.lst vs)) (r : Rep K O H v d) :
    Gath K np Os σs Hs es σ e1 own D O (upd H D (.lst (vs ++ [v]))) e (ds ++ [d]) ∧ Kept K O H O (upd H D (.lst (vs ++ [v]))) := by
  have ku : Kept K O H O (upd H D (.lst (vs ++ [v]))) := kept_upd hD g.mine
  obtain ⟨ws, h1, rA⟩ := g.acc
  rw [hD] at h1
  cases h1
  exact ⟨⟨stp_upd g.stp hsD, sr_upd g.sr hD g.mine g.apart, ⟨_, upd_same, (ku.repAll rA).append (.cons (ku.rep r) .nil)⟩, g.mine, g.apart⟩, ku⟩
theorem Gath.grow (g : Gath K np Os σs Hs es σ e1 own D O H e ds) {H' : Hp} (h : Gro O H O H') : Gath K np Os σs Hs es σ e1 own D O H' e ds ∧ Kept K O H O H' := by
  have gs : Stp np O σ H (restore e1 e own) O σ H' (restore e1 e own) := h.step
  obtain ⟨vs, hD, rA⟩ := g.acc
  exact ⟨⟨g.stp.trans gs, h.sr g.sr, ⟨vs, (h.keep D _ hD).1, gs.repAll g.sr rA⟩, g.mine, g.apart⟩, gs.rd g.sr⟩
/-- the frame with its names wiped -/
theorem wipe_stp (p : plainOwn e1 own = true) : Stp np O σ H (restore e1 e own) O (L2.wipe σ own) H (Ev.wipe e own) where
  keep := fun a o h n => ⟨h, Iff.rfl, fun m => n (mine_wipe m)⟩
  there := fun _ h => h
  par := fun i c hi h => by
    obtain ⟨i1, i2⟩ := rest_own p h
    exact ⟨c, by rw [wipeE_out i1]; exact i2, wipeS_out i1⟩
/-- an inner clause begins -/
theorem Gath.enter (p : plainOwn e1 own = true) (g : Gath K np Os σs Hs es σ e1 own D O H e ds) (st : Stp np O (L2.wipe σ own) H (Ev.wipe e own) O3 σ2 H3 e3) (s3 : SR K O3 σ2 H3 e3) :
    Gath K np Os σs Hs es σ2 e3 vs1 D O3 H3 e3 ds ∧ Kept K O H O3 H3 := by
  have ws : Stp np O σ H (restore e1 e own) O3 σ2 H3 e3 := (wipe_stp p).trans st
  have kk := ws.rd g.sr
  obtain ⟨vs, hD, rA⟩ := g.acc
  obtain ⟨d1, d2, d3⟩ := ws.keep D _ hD g.apart
  exact ⟨⟨by rw [restore_self]; exact g.stp.trans ws, by rw [restore_self]; exact s3, ⟨vs, d1, ws.repAll g.sr rA⟩, d2.mpr g.mine, by rw [restore_self]; exact d3⟩, kk⟩
/-- .. and ends -/
theorem Gath.leave (p : plainOwn e1 own = true) (hs : ∀ i ∈ vs1, i ∈ own) (g : Gath K np Os σs Hs es σ e1 own D O H e ds) {O4 : Own} {H4 : Hp} {e4 : FEnv} {ds4 : List PyData} (g4 : Gath K np Os σs Hs es σ2 e3 vs1 D O4 H4 e4 ds4) (k : Kept K O H O4 H4) (w : L2.wipe σ2 own = L2.wipe σ own) :
    Gath K np Os σs Hs es σ e1 own D O4 H4 e4 ds4 := by
  have back : ∀ {a : Addr}, Mine σ (restore e1 e4 own) a → Mine σ2 (restore e3 e4 vs1) a := fun ⟨i, c, h1, h2⟩ => by
    obtain ⟨i1, i2⟩ := rest_own p h1
    exact ⟨i, c, by rw [rest_out fun z => i1 (hs i z)]; exact i2, by rw [wipeS_same w i1]; exact h2⟩
  refine ⟨⟨fun a o h n => ?_, g4.stp.there, fun i c hi h => ?_⟩, ?_, g4.acc, g4.mine, fun m => g4.apart (back m)⟩
  · obtain ⟨k1, k2, k3⟩ := g4.stp.keep a o h n
    exact ⟨k1, k2, fun m => k3 (back m)⟩
  · obtain ⟨c1, h1, h2⟩ := g.stp.par i c hi h
    obtain ⟨i1, _⟩ := rest_own p h1
    obtain ⟨c2, h3, _⟩ := g4.stp.par i c hi h
    exact ⟨c2, by rw [rest_out i1]; rw [rest_out fun z => i1 (hs i z)] at h3; exact h3, h2⟩
  · have z := unwipe_sr p g.sr k g4.sr w
    rwa [rest_rest hs] at z
/-- the inner clause, from a frame where the list at D stands -/
theorem lci_ok {O4 : Own} {H4 : Hp} {tg1 : Tg} {cond1 elt : P} {J : It} {ys acc acc2 : List PyData} {ec : FEnv} {Nx : Hp → Prop} (hsD : Hs D = none) (p : plainOwn e3 vs1 = true) (sv : Serves K O4 H4 J ys) (ht : ∀ i ∈ tgs tg1, i ∈ vs1)
    (hc : compL np vs1 tg1 (fun e => asB (ev pr T np cond1 e)) (fun e => ev pr T np elt e) ys e3 acc = .ok acc2 ec) (g0 : Gath K np Os σs Hs es σ2 e3 vs1 D O4 H4 e3 acc)
    (hn : ∀ O5 H5, Gath K np Os σs Hs es σ2 e3 vs1 D O5 H5 ec acc2 → Kept K O4 H4 O5 H5 → Nx H5) :
    ∃ W1 : Nat → Nat → Hp → Prop, (∃ m, W1 0 m H4) ∧ ∀ j k H, W1 j k H →
      (J.stop j H ∧ Nx H) ∨ (J.go j H ∧ ∃ Nx1 : Hp → Prop, (∀ H', Nx1 H' → ∃ k', k' < k ∧ W1 (j + 1) k' H') ∧ ∀ x H', J.yld j H x H' → gTg K tg1 x (L2.wipe σ2 vs1) H' fun σ3 H5 => L2.wipe σ3 vs1 = L2.wipe σ2 vs1 ∧ tTs K CA pr T np WF cond1 σ3 H5 fun b H6 =>
        if b = true then tEv K CA pr T np WF elt σ3 H6 fun y H7 => ∃ acc, H7 D = some (.lst acc) ∧ acc.length < sizeLine ∧ Nx1 (upd H7 D (.lst (acc ++ [y]))) else Nx1 H6) := by
  refine ⟨fun j k H => k = ys.length - j ∧ j ≤ ys.length ∧ ∃ O e a, compL np vs1 tg1 (fun e => asB (ev pr T np cond1 e)) (fun e => ev pr T np elt e) (ys.drop j) e a = .ok acc2 ec ∧ Kept K O4 H4 O H ∧ Gath K np Os σs Hs es σ2 e3 vs1 D O H e a,
    ⟨ys.length, by omega, Nat.zero_le _, O4, e3, acc, hc, Kept.refl, g0⟩, ?_⟩
  rintro j k H ⟨rfl, hj, O, e, a, hcL, kp, g⟩
  by_cases hlt : j < ys.length
  · have hy : ys[j]? = some ys[j] := List.getElem?_eq_getElem hlt
    have hdrop : ys.drop j = ys[j] :: ys.drop (j + 1) := List.drop_eq_getElem_cons hlt
    generalize ys[j] = y at hy hdrop
    rw [hdrop] at hcL
    obtain ⟨go, yl⟩ := sv.go O H kp j y hy
    refine .inr ⟨go, fun H' => ∃ O e a, compL np vs1 tg1 (fun e => asB (ev pr T np cond1 e)) (fun e => ev pr T np elt e) (ys.drop (j + 1)) e a = .ok acc2 ec ∧ Kept K O4 H4 O H' ∧ Gath K np Os σs Hs es σ2 e3 vs1 D O H' e a,
      fun H' nx => ⟨ys.length - (j + 1), by omega, rfl, hlt, nx⟩, fun v H' hv => ?_⟩
    obtain ⟨gr, ry⟩ := yl v H' hv
    obtain ⟨g1, k1⟩ := g.grow gr
    have w1 : compL np vs1 tg1 (fun e => asB (ev pr T np cond1 e)) (fun e => ev pr T np elt e) (y :: ys.drop (j + 1)) e a = (match assignTg np (Ev.wipe e vs1) tg1 y with
      | none => .stuck
      | some e1 => (asB (ev pr T np cond1 e1)).no fun b e2 => if b then (ev pr T np elt e2).no fun r e3 => (match capt np e3 r with
          | none => .stuck
          | some (d, e4) => if a.length < lim then compL np vs1 tg1 (fun e => asB (ev pr T np cond1 e)) (fun e => ev pr T np elt e) (ys.drop (j + 1)) e4 (a ++ [d]) else .stuck) else compL np vs1 tg1 (fun e => asB (ev pr T np cond1 e)) (fun e => ev pr T np elt e) (ys.drop (j + 1)) e2 a) := rfl
    rw [w1] at hcL
    cases ha : assignTg np (Ev.wipe e vs1) tg1 y with
    | none => rw [ha] at hcL; cases hcL
    | some ea =>
      rw [ha] at hcL
      obtain ⟨b, eb, hb, hcL⟩ := no_ok hcL
      have ww : ∀ σ3 : St, (∀ own : List Nat, (∀ i ∈ tgs tg1, i ∈ own) → L2.wipe σ3 own = L2.wipe (L2.wipe σ2 vs1) own) → L2.wipe σ3 vs1 = L2.wipe σ2 vs1 := fun σ3 wo => by
        rw [wo vs1 ht, wipeS_eq, wipeS_eq]
        exact setAll_ext (by rw [setAll_len]) fun i hi => (setAll_get vs1).1 hi
      refine tg_ok (wipe_sr p g1.sr) ry ha fun σ3 s2 st2 wo => ⟨ww σ3 wo, O, ea, s2, AftE.of_ok hb fun O6 H6 st3 s3 => ?_⟩
      cases b with
      | false =>
        simp only [Bool.false_eq_true, if_false] at hcL ⊢
        obtain ⟨g6, k6⟩ := g1.step p (st2.trans st3) s3 (ww σ3 wo)
        exact ⟨O6, eb, a, hcL, (kp.trans k1).trans k6, g6⟩
      | true =>
        simp only [if_true] at hcL ⊢
        obtain ⟨r, ed, hr, hcL⟩ := no_ok hcL
        refine ⟨O6, eb, s3, AftE.of_ok hr fun O7 H7 st4 s4 v7 rv => ?_⟩
        cases hcap : capt np ed r with
        | none => rw [hcap] at hcL; cases hcL
        | some pd =>
          obtain ⟨d, ef⟩ := pd
          rw [hcap] at hcL
          have hcL' : (if a.length < lim then compL np vs1 tg1 (fun e => asB (ev pr T np cond1 e)) (fun e => ev pr T np elt e) (ys.drop (j + 1)) ef (a ++ [d]) else .stuck) = .ok acc2 ec := hcL
          by_cases hlim : a.length < lim
          · rw [if_pos hlim] at hcL'
            obtain ⟨O8, st5, s5, r5, _⟩ := capt_ok st4 s4 rv hcap
            obtain ⟨g8, k8⟩ := g1.step p ((st2.trans st3).trans st5) s5 (ww σ3 wo)
            obtain ⟨vs, hD, rA⟩ := g8.acc
            obtain ⟨g9, k9⟩ := g8.app hsD hD r5
            exact ⟨vs, hD, by rw [rA.length]; exact lim_lt hlim, O8, ef, a ++ [d], hcL', ((kp.trans k1).trans k8).trans k9, g9⟩
          · rw [if_neg hlim] at hcL'
            cases hcL'
  · have ei : j = ys.length := by omega
    subst ei
    rw [List.drop_length] at hcL
    have w1 : Out.ok a e = Out.ok acc2 ec := hcL
    cases w1
    exact .inl ⟨sv.stop O H kp, hn O H g kp⟩
theorem lc2_ok {O1 : Own} {H1 : Hp} {e2 : FEnv} {tg tg1 : Tg} {cond cond1 elt : P} {it1 : EIt} {J : It} {xs ds : List PyData} {Q : VK} (st : Stp np Os σ Hs es O1 σ H1 e1) (s : SR K O1 σ H1 e1) (p : plainOwn e1 own = true) (sv : Serves K O1 H1 J xs)
    (ht : ∀ i ∈ tgs tg, i ∈ own) (ht1 : ∀ i ∈ tgs tg1, i ∈ vs1) (hs : ∀ i ∈ vs1, i ∈ own)
    (hc : compL2 np own tg (fun e => asB (ev pr T np cond e)) (fun e acc => (items pr T np it1 e).no fun ys e1 => if plainOwn e1 vs1 then compL np vs1 tg1 (fun e => asB (ev pr T np cond1 e)) (fun e => ev pr T np elt e) ys e1 acc else .stuck) xs e1 [] = .ok ds e2)
    (hq : ∀ O' H' D, Stp np Os σ Hs es O' σ H' (restore e1 e2 own) → SR K O' σ H' (restore e1 e2 own) → RR K O' σ H' (restore e1 e2 own) Hs (.ref D) (.fresh (.lst ds)) → Q (.ref D) H') :
    ∀ D, H1 D = none → ∃ Wi : Nat → Nat → Hp → Prop, (∃ m, Wi 0 m (upd H1 D (.lst []))) ∧ ∀ i m H, Wi i m H →
      (J.stop i H ∧ Q (.ref D) H) ∨ (J.go i H ∧ ∃ Nx : Hp → Prop, (∀ H', Nx H' → ∃ m', m' < m ∧ Wi (i + 1) m' H') ∧ ∀ x H', J.yld i H x H' → gTg K tg x (L2.wipe σ own) H' fun σ2 H2 => L2.wipe σ2 own = L2.wipe σ own ∧ tTs K CA pr T np WF cond σ2 H2 fun b H3 =>
        if b = true then tIt K CA pr T np WF it1 σ2 H3 fun J1 H4 => ∃ W1 : Nat → Nat → Hp → Prop, (∃ m, W1 0 m H4) ∧ ∀ j k H, W1 j k H →
          (J1.stop j H ∧ Nx H) ∨ (J1.go j H ∧ ∃ Nx1 : Hp → Prop, (∀ H', Nx1 H' → ∃ k', k' < k ∧ W1 (j + 1) k' H') ∧ ∀ x H', J1.yld j H x H' → gTg K tg1 x (L2.wipe σ2 vs1) H' fun σ3 H5 => L2.wipe σ3 vs1 = L2.wipe σ2 vs1 ∧ tTs K CA pr T np WF cond1 σ3 H5 fun b H6 =>
            if b = true then tEv K CA pr T np WF elt σ3 H6 fun y H7 => ∃ acc, H7 D = some (.lst acc) ∧ acc.length < sizeLine ∧ Nx1 (upd H7 D (.lst (acc ++ [y]))) else Nx1 H6)
        else Nx H3) := by
  intro D hD
  have hsD : Hs D = none := by
    cases q : Hs D with
    | none => rfl
    | some o => exact absurd hD (st.there D (by rw [q]; exact fun z => nomatch z))
  generalize hin : (fun (e : FEnv) (acc : List PyData) => (items pr T np it1 e).no fun ys e1 => if plainOwn e1 vs1 then compL np vs1 tg1 (fun e => asB (ev pr T np cond1 e)) (fun e => ev pr T np elt e) ys e1 acc else .stuck) = inner at hc
  refine ⟨fun i m H => m = xs.length - i ∧ i ≤ xs.length ∧ ∃ O e a, compL2 np own tg (fun e => asB (ev pr T np cond e)) inner (xs.drop i) e a = .ok ds e2 ∧ Kept K O1 H1 O H ∧ Gath K np Os σ Hs es σ e1 own D O H e a,
    ⟨xs.length, by omega, Nat.zero_le _, plus O1 D, e1, [], hc, ?_⟩, ?_⟩
  · have g : Gro O1 H1 (plus O1 D) (upd H1 D (.lst [])) := Gro.newL hD
    have g1 : Stp np O1 σ H1 e1 (plus O1 D) σ (upd H1 D (.lst [])) e1 := g.step
    refine ⟨g1.rd s, ⟨by rw [restore_self]; exact st.trans g1, by rw [restore_self]; exact g.sr s, ⟨[], upd_same, .nil⟩, .inr rfl, fun m => ?_⟩⟩
    rw [restore_self] at m
    obtain ⟨_, ws, w⟩ := s.mine_own m
    rw [hD] at w
    cases w
  rintro i m H ⟨rfl, hi, O, e, a, hcL, kp, g⟩
  by_cases hlt : i < xs.length
  · have hx : xs[i]? = some xs[i] := List.getElem?_eq_getElem hlt
    have hdrop : xs.drop i = xs[i] :: xs.drop (i + 1) := List.drop_eq_getElem_cons hlt
    generalize xs[i] = x at hx hdrop
    rw [hdrop] at hcL
    obtain ⟨go, yl⟩ := sv.go O H kp i x hx
    refine .inr ⟨go, fun H' => ∃ O e a, compL2 np own tg (fun e => asB (ev pr T np cond e)) inner (xs.drop (i + 1)) e a = .ok ds e2 ∧ Kept K O1 H1 O H' ∧ Gath K np Os σ Hs es σ e1 own D O H' e a,
      fun H' nx => ⟨xs.length - (i + 1), by omega, rfl, hlt, nx⟩, fun v H' hv => ?_⟩
    obtain ⟨gr, ry⟩ := yl v H' hv
    obtain ⟨g1, k1⟩ := g.grow gr
    have w1 : compL2 np own tg (fun e => asB (ev pr T np cond e)) inner (x :: xs.drop (i + 1)) e a = (match assignTg np (Ev.wipe e own) tg x with
      | none => .stuck
      | some e1 => (asB (ev pr T np cond e1)).no fun b e2 => if b then (inner e2 a).no fun a2 e3 => compL2 np own tg (fun e => asB (ev pr T np cond e)) inner (xs.drop (i + 1)) e3 a2 else compL2 np own tg (fun e => asB (ev pr T np cond e)) inner (xs.drop (i + 1)) e2 a) := rfl
    rw [w1] at hcL
    cases ha : assignTg np (Ev.wipe e own) tg x with
    | none => rw [ha] at hcL; cases hcL
    | some ea =>
      rw [ha] at hcL
      obtain ⟨b, eb, hb, hcL⟩ := no_ok hcL
      refine tg_ok (wipe_sr p g1.sr) ry ha fun σ2 s2 st2 wo => ?_
      have ww : L2.wipe σ2 own = L2.wipe σ own := by
        rw [wo own ht, wipeS_eq, wipeS_eq]
        exact setAll_ext (by rw [setAll_len]) fun i hi => (setAll_get own).1 hi
      refine ⟨ww, O, ea, s2, AftE.of_ok hb fun O3 H3 st3 s3 => ?_⟩
      cases b with
      | false =>
        simp only [Bool.false_eq_true, if_false] at hcL ⊢
        obtain ⟨g3, k3⟩ := g1.step p (st2.trans st3) s3 ww
        exact ⟨O3, eb, a, hcL, (kp.trans k1).trans k3, g3⟩
      | true =>
        simp only [if_true] at hcL ⊢
        obtain ⟨a2, ec, hin2, hcL⟩ := no_ok hcL
        rw [← hin] at hin2
        obtain ⟨ys, e3, hit, hin3⟩ := no_ok hin2
        by_cases p3 : plainOwn e3 vs1 = true
        · have hin4 : (if plainOwn e3 vs1 = true then compL np vs1 tg1 (fun e => asB (ev pr T np cond1 e)) (fun e => ev pr T np elt e) ys e3 a else .stuck) = .ok a2 ec := hin3
          rw [if_pos p3] at hin4
          refine ⟨O3, eb, s3, AftE.of_ok hit fun O4 H4 st4 s4 J1 sv1 => ?_⟩
          obtain ⟨g4, k4⟩ := Gath.enter (vs1 := vs1) p g1 ((st2.trans st3).trans st4) s4
          exact lci_ok hsD p3 sv1 ht1 hin4 g4 fun O5 H5 g5 k5 => ⟨O5, ec, a2, hcL, ((kp.trans k1).trans k4).trans k5, g1.leave p hs g5 (k4.trans k5) ww⟩
        · have hin4 : (if plainOwn e3 vs1 = true then compL np vs1 tg1 (fun e => asB (ev pr T np cond1 e)) (fun e => ev pr T np elt e) ys e3 a else .stuck) = .ok a2 ec := hin3
          rw [if_neg p3] at hin4
          cases hin4
  · have ei : i = xs.length := by omega
    subst ei
    rw [List.drop_length] at hcL
    have w1 : Out.ok a e = Out.ok ds e2 := hcL
    cases w1
    obtain ⟨vs, hDl, rA⟩ := g.acc
    exact .inl ⟨sv.stop O H kp, hq O H D g.stp g.sr ⟨D, rfl, g.mine, ⟨vs, hDl, rA⟩, g.apart, hsD⟩⟩
end
section
variable {X : Cx} {CA : Nat → Addr} {pr : EProg} {T : FT} {np : Nat} {W : WX}
theorem lc2_read {it it1 : EIt} {tg tg1 : Tg} {cond cond1 elt : P} {own vs1 : List Nat} (ht : ∀ i ∈ tgs tg, i ∈ own) (ht1 : ∀ i ∈ tgs tg1, i ∈ vs1) (hs : ∀ i ∈ vs1, i ∈ own) {σ : St} {H : Hp} {Q : VK} (h : tEv X.K CA pr T np W (.comp2 elt tg it cond tg1 it1 cond1 own vs1) σ H Q) :
    tLc2 (tIt X.K CA pr T np W it) (gTg X.K tg) (tTs X.K CA pr T np WF cond) (tIt X.K CA pr T np WF it1) (gTg X.K tg1) (tTs X.K CA pr T np WF cond1) (tEv X.K CA pr T np WF elt) own vs1 σ H Q := by
  obtain ⟨O, e, s, h⟩ := h
  refine ⟨O, e, s, (AftE.noE h).mono fun xs O1 H1 e1 st s1 q J sv => ?_⟩
  have q' : AftE X.K CA np W O σ H e (if plainOwn e1 own = true then ((compL2 np own tg (fun e => asB (ev pr T np cond e)) (fun e acc => (items pr T np it1 e).no fun ys e1 => if plainOwn e1 vs1 then compL np vs1 tg1 (fun e => asB (ev pr T np cond1 e)) (fun e => ev pr T np elt e) ys e1 acc else .stuck) xs e1 []).no fun ds e2 => .ok (.fresh (.lst ds)) (restore e1 e2 own)) else .stuck) fun r O' H' e' => ∀ v, RR X.K O' σ H' e' H v r → Q v H' := q
  by_cases p : plainOwn e1 own = true
  · rw [if_pos p] at q'
    cases hc : compL2 np own tg (fun e => asB (ev pr T np cond e)) (fun e acc => (items pr T np it1 e).no fun ys e1 => if plainOwn e1 vs1 then compL np vs1 tg1 (fun e => asB (ev pr T np cond1 e)) (fun e => ev pr T np elt e) ys e1 acc else .stuck) xs e1 [] with
    | stuck => rw [hc] at q'; exact q'.elim
    | err c d e2 => rw [hc] at q'; exact q'.elim
    | ok ds e2 =>
      rw [hc] at q'
      exact lc2_ok st s1 p sv ht ht1 hs hc fun O' H' D st' s' rr => q' O' H' st' s' _ rr
  · rw [if_neg p] at q'
    exact q'.elim
end
end Snd
end
section
set_option Elab.async false
set_option linter.all false
set_option maxRecDepth 100000
set_option maxHeartbeats 4000000
/-! several except clauses, each with a name or without -/
namespace Snd
open PySem L2 PySem.Spec PyProof.Rows
abbrev Cls3 := Value × Option Nat × (Addr → Value → Option Addr → TS)
/-- behind a suite whose name goes -/
def goneD (i : Nat) (D : Ends) : Ends := { nx := fun σ' H' => D.nx (σ'.set i none) H', rt := D.rt, bk := fun σ' H' => D.bk (σ'.set i none) H', ct := fun σ' H' => D.ct (σ'.set i none) H' }
def suiteW (oi : Option Nat) (ts : TS) (a : Addr) (D : Ends) (σ : L2.St) (H : Hp) : Prop := match oi with
  | none => ts D σ H
  | some i => ts (goneD i D) (σ.set i (some (.ref a))) H
def wMix (K : PySem.W.Frag) (Wout : WX) (D : Ends) : List Cls3 → WX
  | [] => Wout
  | (c, oi, ts) :: r => fun cls d σ H => ∃ b, PySem.W.exmOne K cls c = some b ∧ (b = true → ∀ a, H a = none → suiteW oi (ts a cls d) a D σ H) ∧ (b = false → wMix K Wout D r cls d σ H)
inductive HdsMix (X : Cx) : List ExceptHandler → List Cls3 → Prop
  | nil : HdsMix X [] []
  | cons {x : Str} {c : Value} {on : Option Str} {oi : Option Nat} {ts : Addr → Value → Option Addr → TS} {b₀ : Stmt} {suite : List Stmt} {np pos' : Pos} {hds : List ExceptHandler} {l : List Cls3} (hc : Names X x c)
      (hn : match on, oi with | none, none => True | some n, some i => X.N[i]? = some n ∧ X.env.kindOf n = some .local | _, _ => False)
      (hsu : ∀ (a : Addr) (oe : Obj) (cls : Value) (d : Option Addr) (pn : List (Addr × Obj)), Zc cls d oe → (∃ vs, oe.data = .fields vs) → PSs (X.suite a ((a, oe) :: pn)) (b₀ :: suite) (ts a cls d)) (r : HdsMix X hds l) :
      HdsMix X (.ExceptHandler (some (.Name x np)) on (b₀ :: suite) pos' :: hds) ((c, oi, ts) :: l)
section
variable {X : Cx} {body : List Stmt} {h₀ : ExceptHandler} {hds : List ExceptHandler} {l : List Cls3} {pos : Pos} {tb : WX → TS} {Wout : WX}
theorem ps_try_mix (hs : X.stack = X.env :: X.outer) (hf : X.env.frame = some X.env.locals) (hN : X.N.Nodup) (tk : Takes X Wout)
    (hb : ∀ (W : WX) (pn : List (Addr × Obj)) (xe : Value → Shared → Prop), Takes (X.tr pn xe) W → PassesOwn (model X.prog X.w) X.A X.env xe → PSs (X.tr pn xe) body (tb W))
    (hh : HdsMix X (h₀ :: hds) l) : PS X (.Try body (h₀ :: hds) [] [] pos) (fun D σ H => tb (wMix X.K Wout D l) D σ H) := by
  refine ⟨fun pins s σ H D I h => wpAny_Try_except ?_⟩
  have ok := I.ok
  have hfr : X.A.frames = some (X.env :: X.outer) := by rw [ok.frames, hs]
  refine wpAny_mono ((hb (wMix X.K Wout D l) (X.pn ++ pins) (fun e s₁ => wpAny (model X.prog X.w) X.A (noteFrame e X.env) (fun _ s₂ => wpAny (model X.prog X.w) X.A (setFlight e none) (fun _ s₃ =>
    wpAny (model X.prog X.w) X.A (handleBy e X.env (h₀ :: hds)) (SP X pins D) X.xe s₃) X.xe s₂) X.xe s₁) (fun u s' xx => ?_) PassesOwn.looking).run [] s σ H D (I.toTry _) h) (fun f s1 hsp => ?_) (fun _ _ he => he)
  · obtain ⟨a, B, sI, pins', σ', H', cls, d, rfl, J', nb, up, sky, na, os, ag, w⟩ := xx
    have J : Inv X pins σ' H' sI := J'.ofTry ok
    have sky' : Sky B (X.env :: X.outer) a (Zc cls d) X.env.locals s'.heap := by rw [← hs]; exact sky
    show wpAny _ X.A (noteFrame (.ref a) X.env) _ _ _
    refine Sky.land Zc.steady hfr hf sky' fun h3 fl3 up3 => ?_
    have J3 : Inv X pins σ' H' { s' with heap := h3 } := J.landed nb fl3.1 (up.trans up3) os ag
    obtain ⟨oe3, vs3, he3, hz3, hd3⟩ := fl3.there
    have off : a ∉ frs (X.env :: X.outer) := fun hm => by
      obtain ⟨_, o', e', hnf⟩ := fl3.2.2.1.mem hm
      rw [he3] at e'
      cases e'
      exact hnf _ hd3
    have nL : a ≠ X.env.locals := fun z => off (List.mem_filterMap.mpr ⟨X.env, List.mem_cons_self, by rw [hf, z]⟩)
    have nF : a ∉ X.fs := fun hm => by
      obtain ⟨e, he, q⟩ := List.mem_filterMap.mp hm
      exact off (List.mem_filterMap.mpr ⟨e, List.mem_cons_of_mem _ he, q⟩)
    have S3 := J3.suite he3 hd3 na nL nF
    have LT : PySem.W.Looks (model X.prog X.w) h3 (typeOf (.ref a)) cls := fun A Q E s k q => wpAny_typeOf_ref (k _ _ he3) (by rw [hz3.1]; exact q)
    have go : ∀ {hd2 : List ExceptHandler} {l2 : List Cls3}, HdsMix X hd2 l2 → wMix X.K Wout D l2 cls d σ' H' → wpAny (model X.prog X.w) X.A (handleBy (.ref a) X.env hd2) (SP X pins D) X.xe { s' with heap := h3 } := by
      intro hd2 l2 hk
      induction hk with
      | nil =>
        intro w
        refine wpAny_handleBy_nil ?_
        obtain ⟨_, _, _, oe, vs, T, oT, ts', he, hz, hd, h1, hr⟩ := id fl3
        unfold PySem.passOn
        refine wpAny_bind (wpAny_field he hd h1 ?_)
        rw [if_neg (show ¬ ((Value.ref T == Value.none) = true) from by simp)]
        have fin : wpAny (model X.prog X.w) X.A (setFlight (.ref a) X.env.frame) (fun _ s4 => wpAny (model X.prog X.w) X.A (throw (.ref a) : Sem Flow) (SP X pins D) X.xe s4) X.xe { s' with heap := h3 } := by
          rw [hf]
          exact HandSPX.setFlight_upZ fl3 fun h4 hh4 up4 => wpAny_throw (tk _ _ ⟨a, B, sI, pins, σ', H', cls, d, rfl, J, nb, (up.trans up3).trans up4, .inr (.inr (by rw [hs]; exact hh4)), na, os, ag, w⟩)
        first
          | exact wpAny_bind (wpAny_pure (wpAny_bind fin))
          | exact wpAny_bind fin
      | @cons x c on oi ts b₀ suite np pos' hd3 l3 hc hn hsu r ih =>
        rintro ⟨b, hb1, hyes, hno⟩
        refine wpAny_handleBy_cons (codeAny_handlers_test ?_) (by intro q; cases q)
        have LM := PySem.W.exm_one (M := model X.prog X.w) (J3.kIn) LT hb1
        have test : ∀ {Q : Value → Shared → Prop} {E : Value → Shared → Prop}, Q c { s' with heap := h3 } → wpAny (model X.prog X.w) (X.A.mark (some (.ref a))) (eval (.Name x np) X.env) Q E { s' with heap := h3 } := fun {Q E} q => by
          obtain ⟨hg, hdbg, hm | ⟨hm, hv, hnn⟩⟩ := hc
          · exact ld_glob (X := X.suite a ((a, oe3) :: (X.pn ++ pins))) S3 hg hm q hdbg
          · exact ld_blt (X := X.suite a ((a, oe3) :: (X.pn ++ pins))) S3 hg hm hv q hnn hdbg
        refine test (LM.here ?_)
        cases b with
        | false =>
          show wpAny _ X.A (handleBy (.ref a) X.env hd3) _ _ _
          exact ih (hno rfl)
        | true =>
          have wy := hyes rfl a na
          cases oi with
          | none =>
            cases on with
            | some n => exact hn.elim
            | none =>
              have wy' : ts a cls d D σ' H' := wy
              refine codeAny_handlers_suite (HandSPX.lands_againZ fl3 fun h4 fl4 up4 => ?_)
              have J4 : Inv X pins σ' H' { s' with heap := h4 } := J.landed nb fl4.1 ((up.trans up3).trans up4) os ag
              obtain ⟨oe4, vs4, he4, hz4, hd4⟩ := fl4.there
              refine wpAny_mono ((hsu a oe4 cls d (X.pn ++ pins) hz4 ⟨_, hd4⟩).run [] _ _ H' _ (J4.suite he4 hd4 na nL nF) wy') (fun f s6 hsp => ?_) (fun _ _ z => False.elim z)
              cases f with
              | next => exact let ⟨_, _, S6, q6⟩ := hsp; ⟨_, _, S6.unsuite ok, q6⟩
              | brk => exact let ⟨_, _, S6, q6⟩ := hsp; ⟨_, _, S6.unsuite ok, q6⟩
              | cont => exact let ⟨_, _, S6, q6⟩ := hsp; ⟨_, _, S6.unsuite ok, q6⟩
              | ret u => exact let ⟨_, _, _, S6, r6, q6⟩ := hsp; ⟨_, _, _, S6.unsuite ok, r6, q6⟩
          | some i =>
            cases on with
            | none => exact hn.elim
            | some n =>
              obtain ⟨hi, hln⟩ := hn
              have wy' : ts a cls d (goneD i D) (σ'.set i (some (.ref a))) H' := wy
              refine codeAny_handlers_suite_as (HandSPX.lands_againZ fl3 fun h4 fl4 up4 => ?_)
              have J4 : Inv X pins σ' H' { s' with heap := h4 } := J.landed nb fl4.1 ((up.trans up3).trans up4) os ag
              obtain ⟨oe4, vs4, he4, hz4, hd4⟩ := fl4.there
              refine store_ok (X := X.suite a ((a, oe4) :: (X.pn ++ pins))) (v := .ref a) (J4.suite he4 hd4 na nL nF) hN hi (.inl hln) rfl (fun s5 S5 => ?_) (.inr hln)
              refine wpAny_mono ((hsu a oe4 cls d (X.pn ++ pins) hz4 ⟨_, hd4⟩).run [] s5 _ H' _ S5 wy') (fun f s6 hsp => ?_) (fun _ _ z => False.elim z)
              have end_ : ∀ {σ6 : L2.St} {H6 : Hp} {Q : Shared → Prop}, Inv (X.suite a ((a, oe4) :: (X.pn ++ pins))) [] σ6 H6 s6 → (∀ s7, Inv X pins (σ6.set i none) H6 s7 → Q s7) →
                  wpAny (model X.prog X.w) X.A (do bindName X.env n .none; unbindBehindTheSuite X.env n pos') (fun _ s7 => Q s7) X.xe s6 := fun S6 hq => gone_ok (S6.unsuite ok) hN hi hln hq
              cases f with
              | next => exact let ⟨_, _, S6, q6⟩ := hsp; end_ S6 fun s7 J7 => ⟨_, _, J7, q6⟩
              | brk => exact let ⟨_, _, S6, q6⟩ := hsp; end_ S6 fun s7 J7 => ⟨_, _, J7, q6⟩
              | cont => exact let ⟨_, _, S6, q6⟩ := hsp; end_ S6 fun s7 J7 => ⟨_, _, J7, q6⟩
              | ret u => exact let ⟨_, _, _, S6, r6, q6⟩ := hsp; end_ S6 fun s7 J7 => ⟨_, _, _, J7, r6, q6⟩
    exact go hh w
  · cases f with
    | next => exact let ⟨σ', H', J', q⟩ := hsp; wpAny_execs_nil ⟨σ', H', J'.ofTry ok, q⟩
    | brk => exact let ⟨σ', H', J', q⟩ := hsp; ⟨σ', H', J'.ofTry ok, q⟩
    | cont => exact let ⟨σ', H', J', q⟩ := hsp; ⟨σ', H', J'.ofTry ok, q⟩
    | ret u => exact let ⟨v, σ', H', J', r, q⟩ := hsp; ⟨v, σ', H', J'.ofTry ok, r, q⟩
end
end Snd
end
section
set_option Elab.async false
set_option linter.all false
set_option maxRecDepth 100000
set_option maxHeartbeats 2000000
namespace Snd
open PySem L2 Ev
/-- what is wanted at a statement's end; Hf: the heap at the frame's start -/
def endK (K : PySem.W.Frag) (Hf : Hp) (D : Ends) : EFlow → Own → St → Hp → FEnv → Prop
  | .next, _, σ, H, _ => D.nx σ H
  | .brk, _, σ, H, _ => D.bk σ H
  | .cont, _, σ, H, _ => D.ct σ H
  | .ret r, O, σ, H, e => ∀ v, RR K O σ H e Hf v r → D.rt v H
/-- a frame under way, from its start -/
structure Way (K : PySem.W.Frag) (np : Nat) (Hf : Hp) (O : Own) (σ : St) (H : Hp) (e : FEnv) : Prop where
  sr : SR K O σ H e
  there : ∀ a, Hf a ≠ none → H a ≠ none
  new : ∀ (i : Nat) (c : ECell) (a : Addr), np ≤ i → e[i]? = some (Plc.own c) → σ[i]? = some (some (V.ref a)) → Hf a = none
section
variable {K : PySem.W.Frag} {CA : Nat → Addr} {pr : EProg} {T : FT} {np : Nat} {W : WX} {O O1 : Own} {σ σ1 : St} {Hf H H1 : Hp} {e e1 : FEnv}
/-- a step keeps the way, where what is new is younger than the frame -/
theorem Way.step (w : Way K np Hf O σ H e) (st : Stp np O σ H e O1 σ1 H1 e1) (s : SR K O1 σ1 H1 e1) : Way K np Hf O1 σ1 H1 e1 where
  sr := s
  there := fun a h => st.there a (w.there a h)
  new := fun i c a hi h1 h2 => by
    cases q : Hf a with
    | none => rfl
    | some o =>
      exfalso
      have hh : H a ≠ none := w.there a (by rw [q]; exact fun z => nomatch z)
      cases q2 : H a with
      | none => exact hh q2
      | some o2 =>
        by_cases m : Mine σ e a
        · obtain ⟨j, c2, g1, g2⟩ := m
          by_cases hj : np ≤ j
          · rw [w.new j c2 a hj g1 g2] at q
            cases q
          · obtain ⟨c3, g3, g4⟩ := st.par j c2 (by omega) g1
            have ij := s.inj i j c c3 a h1 g3 h2 (by rw [g4]; exact g2)
            omega
        · exact (st.keep a o2 q2 m).2.2 ⟨i, c, h1, h2⟩
end
section
variable (K : PySem.W.Frag) (CA : Nat → Addr) (pr : EProg) (T : FT) (np : Nat) (W : WX)
def tSt (o : FEnv → Out EFlow) : TS := fun D σ H => ∃ Hf O e, Way K np Hf O σ H e ∧ Aft K CA np W O σ H e (o e) (endK K Hf D)
abbrev tEx (s : S) : TS := tSt K CA np W fun e => ex pr T np s e
abbrev tExs (s : Ss) : TS := tSt K CA np W fun e => exs pr T np s e
end
section
variable {K : PySem.W.Frag} {CA : Nat → Addr} {pr : EProg} {T : FT} {np : Nat} {W : WX} {O O1 : Own} {σ σ1 : St} {Hf H H1 : Hp} {e e1 : FEnv} {α : Type}
/-- the expression ahead -/
theorem toE {o : Out α} {f : α → FEnv → Out EFlow} {k : EFlow → Own → St → Hp → FEnv → Prop} (h : Aft K CA np W O σ H e (o.bind f) k) : AftE K CA np W O σ H e o fun a _ _ e1 => Aft K CA np W O σ H e (f a e1) k := (Aft.bind h).toE
/-- the end of a statement, from a place's new value -/
theorem fin_nx {D : Ends} (h : Aft K CA np W O σ H e (.ok .next e1) (endK K Hf D)) (st : Stp np O σ H e O1 σ1 H1 e1) (s : SR K O1 σ1 H1 e1) : D.nx σ1 H1 := h O1 σ1 H1 st s
theorem put_own {i : Nat} {c : ECell} {a : Addr} (s : SR K O σ H e) (oa : O a) (ca : CellR K O H a c) (na : ¬ Mine σ e a) (h : put np e i (.own c) = some e1) : SR K O (σ.set i (some (.ref a))) H e1 := by
  obtain ⟨hl, hn, rfl⟩ := put_some h
  refine ⟨by rw [List.length_set, List.length_set, s.len], fun j p hj => ?_, fun j k c1 c2 b q1 q2 q3 q4 => ?_⟩
  · by_cases hij : i = j
    · subst hij
      rw [List.getElem?_set_self hl] at hj
      cases hj
      exact ⟨some (.ref a), by rw [List.getElem?_set_self (by rw [s.len]; exact hl)], a, rfl, oa, ca⟩
    · rw [List.getElem?_set_ne hij] at hj
      obtain ⟨o', h1, h2⟩ := s.at_ j p hj
      exact ⟨o', by rw [List.getElem?_set_ne hij]; exact h1, h2⟩
  · by_cases hij : i = j
    · by_cases hik : i = k
      · rw [← hij, ← hik]
      · exfalso
        subst hij
        rw [List.getElem?_set_self (by rw [s.len]; exact hl)] at q3
        rw [List.getElem?_set_ne hik] at q2 q4
        cases q3
        exact na ⟨k, c2, q2, q4⟩
    · by_cases hik : i = k
      · exfalso
        subst hik
        rw [List.getElem?_set_self (by rw [s.len]; exact hl)] at q4
        rw [List.getElem?_set_ne hij] at q1 q3
        cases q4
        exact na ⟨j, c1, q1, q3⟩
      · rw [List.getElem?_set_ne hij] at q1 q3
        rw [List.getElem?_set_ne hik] at q2 q4
        exact s.inj j k c1 c2 b q1 q2 q3 q4
theorem put_own_stp {Os : Own} {σs : St} {Hs : Hp} {es : FEnv} {i : Nat} {c : ECell} {a : Addr} (st : Stp np Os σs Hs es O σ H e) (s : SR K O σ H e) (ha : Hs a = none) (h : put np e i (.own c) = some e1) : Stp np Os σs Hs es O (σ.set i (some (.ref a))) H e1 := by
  obtain ⟨hl, hn, rfl⟩ := put_some h
  refine ⟨fun b o hb nb => ?_, st.there, fun j c' hj hc => ?_⟩
  · obtain ⟨k1, k2, k3⟩ := st.keep b o hb nb
    refine ⟨k1, k2, fun ⟨j, c', h1, h2⟩ => ?_⟩
    by_cases hij : i = j
    · subst hij
      rw [List.getElem?_set_self (by rw [s.len]; exact hl)] at h2
      cases h2
      rw [ha] at hb
      cases hb
    · rw [List.getElem?_set_ne hij] at h1 h2
      exact k3 ⟨j, c', h1, h2⟩
  · obtain ⟨c2, h1, h2⟩ := st.par j c' hj hc
    have hij : i ≠ j := fun z => by
      subst z
      have := hn (by rw [gt_get h1]; rfl)
      omega
    exact ⟨c2, by rw [List.getElem?_set_ne hij]; exact h1, by rw [List.getElem?_set_ne hij]; exact h2⟩
/-- a list of one's own, in its slot, gets other items -/
theorem slot_upd {i : Nat} {xs ys : List D} {ws : List V} {a : Addr} (s : SR K O σ H e) (g : gt e i = .own (.lst xs)) (ha : σ[i]? = some (some (V.ref a))) (r : RepAll K O H ws ys) :
    SR K O σ (upd H a (.lst ws)) (e.set i (.own (.lst ys))) ∧ Stp np O σ H e O σ (upd H a (.lst ws)) (e.set i (.own (.lst ys))) := by
  obtain ⟨b, h1, h2, ⟨vs, h3, h4⟩, m⟩ := s.own g
  rw [ha] at h1
  cases h1
  have h0 := get_some g (fun z => nomatch z)
  have hl : i < e.length := (List.getElem?_eq_some_iff.mp h0).1
  have k : Kept K O H O (upd H a (.lst ws)) := kept_upd h3 h2
  refine ⟨⟨by rw [List.length_set]; exact s.len, fun j p hj => ?_, fun j k c c' b q1 q2 q3 q4 => ?_⟩, ⟨fun b o hb nb => ?_, fun b hb => ?_, fun j c hj hc => ?_⟩⟩
  · by_cases hij : i = j
    · subst hij
      rw [List.getElem?_set_self hl] at hj
      cases hj
      exact ⟨some (.ref a), ha, a, rfl, h2, ws, upd_same, k.repAll r⟩
    · rw [List.getElem?_set_ne hij] at hj
      obtain ⟨q, g1, g2⟩ := s.at_ j p hj
      refine ⟨q, g1, ?_⟩
      cases p with
      | emp => exact g2
      | exc c d => exact g2
      | val d =>
        obtain ⟨v, g3, g4⟩ := g2
        exact ⟨v, g3, k.rep g4⟩
      | own c =>
        obtain ⟨b, g3, g4, g5⟩ := g2
        have hb : b ≠ a := fun z => hij (s.inj i j _ _ a h0 hj ha (by rw [g1, g3, z]))
        cases c with
        | lst ds =>
          obtain ⟨us, w1, w2⟩ := g5
          exact ⟨b, g3, g4, us, by rw [upd_ne hb]; exact w1, k.repAll w2⟩
  · have u : ∀ {m : Nat} {c : ECell}, (e.set i (.own (.lst ys)))[m]? = some (Plc.own c) → ∃ c0, e[m]? = some (Plc.own c0) := fun {m c} q => by
      by_cases hm : i = m
      · subst hm
        exact ⟨_, h0⟩
      · rw [List.getElem?_set_ne hm] at q
        exact ⟨c, q⟩
    obtain ⟨c0, u1⟩ := u q1
    obtain ⟨c1, u2⟩ := u q2
    exact s.inj j k c0 c1 b u1 u2 q3 q4
  · have ne : b ≠ a := fun z => nb (by rw [z]; exact m)
    refine ⟨by rw [upd_ne ne]; exact hb, Iff.rfl, fun ⟨j, c, g1, g2⟩ => ?_⟩
    by_cases hij : i = j
    · subst hij
      rw [ha] at g2
      cases g2
      exact ne rfl
    · rw [List.getElem?_set_ne hij] at g1
      exact nb ⟨j, c, g1, g2⟩
  · by_cases ne : b = a
    · rw [ne, upd_same]
      exact fun z => nomatch z
    · rw [upd_ne ne]
      exact hb
  · by_cases hij : i = j
    · subst hij
      exact ⟨_, by rw [List.getElem?_set_self hl], rfl⟩
    · exact ⟨c, by rw [List.getElem?_set_ne hij]; exact hc, rfl⟩
/-! ### readings of the statements -/
theorem r_asg {i : Nat} {p : P} {D : Ends} (h : tEx K CA pr T np W (.asg i p) D σ H) : tEv K CA pr T np W p σ H fun v H1 => D.nx (σ.set i (some v)) H1 := by
  obtain ⟨Hf, O, e, w, h⟩ := h
  refine ⟨O, e, w.sr, (toE h).mono fun r O1 H1 e1 st s1 q v rv => ?_⟩
  cases q1 : capt np e1 r with
  | none => rw [q1] at q; exact q.elim
  | some pd =>
    obtain ⟨d, e2⟩ := pd
    rw [q1] at q
    have q' : Aft K CA np W O σ H e (match put np e2 i (.val d) with | some e3 => .ok .next e3 | none => .stuck) (endK K Hf D) := q
    obtain ⟨O2, st2, s2, r2, _⟩ := capt_ok st s1 rv q1
    cases q2 : put np e2 i (.val d) with
    | none => rw [q2] at q'; exact q'.elim
    | some e3 =>
      rw [q2] at q'
      exact fin_nx q' (st2.trans (put_stp (s := .val d) (fun c z => nomatch z) q2)) (put_sr (s := .val d) s2 (fun c z => nomatch z) ⟨v, rfl, r2⟩ q2)
theorem r_own {i : Nat} {p : P} {D : Ends} (h : tEx K CA pr T np W (.own i p) D σ H) : tEv K CA pr T np W p σ H fun v H1 => D.nx (σ.set i (some v)) H1 := by
  obtain ⟨Hf, O, e, w, h⟩ := h
  refine ⟨O, e, w.sr, (toE h).mono fun r O1 H1 e1 st s1 q v rv => ?_⟩
  cases r with
  | d x => exact q.elim
  | slot j => exact q.elim
  | fresh c =>
    have q' : Aft K CA np W O σ H e (match put np e1 i (.own c) with | some e2 => .ok .next e2 | none => .stuck) (endK K Hf D) := q
    cases q2 : put np e1 i (.own c) with
    | none => rw [q2] at q'; exact q'.elim
    | some e3 =>
      rw [q2] at q'
      obtain ⟨a, rfl, g1, g2, g3, g4⟩ := rv
      exact fin_nx q' (put_own_stp st s1 g4 q2) (put_own s1 g1 g2 g3 q2)
theorem r_expr {p : P} {D : Ends} (h : tEx K CA pr T np W (.expr p) D σ H) : tEv K CA pr T np W p σ H fun v H1 => D.nx σ H1 := by
  obtain ⟨Hf, O, e, w, h⟩ := h
  exact ⟨O, e, w.sr, (toE h).mono fun r O1 H1 e1 st s1 q v rv => fin_nx q st s1⟩
theorem r_ret {p : P} {D : Ends} (h : tEx K CA pr T np W (.ret p) D σ H) : tEv K CA pr T np W p σ H D.rt := by
  obtain ⟨Hf, O, e, w, h⟩ := h
  refine ⟨O, e, w.sr, (toE h).mono fun r O1 H1 e1 st s1 q v rv => ?_⟩
  have w1 := w.step st s1
  cases r with
  | d x => exact q O1 σ H1 st s1 v rv
  | fresh c => exact q O1 σ H1 st s1 v (RR.back rv w.there)
  | slot i =>
    have q' : Aft K CA np W O σ H e (match (match gt e1 i with | .own c => if np ≤ i then some (Rs.fresh c, e1.set i .emp) else none | .val d => some (.d d, e1) | _ => none) with | some (r2, e2) => .ok (.ret r2) e2 | none => .stuck) (endK K Hf D) := q
    have rv' : σ[i]? = some (some v) := rv
    cases g : gt e1 i with
    | emp => rw [g] at q'; exact q'.elim
    | exc c d => rw [g] at q'; exact q'.elim
    | val d =>
      rw [g] at q'
      obtain ⟨v2, h1, h2⟩ := s1.val g
      rw [rv'] at h1
      cases h1
      exact q' O1 σ H1 st s1 v h2
    | own c =>
      rw [g] at q'
      have q2 : Aft K CA np W O σ H e (match (if np ≤ i then some (Rs.fresh c, e1.set i .emp) else none) with | some (r2, e2) => .ok (.ret r2) e2 | none => .stuck) (endK K Hf D) := q'
      by_cases hn : np ≤ i
      · rw [if_pos hn] at q2
        obtain ⟨a, h1, h2, h3, m⟩ := s1.own g
        rw [rv'] at h1
        cases h1
        have h0 := get_some g (fun z => nomatch z)
        have mine : ∀ b, Mine σ (e1.set i .emp) b → Mine σ e1 b ∧ b ≠ a := fun b z => by
          refine ⟨z.unset (by intro c w; cases w), fun hb => ?_⟩
          obtain ⟨j, c', g1, g2⟩ := z
          by_cases hij : i = j
          · subst hij
            rw [List.getElem?_set_self (List.getElem?_eq_some_iff.mp h0).1] at g1
            cases g1
          · rw [List.getElem?_set_ne hij] at g1
            exact hij (s1.inj i j _ _ a h0 g1 rv' (by rw [g2, hb]))
        have st2 : Stp np O1 σ H1 e1 O1 σ H1 (e1.set i .emp) := ⟨fun b o hb nb => ⟨hb, Iff.rfl, fun z => nb (mine b z).1⟩, fun _ z => z, fun j c' hj hc => ⟨c', by rw [List.getElem?_set_ne (show i ≠ j from fun z => by omega)]; exact hc, rfl⟩⟩
        have s2 : SR K O1 σ H1 (e1.set i .emp) := by
          refine ⟨by rw [List.length_set]; exact s1.len, fun j p hj => ?_, fun j k c1 c2 b q1 q2 q3 q4 => ?_⟩
          · by_cases hij : i = j
            · subst hij
              rw [List.getElem?_set_self (List.getElem?_eq_some_iff.mp h0).1] at hj
              cases hj
              exact ⟨_, rv', trivial⟩
            · rw [List.getElem?_set_ne hij] at hj
              exact s1.at_ j p hj
          · have u : ∀ {m : Nat} {c : ECell}, (e1.set i .emp)[m]? = some (Plc.own c) → e1[m]? = some (Plc.own c) := fun {m c} q => by
              by_cases hm : i = m
              · subst hm
                rw [List.getElem?_set_self (List.getElem?_eq_some_iff.mp h0).1] at q
                cases q
              · rw [List.getElem?_set_ne hm] at q
                exact q
            exact s1.inj j k c1 c2 b (u q1) (u q2) q3 q4
        exact q2 O1 σ H1 (st.trans st2) s2 (.ref a) ⟨a, rfl, h2, h3, fun z => (mine a z).2 rfl, w1.new i c a hn h0 rv'⟩
      · rw [if_neg hn] at q2
        exact q2.elim
theorem r_seq {s : S} {r : Ss} {D : Ends} (h : tExs K CA pr T np W (.cons s r) D σ H) : tSeq (tEx K CA pr T np W s) (tExs K CA pr T np W r) D σ H := by
  obtain ⟨Hf, O, e, w, h⟩ := h
  refine ⟨Hf, O, e, w, (Aft.bind h).mono fun f O1 σ1 H1 e1 st s1 q => ?_⟩
  cases f with
  | next => exact ⟨Hf, O1, e1, w.step st s1, q.from st⟩
  | brk => exact q O1 σ1 H1 st s1
  | cont => exact q O1 σ1 H1 st s1
  | ret r => exact q O1 σ1 H1 st s1
theorem r_nil {D : Ends} (h : tExs K CA pr T np W .nil D σ H) : tNext D σ H := by
  obtain ⟨Hf, O, e, w, h⟩ := h
  exact h O σ H Stp.refl w.sr
theorem r_pass {D : Ends} (h : tEx K CA pr T np W .pass D σ H) : tNext D σ H := by
  obtain ⟨Hf, O, e, w, h⟩ := h
  exact h O σ H Stp.refl w.sr
theorem r_brk {D : Ends} (h : tEx K CA pr T np W .brk D σ H) : tBreak D σ H := by
  obtain ⟨Hf, O, e, w, h⟩ := h
  exact h O σ H Stp.refl w.sr
theorem r_cont {D : Ends} (h : tEx K CA pr T np W .cont D σ H) : tCont D σ H := by
  obtain ⟨Hf, O, e, w, h⟩ := h
  exact h O σ H Stp.refl w.sr
theorem r_ite {c : P} {a b : Ss} {D : Ends} (h : tEx K CA pr T np W (.ite c a b) D σ H) : tIfS (tTs K CA pr T np W c) (tExs K CA pr T np W a) (tExs K CA pr T np W b) D σ H := by
  obtain ⟨Hf, O, e, w, h⟩ := h
  refine ⟨O, e, w.sr, (toE h).mono fun k O1 H1 e1 st s1 q => ?_⟩
  cases k with
  | true =>
    rw [if_pos rfl] at q ⊢
    exact ⟨Hf, O1, e1, w.step st s1, q.from st⟩
  | false =>
    rw [if_neg (by decide)] at q ⊢
    exact ⟨Hf, O1, e1, w.step st s1, q.from st⟩
theorem r_whl {c : P} {body : Ss} {D : Ends} (h : tEx K CA pr T np W (.whl c body) D σ H) : tWhile (tTs K CA pr T np W c) (tExs K CA pr T np W body) D σ H := by
  obtain ⟨Hf, O, e, w, h⟩ := h
  refine ⟨fun m σ H => ∃ O e, Way K np Hf O σ H e ∧ Aft K CA np W O σ H e (whileL (fun e => asB (ev pr T np c e)) (fun e => exs pr T np body e) m e) (endK K Hf D), ⟨pr.fuel, O, e, w, h⟩, ?_⟩
  rintro m σ H ⟨O, e, w, h⟩
  cases m with
  | zero => exact h.elim
  | succ m =>
    refine ⟨O, e, w.sr, (toE h).mono fun k O1 H1 e1 st s1 q => ?_⟩
    cases k with
    | false =>
      simp only [Bool.false_eq_true, if_false] at q ⊢
      exact fin_nx q st s1
    | true =>
      simp only [if_true] at q ⊢
      refine ⟨fun σ' H' => ∃ O e, Way K np Hf O σ' H' e ∧ Aft K CA np W O σ' H' e (whileL (fun e => asB (ev pr T np c e)) (fun e => exs pr T np body e) m e) (endK K Hf D), fun σ' H' n => ⟨m, Nat.lt_succ_self m, n⟩, Hf, O1, e1, w.step st s1, ?_⟩
      refine (Aft.bind (q.from st)).mono fun f O2 σ2 H2 e2 st2 s2 q2 => ?_
      have w2 := (w.step st s1).step st2 s2
      cases f with
      | next => exact ⟨O2, e2, w2, q2.from st2⟩
      | cont => exact ⟨O2, e2, w2, q2.from st2⟩
      | brk => exact q2 O2 σ2 H2 st2 s2
      | ret r => exact q2 O2 σ2 H2 st2 s2
theorem r_for {tg : Tg} {it : EIt} {body : Ss} {D : Ends} (h : tEx K CA pr T np W (.for_ tg it body) D σ H) : tFor (tIt K CA pr T np W it) (gTg K tg) (tExs K CA pr T np W body) D σ H := by
  obtain ⟨Hf, O, e, w, h⟩ := h
  refine ⟨O, e, w.sr, (toE h).mono fun xs O1 H1 e1 st s1 q J sv => ?_⟩
  refine ⟨fun i m σ H => m = xs.length - i ∧ i ≤ xs.length ∧ ∃ O e, Kept K O1 H1 O H ∧ Way K np Hf O σ H e ∧ Aft K CA np W O σ H e (forL np tg (fun e => exs pr T np body e) (xs.drop i) e) (endK K Hf D), ⟨xs.length, by omega, Nat.zero_le _, O1, e1, Kept.refl, w.step st s1, q.from st⟩, ?_⟩
  rintro i m σ H ⟨rfl, hi, O, e, kp, w, h⟩
  by_cases hlt : i < xs.length
  · have hx : xs[i]? = some xs[i] := List.getElem?_eq_getElem hlt
    have hdrop : xs.drop i = xs[i] :: xs.drop (i + 1) := List.drop_eq_getElem_cons hlt
    generalize xs[i] = x at hx hdrop
    rw [hdrop] at h
    obtain ⟨go, yl⟩ := sv.go O H kp i x hx
    refine .inr ⟨go, fun σ' H' => ∃ O e, Kept K O1 H1 O H' ∧ Way K np Hf O σ' H' e ∧ Aft K CA np W O σ' H' e (forL np tg (fun e => exs pr T np body e) (xs.drop (i + 1)) e) (endK K Hf D), fun σ' H' nx => ⟨xs.length - (i + 1), by omega, rfl, hlt, nx⟩, fun y H' hy => ?_⟩
    obtain ⟨g, ry⟩ := yl y H' hy
    have gs : Stp np O σ H e O σ H' e := g.step
    have sr' := g.sr w.sr
    have kp' : Kept K O1 H1 O H' := kp.trans (gs.rd w.sr)
    have h' : Aft K CA np W O σ H e (match assignTg np e tg x with | none => .stuck | some e1 => (exs pr T np body e1).bind fun f e2 => match f with | .next => forL np tg (fun e => exs pr T np body e) (xs.drop (i + 1)) e2 | .cont => forL np tg (fun e => exs pr T np body e) (xs.drop (i + 1)) e2 | .brk => .ok .next e2 | .ret r => .ok (.ret r) e2) (endK K Hf D) := h
    cases ha : assignTg np e tg x with
    | none => rw [ha] at h'; exact h'.elim
    | some ea =>
      rw [ha] at h'
      refine tg_ok sr' ry ha fun σ2 s2 st2 wo => ⟨Hf, O, ea, (w.step gs sr').step st2 s2, ?_⟩
      refine (Aft.bind (h'.from (gs.trans st2))).mono fun f O3 σ3 H3 e3 st3 s3 q3 => ?_
      have w3 := ((w.step gs sr').step st2 s2).step st3 s3
      have kk : Kept K O1 H1 O3 H3 := kp'.trans (Kept.trans (st2.rd sr') (st3.rd s2))
      cases f with
      | next => exact ⟨O3, e3, kk, w3, q3.from st3⟩
      | cont => exact ⟨O3, e3, kk, w3, q3.from st3⟩
      | brk => exact q3 O3 σ3 H3 st3 s3
      | ret r => exact q3 O3 σ3 H3 st3 s3
  · have ei : i = xs.length := by omega
    subst ei
    rw [List.drop_length] at h
    exact .inl ⟨sv.stop O H kp, h O σ H Stp.refl w.sr⟩
end
end Snd
end
section
set_option Elab.async false
set_option linter.all false
set_option maxRecDepth 100000
set_option maxHeartbeats 4000000
/-! except suites: what they tell -/
namespace Snd
open PySem L2 Ev
def litV : D → V
  | .bool b => .bl b
  | .int i => .int i
  | .str x => .str x
  | _ => .non
mutual
/-- the reading: a the caught exception at slot i, cls its class, dd its dict -/
def tXp (K : PySem.W.Frag) (a : Addr) (cls : Value) (dd : Option Addr) (i : Nat) : Xp → TE
  | .lit d => tC (litV d)
  | .val => fun σ H Q => ∃ C, XfC K C ∧ PySem.W.findIn K (.ref C) "value" = some none ∧ tXf a cls dd C "value" (tVar i) σ H Q
  | .tup xs => tTup (tXps K a cls dd i xs)
  | .lst xs => tLst (tXps K a cls dd i xs)
def tXps (K : PySem.W.Frag) (a : Addr) (cls : Value) (dd : Option Addr) (i : Nat) : Xps → TA
  | .nil => tNil
  | .cons x r => tCons (tXp K a cls dd i x) (tXps K a cls dd i r)
end
def xpsLen : Xps → Nat
  | .nil => 0
  | .cons _ r => xpsLen r + 1
mutual
/-- the values are flat, the tuples short -/
def xpOk (nm : Bool) : Xp → Bool
  | .lit d => (match d with | .none => true | .bool _ => true | .int _ => true | .str _ => true | _ => false)
  | .val => nm
  | .tup xs => xpsOk nm xs && decide (xpsLen xs ≤ 1000)
  | .lst xs => xpsOk nm xs && decide (xpsLen xs ≤ 1000)
def xpsOk (nm : Bool) : Xps → Bool
  | .nil => true
  | .cons x r => xpOk nm x && xpsOk nm r
end
section
variable {K : PySem.W.Frag} {O : Own} {σ : St} {H : Hp} {a : Addr} {cls : Value} {dd : Option Addr} {i : Nat} {nm : Bool} {v : D}
theorem xpsLen_eq (v : D) : ∀ xs : Xps, (xpsD v xs).length = xpsLen xs
  | .nil => rfl
  | .cons x r => by
    show (xpsD v r).length + 1 = _
    rw [xpsLen_eq v r]
    rfl
/-- what the suite needs of its exception -/
structure HasV (K : PySem.W.Frag) (O : Own) (σ : St) (H : Hp) (a : Addr) (cls : Value) (dd : Option Addr) (i : Nat) (nm : Bool) (v : D) : Prop where
  slot : nm = true → σ[i]? = some (some (.ref a))
  cls_ : ∃ C, cls = .ref C ∧ XfC K C ∧ PySem.W.findIn K (.ref C) "value" = some none
  dict : ∃ dx w, dd = some dx ∧ H dx = some (.xd [(("value" : Str), w)]) ∧ Rep K O H w v
theorem HasV.gro {O1 : Own} {H1 : Hp} (h : HasV K O σ H a cls dd i nm v) (g : Gro O H O1 H1) (k : Kept K O H O1 H1) : HasV K O1 σ H1 a cls dd i nm v where
  slot := h.slot
  cls_ := h.cls_
  dict := by
    obtain ⟨dx, w, h1, h2, h3⟩ := h.dict
    exact ⟨dx, w, h1, (g.keep dx _ h2).1, k.rep h3⟩
theorem kept_gro {O1 : Own} {H1 : Hp} {e : FEnv} {σ : St} (g : Gro O H O1 H1) (s : SR K O σ H e) : Kept K O H O1 H1 := (g.step (np := 0) (σ := σ) (e := e)).rd s
theorem gro_trans {O1 O2 : Own} {H1 H2 : Hp} (a : Gro O H O1 H1) (b : Gro O1 H1 O2 H2) : Gro O H O2 H2 := ⟨fun x o h => ⟨(b.keep x o (a.keep x o h).1).1, (b.keep x o (a.keep x o h).1).2.trans (a.keep x o h).2⟩⟩
mutual
theorem xp_read {e : FEnv} : ∀ (p : Xp) {O : Own} {H : Hp} {Q : VK}, xpOk nm p = true → SR K O σ H e → HasV K O σ H a cls dd i nm v → (∀ w O1 H1, Gro O H O1 H1 → Rep K O1 H1 w (xpD v p) → Q w H1) → tXp K a cls dd i p σ H Q
  | .lit d, O, H, Q, ok, s, h, hq => by
    refine hq _ O H ⟨fun _ _ z => ⟨z, Iff.rfl⟩⟩ ?_
    cases d with
    | none => exact .non
    | bool b => exact .bl b
    | int j => exact .int j
    | str x => exact .str x
    | list xs => cases ok
    | tuple xs => cases ok
    | dict xs => cases ok
  | .val, O, H, Q, ok, s, h, hq => by
    obtain ⟨C, h1, h2, h3⟩ := h.cls_
    obtain ⟨dx, w, h4, h5, h6⟩ := h.dict
    exact ⟨C, h2, h3, .ref a, h.slot ok, rfl, h1, dx, _, w, h4, h5, rfl, hq w O H ⟨fun _ _ z => ⟨z, Iff.rfl⟩⟩ h6⟩
  | .tup xs, O, H, Q, ok, s, h, hq => by
    have ok' := Bool.and_eq_true_iff.mp (show (xpsOk nm xs && decide (xpsLen xs ≤ 1000)) = true from ok)
    have n := of_decide_eq_true ok'.2
    refine xps_read (e := e) xs ok'.1 s h fun ws O1 H1 g r => ⟨?_, fun p hp => ?_⟩
    · rw [r.length, xpsLen_eq]
      exact Nat.le_trans n (by show 1000 ≤ sizeLine; decide)
    · have g2 : Gro O1 H1 O1 (upd H1 p (.tup ws)) := Gro.newT hp
      have k2 := kept_gro g2 (g.sr s)
      exact hq _ _ _ (gro_trans g g2) (.tup (SqT.of upd_same) (k2.repAll r))
  | .lst xs, O, H, Q, ok, s, h, hq => by
    have ok' := Bool.and_eq_true_iff.mp (show (xpsOk nm xs && decide (xpsLen xs ≤ 1000)) = true from ok)
    have n := of_decide_eq_true ok'.2
    refine xps_read (e := e) xs ok'.1 s h fun ws O1 H1 g r => ⟨?_, fun p hp => ?_⟩
    · rw [r.length, xpsLen_eq]
      exact Nat.le_trans n (by show 1000 ≤ sizeLine; decide)
    · have g2 : Gro O1 H1 (minus O1 p) (upd H1 p (.lst ws)) := ⟨fun a u q => ⟨by rw [upd_ne (ne_of_none q hp)]; exact q, ⟨fun z => z.1, fun z => ⟨z, ne_of_none q hp⟩⟩⟩⟩
      have k2 := kept_gro g2 (g.sr s)
      exact hq _ _ _ (gro_trans g g2) (.lst (.inl upd_same) (fun z => z.2 rfl) (k2.repAll r))
theorem xps_read {e : FEnv} : ∀ (ps : Xps) {O : Own} {H : Hp} {Q : List V → Hp → Prop}, xpsOk nm ps = true → SR K O σ H e → HasV K O σ H a cls dd i nm v → (∀ ws O1 H1, Gro O H O1 H1 → RepAll K O1 H1 ws (xpsD v ps) → Q ws H1) → tXps K a cls dd i ps σ H Q
  | .nil, O, H, Q, ok, s, h, hq => hq [] O H ⟨fun _ _ z => ⟨z, Iff.rfl⟩⟩ .nil
  | .cons x r, O, H, Q, ok, s, h, hq => by
    have ok' := Bool.and_eq_true_iff.mp (show (xpOk nm x && xpsOk nm r) = true from ok)
    refine xp_read (e := e) x ok'.1 s h fun w O1 H1 g1 r1 => ?_
    have k1 := kept_gro g1 s
    refine xps_read (e := e) r ok'.2 (g1.sr s) (h.gro g1 k1) fun ws O2 H2 g2 r2 => ?_
    exact hq (w :: ws) O2 H2 (gro_trans g1 g2) (.cons ((kept_gro g2 (g1.sr s)).rep r1) r2)
end
end
/-- the suite's reading -/
def tSu (K : PySem.W.Frag) (a : Addr) (cls : Value) (dd : Option Addr) (i : Nat) : Su → TS
  | .asg j p => tSeq (tAsg (tXp K a cls dd i p) (gName j)) tNext
  | .ret p => tSeq (tRet (tXp K a cls dd i p)) tNext
  | .pass => tSeq tNext tNext
def clsL (K : PySem.W.Frag) (CA : Nat → Addr) : Cl → List Cls3
  | .nil => []
  | .cons c i su r => (.ref (CA c), i, fun a cls dd => tSu K a cls dd (i.getD 0) su) :: clsL K CA r
def suOk (nm : Bool) : Su → Bool
  | .asg _ p => xpOk nm p
  | .ret p => xpOk nm p
  | .pass => true
def clOk : Cl → Bool
  | .nil => true
  | .cons _ i su r => suOk i.isSome su && clOk r
section
variable {K : PySem.W.Frag} {CA : Nat → Addr} {pr : EProg} {T : FT} {np : Nat} {W : WX} {Hf : Hp} {Dn : Ends}
/-- a suite, in a frame whose place of the name is empty; the end may take that place away -/
theorem su_read {O0 O : Own} {σ0 σ : St} {H0 H : Hp} {e0 e : FEnv} {a : Addr} {cls : Value} {dd : Option Addr} {i : Nat} {nm : Bool} {d : D} {su : Su} (ok : suOk nm su = true) (s : SR K O σ H e) (hv : HasV K O σ H a cls dd i nm d) (st : Stp np O0 σ0 H0 e0 O σ H e)
    (h : Aft K CA np W O0 σ0 H0 e0 (suD np d e su) (endK K Hf Dn)) : tSu K a cls dd i su Dn σ H := by
  cases su with
  | asg j p =>
    have h' : Aft K CA np W O0 σ0 H0 e0 (match put np e j (.val (xpD d p)) with | some e1 => .ok .next e1 | none => .stuck) (endK K Hf Dn) := h
    refine xp_read (e := e) p ok s hv fun w O1 H1 g r => ?_
    cases q : put np e j (.val (xpD d p)) with
    | none => rw [q] at h'; exact h'.elim
    | some e1 =>
      rw [q] at h'
      exact fin_nx h' ((st.trans g.step).trans (put_stp (s := .val (xpD d p)) (fun c z => nomatch z) q)) (put_sr (s := .val (xpD d p)) (g.sr s) (fun c z => nomatch z) ⟨w, rfl, r⟩ q)
  | ret p => exact xp_read (e := e) p ok s hv fun w O1 H1 g r => h O1 σ H1 (st.trans g.step) (g.sr s) w r
  | pass => exact fin_nx h st s
theorem put_emp {e : FEnv} {i : Nat} (hl : i < e.length) (ho : isOwn (gt e i) = false) : put np e i .emp = some (e.set i .emp) := by
  unfold put
  rw [if_pos hl, ho]
  rfl
/-- .. with a name -/
theorem su_as {O0 O : Own} {σ0 σ : St} {H0 H : Hp} {e0 e : FEnv} {a : Addr} {cls : Value} {dd : Option Addr} {i : Nat} {d : D} {su : Su} (hl : i < e.length) (hi : gt e i = .emp) (ok : suOk true su = true) (s : SR K O σ H e) (hv : HasV K O σ H a cls dd i true d) (st : Stp np O0 σ0 H0 e0 O σ H e)
    (h : Aft K CA np W O0 σ0 H0 e0 (asGone i (suD np d e su)) (endK K Hf Dn)) : tSu K a cls dd i su (goneD i Dn) σ H := by
  have gone : ∀ {O2 : Own} {σ2 : St} {H2 : Hp} {e2 : FEnv} {f : EFlow}, i < e2.length → isOwn (gt e2 i) = false → Stp np O0 σ0 H0 e0 O2 σ2 H2 e2 → SR K O2 σ2 H2 e2 → Stp np O0 σ0 H0 e0 O2 (σ2.set i none) H2 (e2.set i .emp) ∧ SR K O2 (σ2.set i none) H2 (e2.set i .emp) := fun l o st2 s2 =>
    ⟨st2.trans (put_stp (s := .emp) (fun c z => nomatch z) (put_emp l o)), put_sr (s := .emp) s2 (fun c z => nomatch z) trivial (put_emp (np := np) l o)⟩
  cases su with
  | asg j p =>
    have h' : Aft K CA np W O0 σ0 H0 e0 (asGone i (match put np e j (.val (xpD d p)) with | some e1 => .ok .next e1 | none => .stuck)) (endK K Hf Dn) := h
    refine xp_read (e := e) p ok s hv fun w O1 H1 g r => ?_
    cases q : put np e j (.val (xpD d p)) with
    | none => rw [q] at h'; exact h'.elim
    | some e1 =>
      rw [q] at h'
      obtain ⟨jl, _, e1e⟩ := put_some q
      have o1 : isOwn (gt e1 i) = false := by
        subst e1e
        unfold gt
        rw [List.getD_eq_getElem?_getD]
        by_cases ij : j = i
        · subst ij
          rw [List.getElem?_set_self jl]
          rfl
        · rw [List.getElem?_set_ne ij, ← List.getD_eq_getElem?_getD]
          show isOwn (gt e i) = false
          rw [hi]
          rfl
      have l1 : i < e1.length := by rw [e1e, List.length_set]; exact hl
      obtain ⟨z1, z2⟩ := gone (f := .next) l1 o1 ((st.trans g.step).trans (put_stp (s := .val (xpD d p)) (fun c z => nomatch z) q)) (put_sr (s := .val (xpD d p)) (g.sr s) (fun c z => nomatch z) ⟨w, rfl, r⟩ q)
      exact h' O1 _ H1 z1 z2
  | ret p =>
    refine xp_read (e := e) p ok s hv fun w O1 H1 g r => ?_
    obtain ⟨z1, z2⟩ := gone (f := .next) hl (by rw [hi]; rfl) (st.trans g.step) (g.sr s)
    exact h O1 _ H1 z1 z2 w r
  | pass =>
    obtain ⟨z1, z2⟩ := gone (f := .next) hl (by rw [hi]; rfl) st s
    exact h O _ H z1 z2
theorem catch_read (hsub : ∀ c c' b, pr.sub c c' = some b → PySem.W.exmOne K (.ref (CA c)) (.ref (CA c')) = some b ∧ XfC K (CA c) ∧ PySem.W.findIn K (.ref (CA c)) "value" = some none) {O0 O : Own} {σ0 σ : St} {H0 H : Hp} {e0 e : FEnv} {cls : Value} {dd : Option Addr} {c : Nat} {d : D} (s : SR K O σ H e) (x : ExcR K CA O H cls dd c d) (st : Stp np O0 σ0 H0 e0 O σ H e) :
    ∀ (cl : Cl), clOk cl = true → Aft K CA np W O0 σ0 H0 e0 (catch_ pr T np cl c d e) (endK K Hf Dn) → wMix K W Dn (clsL K CA cl) cls dd σ H
  | .nil, _, h => h O σ H cls dd st s x
  | .cons c' oi su r, ok, h => by
    have ok' := Bool.and_eq_true_iff.mp (show (suOk oi.isSome su && clOk r) = true from ok)
    have h' : Aft K CA np W O0 σ0 H0 e0 (match pr.sub c c' with | none => .stuck | some true => (match oi with | none => suD np d e su | some i => (match put np e i .emp with | some e1 => asGone i (suD np d e1 su) | none => .stuck)) | some false => catch_ pr T np r c d e) (endK K Hf Dn) := h
    cases q : pr.sub c c' with
    | none => rw [q] at h'; exact h'.elim
    | some b =>
      rw [q] at h'
      obtain ⟨x1, dx, w, x2, x3, x4⟩ := x
      obtain ⟨g1, g2, g3⟩ := hsub c c' b q
      refine ⟨b, by rw [x1]; exact g1, fun hb a na => ?_, fun hb => ?_⟩
      · subst hb
        cases oi with
        | none => exact su_read (nm := false) ok'.1 s ⟨(fun z => nomatch z), ⟨_, x1, g2, g3⟩, ⟨dx, w, x2, x3, x4⟩⟩ st h'
        | some i =>
          have h2 : Aft K CA np W O0 σ0 H0 e0 (match put np e i .emp with | some e1 => asGone i (suD np d e1 su) | none => .stuck) (endK K Hf Dn) := h'
          cases q2 : put np e i .emp with
          | none => rw [q2] at h2; exact h2.elim
          | some e1 =>
            rw [q2] at h2
            obtain ⟨il, _, e1e⟩ := put_some q2
            have s1 : SR K O (σ.set i (some (.ref a))) H e1 := put_sr (s := .emp) s (fun c z => nomatch z) trivial q2
            refine su_as (e := e1) (by rw [e1e, List.length_set]; exact il) (by
              rw [e1e]
              show gt (e.set i .emp) i = .emp
              unfold gt
              rw [List.getD_eq_getElem?_getD, List.getElem?_set_self il]
              rfl) ok'.1 s1 ⟨fun _ => ?_, ⟨_, x1, g2, g3⟩, ⟨dx, w, x2, x3, x4⟩⟩ (st.trans (put_stp (s := .emp) (fun c z => nomatch z) q2)) h2
            exact List.getElem?_set_self (by rw [s.len]; exact il)
      · subst hb
        exact catch_read hsub s ⟨x1, dx, w, x2, x3, x4⟩ st r ok'.2 h'
theorem r_try (hsub : ∀ c c' b, pr.sub c c' = some b → PySem.W.exmOne K (.ref (CA c)) (.ref (CA c')) = some b ∧ XfC K (CA c) ∧ PySem.W.findIn K (.ref (CA c)) "value" = some none) {body : Ss} {cl : Cl} {σ : St} {H : Hp} (ok : clOk cl = true) (h : tEx K CA pr T np W (.try_ body cl) Dn σ H) :
    tExs K CA pr T np (wMix K W Dn (clsL K CA cl)) body Dn σ H := by
  obtain ⟨Hf, O, e, w, h⟩ := h
  refine ⟨Hf, O, e, w, ?_⟩
  have h' : Aft K CA np W O σ H e (match exs pr T np body e with | .err c d e1 => catch_ pr T np cl c d e1 | o => o) (endK K Hf Dn) := h
  cases q : exs pr T np body e with
  | stuck => rw [q] at h'; exact h'.elim
  | ok f e1 =>
    rw [q] at h'
    show Aft K CA np _ O σ H e (exs pr T np body e) _
    rw [q]
    exact h'
  | err c d e1 =>
    rw [q] at h'
    show Aft K CA np _ O σ H e (exs pr T np body e) _
    rw [q]
    exact fun O' σ' H' cls dd st s x => catch_read hsub s x st cl ok h'
end
end Snd
end
section
set_option Elab.async false
set_option linter.all false
set_option maxRecDepth 100000
set_option maxHeartbeats 2000000
namespace Snd
open PySem L2 Ev
section
variable {K : PySem.W.Frag} {CA : Nat → Addr} {pr : EProg} {T : FT} {np : Nat} {W : WX} {O O1 : Own} {σ σ1 : St} {Hf H H1 : Hp} {e e1 : FEnv} {α : Type}
/-! ### several targets -/
def gTx (K : PySem.W.Frag) (CA : Nat → Addr) (pr : EProg) (T : FT) (np : Nat) (W : WX) : Tx → TG
  | .v i => gName i
  | .ix i j => gSub (tVar i) (tEv K CA pr T np W j) rSetL
def gTxs (K : PySem.W.Frag) (CA : Nat → Addr) (pr : EProg) (T : FT) (np : Nat) (W : WX) : List Tx → TGs
  | [] => gNil
  | t :: ts => gCons (gTx K CA pr T np W t) (gTxs K CA pr T np W ts)
theorem txs_ok {Dn : Ends} : ∀ {ts : List Tx} {vs : List V} {ds : List D} {O : Own} {σ : St} {H : Hp} {e : FEnv}, SR K O σ H e → RepAll K O H vs ds → Aft K CA np W O σ H e (asgT pr T np ts ds e) (endK K Hf Dn) → gTxs K CA pr T np W ts vs σ H Dn.nx
  | [], vs, ds, O, σ, H, e, s, r, h => by
    cases r with
    | nil => exact ⟨rfl, h O σ H Stp.refl s⟩
    | cons => exact h.elim
  | .v i :: ts, vs, ds, O, σ, H, e, s, r, h => by
    cases r with
    | nil => exact h.elim
    | @cons v vs d ds r1 r2 =>
      have h' : Aft K CA np W O σ H e (match put np e i (.val d) with | some e1 => asgT pr T np ts ds e1 | none => .stuck) (endK K Hf Dn) := h
      cases q : put np e i (.val d) with
      | none => rw [q] at h'; exact h'.elim
      | some e1 =>
        rw [q] at h'
        have st : Stp np O σ H e O (σ.set i (some v)) H e1 := put_stp (s := .val d) (fun c z => nomatch z) q
        have s1 := put_sr (s := .val d) s (fun c z => nomatch z) ⟨v, rfl, r1⟩ q
        exact ⟨v, vs, rfl, txs_ok s1 r2 (h'.from st)⟩
  | .ix i j :: ts, vs, ds, O, σ, H, e, s, r, h => by
    cases r with
    | nil => exact h.elim
    | @cons v vs d ds r1 r2 =>
      have h' : Aft K CA np W O σ H e (if isOwn (gt e i) = true then (ev pr T np j e).bind fun y e1 => (match gt e1 i, view e1 y with
        | .own (.lst xs), some (.int k) => (match setAt xs k d with | some ys => asgT pr T np ts ds (e1.set i (.own (.lst ys))) | none => .stuck)
        | _, _ => .stuck) else .stuck) (endK K Hf Dn) := h
      by_cases o : isOwn (gt e i) = true
      · rw [if_pos o] at h'
        cases g0 : gt e i with
        | emp => rw [g0] at o; cases o
        | val d => rw [g0] at o; cases o
        | exc c d => rw [g0] at o; cases o
        | own c =>
          obtain ⟨a, ha, _, _, _⟩ := s.own g0
          refine ⟨v, vs, rfl, .ref a, ha, O, e, s, (toE h').mono fun y O1 H1 e1 st s1 q w rw1 => ?_⟩
          cases g : gt e1 i with
          | emp => rw [g] at q; exact q.elim
          | val d => rw [g] at q; exact q.elim
          | exc c d => rw [g] at q; exact q.elim
          | own c2 =>
            cases c2 with
            | lst xs =>
              rw [g] at q
              cases q1 : view e1 y with
              | none => rw [q1] at q; exact q.elim
              | some dk =>
                rw [q1] at q
                cases dk with
                | int k =>
                  obtain rfl := (view_ok s1 rw1 q1).int
                  have q2 : Aft K CA np W O σ H e (match setAt xs k d with | some ys => asgT pr T np ts ds (e1.set i (.own (.lst ys))) | none => .stuck) (endK K Hf Dn) := q
                  cases hn : Ev.ixN xs.length k with
                  | none =>
                    have : setAt xs k d = none := by unfold setAt; rw [hn]; rfl
                    rw [this] at q2
                    exact q2.elim
                  | some m =>
                    have : setAt xs k d = some (xs.set m d) := by unfold setAt; rw [hn]; rfl
                    rw [this] at q2
                    obtain ⟨b, hb, ob, ⟨ws, h3, h4⟩, _⟩ := s1.own g
                    rw [ha] at hb
                    cases hb
                    obtain ⟨s2, st2⟩ := slot_upd s1 g ha (RepAll.set (st.rep s r1) m h4)
                    refine ⟨a, ws, k, m, rfl, rfl, h3, by rw [h4.length]; exact hn, ?_⟩
                    exact txs_ok s2 (st2.repAll s1 (st.repAll s r2)) (q2.from (st.trans st2))
                | _ => exact q.elim
      · rw [if_neg o] at h'
        exact h'.elim
theorem r_seti {i : Nat} {j p : P} {D : Ends} (h : tEx K CA pr T np W (.seti i j p) D σ H) : tAsg (tEv K CA pr T np W p) (gSub (tVar i) (tEv K CA pr T np W j) rSetL) D σ H := by
  obtain ⟨Hf, O, e, w, h⟩ := h
  refine ⟨O, e, w.sr, (toE h).mono fun r O1 H1 e1 st s1 q v rv => ?_⟩
  cases q1 : capt np e1 r with
  | none => rw [q1] at q; exact q.elim
  | some pd =>
    obtain ⟨d, e2⟩ := pd
    rw [q1] at q
    have q' : Aft K CA np W O σ H e (asgT pr T np [.ix i j] [d] e2) (endK K Hf D) := q
    obtain ⟨O2, st2, s2, r2, _⟩ := capt_ok st s1 rv q1
    obtain ⟨v', r', e', g⟩ := txs_ok s2 (.cons r2 .nil) (q'.from st2)
    cases e'
    -- the one target's end
    have : ∀ {Q : St → Hp → Prop}, gSub (tVar i) (tEv K CA pr T np W j) rSetL v σ H1 (fun σ' H' => gNil [] σ' H' Q) → gSub (tVar i) (tEv K CA pr T np W j) rSetL v σ H1 Q := fun {Q} z => by
      obtain ⟨o, ho, O3, e3, s3, h3⟩ := z
      exact ⟨o, ho, O3, e3, s3, h3.mono fun y O4 H4 e4 st4 s4 q4 w4 rw4 => by
        obtain ⟨p, xs, k, m, g1, g2, g3, g4, g5, g6⟩ := q4 w4 rw4
        exact ⟨p, xs, k, m, g1, g2, g3, g4, g6⟩⟩
    exact this g
/-! ### name op= e, xs[j] op= e -/
theorem get_list {X : Cx} : PGet X (rIxL X.K) := by
  intro pins s σ H x y v u Q I rx ry h
  obtain ⟨p, xs, i, z, rfl, rfl, hq, he, q⟩ := h
  cases rx
  obtain ⟨t, rfl⟩ := ry
  obtain ⟨its, r, pl, hz⟩ := I.list hq
  obtain ⟨j, h1, h2, h3, h4, h5⟩ := atI_get he
  obtain ⟨w, ew, rw'⟩ := r.get h2
  have hl := r.length
  have hn := line63
  have fin : EP X pins σ Q w s := ⟨z, H, I, rw', q⟩
  by_cases h0 : 0 ≤ i
  · have hj : i.toNat = j := by
      rw [PySem.seqIndex_of h0 h5] at h1
      exact Option.some.inj h1
    exact wpAny_getItem_list pl.isList h0 (by omega) (by rw [hj]; simpa using ew) fin
  · have hj : (i + (its.toArray.size : Int)).toNat = j := by
      rw [PySem.seqIndex_neg (by omega) h4] at h1
      rw [List.size_toArray, ← hl]
      exact Option.some.inj h1
    exact wpAny_getItem_list_neg pl.isList (by omega) (by rw [List.size_toArray] <;> omega) (by omega) (by rw [hj]; simpa using ew) fin
theorem r_aug {i : Nat} {ng : Bool} {p : P} {Dn : Ends} (h : tEx K CA pr T np W (.aug i ng p) Dn σ H) : tAug i (tEv K CA pr T np W p) (ipI (augI ng)) Dn σ H := by
  obtain ⟨Hf, O, e, w, h⟩ := h
  have h' : Aft K CA np W O σ H e (match gt e i with
    | .val (.int u) => (ev pr T np p e).bind fun r e1 => (match view e1 r with
      | some (.int w) => (match put np e1 i (.val (.int (augI ng u w))) with
        | some e2 => .ok .next e2
        | none => .stuck)
      | _ => .stuck)
    | _ => .stuck) (endK K Hf Dn) := h
  cases g0 : gt e i with
  | emp => rw [g0] at h'; exact h'.elim
  | exc c d => rw [g0] at h'; exact h'.elim
  | own c => rw [g0] at h'; exact h'.elim
  | val d =>
    rw [g0] at h'
    cases d <;> first | exact h'.elim | skip
    rename_i u
    obtain ⟨o, h1, v, h3, h4⟩ := w.sr.at_ i _ (get_some g0 (fun z => nomatch z))
    cases h4
    refine ⟨.int u, by rw [h1, h3], O, e, w.sr, (toE h').mono fun r O1 H1 e1 st s1 q y ry => ?_⟩
    cases q1 : view e1 r with
    | none => rw [q1] at q; exact q.elim
    | some dk =>
      rw [q1] at q
      cases dk <;> first | exact q.elim | skip
      rename_i w'
      obtain rfl := (view_ok s1 ry q1).int
      have q' : Aft K CA np W O σ H e (match put np e1 i (.val (.int (augI ng u w'))) with
        | some e2 => .ok .next e2
        | none => .stuck) (endK K Hf Dn) := q
      cases q2 : put np e1 i (.val (.int (augI ng u w'))) with
      | none => rw [q2] at q'; exact q'.elim
      | some e2 =>
        rw [q2] at q'
        exact ⟨u, w', rfl, rfl, fin_nx q' (st.trans (put_stp (s := .val (.int (augI ng u w'))) (fun c z => nomatch z) q2)) (put_sr (s := .val (.int (augI ng u w'))) s1 (fun c z => nomatch z) ⟨_, rfl, .int _⟩ q2)⟩
theorem r_augs {i : Nat} {ng : Bool} {j p : P} {Dn : Ends} (h : tEx K CA pr T np W (.augs i j ng p) Dn σ H) : tAugS (tVar i) (tEv K CA pr T np W j) (tEv K CA pr T np W p) (rIxL K) (ipI (augI ng)) rSetL Dn σ H := by
  obtain ⟨Hf, O, e, w, h⟩ := h
  have h' : Aft K CA np W O σ H e (if isOwn (gt e i) = true then (ev pr T np j e).bind fun y e1 => (match gt e1 i, view e1 y with
    | .own (.lst xs), some (.int k) => (match Ev.atI xs k with
      | some (.int u) => (ev pr T np p e1).bind fun r e2 => (match gt e2 i, view e2 r with
        | .own (.lst ys), some (.int w) => (match setAt ys k (.int (augI ng u w)) with
          | some zs => .ok .next (e2.set i (.own (.lst zs)))
          | none => .stuck)
        | _, _ => .stuck)
      | _ => .stuck)
    | _, _ => .stuck) else .stuck) (endK K Hf Dn) := h
  by_cases o : isOwn (gt e i) = true
  · rw [if_pos o] at h'
    cases g0 : gt e i with
    | emp => rw [g0] at o; cases o
    | val d => rw [g0] at o; cases o
    | exc c d => rw [g0] at o; cases o
    | own c =>
      obtain ⟨a, ha, _, _, _⟩ := w.sr.own g0
      refine ⟨.ref a, ha, O, e, w.sr, (toE h').mono fun y O1 H1 e1 st s1 q v rv => ?_⟩
      cases g : gt e1 i with
      | emp => rw [g] at q; exact q.elim
      | val d => rw [g] at q; exact q.elim
      | exc c d => rw [g] at q; exact q.elim
      | own c2 =>
        cases c2 with
        | lst xs =>
          rw [g] at q
          cases q1 : view e1 y with
          | none => rw [q1] at q; exact q.elim
          | some dk =>
            rw [q1] at q
            cases dk <;> first | exact q.elim | skip
            rename_i k
            obtain rfl := (view_ok s1 rv q1).int
            have q2 : Aft K CA np W O σ H e (match Ev.atI xs k with
              | some (.int u) => (ev pr T np p e1).bind fun r e2 => (match gt e2 i, view e2 r with
                | .own (.lst ys), some (.int w) => (match setAt ys k (.int (augI ng u w)) with
                  | some zs => .ok .next (e2.set i (.own (.lst zs)))
                  | none => .stuck)
                | _, _ => .stuck)
              | _ => .stuck) (endK K Hf Dn) := q
            cases hn : Ev.atI xs k with
            | none => rw [hn] at q2; exact q2.elim
            | some du =>
              rw [hn] at q2
              cases du <;> first | exact q2.elim | skip
              rename_i u
              obtain ⟨b, hb, ob, ⟨ws, h3, h4⟩, _⟩ := s1.own g
              rw [ha] at hb
              cases hb
              have hv : L2.atI ws k = some (V.int u) := by
                unfold Ev.atI at hn
                unfold L2.atI
                rw [h4.length]
                cases hx : Ev.ixN xs.length k with
                | none => rw [hx] at hn; cases hn
                | some m =>
                  rw [hx] at hn
                  obtain ⟨v, e1, e2⟩ := h4.get (show xs[m]? = some _ from hn)
                  cases e2
                  rw [show L2.ixN xs.length k = Ev.ixN xs.length k from rfl, hx]
                  exact e1
              refine ⟨a, ws, k, .int u, rfl, rfl, .inl (.inl h3), hv, O1, e1, s1, (toE (q2.from st)).mono fun r O2 H2 e2 st2 s2 q3 y' ry => ?_⟩
              cases g2 : gt e2 i with
              | emp => rw [g2] at q3; exact q3.elim
              | val d => rw [g2] at q3; exact q3.elim
              | exc c d => rw [g2] at q3; exact q3.elim
              | own c3 =>
                cases c3 with
                | lst ys =>
                  rw [g2] at q3
                  cases q4 : view e2 r with
                  | none => rw [q4] at q3; exact q3.elim
                  | some dw =>
                    rw [q4] at q3
                    cases dw <;> first | exact q3.elim | skip
                    rename_i w'
                    obtain rfl := (view_ok s2 ry q4).int
                    have q5 : Aft K CA np W O1 σ H1 e1 (match setAt ys k (.int (augI ng u w')) with
                      | some zs => .ok .next (e2.set i (.own (.lst zs)))
                      | none => .stuck) (endK K Hf Dn) := q3
                    refine ⟨u, w', rfl, rfl, ?_⟩
                    obtain ⟨b, hb, ob, ⟨ws2, h5, h6⟩, _⟩ := s2.own g2
                    rw [ha] at hb
                    cases hb
                    cases hm : Ev.ixN ys.length k with
                    | none =>
                      have : setAt ys k (.int (augI ng u w')) = none := by unfold setAt; rw [hm]; rfl
                      rw [this] at q5
                      exact q5.elim
                    | some m =>
                      have : setAt ys k (.int (augI ng u w')) = some (ys.set m (.int (augI ng u w'))) := by unfold setAt; rw [hm]; rfl
                      rw [this] at q5
                      obtain ⟨s3, st3⟩ := slot_upd s2 g2 ha (RepAll.set (.int (augI ng u w')) m h6)
                      exact ⟨a, ws2, k, m, rfl, rfl, h5, by rw [h6.length]; exact hm, fin_nx q5 (st2.trans st3) s3⟩
  · rw [if_neg o] at h'
    exact h'.elim
/-- a, b = a tuple or a list -/
def gSeqT (K : PySem.W.Frag) (n : Nat) (t : TGs) : TG := fun v σ H Q => ∃ a xs, v = .ref a ∧ (SqT K H a xs ∨ SqL K H a xs) ∧ xs.length = n ∧ t xs σ H Q
open PySem.Calls PyProof.Rows PySem.Spec in
theorem assign_Tuple_list {prog : Program} {w : World} {A : Around} {E : Value → Shared → Prop} {s : Shared} {env : Env} {elts : List Expr} {x1} {pos : Pos} {l : Addr} {its : Array Value} {Q : Unit → Shared → Prop} (hh : A.handled = none) (hl : s.heap.IsList l its)
    (hn : (assignEach elts env).length = its.size) (hstar : (assignEach elts env).findIdx? (·.1) = none)
    (h : ∀ h', Heap.ExtBut s.heap.objs.size s.heap h' → wpAny (model prog w) A (assignInOrder ((assignEach elts env).map (·.2)) its.toList) Q E { s with heap := h' }) :
    wpAny (model prog w) A (assign (.Tuple elts x1 pos) env (.ref l)) Q E s := by
  rw [assign_Tuple]
  refine wpAny_bind (wpAny_standAt ?_)
  unfold unpack
  rw [hn, hstar]
  exact wpAny_bind (wpAny_holding (PySem.W.kun_itemsOf hh hl h))
open PySem.Calls PyProof.Rows PySem.Spec in
theorem pg_seqT {X : Cx} {pos : Pos} {es : List Expr} {k : Nat} {t : TGs} {n : Nat} (hc : X.calm = true) (h : PGs X es t) (hn : (assignEach es X.env).length = n) (hst : (assignEach es X.env).findIdx? (·.1) = none) : PG X (.Tuple es k pos) (gSeqT X.K n t) := by
  refine ⟨fun pins s σ H v u Q I r hw => ?_⟩
  obtain ⟨a, xs, e1, hq, hl, hw⟩ := hw
  subst e1
  cases r
  rcases hq with hq | hq
  · obtain ⟨its, rv, ht, hz⟩ := I.tuple hq
    refine assign_Tuple_tuple (I.ok.hd hc) ht (by simp [hn, ← hl, rv.length]) hst fun h' hx => ?_
    have I1 : Inv X pins σ H { s with heap := h' } := I.kept (t' := s.toks) fun b o e => hx b o (Nat.ne_of_lt (Heap.lt_size e)) e
    exact h.run pins _ σ H xs _ Q I1 (by simpa using rv) hw
  · obtain ⟨its, rv, ht, hz⟩ := I.list hq
    refine assign_Tuple_list (I.ok.hd hc) ht.isList (by simp [hn, ← hl, rv.length]) hst fun h' hx => ?_
    have I1 : Inv X pins σ H { s with heap := h' } := I.kept (t' := s.toks) fun b o e => hx b o (Nat.ne_of_lt (Heap.lt_size e)) e
    exact h.run pins _ σ H xs _ Q I1 (by simpa using rv) hw
theorem r_unp {ts : List Tx} {p : P} {Dn : Ends} (h : tEx K CA pr T np W (.unp ts p) Dn σ H) : tAsg (tEv K CA pr T np W p) (gSeqT K ts.length (gTxs K CA pr T np W ts)) Dn σ H := by
  obtain ⟨Hf, O, e, w, h⟩ := h
  refine ⟨O, e, w.sr, (toE h).mono fun r O1 H1 e1 st s1 q v rv => ?_⟩
  cases q1 : capt np e1 r with
  | none => rw [q1] at q; exact q.elim
  | some pd =>
    obtain ⟨d, e2⟩ := pd
    rw [q1] at q
    obtain ⟨O2, st2, s2, r2, _⟩ := capt_ok st s1 rv q1
    cases d with
    | tuple ds =>
      have q' : Aft K CA np W O σ H e (if ds.length = ts.length then asgT pr T np ts ds e2 else .stuck) (endK K Hf Dn) := q
      cases r2 with
      | tup g1 g2 =>
        by_cases hl : ds.length = ts.length
        · rw [if_pos hl] at q'
          exact ⟨_, _, rfl, .inl g1, by rw [g2.length, hl], txs_ok s2 g2 (q'.from st2)⟩
        · rw [if_neg hl] at q'
          exact q'.elim
    | list ds =>
      have q' : Aft K CA np W O σ H e (if ds.length = ts.length then asgT pr T np ts ds e2 else .stuck) (endK K Hf Dn) := q
      cases r2 with
      | lst g1 g0 g2 =>
        by_cases hl : ds.length = ts.length
        · rw [if_pos hl] at q'
          exact ⟨_, _, rfl, .inr (.inl g1), by rw [g2.length, hl], txs_ok s2 g2 (q'.from st2)⟩
        · rw [if_neg hl] at q'
          exact q'.elim
    | _ => exact q.elim
/-! ### a, b = x, y -/
theorem RRs.shr {vs : List V} {rs : List Rs} {Hs : Hp} (h : RRs K O σ H e Hs vs rs) (ho : ∀ b, O1 b → O b) (hm : ∀ b, Mine σ e1 b → Mine σ e b) (hk : ∀ (j : Nat) (c : ECell) (a : Addr), rs[j]? = some (Rs.fresh c) → vs[j]? = some (V.ref a) → O a → O1 a) : RRs K O1 σ H e1 Hs vs rs := by
  induction h with
  | nil => exact .nil
  | @cons v vs r rs h1 h2 n ih => exact .cons (h1.shrink ho hm fun c a hc hv oa => hk 0 c a (by rw [hc]; rfl) (by rw [hv]; rfl) oa) (ih fun j c a q1 q2 oa => hk (j + 1) c a (by simpa using q1) (by simpa using q2) oa) n
theorem parPl_ok {Os : Own} {σs : St} {Hs : Hp} {es : FEnv} : ∀ {rs : List Rs} {vs : List V} {ow : List Bool} {O : Own} {e e1 : FEnv} {qs : List Rs}, Stp np Os σs Hs es O σ H e → SR K O σ H e → RRs K O σ H e Hs vs rs → parPl np e ow rs = some (qs, e1) →
    ∃ O1, Stp np Os σs Hs es O1 σ H e1 ∧ SR K O1 σ H e1 ∧ RRs K O1 σ H e1 Hs vs qs ∧ (∀ a, O1 a → O a) ∧ (∀ a, Mine σ e1 a → Mine σ e a) ∧ (∀ (j : Nat) (c : ECell), qs[j]? = some (Rs.fresh c) → rs[j]? = some (Rs.fresh c)) ∧
      (∀ a, O a → O1 a ∨ Mine σ e a ∨ ∃ (j : Nat) (c : ECell), rs[j]? = some (Rs.fresh c) ∧ vs[j]? = some (V.ref a))
  | [], vs, ow, O, e, e1, qs, st, s, h, q => by
    cases h
    cases ow with
    | nil =>
      cases q
      exact ⟨O, st, s, .nil, fun _ z => z, fun _ z => z, fun j c z => by simp at z, fun _ z => .inl z⟩
    | cons b ow => cases b <;> cases q
  | r :: rs, vs, ow, O, e, e1, qs, st, s, h, q => by
    cases h with
    | @cons v vs r rs h1 h2 h3 =>
      cases ow with
      | nil => cases q
      | cons b ow =>
        cases b with
        | false =>
          have q' : ((capt np e r).bind fun (x : D × FEnv) => (parPl np x.2 ow rs).map fun (y : List Rs × FEnv) => (Rs.d x.1 :: y.1, y.2)) = some (qs, e1) := q
          cases q1 : capt np e r with
          | none => rw [q1] at q'; cases q'
          | some p =>
            obtain ⟨d, e2⟩ := p
            rw [q1] at q'
            obtain ⟨O2, st2, s2, r2, o2, m2, k2⟩ := capt_ok st s h1 q1
            have q2 : ((parPl np e2 ow rs).map fun (y : List Rs × FEnv) => (Rs.d d :: y.1, y.2)) = some (qs, e1) := q'
            cases q3 : parPl np e2 ow rs with
            | none => rw [q3] at q2; cases q2
            | some p2 =>
              obtain ⟨qs2, e3⟩ := p2
              rw [q3] at q2
              cases q2
              have h2' : RRs K O2 σ H e2 Hs vs rs := h2.shr o2 m2 fun j c a z1 z2 oa => by
                rcases k2 a oa with z | z | ⟨c', z3, z4⟩
                · exact z
                · obtain ⟨w, g1, a', g2, g3, g4, g5, g6⟩ := h2.get z1
                  rw [z2] at g1
                  cases g1
                  cases g2
                  exact absurd z g5
                · exact absurd (by rw [z2, z4]) (h3 c' z3 j c z1)
              obtain ⟨O3, st3, s3, r3, o3, m3, f3, k3⟩ := parPl_ok st2 s2 h2' q3
              refine ⟨O3, st3, s3, .cons (r2.anti o3) r3 (fun c z => nomatch z), fun a z => o2 a (o3 a z), fun a z => m2 a (m3 a z), fun j c z => ?_, fun a oa => ?_⟩
              · cases j with
                | zero => simp at z
                | succ j => simpa using f3 j c (by simpa using z)
              · rcases k2 a oa with z | z | ⟨c', z3, z4⟩
                · rcases k3 a z with y | y | ⟨j, c, y1, y2⟩
                  · exact .inl y
                  · exact .inr (.inl (m2 a y))
                  · exact .inr (.inr ⟨j + 1, c, by simpa using y1, by simpa using y2⟩)
                · exact .inr (.inl z)
                · exact .inr (.inr ⟨0, c', by rw [z3]; rfl, by rw [z4]; rfl⟩)
        | true =>
          cases r with
          | d x => cases q
          | slot i => cases q
          | fresh c =>
            have q2 : ((parPl np e ow rs).map fun (y : List Rs × FEnv) => (Rs.fresh c :: y.1, y.2)) = some (qs, e1) := q
            cases q3 : parPl np e ow rs with
            | none => rw [q3] at q2; cases q2
            | some p2 =>
              obtain ⟨qs2, e3⟩ := p2
              rw [q3] at q2
              cases q2
              obtain ⟨O3, st3, s3, r3, o3, m3, f3, k3⟩ := parPl_ok st s h2 q3
              have h1' : RR K O3 σ H _ Hs v (.fresh c) := h1.shrink o3 m3 fun c2 a hc hv oa => by
                cases hc
                rcases k3 a oa with z | z | ⟨j, c', z3, z4⟩
                · exact z
                · obtain ⟨a', g2, g3, g4, g5, g6⟩ := h1
                  rw [hv] at g2
                  cases g2
                  exact absurd z g5
                · exact absurd (by rw [z4, hv]) (h3 c rfl j c' z3)
              refine ⟨O3, st3, s3, .cons h1' r3 (fun c2 hc j c' z => h3 c2 hc j c' (f3 j c' z)), o3, m3, fun j c2 z => ?_, fun a oa => ?_⟩
              · cases j with
                | zero => simpa using z
                | succ j => simpa using f3 j c2 (by simpa using z)
              · rcases k3 a oa with y | y | ⟨j, c2, y1, y2⟩
                · exact .inl y
                · exact .inr (.inl y)
                · exact .inr (.inr ⟨j + 1, c2, by simpa using y1, by simpa using y2⟩)
def setV : St → List Nat → List V → St
  | σ, i :: is, v :: vs => setV (σ.set i (some v)) is vs
  | σ, _, _ => σ
theorem putQ_nos : ∀ {qs : List Rs} {is : List Nat} {e e1 : FEnv}, putQ np e is qs = some e1 → ∀ (j k : Nat), qs[j]? = some (Rs.slot k) → False
  | [], is, e, e1, _, j, k, hj => by simp at hj
  | r :: rs, [], e, e1, q, j, k, hj => by cases r <;> cases q
  | .slot m :: rs, i :: is, e, e1, q, j, k, hj => by cases q
  | .d y :: rs, i :: is, e, e1, q, j, k, hj => by
    have q2 : ((put np e i (.val y)).bind fun e1 => putQ np e1 is rs) = some e1 := q
    cases q3 : put np e i (.val y) with
    | none => rw [q3] at q2; cases q2
    | some e4 =>
      rw [q3] at q2
      cases j with
      | zero => simp at hj
      | succ j => exact putQ_nos q2 j k (by simpa using hj)
  | .fresh c :: rs, i :: is, e, e1, q, j, k, hj => by
    have q2 : ((put np e i (.own c)).bind fun e1 => putQ np e1 is rs) = some e1 := q
    cases q3 : put np e i (.own c) with
    | none => rw [q3] at q2; cases q2
    | some e4 =>
      rw [q3] at q2
      cases j with
      | zero => simp at hj
      | succ j => exact putQ_nos q2 j k (by simpa using hj)
theorem putQ_ok {Os : Own} {σs : St} {Hs : Hp} {es : FEnv} : ∀ {is : List Nat} {qs : List Rs} {vs : List V} {σ : St} {e e1 : FEnv}, Stp np Os σs Hs es O σ H e → SR K O σ H e → RRs K O σ H e Hs vs qs → putQ np e is qs = some e1 →
    Stp np Os σs Hs es O (setV σ is vs) H e1 ∧ SR K O (setV σ is vs) H e1 ∧ vs.length = is.length
  | [], qs, vs, σ, e, e1, st, s, h, q => by
    cases h with
    | nil =>
      cases q
      exact ⟨st, s, rfl⟩
    | @cons v vs r rs => cases r <;> cases q
  | i :: is, qs, vs, σ, e, e1, st, s, h, q => by
    cases h with
    | nil => cases q
    | @cons v vs r rs h1 h2 h3 =>
      cases r with
      | slot k => cases q
      | d x =>
        have q' : ((put np e i (.val x)).bind fun e1 => putQ np e1 is rs) = some e1 := q
        cases q1 : put np e i (.val x) with
        | none => rw [q1] at q'; cases q'
        | some e2 =>
          rw [q1] at q'
          have st1 : Stp np O σ H e O (σ.set i (some v)) H e2 := put_stp (s := .val x) (fun c z => nomatch z) q1
          have s1 := put_sr (s := .val x) s (fun c z => nomatch z) ⟨v, rfl, h1⟩ q1
          have nos := putQ_nos q'
          have h2' : RRs K O (σ.set i (some v)) H e2 Hs vs rs := by
            obtain ⟨hl, hn, e2eq⟩ := put_some q1
            subst e2eq
            have mm : ∀ b, Mine (σ.set i (some v)) (e.set i (.val x)) b → Mine σ e b := fun b ⟨j, c, g1, g2⟩ => by
              by_cases hij : i = j
              · subst hij
                rw [List.getElem?_set_self hl] at g1
                cases g1
              · rw [List.getElem?_set_ne hij] at g1 g2
                exact ⟨j, c, g1, g2⟩
            clear q q' h1 h3
            induction h2 with
            | nil => exact .nil
            | @cons w ws r rs a1 a2 a3 ih =>
              refine .cons ?_ (ih fun j k hj => nos (j + 1) k (by simpa using hj)) a3
              cases r with
              | d y => exact a1
              | slot k => exact (nos 0 k rfl).elim
              | fresh c =>
                obtain ⟨a, f1, f2, f3, f4, f5⟩ := a1
                exact ⟨a, f1, f2, f3, fun z => f4 (mm a z), f5⟩
          obtain ⟨g1, g2, g3⟩ := putQ_ok (st.trans st1) s1 h2' q'
          exact ⟨g1, g2, by rw [List.length_cons, List.length_cons, g3]⟩
      | fresh c =>
        have q' : ((put np e i (.own c)).bind fun e1 => putQ np e1 is rs) = some e1 := q
        cases q1 : put np e i (.own c) with
        | none => rw [q1] at q'; cases q'
        | some e2 =>
          rw [q1] at q'
          obtain ⟨a, rfl, f2, f3, f4, f5⟩ := h1
          have st1 := put_own_stp st s f5 q1
          have s1 := put_own s f2 f3 f4 q1
          have nos := putQ_nos q'
          have h2' : RRs K O (σ.set i (some (.ref a))) H e2 Hs vs rs := by
            obtain ⟨hl, hn, e2eq⟩ := put_some q1
            subst e2eq
            have mm : ∀ b, Mine (σ.set i (some (.ref a))) (e.set i (.own c)) b → Mine σ e b ∨ b = a := fun b ⟨j, c', g1, g2⟩ => by
              by_cases hij : i = j
              · subst hij
                rw [List.getElem?_set_self (by rw [s.len]; exact hl)] at g2
                cases g2
                exact .inr rfl
              · rw [List.getElem?_set_ne hij] at g1 g2
                exact .inl ⟨j, c', g1, g2⟩
            have h3' := h3 c rfl
            clear q q' h3
            induction h2 with
            | nil => exact .nil
            | @cons w ws r rs a1 a2 a3 ih =>
              refine .cons ?_ (ih (fun j k hj => nos (j + 1) k (by simpa using hj)) fun j c' hj hw => h3' (j + 1) c' (by simpa using hj) (by simpa using hw)) a3
              cases r with
              | d y => exact a1
              | slot k => exact (nos 0 k rfl).elim
              | fresh c2 =>
                obtain ⟨a2', g1, g2, g3, g4, g5⟩ := a1
                refine ⟨a2', g1, g2, g3, fun z => ?_, g5⟩
                rcases mm a2' z with z | z
                · exact g4 z
                · exact h3' 0 c2 rfl (by rw [g1, z]; rfl)
          obtain ⟨g1, g2, g3⟩ := putQ_ok st1 s1 h2' q'
          exact ⟨g1, g2, by rw [List.length_cons, List.length_cons, g3]⟩
theorem r_par {is : List Nat} {ow : List Bool} {xs : Ps} {Dn : Ends} (h : tEx K CA pr T np W (.par is ow xs) Dn σ H) : tEvs K CA pr T np W xs σ H fun vs H1 => vs.length = is.length ∧ Dn.nx (setV σ is vs) H1 := by
  obtain ⟨Hf, O, e, w, h⟩ := h
  refine ⟨O, e, w.sr, (toE h).mono fun rs O1 H1 e1 st s1 q vs rvs => ?_⟩
  cases q1 : parPl np e1 ow rs with
  | none => rw [q1] at q; exact q.elim
  | some pd =>
    obtain ⟨qs, e2⟩ := pd
    rw [q1] at q
    have q' : Aft K CA np W O σ H e (match putQ np e2 is qs with | some e3 => .ok .next e3 | none => .stuck) (endK K Hf Dn) := q
    obtain ⟨O2, st2, s2, r2, _⟩ := parPl_ok st s1 rvs q1
    cases q2 : putQ np e2 is qs with
    | none => rw [q2] at q'; exact q'.elim
    | some e3 =>
      rw [q2] at q'
      obtain ⟨g1, g2, g3⟩ := putQ_ok st2 s2 r2 q2
      exact ⟨g3, fin_nx q' g1 g2⟩
theorem gNames_set {Q : St → Hp → Prop} : ∀ {is : List Nat} {vs : List V} {σ : St} {H : Hp}, vs.length = is.length → Q (setV σ is vs) H → gNames is vs σ H Q
  | [], [], _, _, _, h => ⟨rfl, h⟩
  | [], _ :: _, _, _, l, _ => by cases l
  | _ :: _, [], _, _, l, _ => by cases l
  | i :: is, v :: vs, σ, H, l, h => ⟨v, vs, rfl, gNames_set (σ := σ.set i (some v)) (by simpa using l) h⟩
/-- the same through a tuple -/
theorem r_parT {is : List Nat} {ow : List Bool} {xs : Ps} {Dn : Ends} (hl : psLen xs ≤ 1000) (h : tEx K CA pr T np W (.par is ow xs) Dn σ H) : tAsg (tTup (tEvs K CA pr T np W xs)) (gTup K is.length (gNames is)) Dn σ H := by
  obtain ⟨Hf, O, e, w, h⟩ := h
  refine ⟨O, e, w.sr, (toE h).eqn.mono fun rs O1 H1 e1 st s1 ⟨q0, q⟩ vs rvs => ?_⟩
  cases q1 : parPl np e1 ow rs with
  | none => rw [q1] at q; exact q.elim
  | some pd =>
    obtain ⟨qs, e2⟩ := pd
    rw [q1] at q
    have q' : Aft K CA np W O σ H e (match putQ np e2 is qs with | some e3 => .ok .next e3 | none => .stuck) (endK K Hf Dn) := q
    obtain ⟨O2, st2, s2, r2, _⟩ := parPl_ok st s1 rvs q1
    cases q2 : putQ np e2 is qs with
    | none => rw [q2] at q'; exact q'.elim
    | some e3 =>
      rw [q2] at q'
      obtain ⟨g1, g2, g3⟩ := putQ_ok st2 s2 r2 q2
      refine ⟨by rw [rvs.length, evs_len q0]; exact lim_le (Nat.le_trans hl (by decide)), fun p hp => ⟨p, vs, rfl, SqT.of upd_same, g3, gNames_set g3 ?_⟩⟩
      exact fin_nx q' (g1.trans (Gro.newT hp).step) ((Gro.newT hp).sr g2)
/-! ### xs.append(x) -/
theorem r_app {i : Nat} {p : P} {Dn : Ends} (h : tEx K CA pr T np W (.app i p) Dn σ H) : tDrop (tBM K "list" rAppend (tVar i) (tCons (tEv K CA pr T np W p) tNil)) Dn σ H := by
  obtain ⟨Hf, O, e, w, h⟩ := h
  have h' : Aft K CA np W O σ H e (if isOwn (gt e i) = true then (ev pr T np p e).bind fun r e1 => (match capt np e1 r with
    | some (d, e2) => (match gt e2 i with
      | .own (.lst xs) => if xs.length < lim then .ok .next (e2.set i (.own (.lst (xs ++ [d])))) else .stuck
      | _ => .stuck)
    | none => .stuck) else .stuck) (endK K Hf Dn) := h
  by_cases o : isOwn (gt e i) = true
  · rw [if_pos o] at h'
    cases g0 : gt e i with
    | emp => rw [g0] at o; cases o
    | val d => rw [g0] at o; cases o
    | exc c d => rw [g0] at o; cases o
    | own c =>
      obtain ⟨a, ha, _, hc, _⟩ := w.sr.own g0
      cases c with
      | lst ys0 =>
        obtain ⟨ws0, hws0, _⟩ := hc
        refine ⟨.ref a, ha, ?_, O, e, w.sr, (toE h').mono fun r O1 H1 e1 st s1 q v rv => ?_⟩
        · show tyV K "list" (.ref a) H
          exact .inl ⟨rfl, _, .inl (.inl hws0)⟩
        · cases q1 : capt np e1 r with
          | none => rw [q1] at q; exact q.elim
          | some pd =>
            obtain ⟨d, e2⟩ := pd
            rw [q1] at q
            obtain ⟨O2, st2, s2, r2, _⟩ := capt_ok st s1 rv q1
            have q' : Aft K CA np W O σ H e (match gt e2 i with
              | .own (.lst xs) => if xs.length < lim then .ok .next (e2.set i (.own (.lst (xs ++ [d])))) else .stuck
              | _ => .stuck) (endK K Hf Dn) := q
            cases g : gt e2 i with
            | emp => rw [g] at q'; exact q'.elim
            | val d => rw [g] at q'; exact q'.elim
            | exc c d => rw [g] at q'; exact q'.elim
            | own c2 =>
              cases c2 with
              | lst xs =>
                rw [g] at q'
                have q2 : Aft K CA np W O σ H e (if xs.length < lim then .ok .next (e2.set i (.own (.lst (xs ++ [d])))) else .stuck) (endK K Hf Dn) := q'
                by_cases hl : xs.length < lim
                · rw [if_pos hl] at q2
                  obtain ⟨b, hb, ob, ⟨ws, h3, h4⟩, _⟩ := s2.own g
                  rw [ha] at hb
                  cases hb
                  obtain ⟨s3, st3⟩ := slot_upd s2 g ha (h4.append (.cons r2 .nil))
                  exact ⟨a, ws, v, rfl, rfl, h3, by rw [h4.length]; exact lim_lt hl, fin_nx q2 (st2.trans st3) s3⟩
                · rw [if_neg hl] at q2
                  exact q2.elim
  · rw [if_neg o] at h'
    exact h'.elim
end
end Snd
end
section
set_option Elab.async false
set_option linter.all false
set_option maxRecDepth 100000
set_option maxHeartbeats 2000000
namespace Snd
open PySem L2 Ev
/-! ### isinstance -/
def tyD : D → String
  | .none => "NoneType"
  | .bool _ => "bool"
  | .int _ => "int"
  | .str _ => "str"
  | .list _ => "list"
  | .tuple _ => "tuple"
  | .dict _ => "dict"
def tyN : ETy → String
  | .int => "int" | .str => "str" | .bool => "bool" | .tuple => "tuple" | .list => "list"
def tyS : ETy → Str
  | .int => "int" | .str => "str" | .bool => "bool" | .tuple => "tuple" | .list => "list"
theorem kb1 : ∀ t, kitB "bool" (tyN t) = some (isTy t (.bool true)) := by intro t; cases t <;> decide +kernel
theorem kb2 : ∀ t, kitB "int" (tyN t) = some (isTy t (.int 0)) := by intro t; cases t <;> decide +kernel
theorem kb3 : ∀ t, kitB "str" (tyN t) = some (isTy t (.str ⟨#[]⟩)) := by intro t; cases t <;> decide +kernel
theorem kb4 : ∀ t, kitB "list" (tyN t) = some (isTy t (.list [])) := by intro t; cases t <;> decide +kernel
theorem kb5 : ∀ t, kitB "tuple" (tyN t) = some (isTy t (.tuple [])) := by intro t; cases t <;> decide +kernel
theorem kb6 : ∀ t, kitB "NoneType" (tyN t) = some (isTy t .none) := by intro t; cases t <;> decide +kernel
theorem kit_all (t : ETy) (d : D) (hd : ∀ kvs, d ≠ .dict kvs) : kitB (tyD d) (tyN t) = some (isTy t d) := by
  cases d with
  | dict kvs => exact absurd rfl (hd kvs)
  | none => exact kb6 t
  | bool b => exact (kb1 t).trans (by cases t <;> rfl)
  | int i => exact (kb2 t).trans (by cases t <;> rfl)
  | str x => exact (kb3 t).trans (by cases t <;> rfl)
  | list xs => exact (kb4 t).trans (by cases t <;> rfl)
  | tuple xs => exact (kb5 t).trans (by cases t <;> rfl)
theorem rep_ty {K : PySem.W.Frag} {O : Own} {H : Hp} {v : V} {d : D} (h : Rep K O H v d) : TyX K H v (.type (tyD d)) ∧ ∀ kvs, d ≠ .dict kvs := by
  cases h with
  | non => exact ⟨.base .non, fun _ z => nomatch z⟩
  | bl b => exact ⟨.base (.bl b), fun _ z => nomatch z⟩
  | int i => exact ⟨.base (.int i), fun _ z => nomatch z⟩
  | str x => exact ⟨.base (.str x), fun _ z => nomatch z⟩
  | lst h1 h2 h3 =>
    refine ⟨.base ?_, fun _ z => nomatch z⟩
    rcases h1 with h1 | ⟨o, h1⟩
    · exact .lst h1
    · exact .frz h1
  | tup h1 h2 =>
    refine ⟨?_, fun _ z => nomatch z⟩
    rcases h1 with (h1 | ⟨o, h1⟩) | ⟨o, its, n, h1, h3, _⟩
    · exact .base (.tup h1)
    · exact .fTuple h1
    · exact .kTuple h1 h3
theorem view_ty {K : PySem.W.Frag} {O : Own} {H : Hp} {v : V} {d : D} (h : ViewR K O H v d) : TyX K H v (.type (tyD d)) ∧ ∀ kvs, d ≠ .dict kvs := by
  rcases h with h | ⟨a, vs, ds, rfl, rfl, h1, h2⟩
  · exact rep_ty h
  · exact ⟨.base (.lst h1), fun _ z => nomatch z⟩
theorem gro_kept {K : PySem.W.Frag} {O O1 : Own} {H H1 : Hp} (g : Gro O H O1 H1) : Kept K O H O1 H1 := by
  refine ⟨fun a xs r n => ?_, fun a xs r => ?_⟩
  · rcases r with r | ⟨o, r⟩
    · exact ⟨.inl (g.keep a _ r).1, fun z => n ((g.keep a _ r).2.mp z)⟩
    · exact ⟨.inr ⟨o, (g.keep a _ r).1⟩, fun z => n ((g.keep a _ r).2.mp z)⟩
  · rcases r with (r | ⟨o, r⟩) | r
    · exact .inl (.inl (g.keep a _ r).1)
    · exact .inl (.inr ⟨o, (g.keep a _ r).1⟩)
    · exact .inr r
theorem view_gro {K : PySem.W.Frag} {O O1 : Own} {H H1 : Hp} {v : V} {d : D} (g : Gro O H O1 H1) (h : ViewR K O H v d) : ViewR K O1 H1 v d := by
  rcases h with h | ⟨a, vs, ds, rfl, rfl, h1, h2⟩
  · exact .inl ((gro_kept g).rep h)
  · exact .inr ⟨a, vs, ds, rfl, rfl, (g.keep a _ h1).1, (gro_kept g).repAll h2⟩
theorem kit_any {K : PySem.W.Frag} {d : D} (hd : ∀ kvs, d ≠ .dict kvs) : ∀ ts : List ETy, PySem.W.kitAny K (.type (tyD d)) (ts.map fun t => Value.type (tyN t)) = some (ts.any fun t => isTy t d)
  | [] => rfl
  | t :: ts => by
    rw [List.map_cons, List.any_cons]
    have h := kit_ty (K := K) (kit_all t d hd)
    refine kitAny_cons h (fun e => ?_) (fun e => ?_)
    · rw [e, Bool.false_or]
      exact kit_any hd ts
    · rw [e, Bool.true_or]
def tNames : List ETy → TA
  | [] => tNil
  | t :: ts => tCons (tC (.ty (tyN t))) (tNames ts)
theorem tNames_ok {σ : St} {H : Hp} {Q : List V → Hp → Prop} : ∀ {ts : List ETy}, Q (ts.map fun t => V.ty (tyN t)) H → tNames ts σ H Q
  | [], h => h
  | t :: ts, h => tNames_ok (ts := ts) (Q := fun xs H2 => Q (V.ty (tyN t) :: xs) H2) h
theorem names_cls : ∀ ts : List ETy, PySem.Paired ClsV (ts.map fun t => V.ty (tyN t)) (ts.map fun t => Value.type (tyN t))
  | [] => .nil
  | t :: ts => .cons (.ty _) (names_cls ts)
section
variable {X : Cx} {CA : Nat → Addr} {pr : EProg} {T : FT} {np : Nat} {W : WX} {a : P} {a' : Expr}
theorem e_ty {t : ETy} {x : Str} {pos : Pos} (hx : x = tyS t) (hg : Gl X x) (hm : X.mg x = none) : PE X (.Name x pos) (tC (.ty (tyN t))) := by
  subst hx
  cases t <;> exact pe_bltn hg hm (by rfl) rfl (by decide) (by decide)
theorem isi_read {ts : List ETy} {σ : St} {H : Hp} {Q : VK} (h : tEv X.K CA pr T np W (.isi a ts) σ H Q) :
    tEv X.K CA pr T np W a σ H fun v H1 => ∃ d O1, ViewR X.K O1 H1 v d ∧ Q (.bl (ts.any fun t => isTy t d)) H1 ∧ ∀ p cs, H1 p = none → Q (.bl (ts.any fun t => isTy t d)) (upd H1 p (.tup cs)) := by
  obtain ⟨O, e, s, h⟩ := h
  refine ⟨O, e, s, (AftE.bind h).mono fun r O1 H1 e1 st s1 q v rv => ?_⟩
  obtain ⟨z, hz, h3⟩ := q.lift
  cases q1 : view e1 r with
  | none => rw [q1] at hz; cases hz
  | some d =>
    rw [q1] at hz
    cases hz
    refine ⟨d, O1, view_ok s1 rv q1, h3 O1 H1 st s1 _ (.bl _), fun p cs hp => ?_⟩
    exact h3 O1 _ (st.trans (Gro.newT hp).step) ((Gro.newT hp).sr s1) _ (.bl _)
theorem e_isi1 {t : ETy} {x y : Str} {p q pos : Pos} (hx : x = "isinstance") (hy : y = tyS t) (hg : Gl X x) (hm : X.mg x = none) (hg2 : Gl X y) (hm2 : X.mg y = none) (hn : noStar a' = true) (ha : PE X a' (tEv X.K CA pr T np W a)) :
    PE X (.Call (.Name x p) [a', .Name y q] [] pos) (tEv X.K CA pr T np W (.isi a [t])) := by
  have base : PE X (.Call (.Name x p) [a', .Name y q] [] pos) (tCB (rIsi X.K) (tCons (tEv X.K CA pr T np W a) (tCons (tC (.ty (tyN t))) tNil))) := by
    subst hx
    exact pe_callB call_isi hg hm rfl (pa_cons ha (pa_cons (e_ty hy hg2 hm2) pa_nil) (noStar_ok hn _ _)) (by decide) (by decide) (noStar_ok hn _ _) rfl
  refine base.imp fun σ H Q h => ?_
  obtain ⟨O, e, s, h⟩ := isi_read h
  refine ⟨O, e, s, h.mono fun r O1 H1 e1 st s1 q v rv => ?_⟩
  obtain ⟨d, O2, vd, q2, _⟩ := q v rv
  obtain ⟨ty, nd⟩ := view_ty vd
  refine ⟨v, .ty (tyN t), .type (tyD d), .type (tyN t), isTy t d, rfl, .ty _, ty, kit_ty (kit_all t d nd), ?_⟩
  have e3 : ([t].any fun t => isTy t d) = isTy t d := by simp
  rw [e3] at q2
  exact q2
theorem e_isiT {ts : List ETy} {x : Str} {p q pos : Pos} {es : List Expr} {k : Nat} (hx : x = "isinstance") (hg : Gl X x) (hm : X.mg x = none) (hn : noStar a' = true) (hl : ts.length ≤ 1000) (ha : PE X a' (tEv X.K CA pr T np W a)) (hes : PA X es (tNames ts)) :
    PE X (.Call (.Name x p) [a', .Tuple es k q] [] pos) (tEv X.K CA pr T np W (.isi a ts)) := by
  have base : PE X (.Call (.Name x p) [a', .Tuple es k q] [] pos) (tCB (rIsiT X.K) (tCons (tEv X.K CA pr T np W a) (tCons (tTup (tNames ts)) tNil))) := by
    subst hx
    exact pe_callB call_isiT hg hm rfl (pa_cons ha (pa_cons (pe_tup hes) pa_nil) (noStar_ok hn _ _)) (by decide) (by decide) (noStar_ok hn _ _) rfl
  refine base.imp fun σ H Q h => ?_
  obtain ⟨O, e, s, h⟩ := isi_read h
  refine ⟨O, e, s, h.mono fun r O1 H1 e1 st s1 q v rv => ?_⟩
  obtain ⟨d, O2, vd, _, q2⟩ := q v rv
  refine tNames_ok ⟨by rw [List.length_map]; exact lim_le (Nat.le_trans hl (by decide)), fun p hp => ?_⟩
  obtain ⟨ty, nd⟩ := view_ty (view_gro (Gro.newT hp) vd)
  exact ⟨v, p, _, .type (tyD d), _, _, rfl, upd_same, names_cls ts, ty, kit_any nd ts, q2 p _ hp⟩
/-! ### raise -/
theorem r_raise {c : Nat} {p : P} {Dn : Ends} {σ : St} {H : Hp} (T1 : OexC X.K (CA c)) (hv : PySem.W.findIn X.K (.ref (CA c)) "value" = some none) (h : tEx X.K CA pr T np W (.raise c p) Dn σ H) :
    tMkO (CA c) (spInit X.K) [] (tCons (tEv X.K CA pr T np W p) tNil) σ H fun cls d H' => W cls d σ H' := by
  obtain ⟨Hf, O, e, w, h⟩ := h
  refine ⟨O, e, w.sr, (toE h).mono fun r O1 H1 e1 st s1 q v rv => ?_⟩
  cases q1 : capt np e1 r with
  | none => rw [q1] at q; exact q.elim
  | some pd =>
    obtain ⟨d, e2⟩ := pd
    rw [q1] at q
    obtain ⟨O2, st2, s2, r2, _⟩ := capt_ok st s1 rv q1
    refine ⟨by simp, fun a ha => ⟨a, CA c, v, rfl, T1, hv, upd_same, fun dx hdx ne => ⟨rfl, dx, [(("value" : Str), v)], upd_same, ?_, ?_, ?_⟩⟩⟩
    · rw [upd_ne ne, upd_same]
    · rwa [upd_ne ne] at hdx
    · have hd1 : H1 dx = none := by rwa [upd_ne ne] at hdx
      have e3 : upd (del (upd (upd (upd H1 a (exo a (CA c) none)) dx (exd dx [(("value" : Str), v)])) a (exo a (CA c) (some dx))) a) dx (.xd [(("value" : Str), v)]) = upd H1 dx (.xd [(("value" : Str), v)]) := by
        funext b
        by_cases hb : b = dx
        · rw [hb, upd_same, upd_same]
        · rw [upd_ne hb, upd_ne hb]
          by_cases hba : b = a
          · rw [hba, del_same, ha]
          · rw [del_ne hba, upd_ne hba, upd_ne hb, upd_ne hba]
      rw [e3]
      have g : Gro O2 H1 O2 (upd H1 dx (.xd [(("value" : Str), v)])) := Gro.newT hd1
      exact q O2 σ _ _ _ (st2.trans g.step) (g.sr s2) ⟨rfl, dx, v, rfl, upd_same, (gro_kept g).rep r2⟩
end
end Snd
end
section
set_option Elab.async false
set_option linter.all false
set_option maxRecDepth 100000
set_option maxHeartbeats 2000000
/-! Whether the evaluator's syntax is the row's. -/
namespace Snd
open PySem L2 Ev
/-- a name that is seen, a global one, one that is stored -/
def nodbg (x : Str) : Bool := !(x == ("__debug__" : Str)) && !(x == ("__classdict__" : Str))
def visB (sc : Scope) (x : Str) : Bool := match sc.names.lookup x with
  | some .local => true
  | some .cell => true
  | some .free => true
  | _ => false
def locB (sc fs : Scope) (x : Str) : Bool := match sc.names.lookup x with
  | some .local => true
  | some .cell => (match fs.names.lookup x with | some .cell => true | _ => false)
  | _ => false
def glbB (sc : Scope) (x : Str) : Bool := match sc.names.lookup x with
  | some .globalImplicit => true
  | _ => false
def isOp : EOp → Operator → Bool
  | .add, .Add => true
  | .sub, .Sub => true
  | .mul, .Mult => true
  | .fdiv, .FloorDiv => true
  | .mod, .Mod => true
  | .pow, .Pow => true
  | _, _ => false
def isCmp : ECmp → CmpOp → Bool
  | .eq, .Eq => true
  | .ne, .NotEq => true
  | .lt, .Lt => true
  | .le, .LtE => true
  | .gt, .Gt => true
  | .ge, .GtE => true
  | .isin, .In => true
  | .notin, .NotIn => true
  | _, _ => false
theorem isOp_ok {o : EOp} {o' : Operator} (h : isOp o o' = true) : o' = opAst o := by
  cases o <;> cases o' <;> first | rfl | cases h
theorem isCmp_ok {o : ECmp} {o' : CmpOp} (h : isCmp o o' = true) : o' = cmpAst o := by
  cases o <;> cases o' <;> first | rfl | cases h
def noSet : Expr → Bool
  | .Set .. => false
  | _ => true
theorem noSet_mark {b : Expr} (h : noSet b = true) (op : CmpOp) : behindInMarks op b = false := by
  cases b <;> first | rfl | cases h
theorem noSet_fold {b : Expr} (h : noSet b = true) (env : Env) (x : Value) : foldedSetIterable b env x = pure x := by
  cases b <;> first | rfl | cases h
def isTuple : Expr → Bool
  | .Tuple .. => true
  | _ => false
def isName : Expr → Bool
  | .Name .. => true
  | _ => false
def ownN (N : List Str) (own : List Nat) : List (Str × Nat) := own.filterMap fun i => (N[i]?).map fun x => (x, i)
def cTyS (sc : Scope) : ETy → Expr → Bool
  | t, .Name x _ => (x == tyS t) && glbB sc x
  | _, _ => false
def cTys (sc : Scope) : List ETy → List Expr → Bool
  | [], [] => true
  | t :: ts, e :: es => cTyS sc t e && cTys sc ts es
  | _, _ => false
def cTg (N : List Str) (sc fs : Scope) : Tg → Expr → Bool
  | .v i, .Name x _ => (N[i]? == some x) && locB sc fs x
  | .vs is, .Tuple es _ _ => cNs is es
  | _, _ => false
where cNs : List Nat → List Expr → Bool
  | [], [] => true
  | i :: is, .Name x _ :: es => (N[i]? == some x) && locB sc fs x && cNs is es
  | _, _ => false
mutual
def cP (tb : Tab) (N : List Str) : P → Scope → Scope → Expr → Bool
  | .v i, sc, fs, ex => (match ex with
    | .Name x _ => (N[i]? == some x) && visB sc x && nodbg x
    | _ => false)
  | .frz i, sc, fs, ex => (match ex with
    | .Name x _ => (N[i]? == some x) && visB sc x && nodbg x
    | _ => false)
  | .lit d, sc, fs, ex => (match ex with
    | .Constant c _ _ => (match d, c with
      | .int i, .int j => i == j
      | .str x, .str y => x == y
      | .bool a, .bool b => a == b
      | .none, .none => true
      | _, _ => false)
    | _ => false)
  | .non, sc, fs, ex => (match ex with
    | .Constant c _ _ => (match c with | .none => true | _ => false)
    | _ => false)
  | .glob g, sc, fs, ex => (match ex with
    | .Name x _ => (tb.gl[g]? == some x) && glbB sc x && nodbg x
    | _ => false)
  | .bin op a b, sc, fs, ex => (match ex with
    | .BinOp a' op' b' _ => isOp op op' && (cP tb N a sc fs a' && cP tb N b sc fs b')
    | _ => false)
  | .neg a, sc, fs, ex => (match ex with
    | .UnaryOp op a' _ => (match op with | .USub => cP tb N a sc fs a' | _ => false)
    | _ => false)
  | .nt a, sc, fs, ex => (match ex with
    | .UnaryOp op a' _ => (match op with | .Not => cP tb N a sc fs a' | _ => false)
    | _ => false)
  | .and a b, sc, fs, ex => (match ex with
    | .BoolOp op es p => (match op, es with
      | .And, a' :: b' :: r => cP tb N a sc fs a' && (match r with
        | [] => cP tb N b sc fs b'
        | _ :: _ => cP tb N b sc fs (.BoolOp .And (b' :: r) p))
      | _, _ => false)
    | _ => false)
  | .or a b, sc, fs, ex => (match ex with
    | .BoolOp op es p => (match op, es with
      | .Or, a' :: b' :: r => cP tb N a sc fs a' && (match r with
        | [] => cP tb N b sc fs b'
        | _ :: _ => cP tb N b sc fs (.BoolOp .Or (b' :: r) p))
      | _, _ => false)
    | _ => false)
  | .cmp op a b, sc, fs, ex => (match ex with
    | .Compare a' ops bs _ => (match ops, bs with
      | [op'], [b'] => isCmp op op' && noSet b' && (cP tb N a sc fs a' && cP tb N b sc fs b')
      | _, _ => false)
    | _ => false)
  | .chain o1 o2 a b c, sc, fs, ex => (match ex with
    | .Compare a' ops bs _ => (match ops, bs with
      | [p1, p2], [b', c'] => isCmp o1 p1 && isCmp o2 p2 && noSet c' && (cP tb N a sc fs a' && (cP tb N b sc fs b' && cP tb N c sc fs c'))
      | _, _ => false)
    | _ => false)
  | .isN a, sc, fs, ex => (match ex with
    | .Compare a' ops bs _ => (match ops, bs with
      | [.Is], [.Constant .none _ _] => cP tb N a sc fs a'
      | _, _ => false)
    | _ => false)
  | .notN a, sc, fs, ex => (match ex with
    | .Compare a' ops bs _ => (match ops, bs with
      | [.IsNot], [.Constant .none _ _] => cP tb N a sc fs a'
      | _, _ => false)
    | _ => false)
  | .ite c a b, sc, fs, ex => (match ex with
    | .IfExp c' a' b' _ => cP tb N c sc fs c' && (cP tb N a sc fs a' && cP tb N b sc fs b')
    | _ => false)
  | .tup xs, sc, fs, ex => (match ex with
    | .Tuple es _ _ => cPs tb N xs sc fs es && decide (psLen xs ≤ 1000)
    | _ => false)
  | .lst xs, sc, fs, ex => (match ex with
    | .List es _ => cPs tb N xs sc fs es && decide (psLen xs ≤ 1000)
    | _ => false)
  | .ix a b, sc, fs, ex => (match ex with
    | .Subscript a' b' _ => noSlice b' && (cP tb N a sc fs a' && cP tb N b sc fs b')
    | _ => false)
  | .sl a lo hi, sc, fs, ex => (match ex with
    | .Subscript a' s' _ => (match s' with
      | .Slice lo' hi' none _ => cP tb N a sc fs a' && ((match lo' with | none => isNonP lo | some e => !isNonP lo && cP tb N lo sc fs e) && (match hi' with | none => isNonP hi | some e => !isNonP hi && cP tb N hi sc fs e))
      | _ => false)
    | _ => false)
  | .rev a, sc, fs, ex => (match ex with
    | .Subscript a' s' _ => (match s' with
      | .Slice none none (some (.UnaryOp .USub (.Constant (.int i) _ _) _)) _ => (i == 1) && cP tb N a sc fs a'
      | _ => false)
    | _ => false)
  | .call f xs ks perm, sc, fs, ex => (match ex with
    | .Call fe es kws _ => (match fe, tb.fn[f]? with
      | .Name x _, some (y, ps) => (x == y) && glbB sc x && nodbg x && es.all noStar && cPs tb N xs sc fs es && (match kws with
        | [] => (match ks, perm with | .nil, [] => !es.isEmpty && decide (psLen xs = ps.length) | _, _ => false)
        | _ :: _ => cKs tb N ks sc fs kws && kwNamed kws && decide ((f, psLen xs, kwNames kws, perm) ∈ tb.kw) && decide (psLen ks = (kwNames kws).length) && !perm.isEmpty && (match es, xs with | [], .nil => true | _ :: _, _ => true | _, _ => false))
      | _, _ => false)
    | _ => false)
  | .blt b xs, sc, fs, ex => (match ex with
    | .Call fe es kws _ => (match fe, kws with
      | .Name x _, [] => (x == bltS b) && glbB sc x && nodbg x && es.all noStar && !es.isEmpty && cPs tb N xs sc fs es && (match b with | .gcd => tb.gcd | _ => true)
      | _, _ => false)
    | _ => false)
  | .isi a ts, sc, fs, ex => (match ex with
    | .Call fe es kws _ => (match fe, es, kws with
      | .Name x _, [a', t'], [] => (x == ("isinstance" : Str)) && glbB sc x && noStar a' && cP tb N a sc fs a' && (match t' with
        | .Tuple us _ _ => cTys sc ts us && decide (ts.length ≤ 1000)
        | .Name y q => (match ts with | [t] => cTyS sc t (.Name y q) | _ => false)
        | _ => false)
      | _, _, _ => false)
    | _ => false)
  | .indx a b, sc, fs, ex => (match ex with
    | .Call fe es kws cp => (match fe, es, kws with
      | .Attribute o m ap, [b'], [] => (match o with
        | .Name x px => (m == ("index" : Str)) && (ap.endLine == cp.line) && noStar b' && (cP tb N a sc fs (.Name x px) && cP tb N b sc fs b')
        | _ => false)
      | _, _, _ => false)
    | _ => false)
  | .lrng a, sc, fs, ex => (match ex with
    | .Call fe es kws _ => (match fe, es, kws with
      | .Name x _, [.Call fe2 es2 kws2 _], [] => (match fe2, es2, kws2 with
        | .Name y _, [a'], [] => (x == ("list" : Str)) && glbB sc x && (y == ("range" : Str)) && glbB sc y && noStar a' && cP tb N a sc fs a'
        | _, _, _ => false)
      | _, _, _ => false)
    | _ => false)
  | .comp elt tg it cond own, sc, fs, ex => (match ex with
    | .ListComp elt' gs scope _ => (match gs with
      | [⟨tg', iter, ifs, 0⟩] => blkC N sc scope (ownN N own) && decide ((ownN N own).map (·.2) = own) && (tgs tg).all (fun i => decide (i ∈ own)) && noSet iter && cIt tb N it sc fs tg' iter && cTg N (relS scope sc) scope tg tg' &&
        (match ifs with
          | [] => (match cond with | .lit (.bool true) => true | _ => false)
          | [c'] => cP tb N cond (relS scope sc) scope c'
          | _ => false) && cP tb N elt (relS scope sc) scope elt'
      | _ => false)
    | _ => false)
  | .compo elt tg w cond own, sc, fs, ex => (match ex with
    | .ListComp elt' gs scope _ => (match gs with
      | [⟨tg', iter, ifs, 0⟩] => (match iter with
        | .Name x px => blkC N sc scope (ownN N own) && decide ((ownN N own).map (·.2) = own) && (tgs tg).all (fun i => decide (i ∈ own)) && noSet iter && ((N[w]? == some x) && (visB sc x && nodbg x)) && cTg N (relS scope sc) scope tg tg' &&
          (match ifs with
            | [] => (match cond with | .lit (.bool true) => true | _ => false)
            | [c'] => cP tb N cond (relS scope sc) scope c'
            | _ => false) && cP tb N elt (relS scope sc) scope elt'
        | _ => false)
      | _ => false)
    | _ => false)
  | .comp2 elt tg it cond tg1 it1 cond1 own vs1, sc, fs, ex => (match ex with
    | .ListComp elt' gs scope _ => (match gs with
      | [⟨tg', iter, ifs, 0⟩, ⟨tg1', iter1, ifs1, 0⟩] => (blkC N sc scope (ownN N own) && decide ((ownN N own).map (·.2) = own) && (tgs tg).all (fun i => decide (i ∈ own)) && (tgs tg1).all (fun i => decide (i ∈ vs1)) && vs1.all (fun i => decide (i ∈ own)) && noSet iter && noSet iter1) &&
        (cIt tb N it sc fs tg' iter && (cTg N (relS scope sc) scope tg tg' && cTg N (relS scope sc) scope tg1 tg1' &&
        ((match ifs with
          | [] => (match cond with | .lit (.bool true) => true | _ => false)
          | [c'] => cP tb N cond (relS scope sc) scope c'
          | _ => false) && (cIt tb N it1 (relS scope sc) scope tg1' iter1 &&
        ((match ifs1 with
          | [] => (match cond1 with | .lit (.bool true) => true | _ => false)
          | [c'] => cP tb N cond1 (relS scope sc) scope c'
          | _ => false) && cP tb N elt (relS scope sc) scope elt')))))
      | _ => false)
    | _ => false)
  | .cap a, sc, fs, ex => cP tb N a sc fs ex
def cPs (tb : Tab) (N : List Str) : Ps → Scope → Scope → List Expr → Bool
  | .nil, sc, fs, es => es.isEmpty
  | .cons x xs, sc, fs, es => (match es with
    | e :: r => noStar e && (cP tb N x sc fs e && cPs tb N xs sc fs r)
    | [] => false)
def cKs (tb : Tab) (N : List Str) : Ps → Scope → Scope → List Keyword → Bool
  | .nil, sc, fs, es => es.isEmpty
  | .cons x xs, sc, fs, es => (match es with
    | ⟨_, e, _⟩ :: r => cP tb N x sc fs e && cKs tb N xs sc fs r
    | [] => false)
def cIt (tb : Tab) (N : List Str) : EIt → Scope → Scope → Expr → Expr → Bool
  | .seq p, sc, fs, tg, ex => cP tb N p sc fs ex
  | .r1 p, sc, fs, tg, ex => (match ex with
    | .Call fe es kws _ => (match fe, es, kws with
      | .Name x _, [a'], [] => (x == ("range" : Str)) && glbB sc x && noStar a' && cP tb N p sc fs a'
      | _, _, _ => false)
    | _ => false)
  | .r2 p q, sc, fs, tg, ex => (match ex with
    | .Call fe es kws _ => (match fe, es, kws with
      | .Name x _, [a', b'], [] => (x == ("range" : Str)) && glbB sc x && noStar a' && noStar b' && (cP tb N p sc fs a' && cP tb N q sc fs b')
      | _, _, _ => false)
    | _ => false)
  | .zip p q, sc, fs, tg, ex => (match ex with
    | .Call fe es kws _ => (match fe, es, kws with
      | .Name x _, [a', b'], [] => isTuple tg && (x == ("zip" : Str)) && glbB sc x && noStar a' && noStar b' && (cP tb N p sc fs a' && cP tb N q sc fs b')
      | _, _, _ => false)
    | _ => false)
  | .enum p, sc, fs, tg, ex => (match ex with
    | .Call fe es kws _ => (match fe, es, kws with
      | .Name x _, [a'], [] => isTuple tg && (x == ("enumerate" : Str)) && glbB sc x && noStar a' && cP tb N p sc fs a'
      | _, _, _ => false)
    | _ => false)
  | .zipn p q, sc, fs, tg, ex => (match ex with
    | .Call fe es kws _ => (match fe, es, kws with
      | .Name x _, [a', b'], [] => isName tg && (x == ("zip" : Str)) && glbB sc x && noStar a' && noStar b' && (cP tb N p sc fs a' && cP tb N q sc fs b')
      | _, _, _ => false)
    | _ => false)
end
end Snd
end
section
set_option Elab.async false
set_option linter.all false
set_option maxRecDepth 100000
set_option maxHeartbeats 4000000
namespace Snd
open PySem L2 Ev
section
variable {X : Cx} {CA : Nat → Addr} {pr : EProg} {T : FT} {np : Nat} {W : WX} {a b c : P} {a' b' c' : Expr} {pos : Pos}
theorem pt_ifE {tc ta tb : TT} (hc : PT X c' tc) (ha : PT X a' ta) (hb : PT X b' tb) : PT X (.IfExp c' a' b' pos) (fun σ H Q => tc σ H fun k H1 => if k = true then ta σ H1 Q else tb σ H1 Q) := by
  refine ⟨fun pins s σ H Q I h => ?_⟩
  refine PyProof.Rows.isTrue_IfExp (thn (hc.run pins s σ H _ I h) fun d s1 ⟨H1, I1, q1⟩ => ?_)
  cases d with
  | true =>
    simp only [if_true] at q1 ⊢
    exact ha.run pins s1 σ H1 Q I1 q1
  | false =>
    simp only [Bool.false_eq_true, if_false] at q1 ⊢
    exact hb.run pins s1 σ H1 Q I1 q1
theorem capt_bool {e e3 : FEnv} {x : Rs} {k : Bool} (h : capt np e x = some (.bool k, e3)) : view e x = some (.bool k) ∧ e3 = e := by
  cases x with
  | d y =>
    cases h
    exact ⟨rfl, rfl⟩
  | fresh c =>
    cases c with
    | lst xs => cases h
  | slot i =>
    have h' : (match gt e i with | .own (.lst xs) => if np ≤ i then some (PyData.list xs, e.set i (.val (.list xs))) else none | .val d => some (d, e) | _ => none) = some (PyData.bool k, e3) := h
    show (match gt e i with | .own (.lst xs) => some (PyData.list xs) | .val d => some d | _ => none) = some (.bool k) ∧ e3 = e
    cases g : gt e i with
    | emp => rw [g] at h'; cases h'
    | exc c d => rw [g] at h'; cases h'
    | val d =>
      rw [g] at h'
      cases h'
      exact ⟨rfl, rfl⟩
    | own c =>
      cases c with
      | lst xs =>
        rw [g] at h'
        have h2 : (if np ≤ i then some (PyData.list xs, e.set i (.val (.list xs))) else none) = some (PyData.bool k, e3) := h'
        by_cases hn : np ≤ i
        · rw [if_pos hn] at h2
          cases h2
        · rw [if_neg hn] at h2
          cases h2
theorem ite_arm {σ : St} {H : Hp} {Q : Bool → Hp → Prop} {O : Own} {e e1 : FEnv} (h : AftE X.K CA np W O σ H e (asB ((ev pr T np a e1).bind fun x e2 => match capt np e2 x with | some (d, e3) => .ok (.d d) e3 | none => .stuck)) fun b O' H' e' => Q b H') :
    AftE X.K CA np W O σ H e (asB (ev pr T np a e1)) fun b O' H' e' => Q b H' := by
  cases q : ev pr T np a e1 with
  | stuck => rw [q] at h; exact h.elim
  | err c d e2 => rw [q] at h; exact h
  | ok x e2 =>
    rw [q] at h
    have h' : AftE X.K CA np W O σ H e (asB (match capt np e2 x with | some (d, e3) => .ok (.d d) e3 | none => .stuck)) fun b O' H' e' => Q b H' := h
    cases q1 : capt np e2 x with
    | none => rw [q1] at h'; exact h'.elim
    | some p =>
      obtain ⟨d, e3⟩ := p
      rw [q1] at h'
      have h2 : AftE X.K CA np W O σ H e (lift (boolOf d) e3) fun b O' H' e' => Q b H' := h'
      cases d <;> first | exact h2.elim | skip
      obtain ⟨w1, w2⟩ := capt_bool q1
      subst w2
      show AftE X.K CA np W O σ H e (lift ((view e3 x).bind boolOf) e3) _
      rw [w1]
      exact h2
theorem t_ite (hc : PT X c' (tTs X.K CA pr T np W c)) (ha : PT X a' (tTs X.K CA pr T np W a)) (hb : PT X b' (tTs X.K CA pr T np W b)) : PT X (.IfExp c' a' b' pos) (tTs X.K CA pr T np W (.ite c a b)) :=
  (pt_ifE hc ha hb).imp fun σ H Q ⟨O, e, s, h⟩ => ⟨O, e, s, by
    have h' : AftE X.K CA np W O σ H e (asB ((asB (ev pr T np c e)).bind fun k e1 => if k then (ev pr T np a e1).bind fun x e2 => (match capt np e2 x with
      | some (d, e3) => .ok (.d d) e3
      | none => .stuck) else (ev pr T np b e1).bind fun x e2 => (match capt np e2 x with
      | some (d, e3) => .ok (.d d) e3
      | none => .stuck))) fun b O' H' e' => Q b H' := h
    rw [asB_bind] at h'
    refine h'.bind.mono fun k O1 H1 e1 st s1 q => ?_
    cases k with
    | true =>
      simp only [if_true] at q ⊢
      exact ⟨O1, e1, s1, ite_arm (q.from st)⟩
    | false =>
      simp only [Bool.false_eq_true, if_false] at q ⊢
      exact ⟨O1, e1, s1, ite_arm (q.from st)⟩⟩
/-- kept for good -/
theorem cap_e {ex : Expr} (h : PE X ex (tEv X.K CA pr T np W a)) : PE X ex (tEv X.K CA pr T np W (.cap a)) :=
  h.imp fun σ H Q ⟨O, e, s, h⟩ => ⟨O, e, s, (AftE.bind h).mono fun r O1 H1 e1 st s1 q v rv => capt_fin q st s1 rv⟩
theorem cap_t {σ : St} {H : Hp} {Q : Bool → Hp → Prop} (h : tTs X.K CA pr T np W (.cap a) σ H Q) : tTs X.K CA pr T np W a σ H Q := by
  obtain ⟨O, e, s, h⟩ := h
  exact ⟨O, e, s, ite_arm h⟩
end
/-! ### what the checks say -/
section
variable {tb : Tab} {pr : EProg} {T : FT} {CA : Nat → Addr} {k : Nat} {N : List Str} {sc fs : Scope} {X : Cx} {np : Nat} {W : WX}
def isBool : Expr → Bool
  | .BoolOp .. => true
  | _ => false
structure Okx (CA : Nat → Addr) (pr : EProg) (T : FT) (np : Nat) (W : WX) (X : Cx) (p : P) (ex : Expr) : Prop where
  e : PE X ex (tEv X.K CA pr T np W p)
  t : PT X ex (tTs X.K CA pr T np W p)
  w : isBool ex = true → PW X ex (tTs X.K CA pr T np W p)
theorem Okx.val {p : P} {ex : Expr} (h : PE X ex (tEv X.K CA pr T np W p)) (he : ∀ whole, isTrue ex X.env whole = (do let v ← whole; standAt ex.pos; holding [v] (truthy v))) (hb : isBool ex = false) : Okx CA pr T np W X p ex :=
  ⟨h, t_val h he, fun z => by rw [hb] at z; cases z⟩
theorem andb {a b : Bool} (h : (a && b) = true) : a = true ∧ b = true := Bool.and_eq_true_iff.mp h
theorem visB_ok {x : Str} (G : Good tb pr T CA k N sc fs X) (h : visB sc x = true) : Vis X.env.scope x := by
  rw [G.hsc]
  unfold visB at h
  unfold Vis
  split at h <;> first | (cases h; done) | simp_all
theorem glbB_ok {x : Str} (G : Good tb pr T CA k N sc fs X) (h : glbB sc x = true) : Gl X x := by
  show X.env.scope.names.lookup x = some .globalImplicit
  rw [G.hsc]
  unfold glbB at h
  split at h <;> first | (cases h; done) | assumption
theorem locB_ok {x : Str} (G : Good tb pr T CA k N sc fs X) (h : locB sc fs x = true) : Loc X.env.scope x ∧ (X.fn x = true ∨ X.env.scope.names.lookup x = some .local) := by
  rw [G.hsc]
  unfold locB at h
  split at h
  · rename_i q
    exact ⟨.inl q, .inr q⟩
  · rename_i q
    split at h
    · rename_i q2
      exact ⟨.inr q, .inl (G.fn x q2)⟩
    · cases h
  · cases h
theorem nodbg_ok {x : Str} (h : nodbg x = true) : (x == ("__debug__" : Str)) = false ∧ (x == ("__classdict__" : Str)) = false := by
  obtain ⟨h1, h2⟩ := andb h
  rw [Bool.not_eq_true'] at h1 h2
  exact ⟨h1, h2⟩
theorem beqS {x y : Str} (h : (x == y) = true) : x = y := eq_of_beq h
theorem getB {i : Nat} {x : Str} {l : List Str} (h : (l[i]? == some x) = true) : l[i]? = some x := eq_of_beq h
theorem nm_ok {x : Str} (G : Good tb pr T CA k N sc fs X) (h : x ∈ bnames) : X.mg x = none := G.glo.blt x h
theorem bltS_in : ∀ b : B, b ≠ .gcd → bltS b ∈ bnames
  | .len, _ => by decide +kernel
  | .abs, _ => by decide +kernel
  | .max2, _ => by decide +kernel
  | .min2, _ => by decide +kernel
  | .sum, _ => by decide +kernel
  | .all, _ => by decide +kernel
  | .any, _ => by decide +kernel
  | .tuple, _ => by decide +kernel
  | .list, _ => by decide +kernel
  | .int, _ => by decide +kernel
  | .gcd, h => absurd rfl h
  | .sorted, _ => by decide +kernel
  | .minL, _ => by decide +kernel
  | .maxL, _ => by decide +kernel
  | .repr, _ => by decide +kernel
theorem tyS_in : ∀ t : ETy, tyS t ∈ bnames
  | .int => by decide +kernel
  | .str => by decide +kernel
  | .bool => by decide +kernel
  | .tuple => by decide +kernel
  | .list => by decide +kernel
theorem tyS_ok (G : Good tb pr T CA k N sc fs X) {t : ETy} {ex : Expr} (h : cTyS sc t ex = true) : PE X ex (tC (.ty (tyN t))) ∧ noStar ex = true := by
  cases ex <;> first | (cases h; done) | skip
  rename_i x pos
  obtain ⟨h1, h2⟩ := andb h
  have hx := beqS h1
  exact ⟨e_ty hx (glbB_ok G h2) (by rw [hx]; exact nm_ok G (tyS_in t)), rfl⟩
theorem tys_ok (G : Good tb pr T CA k N sc fs X) : ∀ {ts : List ETy} {es : List Expr}, cTys sc ts es = true → PA X es (tNames ts)
  | [], [], _ => pa_nil
  | [], _ :: _, h => by cases h
  | _ :: _, [], h => by cases h
  | t :: ts, e :: es, h => by
    obtain ⟨h1, h2⟩ := andb h
    obtain ⟨g1, g2⟩ := tyS_ok G h1
    exact pa_cons g1 (tys_ok G h2) (noStar_ok g2 _ _)
theorem names_pg (G : Good tb pr T CA k N sc fs X) : ∀ {is : List Nat} {es : List Expr}, cTg.cNs N sc fs is es = true → PGs X es (gNames is) ∧ es.all noStar = true ∧ es.length = is.length
  | [], [], _ => ⟨pgs_nil, rfl, rfl⟩
  | [], _ :: _, h => by cases h
  | _ :: _, [], h => by cases h
  | i :: is, e :: es, h => by
    cases e <;> first | (cases h; done) | skip
    rename_i x pos
    obtain ⟨h1, h2⟩ := andb h
    obtain ⟨h3, h4⟩ := andb h1
    obtain ⟨g1, g2⟩ := locB_ok G h4
    obtain ⟨r1, r2, r3⟩ := names_pg G h2
    have hN : X.N.Nodup := by rw [G.hN]; exact G.nd
    refine ⟨pgs_cons (pg_name hN (by rw [G.hN]; exact getB h3) g1 g2) r1 rfl, by rw [List.all_cons, r2]; rfl, by rw [List.length_cons, List.length_cons, r3]⟩
theorem each_ok {es : List Expr} (h : es.all noStar = true) (env : Env) : (assignEach es env).length = es.length ∧ (assignEach es env).findIdx? (·.1) = none := by
  induction es with
  | nil => exact ⟨rfl, rfl⟩
  | cons e es ih =>
    rw [List.all_cons] at h
    obtain ⟨h1, h2⟩ := andb h
    obtain ⟨g1, g2⟩ := ih h2
    have e1 : ∃ t, assignEach (e :: es) env = (false, t) :: assignEach es env := by
      cases e <;> first | exact ⟨_, rfl⟩ | cases h1
    obtain ⟨t, e1⟩ := e1
    rw [e1]
    refine ⟨by rw [List.length_cons, List.length_cons, g1], ?_⟩
    rw [List.findIdx?_cons]
    simp [g2]
theorem tg_pg (G : Good tb pr T CA k N sc fs X) {tg : Tg} {ex : Expr} (h : cTg N sc fs tg ex = true) : PG X ex (gTg X.K tg) := by
  have hN : X.N.Nodup := by rw [G.hN]; exact G.nd
  cases tg with
  | v i =>
    cases ex <;> first | (cases h; done) | skip
    obtain ⟨h3, h4⟩ := andb h
    obtain ⟨g1, g2⟩ := locB_ok G h4
    exact pg_name hN (by rw [G.hN]; exact getB h3) g1 g2
  | vs is =>
    cases ex <;> first | (cases h; done) | skip
    rename_i es kk pos
    obtain ⟨r1, r2, r3⟩ := names_pg G (show cTg.cNs N sc fs is es = true from h)
    obtain ⟨e1, e2⟩ := each_ok r2 X.env
    show PG X (.Tuple es kk pos) (gTup X.K is.length (gNames is))
    rw [← r3, ← e1]
    exact pg_tup G.calm r1 rfl e2
end
end Snd
end
section
set_option Elab.async false
set_option linter.all false
set_option maxRecDepth 100000
set_option maxHeartbeats 4000000
namespace Snd
open PySem L2 Ev
theorem own_of (N : List Str) (own : List Nat) : ∀ p ∈ ownN N own, N[p.2]? = some p.1 := by
  intro p hp
  obtain ⟨i, hi, e⟩ := List.mem_filterMap.mp hp
  cases q : N[i]? with
  | none => rw [q] at e; cases e
  | some x =>
    rw [q] at e
    cases e
    exact q
theorem allD {l : List Nat} {own : List Nat} (h : l.all (fun i => decide (i ∈ own)) = true) : ∀ i ∈ l, i ∈ own := fun i hi => of_decide_eq_true (List.all_eq_true.mp h i hi)
theorem nil_of {α : Type} {l : List α} (h : l.isEmpty = true) : l = [] := List.isEmpty_iff.mp h
section
variable {tb : Tab} {pr : EProg} {T : FT} {CA : Nat → Addr} {k : Nat} {N : List Str} {np : Nat}
mutual
theorem okP : ∀ (p : P) {sc fs : Scope} {X : Cx} {W : WX} {ex : Expr}, Good tb pr T CA k N sc fs X → Takes X W → cP tb N p sc fs ex = true → Okx CA pr T np W X p ex
  | .v i, sc, fs, X, W, ex, G, tk, h => by
    unfold cP at h
    cases ex <;> first | (cases h; done) | skip
    obtain ⟨h1, h2⟩ := andb h
    obtain ⟨h3, h4⟩ := andb h1
    obtain ⟨d1, d2⟩ := nodbg_ok h2
    exact .val (e_var (by rw [G.hN]; exact getB h3) (visB_ok G h4) d1 d2) (fun _ => rfl) rfl
  | .frz i, sc, fs, X, W, ex, G, tk, h => by
    unfold cP at h
    cases ex <;> first | (cases h; done) | skip
    obtain ⟨h1, h2⟩ := andb h
    obtain ⟨h3, h4⟩ := andb h1
    obtain ⟨d1, d2⟩ := nodbg_ok h2
    exact .val (e_frz (by rw [G.hN]; exact getB h3) (visB_ok G h4) d1 d2) (fun _ => rfl) rfl
  | .lit d, sc, fs, X, W, ex, G, tk, h => by
    unfold cP at h
    cases ex <;> first | (cases h; done) | skip
    rename_i c j pos
    cases d <;> cases c <;> first | (cases h; done) | skip
    · exact .val e_lit_none (fun _ => rfl) rfl
    · rename_i a b
      have e : a = b := eq_of_beq h
      subst e
      exact .val e_lit_bool (fun _ => rfl) rfl
    · rename_i a b
      have e : a = b := eq_of_beq h
      subst e
      exact .val e_lit_int (fun _ => rfl) rfl
    · rename_i a b
      have e : a = b := eq_of_beq h
      subst e
      exact .val e_lit_str (fun _ => rfl) rfl
  | .non, sc, fs, X, W, ex, G, tk, h => by
    unfold cP at h
    cases ex <;> first | (cases h; done) | skip
    rename_i c j pos
    cases c <;> first | (cases h; done) | skip
    exact .val (e_lit_none (pr := pr) (T := T) |>.imp fun σ H Q z => z) (fun _ => rfl) rfl
  | .glob g, sc, fs, X, W, ex, G, tk, h => by
    unfold cP at h
    cases ex <;> first | (cases h; done) | skip
    obtain ⟨h1, h2⟩ := andb h
    obtain ⟨h3, h4⟩ := andb h1
    obtain ⟨d1, d2⟩ := nodbg_ok h2
    exact .val (e_glob G (getB h3) (glbB_ok G h4) d1) (fun _ => rfl) rfl
  | .bin op a b, sc, fs, X, W, ex, G, tk, h => by
    unfold cP at h
    cases ex <;> first | (cases h; done) | skip
    obtain ⟨h1, h2⟩ := andb h
    obtain ⟨h3, h4⟩ := andb h2
    obtain rfl := isOp_ok h1
    exact .val (e_bin (okP a G tk h3).e (okP b G tk h4).e) (fun _ => rfl) rfl
  | .neg a, sc, fs, X, W, ex, G, tk, h => by
    unfold cP at h
    cases ex <;> first | (cases h; done) | skip
    rename_i op a' pos
    cases op <;> first | (cases h; done) | skip
    exact .val (e_neg (okP a G tk h).e) (fun _ => rfl) rfl
  | .nt a, sc, fs, X, W, ex, G, tk, h => by
    unfold cP at h
    cases ex <;> first | (cases h; done) | skip
    rename_i op a' pos
    cases op <;> first | (cases h; done) | skip
    have w := okP a G tk h
    exact ⟨e_nt w.e, t_nt w.t, fun z => by cases z⟩
  | .and a b, sc, fs, X, W, ex, G, tk, h => by
    unfold cP at h
    cases ex <;> first | (cases h; done) | skip
    rename_i op es pos
    cases op <;> first | (cases h; done) | skip
    cases es with
    | nil => cases h
    | cons a' es =>
      cases es with
      | nil => cases h
      | cons b' r =>
        obtain ⟨h1, h2⟩ := andb h
        have wa := okP a G tk h1
        cases r with
        | nil =>
          have wb := okP b G tk h2
          have ww : PW X (.BoolOp .And [a', b'] pos) (tTs X.K CA pr T np W (.and a b)) := w_and wa.t (pw_and1 wb.t)
          exact ⟨e_and wa.e (pe_one wb.e), ww.pt, fun _ => ww⟩
        | cons c' r =>
          have wb := okP b G tk h2
          have ww : PW X (.BoolOp .And (a' :: b' :: c' :: r) pos) (tTs X.K CA pr T np W (.and a b)) := w_and wa.t (wb.w rfl)
          exact ⟨e_and wa.e wb.e, ww.pt, fun _ => ww⟩
  | .or a b, sc, fs, X, W, ex, G, tk, h => by
    unfold cP at h
    cases ex <;> first | (cases h; done) | skip
    rename_i op es pos
    cases op <;> first | (cases h; done) | skip
    cases es with
    | nil => cases h
    | cons a' es =>
      cases es with
      | nil => cases h
      | cons b' r =>
        obtain ⟨h1, h2⟩ := andb h
        have wa := okP a G tk h1
        cases r with
        | nil =>
          have wb := okP b G tk h2
          have ww : PW X (.BoolOp .Or [a', b'] pos) (tTs X.K CA pr T np W (.or a b)) := w_or wa.t (pw_or1 wb.t)
          exact ⟨e_or wa.e (pe_one wb.e), ww.pt, fun _ => ww⟩
        | cons c' r =>
          have wb := okP b G tk h2
          have ww : PW X (.BoolOp .Or (a' :: b' :: c' :: r) pos) (tTs X.K CA pr T np W (.or a b)) := w_or wa.t (wb.w rfl)
          exact ⟨e_or wa.e wb.e, ww.pt, fun _ => ww⟩
  | .cmp op a b, sc, fs, X, W, ex, G, tk, h => by
    unfold cP at h
    cases ex <;> first | (cases h; done) | skip
    rename_i a' ops bs pos
    cases ops with
    | nil => cases h
    | cons o1 ops =>
      cases ops with
      | cons => cases bs with
        | nil => cases h
        | cons b' bs => cases h
      | nil =>
        cases bs with
        | nil => cases h
        | cons b' bs =>
          cases bs with
          | cons => cases h
          | nil =>
            obtain ⟨h1, h2⟩ := andb h
            obtain ⟨h3, h4⟩ := andb h1
            obtain ⟨h5, h6⟩ := andb h2
            obtain rfl := isCmp_ok h3
            have wa := okP a G tk h5
            have wb := okP b G tk h6
            exact ⟨e_cmp G.room wa.e wb.e (noSet_mark h4 _), t_cmp G.room wa.e wb.e (noSet_mark h4 _), fun z => by cases z⟩
  | .chain o1 o2 a b c, sc, fs, X, W, ex, G, tk, h => by
    unfold cP at h
    cases ex <;> first | (cases h; done) | skip
    rename_i a' ops bs pos
    dsimp only at h
    split at h <;> first | (cases h; done) | skip
    rename_i p1 p2 b' c'
    obtain ⟨h1, h2⟩ := andb h
    obtain ⟨h3, h4⟩ := andb h1
    obtain ⟨h5, h6⟩ := andb h3
    obtain ⟨h7, h8⟩ := andb h2
    obtain ⟨h9, h10⟩ := andb h8
    obtain rfl := isCmp_ok h5
    obtain rfl := isCmp_ok h6
    have wa := okP a G tk h7
    have wb := okP b G tk h9
    have wc := okP c G tk h10
    have hm : lastMarks [cmpAst o1, cmpAst o2] [b', c'] = false := noSet_mark h4 _
    exact ⟨e_chain G.room wa.e wb.e wc.e hm, t_chain G.room wa.e wb.e wc.e hm, fun z => by cases z⟩
  | .isN a, sc, fs, X, W, ex, G, tk, h => by
    unfold cP at h
    cases ex <;> first | (cases h; done) | skip
    rename_i a' ops bs pos
    dsimp only at h
    split at h <;> first | (cases h; done) | skip
    have wa := okP a G tk h
    exact ⟨e_isN wa.e, t_isN wa.e, fun z => by cases z⟩
  | .notN a, sc, fs, X, W, ex, G, tk, h => by
    unfold cP at h
    cases ex <;> first | (cases h; done) | skip
    rename_i a' ops bs pos
    dsimp only at h
    split at h <;> first | (cases h; done) | skip
    have wa := okP a G tk h
    exact ⟨e_notN wa.e, t_notN wa.e, fun z => by cases z⟩
  | .ite c a b, sc, fs, X, W, ex, G, tk, h => by
    unfold cP at h
    cases ex <;> first | (cases h; done) | skip
    obtain ⟨h1, h2⟩ := andb h
    obtain ⟨h3, h4⟩ := andb h2
    have wc := okP c G tk h1
    have wa := okP a G tk h3
    have wb := okP b G tk h4
    exact ⟨e_ite wc.t wa.e wb.e, t_ite wc.t wa.t wb.t, fun z => by cases z⟩
  | .tup xs, sc, fs, X, W, ex, G, tk, h => by
    unfold cP at h
    cases ex <;> first | (cases h; done) | skip
    obtain ⟨h1, h2⟩ := andb h
    exact .val (e_tup (okPs xs G tk h1).1 (of_decide_eq_true h2)) (fun _ => rfl) rfl
  | .lst xs, sc, fs, X, W, ex, G, tk, h => by
    unfold cP at h
    cases ex <;> first | (cases h; done) | skip
    obtain ⟨h1, h2⟩ := andb h
    exact .val (e_lst (okPs xs G tk h1).1 (of_decide_eq_true h2)) (fun _ => rfl) rfl
  | .ix a b, sc, fs, X, W, ex, G, tk, h => by
    unfold cP at h
    cases ex <;> first | (cases h; done) | skip
    obtain ⟨h1, h2⟩ := andb h
    obtain ⟨h3, h4⟩ := andb h2
    exact .val (e_ix (okP a G tk h3).e (okP b G tk h4).e h1) (fun _ => rfl) rfl
  | .sl a lo hi, sc, fs, X, W, ex, G, tk, h => by
    unfold cP at h
    cases ex <;> first | (cases h; done) | skip
    rename_i a' s' pos
    dsimp only at h
    split at h <;> first | (cases h; done) | skip
    rename_i lo' hi' q
    obtain ⟨h1, h2⟩ := andb h
    obtain ⟨h3, h4⟩ := andb h2
    have p1 : PO X lo' (tPo X.K CA pr T np W lo) := by
      cases lo' with
      | none =>
        cases lo <;> first | (cases h3; done) | skip
        exact o_none
      | some e =>
        obtain ⟨g1, g2⟩ := andb h3
        rw [Bool.not_eq_true'] at g1
        exact o_some (okP lo G tk g2).e g1
    have p2 : PO X hi' (tPo X.K CA pr T np W hi) := by
      cases hi' with
      | none =>
        cases hi <;> first | (cases h4; done) | skip
        exact o_none
      | some e =>
        obtain ⟨g1, g2⟩ := andb h4
        rw [Bool.not_eq_true'] at g1
        exact o_some (okP hi G tk g2).e g1
    exact .val (e_sl (okP a G tk h1).e p1 p2) (fun _ => rfl) rfl
  | .rev a, sc, fs, X, W, ex, G, tk, h => by
    unfold cP at h
    cases ex <;> first | (cases h; done) | skip
    rename_i a' s' pos
    dsimp only at h
    split at h <;> first | (cases h; done) | skip
    obtain ⟨h1, h2⟩ := andb h
    have e := eq_of_beq h1
    subst e
    exact .val (e_rev (okP a G tk h2).e) (fun _ => rfl) rfl
  | .call f xs ks perm, sc, fs, X, W, ex, G, tk, h => by
    unfold cP at h
    cases ex <;> first | (cases h; done) | skip
    rename_i fe es kws pos
    cases fe <;> first | (cases h; done) | skip
    rename_i x p
    cases hf : tb.fn[f]? with
    | none => rw [hf] at h; cases h
    | some q =>
      obtain ⟨y, ps⟩ := q
      rw [hf] at h
      obtain ⟨h0, h6⟩ := andb h
      obtain ⟨h0, h5⟩ := andb h0
      obtain ⟨h0, h4⟩ := andb h0
      obtain ⟨h0, h3⟩ := andb h0
      obtain ⟨h1, h2⟩ := andb h0
      obtain rfl := beqS h1
      obtain ⟨d1, d2⟩ := nodbg_ok h3
      obtain ⟨wx, wl⟩ := okPs xs G tk h5
      cases kws with
      | nil =>
        cases ks with
        | cons => cases h6
        | nil =>
          cases perm with
          | cons => cases h6
          | nil =>
            obtain ⟨h7, h8⟩ := andb h6
            cases es with
            | nil => cases h7
            | cons e1 es => exact .val (e_call G tk hf (glbB_ok G h2) d1 (of_decide_eq_true h8) wx h4) (fun _ => rfl) rfl
      | cons kw kws =>
        obtain ⟨h6, h12⟩ := andb h6
        obtain ⟨h6, h11⟩ := andb h6
        obtain ⟨h6, h10⟩ := andb h6
        obtain ⟨h6, h9⟩ := andb h6
        obtain ⟨h7, h8⟩ := andb h6
        have hp : perm ≠ [] := fun z => by subst z; cases h11
        have wk := okKs ks G tk h7
        cases es with
        | nil =>
          cases xs with
          | cons => cases h12
          | nil => exact .val (e_callK0 G tk hf (glbB_ok G h2) d1 (of_decide_eq_true h9) h8 (of_decide_eq_true h10) hp wk) (fun _ => rfl) rfl
        | cons e1 es => exact .val (e_callK G tk hf (glbB_ok G h2) d1 (of_decide_eq_true h9) h8 (of_decide_eq_true h10) hp wx h4 wk) (fun _ => rfl) rfl
  | .blt b xs, sc, fs, X, W, ex, G, tk, h => by
    unfold cP at h
    cases ex <;> first | (cases h; done) | skip
    rename_i fe es kws pos
    cases fe <;> first | (cases h; done) | skip
    rename_i x p
    cases kws with
    | cons => cases h
    | nil =>
      obtain ⟨h0, h6⟩ := andb h
      obtain ⟨h0, h5⟩ := andb h0
      obtain ⟨h0, h4⟩ := andb h0
      obtain ⟨h0, h3⟩ := andb h0
      obtain ⟨h0, hd⟩ := andb h0
      obtain ⟨h1, h2⟩ := andb h0
      have hx := beqS h1
      obtain ⟨d1, d2⟩ := nodbg_ok hd
      obtain ⟨wx, wl⟩ := okPs xs G tk h5
      cases es with
      | nil => cases h4
      | cons e1 es =>
        by_cases hb : b = .gcd
        · subst hb
          exact .val (e_gcd G.calm G.gd (by have := G.room.un; omega) d1 (glbB_ok G h2) (by rw [hx]; exact G.glo.gcd h6) wx h3) (fun _ => rfl) rfl
        · exact .val (e_blt G.calm G.gd (by have := G.room.un; omega) hx hb (glbB_ok G h2) (by rw [hx]; exact nm_ok G (bltS_in b hb)) wx h3) (fun _ => rfl) rfl
  | .indx a b, sc, fs, X, W, ex, G, tk, h => by
    unfold cP at h
    cases ex <;> first | (cases h; done) | skip
    rename_i fe es kws pos
    dsimp only at h
    split at h <;> first | (cases h; done) | skip
    split at h <;> first | (cases h; done) | skip
    obtain ⟨h0, h5⟩ := andb h
    obtain ⟨h4, h5⟩ := andb h5
    obtain ⟨h0, h3⟩ := andb h0
    obtain ⟨h1, h2⟩ := andb h0
    obtain rfl := beqS h1
    exact .val (e_indx G.room (okP a G tk h4).e (okP b G tk h5).e h3 h2) (fun _ => rfl) rfl
  | .lrng a, sc, fs, X, W, ex, G, tk, h => by
    unfold cP at h
    cases ex <;> first | (cases h; done) | skip
    rename_i fe es kws pos
    dsimp only at h
    split at h <;> first | (cases h; done) | skip
    split at h <;> first | (cases h; done) | skip
    obtain ⟨h0, h6⟩ := andb h
    obtain ⟨h0, h5⟩ := andb h0
    obtain ⟨h0, h4⟩ := andb h0
    obtain ⟨h0, h3⟩ := andb h0
    obtain ⟨h1, h2⟩ := andb h0
    obtain rfl := beqS h1
    obtain rfl := beqS h3
    exact .val (e_lrng G.calm (glbB_ok G h2) (nm_ok G (by decide +kernel)) (glbB_ok G h4) (nm_ok G (by decide +kernel)) h5 (okP a G tk h6).e) (fun _ => rfl) rfl
  | .isi a ts, sc, fs, X, W, ex, G, tk, h => by
    unfold cP at h
    cases ex <;> first | (cases h; done) | skip
    rename_i fe es kws pos
    dsimp only at h
    split at h <;> first | (cases h; done) | skip
    rename_i x p a' t'
    obtain ⟨h0, h5⟩ := andb h
    obtain ⟨h0, h4⟩ := andb h0
    obtain ⟨h0, h3⟩ := andb h0
    obtain ⟨h1, h2⟩ := andb h0
    have hx := beqS h1
    have wa := okP a G tk h4
    have hm : X.mg x = none := by rw [hx]; exact nm_ok G (by decide +kernel)
    cases t' <;> first | (cases h5; done) | skip
    · rename_i y q
      cases ts with
      | nil => cases h5
      | cons t ts =>
        cases ts with
        | cons => cases h5
        | nil =>
          obtain ⟨g1, g2⟩ := andb (show ((y == tyS t) && glbB sc y) = true from h5)
          have hy := beqS g1
          exact .val (e_isi1 hx hy (glbB_ok G h2) hm (glbB_ok G g2) (by rw [hy]; exact nm_ok G (tyS_in t)) h3 wa.e) (fun _ => rfl) rfl
    · obtain ⟨g1, g2⟩ := andb h5
      exact .val (e_isiT hx (glbB_ok G h2) hm h3 (of_decide_eq_true g2) wa.e (tys_ok G g1)) (fun _ => rfl) rfl
  | .comp elt tg it cond own, sc, fs, X, W, ex, G, tk, h => by
    unfold cP at h
    cases ex <;> first | (cases h; done) | skip
    rename_i elt' gs scope pos
    dsimp only at h
    split at h <;> first | (cases h; done) | skip
    rename_i tg' iter ifs
    obtain ⟨h0, h8⟩ := andb h
    obtain ⟨h0, h7⟩ := andb h0
    obtain ⟨h0, h6⟩ := andb h0
    obtain ⟨h0, h5⟩ := andb h0
    obtain ⟨h0, h4⟩ := andb h0
    obtain ⟨h0, h3⟩ := andb h0
    obtain ⟨h1, h2⟩ := andb h0
    have ok : BlkOk N sc scope (ownN N own) := blkOk_by h1
    have eo : (ownN N own).map (·.2) = own := of_decide_eq_true h2
    have hN : X.N.Nodup := by rw [G.hN]; exact G.nd
    have ok' : BlkOk X.N X.env.scope scope (ownN N own) := by rw [G.hN, G.hsc]; exact ok
    have base : PE X (.ListComp elt' [⟨tg', iter, ifs, 0⟩] scope pos) (tLc (tIt X.K CA pr T np W it) (gTg X.K tg) (tTs X.K CA pr T np WF cond) (tEv X.K CA pr T np WF elt) ((ownN N own).map (·.2))) :=
      pe_lc G.calm hN (okIt it G tk h5) ok' (fun s H C cl fp => tg_pg (G.blk ok s H C cl fp) h6)
        (fun s H C cl fp => by
          cases ifs with
          | nil =>
            have hc : cond = .lit (.bool true) := by
              revert h7
              cases cond <;> first | (intro h7; cases h7; done) | skip
              rename_i d
              cases d <;> first | (intro h7; cases h7; done) | skip
              rename_i b
              cases b
              · intro h7; cases h7
              · intro _; rfl
            subst hc
            exact ⟨fun pins s' σ H' Q I q => pts_nil.run pins s' σ H' Q I (by
              obtain ⟨O, e, sr, q2⟩ := q
              exact q2 O H' Stp.refl sr)⟩
          | cons c' r =>
            cases r with
            | cons => cases h7
            | nil => exact pts_one (okP cond (G.blk ok s H C cl fp) takes_blk h7).t)
        (fun s H C cl fp => (okP elt (G.blk ok s H C cl fp) takes_blk h8).e) (fun x => noSet_fold h4 _ x)
    rw [eo] at base
    exact .val (base.imp fun σ H Q z => lc_read (allD h3) z) (fun _ => rfl) rfl
  | .compo elt tg w cond own, sc, fs, X, W, ex, G, tk, h => by
    unfold cP at h
    cases ex <;> first | (cases h; done) | skip
    rename_i elt' gs scope pos
    dsimp only at h
    split at h <;> first | (cases h; done) | skip
    rename_i tg' iter ifs
    cases iter <;> first | (cases h; done) | skip
    rename_i x px
    obtain ⟨h0, h8⟩ := andb h
    obtain ⟨h0, h7⟩ := andb h0
    obtain ⟨h0, h6⟩ := andb h0
    obtain ⟨h0, h5⟩ := andb h0
    obtain ⟨h0, h4⟩ := andb h0
    obtain ⟨h0, h3⟩ := andb h0
    obtain ⟨h1, h2⟩ := andb h0
    obtain ⟨g1, g23⟩ := andb h5
    obtain ⟨g2, g3⟩ := andb g23
    have ok : BlkOk N sc scope (ownN N own) := blkOk_by h1
    have eo : (ownN N own).map (·.2) = own := of_decide_eq_true h2
    have hN : X.N.Nodup := by rw [G.hN]; exact G.nd
    have ok' : BlkOk X.N X.env.scope scope (ownN N own) := by rw [G.hN, G.hsc]; exact ok
    have base : PE X (.ListComp elt' [⟨tg', .Name x px, ifs, 0⟩] scope pos) (tLc (iList X.K (tVar w)) (gTg X.K tg) (tTs X.K CA pr T np WF cond) (tEv X.K CA pr T np WF elt) ((ownN N own).map (·.2))) :=
      pe_lc G.calm hN (pi_list (pe_var (by rw [G.hN]; exact getB g1) (visB_ok G g2) (nodbg_ok g3).1 (nodbg_ok g3).2)) ok' (fun s H C cl fp => tg_pg (G.blk ok s H C cl fp) h6)
        (fun s H C cl fp => by
          cases ifs with
          | nil =>
            have hc : cond = .lit (.bool true) := by
              revert h7
              cases cond <;> first | (intro h7; cases h7; done) | skip
              rename_i d
              cases d <;> first | (intro h7; cases h7; done) | skip
              rename_i b
              cases b
              · intro h7; cases h7
              · intro _; rfl
            subst hc
            exact ⟨fun pins s' σ H' Q I q => pts_nil.run pins s' σ H' Q I (by
              obtain ⟨O, e, sr, q2⟩ := q
              exact q2 O H' Stp.refl sr)⟩
          | cons c' r =>
            cases r with
            | cons => cases h7
            | nil => exact pts_one (okP cond (G.blk ok s H C cl fp) takes_blk h7).t)
        (fun s H C cl fp => (okP elt (G.blk ok s H C cl fp) takes_blk h8).e) (fun x => noSet_fold h4 _ x)
    rw [eo] at base
    exact .val (base.imp fun σ H Q z => lco_read (allD h3) z) (fun _ => rfl) rfl
  | .comp2 elt tg it cond tg1 it1 cond1 own vs1, sc, fs, X, W, ex, G, tk, h => by
    unfold cP at h
    cases ex <;> first | (cases h; done) | skip
    rename_i elt' gs scope pos
    dsimp only at h
    split at h <;> first | (cases h; done) | skip
    rename_i tg' iter ifs tg1' iter1 ifs1
    obtain ⟨ha, h⟩ := andb h
    obtain ⟨ha, n2⟩ := andb ha
    obtain ⟨ha, n1⟩ := andb ha
    obtain ⟨ha, o5⟩ := andb ha
    obtain ⟨ha, o4⟩ := andb ha
    obtain ⟨ha, o3⟩ := andb ha
    obtain ⟨o1, o2⟩ := andb ha
    obtain ⟨c1, h⟩ := andb h
    obtain ⟨ht, h⟩ := andb h
    obtain ⟨c2, c3⟩ := andb ht
    obtain ⟨c4, h⟩ := andb h
    obtain ⟨c5, h⟩ := andb h
    obtain ⟨c6, c7⟩ := andb h
    have ok : BlkOk N sc scope (ownN N own) := blkOk_by o1
    have eo : (ownN N own).map (·.2) = own := of_decide_eq_true o2
    have hN : X.N.Nodup := by rw [G.hN]; exact G.nd
    have ok' : BlkOk X.N X.env.scope scope (ownN N own) := by rw [G.hN, G.hsc]; exact ok
    have conds : ∀ {cnd : P} {is : List Expr}, (∀ c', is = [c'] → cP tb N cnd (relS scope sc) scope c' = true → ∀ (s : Shared) (H : Hp) (C : Addr) (cl : List (Str × Addr)) (fp : List Addr), PT (X.blk s H scope (compEnvC scope cl C X.env) fp) c' (tTs X.K CA pr T np WF cnd)) → (match is with
          | [] => (match cnd with | .lit (.bool true) => true | _ => false)
          | [c'] => cP tb N cnd (relS scope sc) scope c'
          | _ => false) = true → ∀ (s : Shared) (H : Hp) (C : Addr) (cl : List (Str × Addr)) (fp : List Addr), PTs (X.blk s H scope (compEnvC scope cl C X.env) fp) is (tTs X.K CA pr T np WF cnd) := by
      intro cnd is hP h7 s H C cl fp
      cases is with
      | nil =>
        have hc : cnd = .lit (.bool true) := by
          revert h7
          cases cnd <;> first | (intro h7; cases h7; done) | skip
          rename_i d
          cases d <;> first | (intro h7; cases h7; done) | skip
          rename_i b
          cases b
          · intro h7; cases h7
          · intro _; rfl
        subst hc
        exact ⟨fun pins s' σ H' Q I q => pts_nil.run pins s' σ H' Q I (by
          obtain ⟨O, e, sr, q2⟩ := q
          exact q2 O H' Stp.refl sr)⟩
      | cons c' r =>
        cases r with
        | cons => cases h7
        | nil => exact pts_one (hP c' rfl h7 s H C cl fp)
    have base : PE X (.ListComp elt' [⟨tg', iter, ifs, 0⟩, ⟨tg1', iter1, ifs1, 0⟩] scope pos) (tLc2 (tIt X.K CA pr T np W it) (gTg X.K tg) (tTs X.K CA pr T np WF cond) (tIt X.K CA pr T np WF it1) (gTg X.K tg1) (tTs X.K CA pr T np WF cond1) (tEv X.K CA pr T np WF elt) ((ownN N own).map (·.2)) vs1) :=
      pe_lc2 G.calm hN (okIt it G tk c1) ok' (fun i hi => by rw [eo]; exact allD o5 i hi) (fun s H C cl fp => tg_pg (G.blk ok s H C cl fp) c2)
        (conds (fun c' _ hc s H C cl fp => (okP cond (G.blk ok s H C cl fp) takes_blk hc).t) c4)
        (fun s H C cl fp => okIt it1 (G.blk ok s H C cl fp) takes_blk c5) (fun s H C cl fp => tg_pg (G.blk ok s H C cl fp) c3)
        (conds (fun c' _ hc s H C cl fp => (okP cond1 (G.blk ok s H C cl fp) takes_blk hc).t) c6)
        (fun s H C cl fp => (okP elt (G.blk ok s H C cl fp) takes_blk c7).e) (fun x => noSet_fold n1 _ x) (fun env x => noSet_fold n2 env x)
    rw [eo] at base
    exact .val (base.imp fun σ H Q z => lc2_read (allD o3) (allD o4) (allD o5) z) (fun _ => rfl) rfl
  | .cap a, sc, fs, X, W, ex, G, tk, h => by
    unfold cP at h
    have w := okP a G tk h
    exact ⟨cap_e w.e, w.t.imp fun σ H Q z => cap_t z, fun z => (w.w z).imp fun σ H Q z => cap_t z⟩
theorem okPs : ∀ (xs : Ps) {sc fs : Scope} {X : Cx} {W : WX} {es : List Expr}, Good tb pr T CA k N sc fs X → Takes X W → cPs tb N xs sc fs es = true → PA X es (tEvs X.K CA pr T np W xs) ∧ es.all noStar = true
  | .nil, sc, fs, X, W, es, G, tk, h => by
    unfold cPs at h
    obtain rfl := nil_of h
    exact ⟨a_nil, rfl⟩
  | .cons x xs, sc, fs, X, W, es, G, tk, h => by
    unfold cPs at h
    cases es with
    | nil => cases h
    | cons e r =>
      obtain ⟨h1, h2⟩ := andb h
      obtain ⟨h3, h4⟩ := andb h2
      obtain ⟨w1, w2⟩ := okPs xs G tk h4
      exact ⟨a_cons (okP x G tk h3).e w1 h1, by rw [List.all_cons, h1, w2]; rfl⟩
theorem okKs : ∀ (xs : Ps) {sc fs : Scope} {X : Cx} {W : WX} {es : List Keyword}, Good tb pr T CA k N sc fs X → Takes X W → cKs tb N xs sc fs es = true → PK X es (tEvs X.K CA pr T np W xs)
  | .nil, sc, fs, X, W, es, G, tk, h => by
    unfold cKs at h
    obtain rfl := nil_of h
    exact k_nil
  | .cons x xs, sc, fs, X, W, es, G, tk, h => by
    unfold cKs at h
    cases es with
    | nil => cases h
    | cons e r =>
      obtain ⟨n, e, q⟩ := e
      obtain ⟨h3, h4⟩ := andb h
      exact k_cons (okP x G tk h3).e (okKs xs G tk h4)
theorem okIt : ∀ (it : EIt) {sc fs : Scope} {X : Cx} {W : WX} {tg ex : Expr}, Good tb pr T CA k N sc fs X → Takes X W → cIt tb N it sc fs tg ex = true → PI X tg ex (tIt X.K CA pr T np W it)
  | .seq p, sc, fs, X, W, tg, ex, G, tk, h => by
    unfold cIt at h
    exact i_seq (okP p G tk h).e
  | .r1 p, sc, fs, X, W, tg, ex, G, tk, h => by
    unfold cIt at h
    cases ex <;> first | (cases h; done) | skip
    rename_i fe es kws pos
    dsimp only at h
    split at h <;> first | (cases h; done) | skip
    rename_i x q a'
    obtain ⟨h0, h4⟩ := andb h
    obtain ⟨h0, h3⟩ := andb h0
    obtain ⟨h1, h2⟩ := andb h0
    obtain rfl := beqS h1
    exact i_r1 (glbB_ok G h2) (nm_ok G (by decide +kernel)) h3 (okP p G tk h4).e
  | .r2 p q, sc, fs, X, W, tg, ex, G, tk, h => by
    unfold cIt at h
    cases ex <;> first | (cases h; done) | skip
    rename_i fe es kws pos
    dsimp only at h
    split at h <;> first | (cases h; done) | skip
    obtain ⟨h0, h5⟩ := andb h
    obtain ⟨h0, h4⟩ := andb h0
    obtain ⟨h0, h3⟩ := andb h0
    obtain ⟨h1, h2⟩ := andb h0
    obtain ⟨h6, h7⟩ := andb h5
    obtain rfl := beqS h1
    exact i_r2 (glbB_ok G h2) (nm_ok G (by decide +kernel)) h3 h4 (okP p G tk h6).e (okP q G tk h7).e
  | .zip p q, sc, fs, X, W, tg, ex, G, tk, h => by
    unfold cIt at h
    cases ex <;> first | (cases h; done) | skip
    rename_i fe es kws pos
    dsimp only at h
    split at h <;> first | (cases h; done) | skip
    obtain ⟨h0, h5⟩ := andb h
    obtain ⟨h0, h4⟩ := andb h0
    obtain ⟨h0, h3⟩ := andb h0
    obtain ⟨h0, h2⟩ := andb h0
    obtain ⟨h0, h1⟩ := andb h0
    obtain ⟨h6, h7⟩ := andb h5
    obtain rfl := beqS h1
    cases tg <;> first | (cases h0; done) | skip
    exact i_zip (glbB_ok G h2) (nm_ok G (by decide +kernel)) h3 h4 (okP p G tk h6).e (okP q G tk h7).e
  | .enum p, sc, fs, X, W, tg, ex, G, tk, h => by
    unfold cIt at h
    cases ex <;> first | (cases h; done) | skip
    rename_i fe es kws pos
    dsimp only at h
    split at h <;> first | (cases h; done) | skip
    obtain ⟨h0, h4⟩ := andb h
    obtain ⟨h0, h3⟩ := andb h0
    obtain ⟨h0, h2⟩ := andb h0
    obtain ⟨h0, h1⟩ := andb h0
    obtain rfl := beqS h1
    cases tg <;> first | (cases h0; done) | skip
    exact i_enum (glbB_ok G h2) (nm_ok G (by decide +kernel)) h3 (okP p G tk h4).e
  | .zipn p q, sc, fs, X, W, tg, ex, G, tk, h => by
    unfold cIt at h
    cases ex <;> first | (cases h; done) | skip
    rename_i fe es kws pos
    dsimp only at h
    split at h <;> first | (cases h; done) | skip
    obtain ⟨h0, h5⟩ := andb h
    obtain ⟨h0, h4⟩ := andb h0
    obtain ⟨h0, h3⟩ := andb h0
    obtain ⟨h0, h2⟩ := andb h0
    obtain ⟨h0, h1⟩ := andb h0
    obtain ⟨h6, h7⟩ := andb h5
    obtain rfl := beqS h1
    cases tg <;> first | (cases h0; done) | skip
    exact i_zipN (glbB_ok G h2) (nm_ok G (by decide +kernel)) h3 h4 (okP p G tk h6).e (okP q G tk h7).e
end
end
end Snd
end
section
set_option Elab.async false
set_option linter.all false
set_option maxRecDepth 100000
set_option maxHeartbeats 4000000
namespace Snd
open PySem L2 Ev
def isComp : Expr → Bool
  | .ListComp .. => true
  | .SetComp .. => true
  | .DictComp .. => true
  | _ => false
theorem swaps_no {v : Expr} (h : isComp v = false) (t : Option Expr) (l : Nat) (env : Env) : swapsWith v t l env = pure false := by
  cases v <;> first | rfl | cases h
theorem swaps_tup {v : Expr} {es : List Expr} {kk : Nat} {p : Pos} (l : Nat) (env : Env) : swapsWithSole [.Tuple es kk p] v l env = pure false := by
  cases v <;> rfl
theorem swaps_sub {v : Expr} {o i : Expr} {p : Pos} (l : Nat) (env : Env) : swapsWithSole [.Subscript o i p] v l env = pure false := by
  cases v <;> rfl
def notName : Expr → Bool
  | .Name .. => false
  | _ => true
theorem stores_sub {v : Expr} {o i : Expr} {p : Pos} (env : Env) : swappedStores [.Subscript o i p] v env = pure none := by
  cases v <;> rfl
def lclB (sc : Scope) (x : Str) : Bool := match sc.names.lookup x with
  | some .local => true
  | _ => false
def notLcl (sc : Scope) : Expr → Bool
  | .Name x _ => !lclB sc x
  | _ => true
def noSw (sc : Scope) (ts : List Expr) : Expr → Bool
  | .Tuple vs _ _ => ts.any (notLcl sc) || vs.all (foldedForSure 8) || !(ts.length == 2 || ts.length == 3)
  | _ => true
theorem bk {env : Env} (h : env.scope.kind = .function) : env.blockKind = .function := by
  unfold Env.blockKind
  rw [h]
  try rfl
theorem fm_le {α β : Type} {f : α → Option β} : ∀ l : List α, (l.filterMap f).length ≤ l.length
  | [] => Nat.le_refl _
  | x :: l => by
    rw [List.filterMap_cons]
    have := fm_le (f := f) l
    cases f x with
    | none => exact Nat.le_succ_of_le this
    | some y => exact Nat.succ_le_succ this
theorem fm_full {α β : Type} {f : α → Option β} : ∀ {l : List α}, (l.filterMap f).length = l.length → ∀ x ∈ l, f x ≠ none
  | [], _, x, hx => absurd hx List.not_mem_nil
  | y :: l, h, x, hx => by
    rw [List.filterMap_cons] at h
    cases q : f y with
    | none =>
      rw [q] at h
      have h' : (l.filterMap f).length = l.length + 1 := h
      have := fm_le (f := f) l
      omega
    | some z =>
      rw [q] at h
      have h' : (l.filterMap f).length + 1 = l.length + 1 := h
      rcases List.mem_cons.mp hx with e | hx
      · rw [e, q]
        exact fun z => nomatch z
      · exact fm_full (by omega) x hx
theorem stores_tup {v : Expr} {ts : List Expr} {kk : Nat} {p : Pos} {env : Env} (h : noSw env.scope ts v = true) : swappedStores [.Tuple ts kk p] v env = pure none := by
  cases v <;> first | rfl | skip
  rename_i vs k2 p2
  unfold swappedStores
  simp only
  unfold noSw at h
  simp only [Bool.or_eq_true] at h
  split
  · rfl
  · rename_i h1
    split
    · rfl
    · split
      · rfl
      · rename_i h3
        rcases h with (h | h) | h
        · exfalso
          rw [Bool.or_eq_true, not_or] at h3
          have e3 := h3.1
          rw [bne_iff_ne, ne_eq, Decidable.not_not] at e3
          have full := fm_full e3
          obtain ⟨x, hx, hn⟩ := List.any_eq_true.mp h
          have := full x hx
          cases x <;> first | exact this rfl | skip
          rename_i id pos
          refine this ?_
          have hk : (env.kindOf id == some NameKind.local) = false := by
            have hn' : (!lclB env.scope id) = true := hn
            rw [Bool.not_eq_true'] at hn'
            unfold lclB at hn'
            show (env.scope.names.lookup id == some NameKind.local) = false
            cases q : env.scope.names.lookup id with
            | none => rfl
            | some kk => cases kk <;> first | rfl | (rw [q] at hn'; cases hn')
          simp only [hk, Bool.false_and, Bool.false_eq_true, if_false]
        · rw [if_pos h]
        · exfalso
          rw [Bool.or_eq_true, Bool.or_eq_true, not_or, not_or] at h1
          exact h1.1.1 h
theorem sw2 {env : Env} {x y : Str} {px py pt pt2 : Pos} {kt k2 : Nat} {a b : Expr} (hk : env.scope.kind = .function) (hx : env.kindOf x = some .local) (hy : env.kindOf y = some .local) (hl : (py.line == px.line) = true) (hne : x ≠ y) (na : noStar a = true) (nb : noStar b = true)
    (hf : [a, b].all (foldedForSure 8) = false) (hc : [a, b].all (constantsAlone 8) = false) : swappedStores [.Tuple [.Name x px, .Name y py] kt pt] (.Tuple [a, b] k2 pt2) env = pure (some [x, y]) := by
  unfold swappedStores
  simp only
  have s1 : ([a, b].any fun | .Starred .. => true | _ => false) = false := by
    cases a <;> first | (cases na; done) | skip
    all_goals cases b <;> first | (cases nb; done) | rfl
  have e1 : (env.kindOf x == some NameKind.local && px.line == px.line) = true := by rw [hx]; simp
  have e2 : (env.kindOf y == some NameKind.local && py.line == px.line) = true := by rw [hy, hl]; rfl
  have s3 : ([x, y].eraseDups.length != [x, y].length) = false := by
    have : (y == x) = false := by simpa using fun z => hne z.symm
    simp [List.eraseDups_cons, this, List.filter]
  generalize hfm : List.filterMap _ [Expr.Name x px, Expr.Name y py] = names
  have hn : names = [x, y] := by
    rw [← hfm, List.filterMap_cons, List.filterMap_cons]
    simp only [List.head?_cons, Option.map_some, Option.getD_some, Expr.pos, e1, e2, if_true, List.filterMap_nil]
  subst hn
  split
  · rename_i q
    rw [bk hk] at q
    exact absurd q (by simp)
  · split
    · rename_i q
      exact absurd (q.symm.trans s1) (by decide)
    · split
      · rename_i q
        rw [s3] at q
        exact absurd q (by simp)
      · rw [if_neg (by rw [hf]; decide), if_neg (by rw [hc]; decide)]

theorem sw3 {env : Env} {x y z : Str} {px py pz pt pt2 : Pos} {kt k2 : Nat} {a b c : Expr} (hk : env.scope.kind = .function) (hx : env.kindOf x = some .local) (hy : env.kindOf y = some .local) (hz : env.kindOf z = some .local) (hl : (py.line == px.line) = true) (hl2 : (pz.line == px.line) = true) (hxy : x ≠ y) (hxz : x ≠ z) (hyz : y ≠ z) (na : noStar a = true) (nb : noStar b = true) (nc : noStar c = true)
    (hf : [a, b, c].all (foldedForSure 8) = false) (hc : [a, b, c].all (constantsAlone 8) = false) : swappedStores [.Tuple [.Name x px, .Name y py, .Name z pz] kt pt] (.Tuple [a, b, c] k2 pt2) env = pure (some [x, y, z]) := by
  unfold swappedStores
  simp only
  have s1 : ([a, b, c].any fun | .Starred .. => true | _ => false) = false := by
    cases a <;> first | (cases na; done) | skip
    all_goals cases b <;> first | (cases nb; done) | skip
    all_goals cases c <;> first | (cases nc; done) | rfl
  have e1 : (env.kindOf x == some NameKind.local && px.line == px.line) = true := by rw [hx]; simp
  have e2 : (env.kindOf y == some NameKind.local && py.line == px.line) = true := by rw [hy, hl]; rfl
  have e3 : (env.kindOf z == some NameKind.local && pz.line == px.line) = true := by rw [hz, hl2]; rfl
  have s3 : ([x, y, z].eraseDups.length != [x, y, z].length) = false := by
    have q1 : (y == x) = false := by simpa using fun z => hxy z.symm
    have q2 : (z == x) = false := by simpa using fun z => hxz z.symm
    have q3 : (z == y) = false := by simpa using fun z => hyz z.symm
    simp [List.eraseDups_cons, q1, q2, q3, List.filter]
  generalize hfm : List.filterMap _ [Expr.Name x px, Expr.Name y py, Expr.Name z pz] = names
  have hn : names = [x, y, z] := by
    rw [← hfm, List.filterMap_cons, List.filterMap_cons, List.filterMap_cons]
    simp only [List.head?_cons, Option.map_some, Option.getD_some, Expr.pos, e1, e2, e3, if_true, List.filterMap_nil]
  subst hn
  split
  · rename_i q
    rw [bk hk] at q
    exact absurd q (by simp)
  · split
    · rename_i q
      exact absurd (q.symm.trans s1) (by decide)
    · split
      · rename_i q
        rw [s3] at q
        exact absurd q (by simp)
      · rw [if_neg (by rw [hf]; decide), if_neg (by rw [hc]; decide)]

/-! ### the checks of statements -/
/-- name = value: stored behind it, or (a comprehension on one line) ahead of its end -/
def celB (sc : Scope) (x : Str) : Bool := match sc.names.lookup x with
  | some .cell => true
  | _ => false
def asgB (sc : Scope) (x : Str) (px pos : Pos) : Expr → Bool
  | .ListComp _ _ scope p => celB sc x || (lclB sc x && (px.line == p.line) && !(scope.names.any fun (n, k) => n == x && (k == .local || k == .cell)))
  | v => !isComp v
theorem swaps_cell {e : Expr} {gs : List Comprehension} {scope : Scope} {p px : Pos} {x : Str} (l : Nat) {env : Env} (h : celB env.scope x = true) : swapsWith (.ListComp e gs scope p) (some (.Name x px)) l env = pure false := by
  have hk : env.kindOf x = some .cell := by
    show env.scope.names.lookup x = _
    unfold celB at h
    split at h <;> first | (cases h; done) | assumption
  unfold swapsWith
  have e : (env.kindOf x == some NameKind.local) = false := by rw [hk]; rfl
  show (pure (env.blockKind == .function && env.kindOf x == some .local && px.line == p.line && !(scope.names.any fun (n, k) => n == x && (k == .local || k == .cell))) : Sem Bool) = pure false
  rw [e]
  simp
def isCompP : P → Bool
  | .comp .. => true
  | _ => false
def cTx (tb : Tab) (N : List Str) (sc fs : Scope) : List Tx → List Expr → Bool
  | [], [] => true
  | t :: ts, e :: es => (match t with
    | .v i => (match e with
      | .Name x _ => (N[i]? == some x) && locB sc fs x
      | _ => false)
    | .ix i j => (match e with
      | .Subscript o j' _ => (match o with
        | .Name x _ => (N[i]? == some x) && visB sc x && nodbg x && noSlice j' && cP tb N j sc fs j'
        | _ => false)
      | _ => false)) && cTx tb N sc fs ts es
  | _, _ => false
mutual
/-- an except suite's expression -/
def cXp (N : List Str) (sc : Scope) (oi : Option Nat) : Xp → Expr → Bool
  | .lit d, ex => (match ex with
    | .Constant c _ _ => (match d, c with
      | .int i, .int j => i == j
      | .str x, .str y => x == y
      | .bool a, .bool b => a == b
      | .none, .none => true
      | _, _ => false)
    | _ => false)
  | .val, ex => (match ex with
    | .Attribute o n _ => (match o, oi with
      | .Name x _, some i => (n == ("value" : Str)) && (N[i]? == some x) && visB sc x && nodbg x
      | _, _ => false)
    | _ => false)
  | .tup xs, ex => (match ex with
    | .Tuple es _ _ => cXps N sc oi xs es
    | _ => false)
  | .lst xs, ex => (match ex with
    | .List es _ => cXps N sc oi xs es
    | _ => false)
def cXps (N : List Str) (sc : Scope) (oi : Option Nat) : Xps → List Expr → Bool
  | .nil, es => es.isEmpty
  | .cons x r, es => (match es with
    | e :: rest => noStar e && (cXp N sc oi x e && cXps N sc oi r rest)
    | [] => false)
end
/-- += or -= -/
def augB : Bool → Operator → Bool
  | false, .Add => true
  | true, .Sub => true
  | _, _ => false
def cSu (N : List Str) (sc : Scope) (oi : Option Nat) : Su → List Stmt → Bool
  | .asg j p, sts => (match sts with
    | [.Assign [.Name y _] v _] => (N[j]? == some y) && lclB sc y && !isComp v && cXp N sc oi p v
    | _ => false)
  | .ret p, sts => (match sts with
    | [.Return (some v) _] => cXp N sc oi p v
    | _ => false)
  | .pass, sts => (match sts with
    | [.Pass _] => true
    | _ => false)
def cCl (tb : Tab) (N : List Str) (sc : Scope) : Cl → List ExceptHandler → Bool
  | .nil, hs => hs.isEmpty
  | .cons c oi su r, hs => (match hs with
    | .ExceptHandler ty nm suite _ :: rest => (match ty with
        | some (.Name x _) => (tb.cls[c]? == some x) && glbB sc x && nodbg x
        | _ => false) && (match nm, oi with
        | none, none => true
        | some n, some i => (N[i]? == some n) && lclB sc n
        | _, _ => false) && cSu N sc oi su suite && cCl tb N sc r rest
    | [] => false)
mutual
def cS (tb : Tab) (N : List Str) (sc : Scope) : S → Stmt → Bool
  | .asg i p, st => (match st with
    | .Assign tg v pos => (match tg with
      | [.Name x px] => (N[i]? == some x) && locB sc sc x && (asgB sc x px pos v && (!isComp v || isCompP p)) && cP tb N p sc sc v
      | _ => false)
    | _ => false)
  | .own i p, st => (match st with
    | .Assign tg v pos => (match tg with
      | [.Name x px] => (N[i]? == some x) && locB sc sc x && (asgB sc x px pos v && (!isComp v || isCompP p)) && cP tb N p sc sc v
      | _ => false)
    | _ => false)
  | .unp ts p, st => (match st with
    | .Assign tg v _ => (match tg with
      | [.Tuple es _ _] => noSw sc es v && cTx tb N sc sc ts es && cP tb N p sc sc v
      | _ => false)
    | _ => false)
  | .par is ow xs, st => (match st with
    | .Assign tg v _ => (match tg, v, is with
      | [.Tuple es _ _], .Tuple vs _ _, is => if noSw sc es v then cTg N sc sc (.vs is) (.Tuple es 0 ⟨0, 0, 0, 0⟩) && cPs tb N xs sc sc vs && decide (psLen xs ≤ 1000) else (match es, vs, is with
        | [.Name x px, .Name y py], [a, b], [i, j] => (N[i]? == some x) && (N[j]? == some y) && lclB sc x && lclB sc y && (py.line == px.line) && !(x == y) && !(i == j) && noStar a && noStar b &&
          !([a, b].all (foldedForSure 8)) && !([a, b].all (constantsAlone 8)) && cPs tb N xs sc sc [a, b]
        | [.Name x px, .Name y py, .Name z pz], [a, b, c], [i, j, l] => ((N[i]? == some x) && (N[j]? == some y) && (N[l]? == some z)) && (lclB sc x && lclB sc y && lclB sc z) && ((py.line == px.line) && (pz.line == px.line)) && (!(x == y) && !(x == z) && !(y == z)) && (!(i == j) && !(i == l) && !(j == l)) && (noStar a && noStar b && noStar c) &&
          !([a, b, c].all (foldedForSure 8)) && !([a, b, c].all (constantsAlone 8)) && cPs tb N xs sc sc [a, b, c]
        | _, _, _ => false)
      | _, _, _ => false)
    | _ => false)
  | .seti i j p, st => (match st with
    | .Assign tg v _ => (match tg with
      | [.Subscript (.Name x _) j' _] => (N[i]? == some x) && visB sc x && nodbg x && noSlice j' && cP tb N j sc sc j' && cP tb N p sc sc v
      | _ => false)
    | _ => false)
  | .aug i ng p, st => (match st with
    | .AugAssign tg op v _ => (match tg with
      | .Name x _ => (N[i]? == some x) && lclB sc x && augB ng op && cP tb N p sc sc v
      | _ => false)
    | _ => false)
  | .augs i j ng p, st => (match st with
    | .AugAssign tg op v _ => (match tg with
      | .Subscript o j' _ => (match o with
        | .Name x _ => (N[i]? == some x) && visB sc x && nodbg x && noSlice j' && augB ng op && (cP tb N j sc sc j' && cP tb N p sc sc v)
        | _ => false)
      | _ => false)
    | _ => false)
  | .app i p, st => (match st with
    | .Expr v _ => (match v with
      | .Call (.Attribute (.Name x _) m ap) [a'] [] cp => (m == ("append" : Str)) && (N[i]? == some x) && visB sc x && nodbg x && (ap.endLine == cp.line) && noStar a' && cP tb N p sc sc a'
      | _ => false)
    | _ => false)
  | .expr p, st => (match st with
    | .Expr v _ => !isComp v && cP tb N p sc sc v
    | _ => false)
  | .ite c a b, st => (match st with
    | .If c' a' b' _ => cP tb N c sc sc c' && (cSs tb N sc a a' && cSs tb N sc b b')
    | _ => false)
  | .for_ tg it body, st => (match st with
    | .For tg' iter body' els _ => els.isEmpty && noSet iter && cTg N sc sc tg tg' && cIt tb N it sc sc tg' iter && cSs tb N sc body body'
    | _ => false)
  | .whl c body, st => (match st with
    | .While c' body' els _ => els.isEmpty && cP tb N c sc sc c' && cSs tb N sc body body'
    | _ => false)
  | .ret p, st => (match st with
    | .Return v _ => (match v with
      | some v => cP tb N p sc sc v
      | none => (match p with | .non => true | _ => false))
    | _ => false)
  | .raise c p, st => (match st with
    | .Raise v w _ => (match v, w with
      | some (.Call (.Name x _) [a'] [] _), none => (tb.cls[c]? == some x) && glbB sc x && nodbg x && noStar a' && cP tb N p sc sc a'
      | _, _ => false)
    | _ => false)
  | .try_ body cl, st => (match st with
    | .Try b hs els fin _ => els.isEmpty && fin.isEmpty && !hs.isEmpty && clOk cl && (cSs tb N sc body b && cCl tb N sc cl hs)
    | _ => false)
  | .pass, st => (match st with
    | .Pass _ => true
    | _ => false)
  | .brk, st => (match st with
    | .Break _ => true
    | _ => false)
  | .cont, st => (match st with
    | .Continue _ => true
    | _ => false)
def cSs (tb : Tab) (N : List Str) (sc : Scope) : Ss → List Stmt → Bool
  | .nil, sts => sts.isEmpty
  | .cons s r, sts => (match sts with
    | st :: rest => cS tb N sc s st && cSs tb N sc r rest
    | [] => false)
end
end Snd
end
section
set_option Elab.async false
set_option linter.all false
set_option maxRecDepth 100000
set_option maxHeartbeats 4000000
namespace Snd
open PySem L2 Ev
theorem _root_.L2.PS.imp {X : Cx} {st : Stmt} {t t' : TS} (h : PS X st t) (i : ∀ D σ H, t' D σ H → t D σ H) : PS X st t' := ⟨fun pins s σ H D I q => h.run pins s σ H D I (i D σ H q)⟩
theorem _root_.L2.PSs.imp {X : Cx} {st : List Stmt} {t t' : TS} (h : PSs X st t) (i : ∀ D σ H, t' D σ H → t D σ H) : PSs X st t' := ⟨fun pins s σ H D I q => h.run pins s σ H D I (i D σ H q)⟩
section
variable {tb : Tab} {pr : EProg} {T : FT} {CA : Nat → Addr} {k : Nat} {N : List Str} {sc : Scope} {X : Cx} {np : Nat} {W : WX}
theorem lclB_ok {x : Str} (G : Good tb pr T CA k N sc sc X) (h : lclB sc x = true) : X.env.scope.names.lookup x = some .local := by
  rw [G.hsc]
  unfold lclB at h
  split at h <;> first | (cases h; done) | assumption
/-- name = value -/
theorem s_set {x : Str} {px pos : Pos} {v : Expr} {p : P} {i : Nat} (G : Good tb pr T CA k N sc sc X) (tk : Takes X W) (hi : N[i]? = some x) (hl : locB sc sc x = true) (ha : (asgB sc x px pos v && (!isComp v || isCompP p)) = true) (hp : cP tb N p sc sc v = true) :
    PS X (.Assign [.Name x px] v pos) (tAsg (tEv X.K CA pr T np W p) (gName i)) := by
  have hN : X.N.Nodup := by rw [G.hN]; exact G.nd
  have hi' : X.N[i]? = some x := by rw [G.hN]; exact hi
  obtain ⟨g1, g2⟩ := locB_ok G hl
  obtain ⟨ha2, hcp⟩ := andb ha
  by_cases hc : isComp v = false
  · exact ps_set hN hi' g1 (okP p G tk hp).e (swaps_no hc _ _ _) g2
  · cases v <;> first | exact absurd rfl hc | skip
    · rename_i elt' gs scope ppos
      by_cases hcel : celB sc x = true
      · exact ps_set hN hi' g1 (okP p G tk hp).e (swaps_cell _ (by rw [G.hsc]; exact hcel)) g2
      have ha2 : (celB sc x || (lclB sc x && (px.line == ppos.line) && !(scope.names.any fun (n, k) => n == x && (k == .local || k == .cell)))) = true := ha2
      rw [Bool.not_eq_true] at hcel
      rw [hcel, Bool.false_or] at ha2
      obtain ⟨h0, h3⟩ := andb ha2
      obtain ⟨h1, h2⟩ := andb h0
      rw [Bool.not_eq_true'] at h3
      have hyl := lclB_ok G h1
      -- the comprehension once more, with its store
      cases p <;> first | (cases hcp; done) | skip
      unfold cP at hp
      rename_i elt tg it cond own
      dsimp only at hp
      split at hp <;> first | (cases hp; done) | skip
      rename_i tg' iter ifs
      obtain ⟨h0, h8⟩ := andb hp
      obtain ⟨h0, h7⟩ := andb h0
      obtain ⟨h0, h6⟩ := andb h0
      obtain ⟨h0, h5⟩ := andb h0
      obtain ⟨h0, h4⟩ := andb h0
      obtain ⟨h0, ht⟩ := andb h0
      obtain ⟨hb, ho⟩ := andb h0
      have ok : BlkOk N sc scope (ownN N own) := blkOk_by hb
      have eo : (ownN N own).map (·.2) = own := of_decide_eq_true ho
      have ok' : BlkOk X.N X.env.scope scope (ownN N own) := by rw [G.hN, G.hsc]; exact ok
      have hsw : swapsWith (.ListComp elt' [⟨tg', iter, ifs, 0⟩] scope ppos) (some (.Name x px)) pos.line X.env = pure true := sw_true (by rw [G.hsc]; exact G.kind) hyl h2 h3
      have base : PS X (.Assign [.Name x px] (.ListComp elt' [⟨tg', iter, ifs, 0⟩] scope ppos) pos) (tAsg (tLc (tIt X.K CA pr T np W it) (gTg X.K tg) (tTs X.K CA pr T np WF cond) (tEv X.K CA pr T np WF elt) ((ownN N own).map (·.2))) (gName i)) :=
        ps_setLc G.calm hN hi' hyl hsw (okIt it G tk h5) ok' (fun s H C cl fp => tg_pg (G.blk ok s H C cl fp) h6)
          (fun s H C cl fp => by
            cases ifs with
            | nil =>
              have hc : cond = .lit (.bool true) := by
                revert h7
                cases cond <;> first | (intro h7; cases h7; done) | skip
                rename_i d
                cases d <;> first | (intro h7; cases h7; done) | skip
                rename_i b
                cases b
                · intro h7; cases h7
                · intro _; rfl
              subst hc
              exact ⟨fun pins s' σ H' Q I q => pts_nil.run pins s' σ H' Q I (by
                obtain ⟨O, e, sr, q2⟩ := q
                exact q2 O H' Stp.refl sr)⟩
            | cons c' r =>
              cases r with
              | cons => cases h7
              | nil => exact pts_one (okP cond (G.blk ok s H C cl fp) takes_blk h7).t)
          (fun s H C cl fp => (okP elt (G.blk ok s H C cl fp) takes_blk h8).e) (fun x => noSet_fold h4 _ x)
      rw [eo] at base
      exact base.imp fun D σ H z => lc_read (allD ht) z
    · cases ha2
    · cases ha2
theorem assign_sub {o i : Expr} {pos : Pos} {env : Env} (h : noSlice i = true) : ∀ v, assign (.Subscript o i pos) env v = (do
      let ov ← holding [v] (eval o env)
      let iv ← holding [v, ov] (eval i env)
      standAt pos
      holding [v, ov, iv] (setItem ov iv v)
      release [v, ov, iv] []) := by
  intro v
  cases i <;> first | rfl | cases h
theorem sub_pg {x : Str} {px pos : Pos} {i : Nat} {j : P} {j' : Expr} (G : Good tb pr T CA k N sc sc X) (tk : Takes X W) (hi : N[i]? = some x) (hv : visB sc x = true) (hd : nodbg x = true) (hs : noSlice j' = true) (hj : cP tb N j sc sc j' = true) :
    PG X (.Subscript (.Name x px) j' pos) (gSub (tVar i) (tEv X.K CA pr T np W j) rSetL) :=
  pg_sub (pe_var (by rw [G.hN]; exact hi) (visB_ok G hv) (nodbg_ok hd).1 (nodbg_ok hd).2) (okP j G tk hj).e set_list (assign_sub hs)
theorem aug_ip {X : Cx} {ng : Bool} {op : Operator} (h : augB ng op = true) : PIp X op (ipI (augI ng)) := by
  cases ng
  · cases op <;> first | (cases h; done) | skip
    exact ip_add
  · cases op <;> first | (cases h; done) | skip
    exact ip_sub
theorem aug_st {i : Expr} (h : noSlice i = true) (ov iv new : Value) : augStore i ov iv new = (do holding [new, ov, iv] (setItem ov iv new); release [new, ov, iv] []; pure .next) := by
  cases i <;> first | rfl | cases h
theorem txs_pg (G : Good tb pr T CA k N sc sc X) (tk : Takes X W) : ∀ {ts : List Tx} {es : List Expr}, cTx tb N sc sc ts es = true → PGs X es (gTxs X.K CA pr T np W ts) ∧ es.all noStar = true ∧ es.length = ts.length
  | [], [], _ => ⟨pgs_nil, rfl, rfl⟩
  | [], _ :: _, h => by cases h
  | _ :: _, [], h => by cases h
  | t :: ts, e :: es, h => by
    obtain ⟨h1, h2⟩ := andb h
    obtain ⟨r1, r2, r3⟩ := txs_pg G tk h2
    have hN : X.N.Nodup := by rw [G.hN]; exact G.nd
    cases t with
    | v i =>
      cases e <;> first | (cases h1; done) | skip
      obtain ⟨h3, h4⟩ := andb h1
      obtain ⟨g1, g2⟩ := locB_ok G h4
      exact ⟨pgs_cons (pg_name hN (by rw [G.hN]; exact getB h3) g1 g2) r1 rfl, by rw [List.all_cons, r2]; rfl, by rw [List.length_cons, List.length_cons, r3]⟩
    | ix i j =>
      cases e <;> first | (cases h1; done) | skip
      rename_i o j' pos
      cases o <;> first | (cases h1; done) | skip
      obtain ⟨h0, g5⟩ := andb h1
      obtain ⟨h0, g4⟩ := andb h0
      obtain ⟨h0, g3⟩ := andb h0
      obtain ⟨g1, g2⟩ := andb h0
      exact ⟨pgs_cons (sub_pg G tk (getB g1) g2 g3 g4 g5) r1 rfl, by rw [List.all_cons, r2]; rfl, by rw [List.length_cons, List.length_cons, r3]⟩
end
section
variable {tb : Tab} {pr : EProg} {T : FT} {CA : Nat → Addr} {k : Nat} {N : List Str} {sc : Scope} {X : Cx}
mutual
theorem okXp (G : Good tb pr T CA k N sc sc X) {a : Addr} {oe : Obj} {cls : Value} {dd : Option Addr} {pn : List (Addr × Obj)} (hz : Zc cls dd oe) (hf : ∃ vs, oe.data = .fields vs) (oi : Option Nat) :
    ∀ (p : Xp) {ex : Expr}, cXp N sc oi p ex = true → PE (X.suite a ((a, oe) :: pn)) ex (tXp X.K a cls dd (oi.getD 0) p)
  | .lit d, ex, h => by
    unfold cXp at h
    cases ex <;> first | (cases h; done) | skip
    rename_i c j pos
    cases d <;> cases c <;> first | (cases h; done) | skip
    · exact pe_non
    · obtain rfl := eq_of_beq h
      exact pe_bl
    · obtain rfl := eq_of_beq h
      exact pe_int
    · obtain rfl := eq_of_beq h
      exact pe_str
  | .val, ex, h => by
    unfold cXp at h
    cases ex <;> first | (cases h; done) | skip
    dsimp only at h
    split at h <;> first | (cases h; done) | skip
    obtain ⟨h0, h4⟩ := andb h
    obtain ⟨h0, h3⟩ := andb h0
    obtain ⟨h1, h2⟩ := andb h0
    obtain rfl := beqS h1
    obtain ⟨d1, d2⟩ := nodbg_ok h4
    exact ⟨fun pins s σ H Q I ⟨C, z1, z2, z3⟩ => (pe_xf (X := X) z1 z2 hz hf (pe_var (by show X.N[_]? = _; rw [G.hN]; exact getB h2) (show Vis X.env.scope _ from visB_ok G h3) d1 d2)).run pins s σ H Q I z3⟩
  | .tup xs, ex, h => by
    unfold cXp at h
    cases ex <;> first | (cases h; done) | skip
    exact pe_tup (okXps G hz hf oi xs h).1
  | .lst xs, ex, h => by
    unfold cXp at h
    cases ex <;> first | (cases h; done) | skip
    exact pe_lst (okXps G hz hf oi xs h).1
theorem okXps (G : Good tb pr T CA k N sc sc X) {a : Addr} {oe : Obj} {cls : Value} {dd : Option Addr} {pn : List (Addr × Obj)} (hz : Zc cls dd oe) (hf : ∃ vs, oe.data = .fields vs) (oi : Option Nat) :
    ∀ (ps : Xps) {es : List Expr}, cXps N sc oi ps es = true → PA (X.suite a ((a, oe) :: pn)) es (tXps X.K a cls dd (oi.getD 0) ps) ∧ es.all noStar = true
  | .nil, es, h => by
    unfold cXps at h
    obtain rfl := nil_of h
    exact ⟨pa_nil, rfl⟩
  | .cons x r, es, h => by
    unfold cXps at h
    cases es with
    | nil => cases h
    | cons e rest =>
      obtain ⟨h1, h2⟩ := andb h
      obtain ⟨h3, h4⟩ := andb h2
      obtain ⟨g1, g2⟩ := okXps G hz hf oi r h4
      exact ⟨pa_cons (okXp G hz hf oi x h3) g1 (noStar_ok h1 _ _), by rw [List.all_cons, h1]; exact g2⟩
end
theorem okSu (G : Good tb pr T CA k N sc sc X) {a : Addr} {oe : Obj} {cls : Value} {dd : Option Addr} {pn : List (Addr × Obj)} (hz : Zc cls dd oe) (hf : ∃ vs, oe.data = .fields vs) (oi : Option Nat) (su : Su) {sts : List Stmt} (h : cSu N sc oi su sts = true) :
    (∃ b r, sts = b :: r) ∧ PSs (X.suite a ((a, oe) :: pn)) sts (tSu X.K a cls dd (oi.getD 0) su) := by
  cases su with
  | asg j p =>
    unfold cSu at h
    dsimp only at h
    split at h <;> first | (cases h; done) | skip
    obtain ⟨h0, h4⟩ := andb h
    obtain ⟨h0, h3⟩ := andb h0
    obtain ⟨h1, h2⟩ := andb h0
    rw [Bool.not_eq_true'] at h3
    have l := lclB_ok G h2
    exact ⟨⟨_, _, rfl⟩, pss_cons (ps_set (by show X.N.Nodup; rw [G.hN]; exact G.nd) (by show X.N[_]? = _; rw [G.hN]; exact getB h1) (.inl l) (okXp G hz hf oi p h4) (swaps_no h3 _ _ _) (.inr l)) pss_nil⟩
  | ret p =>
    unfold cSu at h
    dsimp only at h
    split at h <;> first | (cases h; done) | skip
    exact ⟨⟨_, _, rfl⟩, pss_cons (ps_ret (okXp G hz hf oi p h)) pss_nil⟩
  | pass =>
    unfold cSu at h
    dsimp only at h
    split at h <;> first | (cases h; done) | skip
    exact ⟨⟨_, _, rfl⟩, pss_cons ps_pass pss_nil⟩
theorem hds_mix (G : Good tb pr T CA k N sc sc X) : ∀ (cl : Cl) {hs : List ExceptHandler}, cCl tb N sc cl hs = true → HdsMix X hs (clsL X.K CA cl)
  | .nil, hs, h => by
    unfold cCl at h
    obtain rfl := nil_of h
    exact .nil
  | .cons c oi su r, hs, h => by
    unfold cCl at h
    cases hs with
    | nil => cases h
    | cons hd rest =>
      obtain ⟨ty, nm, suite, pos⟩ := hd
      obtain ⟨h0, h4⟩ := andb h
      obtain ⟨h0, h3⟩ := andb h0
      obtain ⟨h1, h2⟩ := andb h0
      split at h1 <;> first | (cases h1; done) | skip
      obtain ⟨h1, g3⟩ := andb h1
      obtain ⟨g1, g2⟩ := andb h1
      obtain ⟨fI, fd, m1, _⟩ := G.glo.exc c _ (getB g1)
      obtain ⟨b, br, rfl⟩ : ∃ b r, suite = b :: r := (okSu (a := 0) (oe := { cls := .none, data := .fields #[] }) (cls := .none) (dd := none) (pn := []) G ⟨rfl, rfl⟩ ⟨_, rfl⟩ oi su h3).1
      refine .cons ⟨glbB_ok G g2, (nodbg_ok g3).1, .inl m1⟩ ?_ (fun a oe cls d pn hz hf => (okSu G hz hf oi su h3).2) (hds_mix G r h4)
      cases nm with
      | none =>
        cases oi with
        | none => trivial
        | some i => cases h2
      | some n =>
        cases oi with
        | none => cases h2
        | some i =>
          obtain ⟨q1, q2⟩ := andb h2
          exact ⟨by rw [G.hN]; exact getB q1, lclB_ok G q2⟩
end
section
variable {tb : Tab} {pr : EProg} {T : FT} {CA : Nat → Addr} {k : Nat} {N : List Str} {sc : Scope} {np : Nat}
mutual
theorem okS : ∀ (s : S) {X : Cx} {W : WX} {st : Stmt}, Good tb pr T CA k N sc sc X → Takes X W → PassesOwn (model X.prog X.w) X.A X.env X.xe → X.stack = X.env :: X.outer ∧ X.env.frame = some X.env.locals → cS tb N sc s st = true → PS X st (tEx X.K CA pr T np W s)
  | .asg i p, X, W, st, G, tk, hp, hs, h => by
    unfold cS at h
    cases st <;> first | (cases h; done) | skip
    dsimp only at h
    split at h <;> first | (cases h; done) | skip
    obtain ⟨h0, h4⟩ := andb h
    obtain ⟨h0, h3⟩ := andb h0
    obtain ⟨h1, h2⟩ := andb h0
    exact (s_set G tk (getB h1) h2 h3 h4).imp fun D σ H z => r_asg z
  | .own i p, X, W, st, G, tk, hp, hs, h => by
    unfold cS at h
    cases st <;> first | (cases h; done) | skip
    dsimp only at h
    split at h <;> first | (cases h; done) | skip
    obtain ⟨h0, h4⟩ := andb h
    obtain ⟨h0, h3⟩ := andb h0
    obtain ⟨h1, h2⟩ := andb h0
    exact (s_set G tk (getB h1) h2 h3 h4).imp fun D σ H z => r_own z
  | .unp ts p, X, W, st, G, tk, hp, hs, h => by
    unfold cS at h
    cases st <;> first | (cases h; done) | skip
    dsimp only at h
    split at h <;> first | (cases h; done) | skip
    obtain ⟨h0, h3⟩ := andb h
    obtain ⟨h1, h2⟩ := andb h0
    obtain ⟨r1, r2, r3⟩ := txs_pg (np := np) G tk h2
    obtain ⟨e1, e2⟩ := each_ok r2 X.env
    refine (ps_asg (okP (np := np) p G tk h3).e (pg_seqT G.calm r1 rfl e2) (swaps_tup _ _) (stores_tup (by rw [G.hsc]; exact h1)) rfl).imp fun D σ H z => ?_
    rw [e1, r3]
    exact r_unp z
  | .par is ow xs, X, W, st, G, tk, hp, hs, h => by
    unfold cS at h
    cases st <;> first | (cases h; done) | skip
    dsimp only at h
    split at h <;> first | (cases h; done) | skip
    rename_i es kt pt vs k2 pt2
    by_cases hs : noSw sc es (.Tuple vs k2 pt2) = true
    · rw [if_pos hs] at h
      obtain ⟨h0, h3⟩ := andb h
      obtain ⟨h1, h2⟩ := andb h0
      obtain ⟨r1, r2, r3⟩ := names_pg G (show cTg.cNs N sc sc is es = true from h1)
      obtain ⟨e1, e2⟩ := each_ok r2 X.env
      refine (ps_asg (pe_tup (okPs (np := np) xs G tk h2).1) (pg_tup G.calm r1 rfl e2) (swaps_tup _ _) (stores_tup (by rw [G.hsc]; exact hs)) rfl).imp fun D σ H z => ?_
      rw [e1, r3]
      exact r_parT (of_decide_eq_true h3) z
    · rw [if_neg hs] at h
      split at h <;> first | (cases h; done) | skip
      · rename_i x px y py a b i j
        obtain ⟨h0, g12⟩ := andb h
        obtain ⟨h0, g11⟩ := andb h0
        obtain ⟨h0, g10⟩ := andb h0
        obtain ⟨h0, g9⟩ := andb h0
        obtain ⟨h0, g8⟩ := andb h0
        obtain ⟨h0, g7⟩ := andb h0
        obtain ⟨h0, g6⟩ := andb h0
        obtain ⟨h0, g5⟩ := andb h0
        obtain ⟨h0, g4⟩ := andb h0
        obtain ⟨h0, g3⟩ := andb h0
        obtain ⟨g1, g2⟩ := andb h0
        rw [Bool.not_eq_true'] at g6 g7 g10 g11
        have hN : X.N.Nodup := by rw [G.hN]; exact G.nd
        have hij : i ≠ j := fun z => by rw [z] at g7; simp at g7
        have hxy : x ≠ y := fun z => by rw [z] at g6; simp at g6
        have lx := lclB_ok G g3
        have ly := lclB_ok G g4
        refine (ps_par G.calm hN (by rw [G.hN]; exact getB g1) (by rw [G.hN]; exact getB g2) hij lx ly (okPs (np := np) xs G tk g12).1 (sw2 (by rw [G.hsc]; exact G.kind) lx ly g5 hxy g8 g9 g10 g11) (swaps_tup _ _)).imp fun D σ H z => ?_
        obtain ⟨O, e, s, q⟩ := r_par z
        exact ⟨O, e, s, q.mono fun rs O1 H1 e1 st s1 q1 vs rvs => by
          obtain ⟨l, nx⟩ := q1 vs rvs
          match vs, l, nx with
          | [v, w], _, nx => exact ⟨v, w, rfl, nx⟩⟩
      · rename_i x px y py z pz a b c i j l
        obtain ⟨h0, g12⟩ := andb h
        obtain ⟨h0, g11⟩ := andb h0
        obtain ⟨h0, g10⟩ := andb h0
        obtain ⟨h0, g9⟩ := andb h0
        obtain ⟨h0, g8⟩ := andb h0
        obtain ⟨h0, g7⟩ := andb h0
        obtain ⟨h0, g6⟩ := andb h0
        obtain ⟨g1, g5⟩ := andb h0
        obtain ⟨g12', n3⟩ := andb g1
        obtain ⟨n1, n2⟩ := andb g12'
        obtain ⟨l12, l3⟩ := andb g5
        obtain ⟨l1, l2⟩ := andb l12
        obtain ⟨p1, p2⟩ := andb g6
        obtain ⟨d12, d3⟩ := andb g7
        obtain ⟨d1, d2⟩ := andb d12
        obtain ⟨e12, e3⟩ := andb g8
        obtain ⟨e1, e2⟩ := andb e12
        obtain ⟨s12, s3⟩ := andb g9
        obtain ⟨s1, s2⟩ := andb s12
        rw [Bool.not_eq_true'] at d1 d2 d3 e1 e2 e3 g10 g11
        have hN : X.N.Nodup := by rw [G.hN]; exact G.nd
        have ne : ∀ {α : Type} [BEq α] [LawfulBEq α] {p q : α}, (p == q) = false → p ≠ q := fun {α} _ _ {p q} hh z => by rw [z] at hh; simp at hh
        have lx := lclB_ok G l1
        have ly := lclB_ok G l2
        have lz := lclB_ok G l3
        refine (ps_par3 G.calm hN (by rw [G.hN]; exact getB n1) (by rw [G.hN]; exact getB n2) (by rw [G.hN]; exact getB n3) (ne e1) (ne e2) (ne e3) lx ly lz (okPs (np := np) xs G tk g12).1 (sw3 (by rw [G.hsc]; exact G.kind) lx ly lz p1 p2 (ne d1) (ne d2) (ne d3) s1 s2 s3 g10 g11) (swaps_tup _ _)).imp fun D σ H z => ?_
        obtain ⟨O, e, s, q⟩ := r_par z
        exact ⟨O, e, s, q.mono fun rs O1 H1 e1 st s1 q1 vs rvs => by
          obtain ⟨l, nx⟩ := q1 vs rvs
          match vs, l, nx with
          | [u, v, w], _, nx => exact ⟨u, v, w, rfl, nx⟩⟩
  | .seti i j p, X, W, st, G, tk, hp, hs, h => by
    unfold cS at h
    cases st <;> first | (cases h; done) | skip
    dsimp only at h
    split at h <;> first | (cases h; done) | skip
    obtain ⟨h0, g6⟩ := andb h
    obtain ⟨h0, g5⟩ := andb h0
    obtain ⟨h0, g4⟩ := andb h0
    obtain ⟨h0, g3⟩ := andb h0
    obtain ⟨g1, g2⟩ := andb h0
    exact (ps_asg (okP (np := np) p G tk g6).e (sub_pg G tk (getB g1) g2 g3 g4 g5) (swaps_sub _ _) (stores_sub _) rfl).imp fun D σ H z => r_seti z
  | .aug i ng p, X, W, st, G, tk, hp, hs, h => by
    unfold cS at h
    cases st <;> first | (cases h; done) | skip
    dsimp only at h
    split at h <;> first | (cases h; done) | skip
    obtain ⟨h0, h4⟩ := andb h
    obtain ⟨h0, h3⟩ := andb h0
    obtain ⟨h1, h2⟩ := andb h0
    exact (ps_aug (by rw [G.hN]; exact G.nd) (by rw [G.hN]; exact getB h1) (.inl (lclB_ok G h2)) (okP (np := np) p G tk h4).e (aug_ip h3) (.inr (lclB_ok G h2))).imp fun D σ H z => r_aug z
  | .augs i j ng p, X, W, st, G, tk, hp, hs, h => by
    unfold cS at h
    cases st <;> first | (cases h; done) | skip
    dsimp only at h
    split at h <;> first | (cases h; done) | skip
    split at h <;> first | (cases h; done) | skip
    obtain ⟨h0, h6⟩ := andb h
    obtain ⟨h6, h7⟩ := andb h6
    obtain ⟨h0, h5⟩ := andb h0
    obtain ⟨h0, h4⟩ := andb h0
    obtain ⟨h0, h3⟩ := andb h0
    obtain ⟨g1, g2⟩ := andb h0
    exact (ps_augS (pe_var (by rw [G.hN]; exact getB g1) (visB_ok G g2) (nodbg_ok h3).1 (nodbg_ok h3).2) (okP (np := np) j G tk h6).e get_list (okP (np := np) p G tk h7).e (aug_ip h5) set_list (aug_st h4)).imp fun D σ H z => r_augs z
  | .app i p, X, W, st, G, tk, hp, hs, h => by
    unfold cS at h
    cases st <;> first | (cases h; done) | skip
    dsimp only at h
    split at h <;> first | (cases h; done) | skip
    rename_i x px m ap a' cp
    obtain ⟨h0, g7⟩ := andb h
    obtain ⟨h0, g6⟩ := andb h0
    obtain ⟨h0, g5⟩ := andb h0
    obtain ⟨h0, g4⟩ := andb h0
    obtain ⟨h0, g3⟩ := andb h0
    obtain ⟨g1, g2⟩ := andb h0
    obtain rfl := beqS g1
    refine (ps_expr (pe_bm PySem.F.plainAttrs_list PySem.F.slot_list_append PySem.F.type_list_append mt_append (pe_var (by rw [G.hN]; exact getB g2) (visB_ok G g3) (nodbg_ok g4).1 (nodbg_ok g4).2) (pa_cons (okP (np := np) p G tk g7).e pa_nil (noStar_ok g6 _ _)) rfl ?_ g5 (noStar_ok g6 _ _) rfl) rfl).imp fun D σ H z => r_app z
    rw [noStar_ok g6]
    rfl
  | .expr p, X, W, st, G, tk, hp, hs, h => by
    unfold cS at h
    cases st <;> first | (cases h; done) | skip
    obtain ⟨h1, h2⟩ := andb h
    rw [Bool.not_eq_true'] at h1
    exact (ps_expr (okP p G tk h2).e (swaps_no h1 _ _ _)).imp fun D σ H z => r_expr z
  | .ite c a b, X, W, st, G, tk, hp, hs, h => by
    unfold cS at h
    cases st <;> first | (cases h; done) | skip
    obtain ⟨h1, h2⟩ := andb h
    obtain ⟨h3, h4⟩ := andb h2
    exact (ps_if (okP c G tk h1).t (okSs a G tk hp hs h3) (okSs b G tk hp hs h4)).imp fun D σ H z => r_ite z
  | .for_ tg it body, X, W, st, G, tk, hp, hs, h => by
    unfold cS at h
    cases st <;> first | (cases h; done) | skip
    obtain ⟨h0, h5⟩ := andb h
    obtain ⟨h0, h4⟩ := andb h0
    obtain ⟨h0, h3⟩ := andb h0
    obtain ⟨h1, h2⟩ := andb h0
    obtain rfl := nil_of h1
    exact (ps_for hp G.calm (okIt it G tk h4) (tg_pg G h3) (okSs body G tk hp hs h5) (fun x => noSet_fold h2 _ x)).imp fun D σ H z => r_for z
  | .whl c body, X, W, st, G, tk, hp, hs, h => by
    unfold cS at h
    cases st <;> first | (cases h; done) | skip
    obtain ⟨h0, h3⟩ := andb h
    obtain ⟨h1, h2⟩ := andb h0
    obtain rfl := nil_of h1
    exact (ps_while hp (okP c G tk h2).t (okSs body G tk hp hs h3)).imp fun D σ H z => r_whl z
  | .ret p, X, W, st, G, tk, hp, hs, h => by
    unfold cS at h
    cases st <;> first | (cases h; done) | skip
    rename_i v pos
    cases v with
    | some v => exact (ps_ret (okP p G tk h).e).imp fun D σ H z => r_ret z
    | none =>
      cases p <;> first | (cases h; done) | skip
      refine ps_retN.imp fun D σ H z => ?_
      obtain ⟨O, e, s, q⟩ := r_ret z
      exact q O H Stp.refl s _ .non
  | .raise c p, X, W, st, G, tk, hp, hs, h => by
    unfold cS at h
    cases st <;> first | (cases h; done) | skip
    dsimp only at h
    split at h <;> first | (cases h; done) | skip
    rename_i x px a' cp
    obtain ⟨h0, g5⟩ := andb h
    obtain ⟨h0, g4⟩ := andb h0
    obtain ⟨h0, g3⟩ := andb h0
    obtain ⟨g1, g2⟩ := andb h0
    obtain ⟨fI, fd, m1, m2, m3, m4, m5, F, hb⟩ := G.glo.exc c x (getB g1)
    refine (ps_raise G.calm tk (pmk_oex m2 m4 m5 F (G.room.mono G.k3) hb .nil (fun _ _ _ _ _ _ I z => ?_) (glbB_ok G g2) m1 (pa_cons (okP (np := np) p G tk g5).e pa_nil (noStar_ok g4 _ _)) (nodbg_ok g3).1 (noStar_ok g4 _ _) rfl)).imp fun D σ H z => r_raise m2 m3 z
    exact tk _ _ (XE.of_call I (fun _ _ _ w => w.elim) z)
  | .try_ body cl, X, W, st, G, tk, hp, hs, h => by
    unfold cS at h
    cases st <;> first | (cases h; done) | skip
    rename_i b hds els fin pos
    obtain ⟨h0, h1⟩ := andb h
    obtain ⟨h2, h3⟩ := andb h1
    obtain ⟨h0, h4⟩ := andb h0
    obtain ⟨h0, h5⟩ := andb h0
    obtain ⟨h6, h7⟩ := andb h0
    obtain rfl := nil_of h6
    obtain rfl := nil_of h7
    cases hds with
    | nil => cases h5
    | cons h0 hr =>
      exact (ps_try_mix (tb := fun W' => tExs X.K CA pr T np W' body) hs.1 hs.2 (by rw [G.hN]; exact G.nd) tk (fun W' pn xe tk' hp' => okSs body (W := W') (X := X.tr pn xe) ⟨G.hN, G.nd, G.hsc, G.kind, G.calm, G.fn, G.room, G.gd, G.k3, G.glo⟩ tk' hp' hs h2) (hds_mix G cl h3)).imp fun D σ H z => r_try G.glo.sub h4 z
  | .pass, X, W, st, G, tk, hp, hs, h => by
    unfold cS at h
    cases st <;> first | (cases h; done) | skip
    exact ps_pass.imp fun D σ H z => r_pass z
  | .brk, X, W, st, G, tk, hp, hs, h => by
    unfold cS at h
    cases st <;> first | (cases h; done) | skip
    exact ps_break.imp fun D σ H z => r_brk z
  | .cont, X, W, st, G, tk, hp, hs, h => by
    unfold cS at h
    cases st <;> first | (cases h; done) | skip
    exact ps_continue.imp fun D σ H z => r_cont z
theorem okSs : ∀ (s : Ss) {X : Cx} {W : WX} {sts : List Stmt}, Good tb pr T CA k N sc sc X → Takes X W → PassesOwn (model X.prog X.w) X.A X.env X.xe → X.stack = X.env :: X.outer ∧ X.env.frame = some X.env.locals → cSs tb N sc s sts = true → PSs X sts (tExs X.K CA pr T np W s)
  | .nil, X, W, sts, G, tk, hp, hs, h => by
    unfold cSs at h
    obtain rfl := nil_of h
    exact pss_nil.imp fun D σ H z => r_nil z
  | .cons s r, X, W, sts, G, tk, hp, hs, h => by
    unfold cSs at h
    cases sts with
    | nil => cases h
    | cons st rest =>
      obtain ⟨h1, h2⟩ := andb h
      exact (pss_cons (okS s G tk hp hs h1) (okSs r G tk hp hs h2)).imp fun D σ H z => r_seq z
end
end
end Snd
end
section
set_option Elab.async false
set_option linter.all false
set_option maxRecDepth 100000
set_option maxHeartbeats 4000000
namespace Snd
open PySem L2 Ev
/-! ### the entry and the end of a frame -/
section
variable {K : PySem.W.Frag} {CA : Nat → Addr} {O : Own} {H : Hp} {vs : List V} {as : List EArg} {N : List Str} {d : FunD}
theorem start_e {i : Nat} {c : ECell} (h : (startEnv d as)[i]? = some (Plc.own c)) : as[i]? = some (EArg.own c) := by
  unfold startEnv at h
  by_cases hi : i < as.length
  · rw [List.getElem?_append_left (by rw [List.length_map]; exact hi), List.getElem?_map] at h
    cases q : as[i]? with
    | none => rw [q] at h; cases h
    | some a =>
      rw [q] at h
      cases a with
      | d x => cases h
      | own c' =>
        cases h
        rfl
  · rw [List.getElem?_append_right (by rw [List.length_map]; omega), List.getElem?_replicate] at h
    split at h <;> cases h
theorem start_v {i : Nat} (hi : i < vs.length) : (L2.start N vs)[i]? = vs[i]?.map some := by
  unfold L2.start
  rw [List.getElem?_append_left (by rw [List.length_map]; exact hi), List.getElem?_map]
theorem start_a {i : Nat} (hi : i < as.length) : (startEnv d as)[i]? = as[i]?.map argSlot := by
  unfold startEnv
  rw [List.getElem?_append_left (by rw [List.length_map]; exact hi), List.getElem?_map]
theorem own_start {i : Nat} {c : ECell} (h : as[i]? = some (EArg.own c)) : (startEnv d as)[i]? = some (Plc.own c) := by
  rw [start_a (List.getElem?_eq_some_iff.mp h).1, h]
  rfl
theorem start_sr (ar : ArgsR K O H vs as) (h1 : as.length = d.np) (h2 : d.np ≤ d.ns) (h3 : d.ns = N.length) : SR K O (start N vs) H (startEnv d as) where
  len := by
    unfold L2.start startEnv
    rw [List.length_append, List.length_append, List.length_map, List.length_map, List.length_replicate, List.length_replicate, ar.len]
    omega
  at_ := fun i p hp => by
    by_cases hi : i < as.length
    · have hv : i < vs.length := by rw [ar.len]; exact hi
      rw [start_a hi] at hp
      rw [start_v hv]
      cases q : as[i]? with
      | none => rw [q] at hp; cases hp
      | some a =>
        rw [q] at hp
        cases hp
        cases a with
        | d x =>
          obtain ⟨v, g1, g2⟩ := ar.d i x q
          exact ⟨some v, by rw [g1]; rfl, v, rfl, g2⟩
        | own c =>
          obtain ⟨a, g1, g2, g3⟩ := ar.own i c q
          exact ⟨some (.ref a), by rw [g1]; rfl, a, rfl, g2, g3⟩
    · unfold startEnv at hp
      rw [List.getElem?_append_right (by rw [List.length_map]; omega), List.getElem?_replicate] at hp
      split at hp
      · rename_i hlt
        cases hp
        rw [List.length_map] at hlt
        refine ⟨none, ?_, trivial⟩
        unfold L2.start
        rw [List.getElem?_append_right (by rw [List.length_map, ar.len]; omega), List.getElem?_replicate, List.length_map, if_pos (by have := ar.len; omega)]
      · cases hp
  inj := fun i j c c' a q1 q2 q3 q4 => by
    have e1 := start_e q1
    have e2 := start_e q2
    have b1 : i < vs.length := by rw [ar.len]; exact (List.getElem?_eq_some_iff.mp e1).1
    have b2 : j < vs.length := by rw [ar.len]; exact (List.getElem?_eq_some_iff.mp e2).1
    rw [start_v b1] at q3
    rw [start_v b2] at q4
    refine ar.apart i j c c' e1 e2 ?_
    cases w1 : vs[i]? with
    | none => rw [w1] at q3; cases q3
    | some v1 =>
      cases w2 : vs[j]? with
      | none => rw [w2] at q4; cases q4
      | some v2 =>
        rw [w1] at q3
        rw [w2] at q4
        cases q3
        cases q4
        rfl
theorem mine_start {a : Addr} (ar : ArgsR K O H vs as) : Mine (start N vs) (startEnv d as) a ↔ MineA vs as a := by
  constructor
  · rintro ⟨i, c, h1, h2⟩
    have e1 := start_e h1
    have b1 : i < vs.length := by rw [ar.len]; exact (List.getElem?_eq_some_iff.mp e1).1
    rw [start_v b1] at h2
    refine ⟨i, c, e1, ?_⟩
    cases w : vs[i]? with
    | none => rw [w] at h2; cases h2
    | some v =>
      rw [w] at h2
      cases h2
      rfl
  · rintro ⟨i, c, h1, h2⟩
    have b1 : i < vs.length := by rw [ar.len]; exact (List.getElem?_eq_some_iff.mp h1).1
    exact ⟨i, c, own_start h1, by rw [start_v b1, h2]; rfl⟩
theorem start_way (ar : ArgsR K O H vs as) (h1 : as.length = d.np) (h2 : d.np ≤ d.ns) (h3 : d.ns = N.length) : Way K d.np H O (start N vs) H (startEnv d as) where
  sr := start_sr ar h1 h2 h3
  there := fun a h => h
  new := fun i c a hi h _ => by
    have := (List.getElem?_eq_some_iff.mp (start_e h)).1
    omega
/-- behind the body -/
theorem end_back {O' : Own} {σ' : St} {H' : Hp} {e' : FEnv} (ar : ArgsR K O H vs as) (h1 : as.length = d.np) (h2 : d.np ≤ d.ns) (h3 : d.ns = N.length) (st : Stp d.np O (start N vs) H (startEnv d as) O' σ' H' e') (s : SR K O' σ' H' e') : Back K O H vs as (fins as e') O' H' where
  keep := fun a o ha na => by
    obtain ⟨k1, k2, _⟩ := st.keep a o ha fun m => na ((mine_start ar).mp m)
    exact ⟨k1, k2⟩
  there := st.there
  fin := fun i c hi => by
    have hb := (List.getElem?_eq_some_iff.mp hi).1
    obtain ⟨c', g1, g2⟩ := st.par i c (by omega) (own_start hi)
    obtain ⟨a, v1, _, _⟩ := ar.own i c hi
    have b1 : i < vs.length := by rw [ar.len]; exact hb
    rw [start_v b1, v1] at g2
    obtain ⟨o, p1, a', p2, p3, p4⟩ := s.at_ i _ g1
    rw [p1, p2] at g2
    cases g2
    refine ⟨a, c', v1, ?_, p3, p4⟩
    unfold fins
    rw [List.getElem?_zipWith, hi, g1]
    rfl
end
/-! ### a def keeps its promise -/
def fnScB (N ps : List Str) (sc : Scope) : Bool := (match sc.kind with | .function => true | _ => false) && !sc.isCoroutine && !sc.isGenerator && decide N.Nodup && decide (N.take ps.length = ps) &&
  (ps.all fun x => match sc.names.lookup x with | some .local => true | some .cell => true | _ => false) && sc.names.all fun y => match y.2 with | .free => false | _ => true
theorem fnScB_ok {N ps : List Str} {sc : Scope} (h : fnScB N ps sc = true) : FnScope N ps sc := by
  obtain ⟨h, h7⟩ := andb h
  obtain ⟨h, h6⟩ := andb h
  obtain ⟨h, h5⟩ := andb h
  obtain ⟨h, h4⟩ := andb h
  obtain ⟨h, h3⟩ := andb h
  obtain ⟨h1, h2⟩ := andb h
  rw [Bool.not_eq_true'] at h2 h3
  refine ⟨?_, h2, h3, of_decide_eq_true h4, of_decide_eq_true h5, fun x hx => ?_, fun y hy e => ?_⟩
  · split at h1 <;> first | (cases h1; done) | assumption
  · have w := List.all_eq_true.mp h6 x hx
    split at w <;> first | (cases w; done) | skip
    · exact .inl (by assumption)
    · exact .inr (by assumption)
  · have w := List.all_eq_true.mp h7 y hy
    rw [e] at w
    cases w
/-- a def's row: its names, its body -/
structure Row where
  ps : List Str
  N : List Str
  sc : Scope
  body : List Stmt
def cD (tb : Tab) (r : Row) (d : FunD) : Bool := fnScB r.N r.ps r.sc && decide (d.np = r.ps.length) && decide (d.ns = r.N.length) && decide (d.np ≤ d.ns) && cSs tb r.N r.sc d.body r.body
section
variable {P : Program} {w : World} {K : PySem.W.Frag} {mg : Str → Option Value} {base : Heap} {tb : Tab} {pr : EProg} {defs : List FunD} {CA : Nat → Addr} {k : Nat}
theorem def_ok {n i : Nat} {r : Row} {d : FunD} {f : Addr} {fd : FuncData} {x qual : Str} {params : Arguments} (k3 : 3 ≤ k) (G : Glo tb pr (run pr defs n) CA k P w K mg base) (F : L2.FunD K x qual params r.body r.sc [] [] f fd) (hd : defs[i]? = some d) (hc : cD tb r d = true) :
    FnG P w K mg base (L2.CX P w) (k + 1) f fd r.ps (spT K CA (run pr defs (n + 1)) i r.ps.length) := by
  obtain ⟨hc, h5⟩ := andb hc
  obtain ⟨hc, h4⟩ := andb hc
  obtain ⟨hc, h3⟩ := andb hc
  obtain ⟨h1, h2⟩ := andb hc
  have S := fnScB_ok h1
  have e2 := of_decide_eq_true h2
  have e3 := of_decide_eq_true h3
  have e4 := of_decide_eq_true h4
  refine FnG.of F S (fun vs H Q E ⟨O, as, hl, _⟩ => hl) fun cdv A outer s H vs Q E hr hgd hsp => ?_
  have Gd : Good tb pr (run pr defs n) CA k r.N r.sc r.sc (cxOf (L2.CX P w) P w K mg base r.N qual r.sc f cdv A outer s H E) := ⟨rfl, S.nd, rfl, S.kind, rfl, fun _ _ => rfl, hr, hgd, k3, G⟩
  refine ⟨_, okSs (np := d.np) d.body (W := fun cls dd _ H => E cls dd H) Gd (takes_of rfl rfl rfl rfl) (passes_of rfl) ⟨rfl, rfl⟩ h5, ?_⟩
  obtain ⟨O, as, hl, ar, hT⟩ := hsp
  have la : as.length = d.np := by rw [← ar.len, hl, e2]
  have hrun : run pr defs (n + 1) i as = finish as (exs pr (run pr defs n) d.np d.body (startEnv d as)) := by
    show (match defs[i]? with | none => CallOut.stuck | some d => if as.length = d.np ∧ d.np ≤ d.ns then finish as (exs pr (run pr defs n) d.np d.body (startEnv d as)) else CallOut.stuck) = _
    rw [hd]
    show (if as.length = d.np ∧ d.np ≤ d.ns then finish as (exs pr (run pr defs n) d.np d.body (startEnv d as)) else CallOut.stuck) = _
    rw [if_pos ⟨la, e4⟩]
  rw [hrun] at hT
  refine ⟨H, O, startEnv d as, start_way ar la e4 e3, ?_⟩
  cases q : exs pr (run pr defs n) d.np d.body (startEnv d as) with
  | stuck => rw [q] at hT; exact hT.elim
  | err c dd e' =>
    rw [q] at hT
    show Aft K CA d.np _ O _ H _ (exs pr (run pr defs n) d.np d.body (startEnv d as)) _
    rw [q]
    exact fun O' σ' H' cls ddx st sr ex => hT O' H' cls ddx (end_back ar la e4 e3 st sr) ex
  | ok fl e' =>
    rw [q] at hT
    show Aft K CA d.np _ O _ H _ (exs pr (run pr defs n) d.np d.body (startEnv d as)) _
    rw [q]
    cases fl with
    | brk => exact hT.elim
    | cont => exact hT.elim
    | next => exact fun O' σ' H' st sr => hT O' H' .non (end_back ar la e4 e3 st sr) .non
    | ret r =>
      cases r with
      | slot j => exact hT.elim
      | d x => exact fun O' σ' H' st sr v rv => hT O' H' v (end_back ar la e4 e3 st sr) rv
      | fresh c =>
        intro O' σ' H' st sr v rv
        obtain ⟨a, g1, g2, g3, _, g5⟩ := rv
        exact hT O' H' v (end_back ar la e4 e3 st sr) ⟨a, g1, g2, g3, g5⟩
/-- what the head tells: all of it stands still -/
structure Facts (tb : Tab) (rows : List Row) (defs : List FunD) (globs : List D) (sub : Nat → Nat → Option Bool) (CA : Nat → Addr) (P : Program) (w : World) (K : PySem.W.Frag) (mg : Str → Option Value) (base : Heap) : Prop where
  funs : ∀ (i : Nat) (x : Str) (ps : List Str), tb.fn[i]? = some (x, ps) → ∃ (f : Addr) (fd : FuncData) (r : Row) (d : FunD) (y qual : Str) (params : Arguments), rows[i]? = some r ∧ defs[i]? = some d ∧ r.ps = ps ∧ mg x = some (.ref f) ∧ PySem.W.keepIn K (.ref f) = true ∧
    L2.FunD K y qual params r.body r.sc [] [] f fd ∧ Binds K fd ps [] ∧ cD tb r d = true ∧
    (∀ m ks perm, (i, m, ks, perm) ∈ tb.kw → (perm.Nodup ∧ perm.length = ps.length ∧ ∀ j ∈ perm, j < m + ks.length) ∧ ∀ (s : Shared) (us ws : List Value), us.length = m → ws.length = ks.length → BindsTo s fd ⟨us, ks.zip ws⟩ (ps.zip (pick (us ++ ws) perm)))
  gl : ∀ (g : Nat) (x : Str), tb.gl[g]? = some x → ∃ u v d, mg x = some u ∧ RelV v u ∧ globs[g]? = some d ∧ ∀ O H, Rep K O H v d
  blt : ∀ x ∈ bnames, mg x = none
  exc : ∀ (c : Nat) (x : Str), tb.cls[c]? = some x → ∃ fI fd, mg x = some (.ref (CA c)) ∧ OexC K (CA c) ∧ PySem.W.findIn K (.ref (CA c)) "value" = some none ∧ PySem.W.findIn K (.ref (CA c)) "__init__" = some (some (.ref fI)) ∧
    PySem.W.typeIn K (.ref fI) = some (.type "function") ∧ FnOk P w K mg base (L2.CX P w) 2 fI fd ["self", "value"] (spInit K) ∧ Binds K fd ["self", "value"] []
  gcd : tb.gcd = true → mg "gcd" = some (.builtin "math.gcd")
  sub : ∀ c c' b, sub c c' = some b → PySem.W.exmOne K (.ref (CA c)) (.ref (CA c')) = some b ∧ XfC K (CA c) ∧ PySem.W.findIn K (.ref (CA c)) "value" = some none
theorem Facts.glo {rows : List Row} (F : Facts tb rows defs pr.globs pr.sub CA P w K mg base) : ∀ n : Nat, Glo tb pr (run pr defs n) CA (n + 3) P w K mg base
  | 0 => {
    funs := fun i x ps h => by
      obtain ⟨f, fd, r, d, y, qual, params, h1, h2, h3, h4, h5, h6, h7, h8, h9⟩ := F.funs i x ps h
      refine ⟨f, fd, h4, h5, ⟨fun vs H Q E ⟨O, as, hl, _⟩ => hl, fun A outer s H args us vs Q E _ _ _ _ _ hsp => ?_⟩, h7, h9⟩
      obtain ⟨O, as, _, _, z⟩ := hsp
      exact z.elim
    gl := F.gl
    blt := F.blt
    exc := F.exc
    gcd := F.gcd
    sub := F.sub }
  | n + 1 => {
    funs := fun i x ps h => by
      obtain ⟨f, fd, r, d, y, qual, params, h1, h2, h3, h4, h5, h6, h7, h8, h9⟩ := F.funs i x ps h
      refine ⟨f, fd, h4, h5, ?_, h7, h9⟩
      subst h3
      exact def_ok (by omega) (F.glo n) h6 h2 h8
    gl := F.gl
    blt := F.blt
    exc := F.exc
    gcd := F.gcd
    sub := F.sub }
end
end Snd
end
section
set_option Elab.async false
set_option linter.all false
set_option maxRecDepth 100000
set_option maxHeartbeats 4000000
namespace Snd
open PySem L2 Ev
/-! ### the exceptions' own __init__ -/
section
variable {P : Program} {w : World} {K : PySem.W.Frag} {mg : Str → Option Value} {base : Heap} {f : Addr} {fd : FuncData} {params : Arguments} {sc : Scope}
theorem init_ok {x qual : Str} {p1 p2 p3 p4 p5 p6 p7 p8 p9 p10 : Pos} (hc : ∀ env : Env, eval (.Call (.Attribute (.Name "ValueError" p1) "__init__" p2) [.Name "self" p3, .Name "value" p4] [] p5) env = (do
      let ov ← eval (.Name "ValueError" p1) env
      standAt p2.atName
      let (f, first) ← holding [ov] (getMethod ov "__init__" (do return (← importBound (.Name "ValueError" p1) env).getD true))
      callWith p5 f first (backTo p5 (starEach [.Name "self" p3, .Name "value" p4] env)) (backToKw p5 (keywordEach [] env)))) (F : L2.FunD K x qual params [.Expr (.Call (.Attribute (.Name "ValueError" p1) "__init__" p2) [.Name "self" p3, .Name "value" p4] [] p5) p6, .Assign [.Attribute (.Name "self" p7) "value" p8] (.Name "value" p9) p10] sc [] [] f fd)
    (S : FnScope ["self", "value"] ["self", "value"] sc) (h1 : sc.names.lookup ("self" : Str) = some .local) (h2 : sc.names.lookup ("value" : Str) = some .local) (h3 : sc.names.lookup ("ValueError" : Str) = some .globalImplicit) (hm : mg "ValueError" = none)
    (vV : PySem.W.findCls K (.type "ValueError") (.type "type") "__init__" = some (.val (.builtin "ValueError.__init__"))) : FnOk P w K mg base (L2.CX P w) 2 f fd ["self", "value"] (spInit K) := by
  refine (F.ok (k := 1) S (fun vs H Q E h => ?_) fun cdv A outer s H vs Q E hr h => ?_)
  · obtain ⟨a, C, v, rfl, _⟩ := h
    rfl
  · refine ⟨tSeq (tDrop (tVeI K (tCons (tVar 0) (tCons (tVar 1) tNil)))) (tOst K "value" (tVar 0) (tVar 1)), ?_, ?_⟩
    · exact pss_cons (ps_expr (pe_veinit (pl := do return (← importBound (.Name "ValueError" p1) (cxOf (L2.CX P w) P w K mg base ["self", "value"] qual sc f cdv A outer s H E).env).getD true) h3 hm vV (pa_cons (pe_var rfl (.inl h1)) (pa_cons (pe_var rfl (.inl h2)) pa_nil)) (hc _))) (pss_one (ps_ost (pe_var rfl (.inl h1)) (pe_var rfl (.inl h2))))
    · obtain ⟨a, C, v, rfl, hC, hv, ha, hq⟩ := h
      exact ⟨.ref a, rfl, v, rfl, a, C, [v], rfl, by simp, hC, ha, v, rfl, .ref a, rfl, a, C, rfl, hC, hv, .inl ⟨ha, fun dx hdx ne => hq dx hdx ne⟩⟩
end
def oexB (K : PySem.W.Frag) (C : Addr) : Bool := (match K.lookup C with
  | some ⟨.type "type", _, .cls cd, sl⟩ => (match cd.mro, sl.toList with
    | .ref C' :: bm, [_, _, _, _, some (.builtin n), _] => C' == C && n == "ValueError.__new__" && !cd.hasDel && cd.hasDict && PySem.HandSPX.refsVE bm
    | _, _ => false)
  | _ => false) && (decide (PySem.W.findIn K (.ref C) "__setattr__" = some (some (.builtin "object.__setattr__"))) && (decide (PySem.W.subIn K (.ref C) (.type "BaseException") = some true) && (decide (PySem.W.typeIn K (.ref C) = some (.type "type")) && PySem.W.keepIn K (.ref C))))
theorem oexB_ok {K : PySem.W.Frag} {C : Addr} (h : oexB K C = true) : OexC K C := by
  obtain ⟨h0, h1⟩ := andb h
  obtain ⟨h1, h2⟩ := andb h1
  obtain ⟨h2, h3⟩ := andb h2
  obtain ⟨h3, h4⟩ := andb h3
  refine ⟨?_, of_decide_eq_true h1, of_decide_eq_true h2, of_decide_eq_true h3, h4⟩
  split at h0
  · rename_i dd cd sl ho
    split at h0
    · rename_i C' bm k0 k1 k2 k3 n k5 hm hs
      simp only [Bool.and_eq_true, beq_iff_eq, Bool.not_eq_true'] at h0
      obtain ⟨⟨⟨⟨rfl, rfl⟩, hdel⟩, hdict⟩, hr⟩ := h0
      obtain ⟨nm, bs, mro, ns, qn, hd, sn, sub, ab, col, del⟩ := cd
      dsimp only at hm hdel hdict
      subst hm hdel hdict
      have hsl : sl = #[k0, k1, k2, k3, some (.builtin "ValueError.__new__"), k5] := by
        obtain ⟨l⟩ := sl
        simp only at hs
        rw [hs]
      subst hsl
      exact ⟨nm, qn, ns, bs, bm, sn, sub, ab, col, dd, k0, k1, k2, k3, k5, ho, hr⟩
    · cases h0
  · cases h0
/-- what an exception class must have; i: where its __init__ stands -/
def exB (K : PySem.W.Frag) (x i : Str) : Bool := oexB K (He.ga K x) && (decide (PySem.W.findIn K (.ref (He.ga K x)) "value" = some none) && (decide (PySem.W.findIn K (.ref (He.ga K x)) "__init__" = some (some (.ref (He.ma K (He.ga K i) "__init__")))) && decide (PySem.W.typeIn K (.ref (He.ma K (He.ga K i) "__init__")) = some (.type "function"))))
def vvB (K : PySem.W.Frag) : Bool := match PySem.W.findCls K (.type "ValueError") (.type "type") "__init__" with
  | some (.val (.builtin n)) => n == "ValueError.__init__"
  | _ => false
theorem vvB_ok {K : PySem.W.Frag} (h : vvB K = true) : PySem.W.findCls K (.type "ValueError") (.type "type") "__init__" = some (.val (.builtin "ValueError.__init__")) := by
  unfold vvB at h
  split at h
  · rename_i n e
    rw [e, eq_of_beq h]
  · cases h
/-! ### the head's hook, widened by one test -/
/-- the written part without its lists -/
def noL (K : PySem.W.Frag) : PySem.W.Frag := (K.map (·.1)).filterMap fun a => match K.lookup a with
  | some o => (match o.cls with
    | .type n => if n == "list" then none else some (a, o)
    | _ => some (a, o))
  | none => none
theorem noL_mem {K : PySem.W.Frag} {a : Addr} {o : Obj} (h : (a, o) ∈ noL K) : K.lookup a = some o ∧ o.cls ≠ .type "list" := by
  obtain ⟨b, hb, e⟩ := List.mem_filterMap.mp h
  cases q : K.lookup b with
  | none => rw [q] at e; cases e
  | some o2 =>
    rw [q] at e
    have e' : (match o2.cls with | .type n => if n == "list" then none else some (b, o2) | _ => some (b, o2)) = some (a, o) := e
    split at e'
    · rename_i n hn
      split at e'
      · cases e'
      · rename_i hl
        cases e'
        refine ⟨q, fun z => hl ?_⟩
        rw [hn] at z
        rw [Value.type.inj z]
        rfl
    · rename_i hn
      cases e'
      exact ⟨q, fun z => hn _ z⟩
theorem lookup_mem {α : Type} : ∀ {l : List (Addr × α)} {a : Addr} {o : α}, l.lookup a = some o → (a, o) ∈ l
  | (k, v) :: r, a, o, h => by
    rw [List.lookup_cons] at h
    cases hb : a == k with
    | true =>
      rw [hb] at h
      have e : a = k := eq_of_beq hb
      cases h
      rw [e]
      exact List.mem_cons_self
    | false =>
      rw [hb] at h
      exact List.mem_cons_of_mem _ (lookup_mem h)
theorem noL_in {K : PySem.W.Frag} {h : Heap} (X : K.In h) : (noL K).In h := fun a o e => X a o (noL_mem (lookup_mem e)).1
theorem noL_list {K : PySem.W.Frag} {a : Addr} {o : Obj} (e : (noL K).lookup a = some o) : o.cls ≠ .type "list" := (noL_mem (lookup_mem e)).2
def NoLists (K : PySem.W.Frag) : Prop := ∀ a o, K.lookup a = some o → o.cls ≠ .type "list"
/-- the objects at these addresses, lists left out -/
def noF (g : Addr → Option Obj) (as : List Addr) : PySem.W.Frag := as.filterMap fun a => match g a with
  | some o => (match o.cls with
    | .type n => if n == "list" then none else some (a, o)
    | _ => some (a, o))
  | none => none
theorem noF_mem {g : Addr → Option Obj} {as : List Addr} {a : Addr} {o : Obj} (h : (a, o) ∈ noF g as) : g a = some o ∧ o.cls ≠ .type "list" := by
  obtain ⟨b, hb, e⟩ := List.mem_filterMap.mp h
  cases q : g b with
  | none => rw [q] at e; cases e
  | some o2 =>
    rw [q] at e
    have e' : (match o2.cls with | .type n => if n == "list" then none else some (b, o2) | _ => some (b, o2)) = some (a, o) := e
    split at e'
    · rename_i n hn
      split at e'
      · cases e'
      · rename_i hl
        cases e'
        refine ⟨q, fun z => hl ?_⟩
        rw [hn] at z
        rw [Value.type.inj z]
        rfl
    · rename_i hn
      cases e'
      exact ⟨q, fun z => hn _ z⟩
theorem noF_in {as : List Addr} {h : Heap} : (noF h.get? as).In h := fun a o e => (noF_mem (lookup_mem e)).1
theorem noF_list {g : Addr → Option Obj} {as : List Addr} {a : Addr} {o : Obj} (e : (noF g as).lookup a = some o) : o.cls ≠ .type "list" := (noF_mem (lookup_mem e)).2
def hookX (n : List Addr) (fa : List He.Fa) (fn : List He.DefD) (ex : PySem.W.Frag → Bool) : PySem.W.Hook where
  α := He.AlD × Bool
  obs := fun s => (He.obsD fa fn (noF s.heap.get? n), ex (noF s.heap.get? n))
  val := fun _ => (He.valD fn, true)
  says := fun _ h => ∃ K : PySem.W.Frag, K.In h ∧ He.SaysD fa fn K ∧ ex K = true ∧ NoLists K
  of := fun _ _ e => ⟨_, noF_in, congrArg Prod.fst e, congrArg Prod.snd e, fun _ _ z => noF_list z⟩
  keeps := fun _ _ _ ⟨K, hK, c⟩ k => ⟨K, PySem.W.Frag.In.keeps hK k, c⟩
def obX (n : List Addr) (fa : List He.Fa) (fn : List He.DefD) (ex : PySem.W.Frag → Bool) (s : PySem.W.SharedT) : He.AlD × Bool := (He.obsD fa fn (noF (HandSHeadRun.getT s) n), ex (noF (HandSHeadRun.getT s) n))
theorem obX_eq (n : List Addr) (fa : List He.Fa) (fn : List He.DefD) (ex : PySem.W.Frag → Bool) (s : PySem.W.SharedT) : obX n fa fn ex s = (hookX n fa fn ex).obs s.abs := by
  have e : HandSHeadRun.getT s = s.abs.heap.get? := funext (HandSHeadRun.getT_eq s)
  unfold obX
  rw [e]
  rfl
theorem obs_join {fa : List He.Fa} {f1 f2 : List He.DefD} {K : PySem.W.Frag} (b : He.obsD fa f1 K = He.valD f1) (c : He.obsD [] f2 K = He.valD f2) : He.obsD fa (f1 ++ f2) K = He.valD (f1 ++ f2) := by
  have b1 : ((fa.all fun f => f.ok K) && f1.all fun d => d.ok K) = true := congrArg (fun z : He.AlD => z.1) b
  have b2 : (f1.map fun d => He.fnW K d.at_) = f1.map He.DefD.val := congrArg (fun z : He.AlD => z.2) b
  have c1 : (([] : List He.Fa).all (fun f => f.ok K) && f2.all fun d => d.ok K) = true := congrArg (fun z : He.AlD => z.1) c
  have c2 : (f2.map fun d => He.fnW K d.at_) = f2.map He.DefD.val := congrArg (fun z : He.AlD => z.2) c
  have c3 : (f2.all fun d => d.ok K) = true := c1
  rw [Bool.and_eq_true] at b1
  show ((fa.all fun f => f.ok K) && (f1 ++ f2).all fun d => d.ok K, (f1 ++ f2).map fun d => He.fnW K d.at_) = (true, (f1 ++ f2).map He.DefD.val)
  rw [List.all_append, List.map_append, List.map_append, b1.1, b1.2, b2, c2, c3]
  rfl
open PySem.W in
/-- the head's one run, looked at in three parts -/
theorem head_join {r : PySem.W.OpenRow} {q : Program} {n : List Addr} {fa : List He.Fa} {f1 f2 : List He.DefD} {ex : PySem.W.Frag → Bool} {M : Nat} {loose : List Str} {w : World}
    (a : (HandSHeadRun.wholeF (fun p => HandSHeadRun.stepQ (HandSHeadRun.denQ HandSHeadRun.tabQ) p w) HandSHeadRun.fenceQ M r.prog).map (fun x => (HandSHeadRun.looksF r.prog x.1.heap x.2.abs, HandSHeadRun.seenQ q loose (importedModules r.prog.main.body) (fun s => xlAt q [] s && recOk r.toRowW.records s) x.2.abs)) = some (true, openGood q loose))
    (b : (HandSHeadRun.wholeF (fun p => HandSHeadRun.stepQ (HandSHeadRun.denQ HandSHeadRun.tabQ) p w) HandSHeadRun.fenceQ M r.prog).map (fun x => obX n fa f1 (fun _ => true) x.2) = some (He.valD f1, true))
    (c : (HandSHeadRun.wholeF (fun p => HandSHeadRun.stepQ (HandSHeadRun.denQ HandSHeadRun.tabQ) p w) HandSHeadRun.fenceQ M r.prog).map (fun x => obX n [] f2 ex x.2) = some (He.valD f2, true)) :
    HandSHeadRun.RunEqI r q (hookX n fa (f1 ++ f2) ex) (obX n fa (f1 ++ f2) ex) M loose w := by
  unfold HandSHeadRun.RunEqI
  obtain ⟨x, hx, ha⟩ := Option.map_eq_some_iff.mp a
  rw [hx] at b c ⊢
  have b' : obX n fa f1 (fun _ => true) x.2 = (He.valD f1, true) := Option.some.inj b
  have c' : obX n [] f2 ex x.2 = (He.valD f2, true) := Option.some.inj c
  obtain ⟨a1, a2⟩ := Prod.mk.inj ha
  have b1 : He.obsD fa f1 (noF (HandSHeadRun.getT x.2) n) = He.valD f1 := congrArg Prod.fst b'
  have c1 : He.obsD [] f2 (noF (HandSHeadRun.getT x.2) n) = He.valD f2 := congrArg Prod.fst c'
  have c2 : ex (noF (HandSHeadRun.getT x.2) n) = true := congrArg Prod.snd c'
  have o : obX n fa (f1 ++ f2) ex x.2 = (He.valD (f1 ++ f2), true) := by
    show (He.obsD fa (f1 ++ f2) _, ex _) = _
    rw [obs_join b1 c1, c2]
  show some (_, _, obX n fa (f1 ++ f2) ex x.2) = some (true, openGood q loose, (He.valD (f1 ++ f2), true))
  rw [a1, a2, o]
theorem bindsK {K : PySem.W.Frag} {x qual : Str} {params : Arguments} {body : List Stmt} {scope : Scope} {kws : List (Str × V)} {f : Addr} {fd : FuncData} {ps ks : List Str} {m : Nat} {perm : List Nat} (F : L2.FunD K x qual params body scope [] kws f fd)
    (h : ∀ (kV doc pm : Value) (an : Option Addr) (cdv ct : Value) (us ws : List Value), us.length = m → ws.length = ks.length → bindArgs (PySem.W.fnOf x qual params body scope .none kV doc pm an cdv ct) ⟨us, ks.zip ws⟩ = pure (ps.zip (pick (us ++ ws) perm)))
    (s : Shared) (us ws : List Value) (h1 : us.length = m) (h2 : ws.length = ks.length) : BindsTo s fd ⟨us, ks.zip ws⟩ (ps.zip (pick (us ++ ws) perm)) := by
  obtain ⟨oc, od, dV, kV, doc, pm, an, cdv, ct, osl, rfl, lk, hcd, hD, hK⟩ := F.ex
  rcases hD with ⟨_, rfl⟩ | ⟨e, _⟩
  · exact .of_eq (h kV doc pm an cdv ct us ws h1 h2)
  · exact absurd rfl e
/-- where nothing may be raised, the way of exceptions is no matter -/
theorem fn_calm {P : Program} {w : World} {K : PySem.W.Frag} {mg : Str → Option Value} {base : Heap} {k : Nat} {f : Addr} {fd : FuncData} {ps : List Str} {sp sp' : Sp} (F : FnG P w K mg base (L2.CX P w) k f fd ps sp)
    (h : ∀ vs H Q E, sp' vs H Q E → sp vs H Q fun _ _ _ => False) : FnG P w K mg base CX0 k f fd ps sp' := by
  refine ⟨fun vs H Q E q => F.len vs H Q _ (h _ _ _ _ q), fun A outer s H args us vs Q E hr hgd he hb hv hs => ?_⟩
  refine codeAny_mono (F.run A outer s H args us vs Q (fun _ _ _ => False) hr hgd he hb hv (h _ _ _ _ hs)) fun r s' hq => ?_
  cases r with
  | error e =>
    obtain ⟨_, _, _, _, _, _, _, _, _, _, _, _, z⟩ := hq
    exact z.elim
  | ok fl =>
    cases fl with
    | ret u => exact hq
    | next => exact hq.elim
    | brk => exact hq.elim
    | cont => exact hq.elim
end Snd
end
section
set_option Elab.async false
set_option linter.all false
set_option maxRecDepth 100000
set_option maxHeartbeats 4000000
namespace Snd
open PySem L2 Ev
theorem rep_ints {K : PySem.W.Frag} {O : Own} {H : Hp} : ∀ ns : List Int, RepAll K O H (ns.map V.int) (ns.map PyData.int)
  | [] => .nil
  | n :: ns => .cons (.int n) (rep_ints ns)
theorem fn_any {α : Type} {P : Program} {w : World} {K : PySem.W.Frag} {mg : Str → Option Value} {base : Heap} {CX : CXT} {k : Nat} {f : Addr} {fd : FuncData} {ps : List Str} {sp : α → Sp} (F : ∀ a, FnG P w K mg base CX k f fd ps (sp a)) :
    FnG P w K mg base CX k f fd ps fun vs H Q E => ∃ a, sp a vs H Q E :=
  ⟨fun vs H Q E ⟨a, h⟩ => (F a).len vs H Q E h, fun A outer s H args us vs Q E hr hgd he hb hv ⟨a, hs⟩ => (F a).run A outer s H args us vs Q E hr hgd he hb hv hs⟩
/-- THE WALK: what the evaluator says of the law's def -/
theorem law_walk {l : PySem.W.OpenLaw} {q : Program} {loose : List Str} {XP : (Str → Option Value) → Heap → Prop} {YP : World → Heap → Prop} {d : DefRec} {CA : PySem.W.Frag → Nat → Addr} {i : Nat} {tb : Tab} {rows : List Row} {defs : List Ev.FunD} {globs : List D} {sub : Nat → Nat → Option Bool} {x : Str} {r : Row} {d0 : Ev.FunD}
    (hK : ∀ ns : List Int, ns.length ≤ 63 → ∃ fuel fin, Ev.run ⟨globs, fuel, sub⟩ defs 60 i [.d (.list (ns.map PyData.int))] = .ok (.d (.bool true)) fin)
    (hn : l.most = some 63) (hdf : d.params.defaults = []) (hr : Room 63 callerA) (hd : defs[i]? = some d0) (hc : cD tb r d0 = true) (hps : r.ps = [x])
    (F : ∀ (w : World) (mg : Str → Option Value) (fa : Addr) (h : Heap), YP w h → h.Ns mainGlobals mg → mg d.name = some (.ref fa) →
      ∃ (K : PySem.W.Frag) (fd : FuncData) (y qual : Str) (params : Arguments), K.In h ∧ NoLists K ∧ (∀ (s : Shared) (u : Value), BindsTo s fd ⟨[u], []⟩ [(x, u)]) ∧ L2.FunD K y qual params r.body r.sc [] [] fa fd ∧
        ∀ base : Heap, K.In base → base.Ns mainGlobals mg → Facts tb rows defs globs sub (CA K) l.prog w K mg base) :
    PySem.W.WalkO q loose XP YP l.row.toRowW d [] (fun f vs => PySem.call f vs) := by
  refine walk_lawG (l := l) (n := 63) (k := 63) (x := x) (CX := CX0) hn (by decide) hdf hr ?_ fun _ _ _ _ z => z
  intro w mg fa h Y G hmg
  obtain ⟨K, fd, y, qual, params, KX, nl, hb, FD, hF⟩ := F w mg fa h Y G hmg
  refine ⟨K, fd, fun vs H Q _ => ∃ fuel : Nat, spT K (CA K) (Ev.run ⟨globs, fuel, sub⟩ defs 60) i 1 vs H Q fun _ _ _ => False, KX, nl, hb, fun H a ns hl hS => ?_, fun base hKb hNb => ?_⟩
  · obtain ⟨fuel, fin, e⟩ := hK ns hl
    have rd : Rd H a (.lst (ns.map V.int)) := by
      rcases hS with hS | ⟨o, its, n, h1, h2, _⟩
      · exact hS
      · exact absurd h2 (nl a o h1)
    refine ⟨fuel, fun _ => False, [.d (.list (ns.map PyData.int))], rfl, ⟨rfl, fun j z hj => ?_, fun j c hj => ?_, fun j1 j2 c c' h1 => ?_⟩, ?_⟩
    · cases j with
      | zero =>
        cases hj
        exact ⟨_, rfl, .lst rd (fun z => z) (rep_ints ns)⟩
      | succ j => simp at hj
    · cases j with
      | zero => cases hj
      | succ j => simp at hj
    · cases j1 with
      | zero => cases h1
      | succ j => simp at h1
    · rw [e]
      intro O' H' v _ rv
      cases (show Rep K O' H' v (.bool true) from rv)
      rfl
  · have Fc := hF base hKb hNb
    have base1 : ∀ fuel : Nat, FnG l.prog w K mg base (L2.CX l.prog w) 63 fa fd [x] (spT K (CA K) (Ev.run ⟨globs, fuel, sub⟩ defs 60) i 1) := fun fuel => by
      have z := def_ok (k := 62) (n := 59) (i := i) (r := r) (d := d0) (pr := ⟨globs, fuel, sub⟩) (by omega) (Facts.glo (pr := ⟨globs, fuel, sub⟩) Fc 59) FD hd hc
      rw [hps] at z
      exact z
    exact fn_calm (fn_any base1) fun vs H Q E ⟨fuel, z⟩ => ⟨fuel, z⟩
end Snd
end
section
set_option Elab.async false
set_option linter.all false
set_option maxRecDepth 100000
set_option maxHeartbeats 4000000
namespace K01
open Ev
/-- is_integer(value): 0 value -/
def d_is_integer : FunD := ⟨1, 1,
  (.cons (.ret (.and (.isi (.v 0) [.int]) (.nt (.isi (.v 0) [.bool])))) .nil)⟩
/-- is_pair(value): 0 value -/
def d_is_pair : FunD := ⟨1, 1,
  (.cons (.ret (.and (.isi (.v 0) [.tuple]) (.cmp .eq (.blt .len (.cons (.v 0) .nil)) (.lit (.int 2))))) .nil)⟩
/-- lowest(top, bottom): 0 top 1 bottom 2 common -/
def d_lowest : FunD := ⟨2, 3,
  (.cons (.asg 2 (.blt .gcd (.cons (.v 0) (.cons (.v 1) .nil)))) (.cons (.ite (.cmp .lt (.v 1) (.lit (.int 0))) (.cons (.asg 2 (.neg (.v 2))) .nil) .nil) (.cons (.ret (.tup (.cons (.bin .fdiv (.v 0) (.v 2)) (.cons (.bin .fdiv (.v 1) (.v 2)) .nil)))) .nil)))⟩
/-- sum_of_two(a, b): 0 a 1 b -/
def d_sum_of_two : FunD := ⟨2, 2,
  (.cons (.ite (.and (.cmp .eq (.ix (.v 0) (.lit (.int 1))) (.lit (.int 1))) (.cmp .eq (.ix (.v 1) (.lit (.int 1))) (.lit (.int 1)))) (.cons (.ret (.tup (.cons (.bin .add (.ix (.v 0) (.lit (.int 0))) (.ix (.v 1) (.lit (.int 0)))) (.cons (.lit (.int 1)) .nil)))) .nil) .nil) (.cons (.ret (.call 2 (.cons (.cap (.bin .add (.bin .mul (.ix (.v 0) (.lit (.int 0))) (.ix (.v 1) (.lit (.int 1)))) (.bin .mul (.ix (.v 1) (.lit (.int 0))) (.ix (.v 0) (.lit (.int 1)))))) (.cons (.cap (.bin .mul (.ix (.v 0) (.lit (.int 1))) (.ix (.v 1) (.lit (.int 1))))) .nil)) .nil [])) .nil))⟩
/-- opposite(a): 0 a -/
def d_opposite : FunD := ⟨1, 1,
  (.cons (.ret (.tup (.cons (.neg (.ix (.v 0) (.lit (.int 0)))) (.cons (.ix (.v 0) (.lit (.int 1))) .nil)))) .nil)⟩
/-- difference(a, b): 0 a 1 b -/
def d_difference : FunD := ⟨2, 2,
  (.cons (.ret (.call 3 (.cons (.v 0) (.cons (.cap (.call 4 (.cons (.v 1) .nil) .nil [])) .nil)) .nil [])) .nil)⟩
/-- product(a, b): 0 a 1 b -/
def d_product : FunD := ⟨2, 2,
  (.cons (.ite (.and (.cmp .eq (.ix (.v 0) (.lit (.int 1))) (.lit (.int 1))) (.cmp .eq (.ix (.v 1) (.lit (.int 1))) (.lit (.int 1)))) (.cons (.ret (.tup (.cons (.bin .mul (.ix (.v 0) (.lit (.int 0))) (.ix (.v 1) (.lit (.int 0)))) (.cons (.lit (.int 1)) .nil)))) .nil) .nil) (.cons (.ret (.call 2 (.cons (.cap (.bin .mul (.ix (.v 0) (.lit (.int 0))) (.ix (.v 1) (.lit (.int 0))))) (.cons (.cap (.bin .mul (.ix (.v 0) (.lit (.int 1))) (.ix (.v 1) (.lit (.int 1))))) .nil)) .nil [])) .nil))⟩
/-- quotient(a, b): 0 a 1 b -/
def d_quotient : FunD := ⟨2, 2,
  (.cons (.ret (.call 2 (.cons (.cap (.bin .mul (.ix (.v 0) (.lit (.int 0))) (.ix (.v 1) (.lit (.int 1))))) (.cons (.cap (.bin .mul (.ix (.v 0) (.lit (.int 1))) (.ix (.v 1) (.lit (.int 0))))) .nil)) .nil [])) .nil)⟩
/-- is_less(a, b): 0 a 1 b -/
def d_is_less : FunD := ⟨2, 2,
  (.cons (.ret (.cmp .lt (.bin .mul (.ix (.v 0) (.lit (.int 0))) (.ix (.v 1) (.lit (.int 1)))) (.bin .mul (.ix (.v 1) (.lit (.int 0))) (.ix (.v 0) (.lit (.int 1)))))) .nil)⟩
/-- sum_of_all(row): 0 row 1 total 2 a -/
def d_sum_of_all : FunD := ⟨1, 3,
  (.cons (.asg 1 (.tup (.cons (.lit (.int 0)) (.cons (.lit (.int 1)) .nil)))) (.cons (.for_ (.v 2) (.seq (.v 0)) (.cons (.asg 1 (.call 3 (.cons (.v 1) (.cons (.v 2) .nil)) .nil [])) .nil)) (.cons (.ret (.v 1)) .nil)))⟩
/-- is_number(told): 0 told -/
def d_is_number : FunD := ⟨1, 1,
  (.cons (.ite (.or (.nt (.call 1 (.cons (.v 0) .nil) .nil [])) (.or (.nt (.call 0 (.cons (.cap (.ix (.v 0) (.lit (.int 0)))) .nil) .nil [])) (.or (.nt (.call 0 (.cons (.cap (.ix (.v 0) (.lit (.int 1)))) .nil) .nil [])) (.cmp .lt (.ix (.v 0) (.lit (.int 1))) (.lit (.int 1)))))) (.cons (.ret (.lit (.bool false))) .nil) .nil) (.cons (.ret (.cmp .eq (.call 2 (.cons (.cap (.ix (.v 0) (.lit (.int 0)))) (.cons (.cap (.ix (.v 0) (.lit (.int 1)))) .nil)) .nil []) (.v 0))) .nil))⟩
/-- check_numbers(row): 0 row 1 a -/
def d_check_numbers : FunD := ⟨1, 2,
  (.cons (.for_ (.v 1) (.seq (.v 0)) (.cons (.ite (.nt (.call 10 (.cons (.v 1) .nil) .nil [])) (.cons (.raise 1 (.v 1)) .nil) .nil) .nil)) .nil)⟩
/-- check_count(n): 0 n -/
def d_check_count : FunD := ⟨1, 1,
  (.cons (.ite (.or (.nt (.call 0 (.cons (.v 0) .nil) .nil [])) (.cmp .lt (.v 0) (.lit (.int 0)))) (.cons (.raise 1 (.v 0)) .nil) .nil) .nil)⟩
/-- number(top, bottom): 0 top 1 bottom -/
def d_number : FunD := ⟨2, 2,
  (.cons (.ite (.cmp .eq (.v 1) (.lit (.int 0))) (.cons (.raise 2 (.v 0)) .nil) .nil) (.cons (.ret (.call 2 (.cons (.v 0) (.cons (.v 1) .nil)) .nil [])) .nil))⟩
/-- plus(a, b): 0 a 1 b -/
def d_plus : FunD := ⟨2, 2,
  (.cons (.expr (.call 11 (.cons (.tup (.cons (.v 0) (.cons (.v 1) .nil))) .nil) .nil [])) (.cons (.ret (.call 3 (.cons (.v 0) (.cons (.v 1) .nil)) .nil [])) .nil))⟩
/-- minus(a, b): 0 a 1 b -/
def d_minus : FunD := ⟨2, 2,
  (.cons (.expr (.call 11 (.cons (.tup (.cons (.v 0) (.cons (.v 1) .nil))) .nil) .nil [])) (.cons (.ret (.call 5 (.cons (.v 0) (.cons (.v 1) .nil)) .nil [])) .nil))⟩
/-- times(a, b): 0 a 1 b -/
def d_times : FunD := ⟨2, 2,
  (.cons (.expr (.call 11 (.cons (.tup (.cons (.v 0) (.cons (.v 1) .nil))) .nil) .nil [])) (.cons (.ret (.call 6 (.cons (.v 0) (.cons (.v 1) .nil)) .nil [])) .nil))⟩
/-- by(a, b): 0 a 1 b -/
def d_by : FunD := ⟨2, 2,
  (.cons (.expr (.call 11 (.cons (.tup (.cons (.v 0) (.cons (.v 1) .nil))) .nil) .nil [])) (.cons (.ite (.cmp .eq (.v 1) (.glob 0)) (.cons (.raise 2 (.v 0)) .nil) .nil) (.cons (.ret (.call 7 (.cons (.v 0) (.cons (.v 1) .nil)) .nil [])) .nil)))⟩
/-- power_of(a, n): 0 a 1 n 2 found -/
def d_power_of : FunD := ⟨2, 3,
  (.cons (.asg 2 (.glob 1)) (.cons (.whl (.cmp .gt (.v 1) (.lit (.int 0))) (.cons (.ite (.cmp .eq (.bin .mod (.v 1) (.lit (.int 2))) (.lit (.int 1))) (.cons (.asg 2 (.call 6 (.cons (.v 2) (.cons (.v 0) .nil)) .nil [])) .nil) .nil) (.cons (.asg 0 (.call 6 (.cons (.v 0) (.cons (.v 0) .nil)) .nil [])) (.cons (.asg 1 (.bin .fdiv (.v 1) (.lit (.int 2)))) .nil)))) (.cons (.ret (.v 2)) .nil)))⟩
/-- power(a, n): 0 a 1 n -/
def d_power : FunD := ⟨2, 2,
  (.cons (.expr (.call 11 (.cons (.tup (.cons (.v 0) .nil)) .nil) .nil [])) (.cons (.expr (.call 12 (.cons (.v 1) .nil) .nil [])) (.cons (.ret (.call 18 (.cons (.v 0) (.cons (.v 1) .nil)) .nil [])) .nil)))⟩
/-- below(a, b): 0 a 1 b -/
def d_below : FunD := ⟨2, 2,
  (.cons (.expr (.call 11 (.cons (.tup (.cons (.v 0) (.cons (.v 1) .nil))) .nil) .nil [])) (.cons (.ret (.call 8 (.cons (.v 0) (.cons (.v 1) .nil)) .nil [])) .nil))⟩
/-- least_of(row): 0 row 1 found 2 a -/
def d_least_of : FunD := ⟨1, 3,
  (.cons (.asg 1 (.ix (.v 0) (.lit (.int 0)))) (.cons (.for_ (.v 2) (.seq (.v 0)) (.cons (.ite (.call 8 (.cons (.v 2) (.cons (.v 1) .nil)) .nil []) (.cons (.asg 1 (.v 2)) .nil) .nil) .nil)) (.cons (.ret (.v 1)) .nil)))⟩
/-- greatest_of(row): 0 row 1 found 2 a -/
def d_greatest_of : FunD := ⟨1, 3,
  (.cons (.asg 1 (.ix (.v 0) (.lit (.int 0)))) (.cons (.for_ (.v 2) (.seq (.v 0)) (.cons (.ite (.call 8 (.cons (.v 1) (.cons (.v 2) .nil)) .nil []) (.cons (.asg 1 (.v 2)) .nil) .nil) .nil)) (.cons (.ret (.v 1)) .nil)))⟩
/-- check_some(numbers): 0 numbers -/
def d_check_some : FunD := ⟨1, 1,
  (.cons (.expr (.call 11 (.cons (.v 0) .nil) .nil [])) (.cons (.ite (.cmp .eq (.blt .len (.cons (.v 0) .nil)) (.lit (.int 0))) (.cons (.raise 1 (.v 0)) .nil) .nil) .nil))⟩
/-- least(numbers): 0 numbers -/
def d_least : FunD := ⟨1, 1,
  (.cons (.expr (.call 23 (.cons (.v 0) .nil) .nil [])) (.cons (.ret (.call 21 (.cons (.v 0) .nil) .nil [])) .nil))⟩
/-- greatest(numbers): 0 numbers -/
def d_greatest : FunD := ⟨1, 1,
  (.cons (.expr (.call 23 (.cons (.v 0) .nil) .nil [])) (.cons (.ret (.call 22 (.cons (.v 0) .nil) .nil [])) .nil))⟩
/-- total(numbers): 0 numbers -/
def d_total : FunD := ⟨1, 1,
  (.cons (.expr (.call 11 (.cons (.v 0) .nil) .nil [])) (.cons (.ret (.call 9 (.cons (.v 0) .nil) .nil [])) .nil))⟩
/-- _law_deck(script, k): 0 script 1 k 2 cell 3 stir -/
def d__law_deck : FunD := ⟨2, 4,
  (.cons (.asg 2 (.lit (.int 0))) (.cons (.ite (.cmp .lt (.v 1) (.blt .len (.cons (.v 0) .nil))) (.cons (.asg 2 (.ix (.v 0) (.v 1))) .nil) .nil) (.cons (.asg 3 (.bin .mod (.blt .int (.cons (.bin .add (.bin .add (.v 2) (.bin .mul (.lit (.int 7919)) (.v 1))) (.lit (.int 104729))) .nil)) (.lit (.int 2305843009213693951)))) (.cons (.asg 3 (.bin .mod (.blt .int (.cons (.bin .add (.bin .add (.bin .mul (.bin .mul (.v 3) (.v 3)) (.v 3)) (.bin .mul (.lit (.int 31)) (.v 1))) (.lit (.int 7))) .nil)) (.lit (.int 2305843009213693951)))) (.cons (.ite (.cmp .lt (.v 2) (.bin .pow (.lit (.int 10)) (.lit (.int 18)))) (.cons (.ret (.lst (.cons (.lit (.int 0)) (.cons (.v 3) .nil)))) .nil) .nil) (.cons (.ret (.lst (.cons (.bin .sub (.v 2) (.bin .pow (.lit (.int 10)) (.lit (.int 18)))) (.cons (.v 3) .nil)))) .nil))))))⟩
/-- _law_take(deck, many): 0 deck 1 many 2 taken -/
def d__law_take : FunD := ⟨2, 3,
  (.cons (.ite (.cmp .gt (.ix (.v 0) (.lit (.int 0))) (.lit (.int 0))) (.cons (.asg 2 (.bin .mod (.blt .int (.cons (.ix (.v 0) (.lit (.int 0))) .nil)) (.v 1))) (.cons (.seti 0 (.lit (.int 0)) (.bin .fdiv (.ix (.v 0) (.lit (.int 0))) (.v 1))) (.cons (.ret (.v 2)) .nil))) .nil) (.cons (.seti 0 (.lit (.int 1)) (.bin .mod (.blt .int (.cons (.bin .add (.bin .mul (.ix (.v 0) (.lit (.int 1))) (.lit (.int 6364136223846793005))) (.lit (.int 1442695040888963407))) .nil)) (.bin .pow (.lit (.int 2)) (.lit (.int 64))))) (.cons (.ret (.bin .mod (.bin .fdiv (.ix (.v 0) (.lit (.int 1))) (.bin .pow (.lit (.int 2)) (.lit (.int 33)))) (.v 1))) .nil)))⟩
/-- _law_gcd(u, v): 0 u 1 v -/
def d__law_gcd : FunD := ⟨2, 2,
  (.cons (.whl (.cmp .ne (.v 1) (.lit (.int 0))) (.cons (.par [0, 1] [false, false] (.cons (.v 1) (.cons (.bin .mod (.blt .int (.cons (.v 0) .nil)) (.v 1)) .nil))) .nil)) (.cons (.ret (.v 0)) .nil))⟩
/-- _law_pair(upper, lower): 0 upper 1 lower 2 common -/
def d__law_pair : FunD := ⟨2, 3,
  (.cons (.asg 2 (.call 29 (.cons (.cap (.blt .abs (.cons (.v 0) .nil))) (.cons (.cap (.blt .abs (.cons (.v 1) .nil))) .nil)) .nil [])) (.cons (.ite (.cmp .lt (.v 1) (.lit (.int 0))) (.cons (.asg 2 (.neg (.v 2))) .nil) .nil) (.cons (.ret (.tup (.cons (.bin .fdiv (.v 0) (.v 2)) (.cons (.bin .fdiv (.v 1) (.v 2)) .nil)))) .nil)))⟩
/-- _law_plus(u, v): 0 u 1 v -/
def d__law_plus : FunD := ⟨2, 2,
  (.cons (.ret (.call 30 (.cons (.cap (.bin .add (.bin .mul (.ix (.v 0) (.lit (.int 0))) (.ix (.v 1) (.lit (.int 1)))) (.bin .mul (.ix (.v 1) (.lit (.int 0))) (.ix (.v 0) (.lit (.int 1)))))) (.cons (.cap (.bin .mul (.ix (.v 0) (.lit (.int 1))) (.ix (.v 1) (.lit (.int 1))))) .nil)) .nil [])) .nil)⟩
/-- _law_times(u, v): 0 u 1 v -/
def d__law_times : FunD := ⟨2, 2,
  (.cons (.ret (.call 30 (.cons (.cap (.bin .mul (.ix (.v 0) (.lit (.int 0))) (.ix (.v 1) (.lit (.int 0))))) (.cons (.cap (.bin .mul (.ix (.v 0) (.lit (.int 1))) (.ix (.v 1) (.lit (.int 1))))) .nil)) .nil [])) .nil)⟩
/-- _law_less(u, v): 0 u 1 v -/
def d__law_less : FunD := ⟨2, 2,
  (.cons (.ret (.cmp .lt (.bin .sub (.bin .mul (.ix (.v 0) (.lit (.int 0))) (.ix (.v 1) (.lit (.int 1)))) (.bin .mul (.ix (.v 1) (.lit (.int 0))) (.ix (.v 0) (.lit (.int 1))))) (.lit (.int 0)))) .nil)⟩
/-- _law_same(found, due): 0 found 1 due 2 k -/
def d__law_same : FunD := ⟨2, 3,
  (.cons (.ite (.isi (.v 1) [.tuple, .list]) (.cons (.ite (.or (.cmp .ne (.isi (.v 0) [.tuple]) (.isi (.v 1) [.tuple])) (.cmp .ne (.isi (.v 0) [.list]) (.isi (.v 1) [.list]))) (.cons (.ret (.lit (.bool false))) .nil) .nil) (.cons (.ite (.cmp .ne (.blt .len (.cons (.v 0) .nil)) (.blt .len (.cons (.v 1) .nil))) (.cons (.ret (.lit (.bool false))) .nil) .nil) (.cons (.ret (.cmp .eq (.comp (.v 2) (.v 2) (.r1 (.blt .len (.cons (.v 1) .nil))) (.nt (.call 34 (.cons (.cap (.ix (.v 0) (.v 2))) (.cons (.cap (.ix (.v 1) (.v 2))) .nil)) .nil [])) [2]) (.lst .nil))) .nil))) .nil) (.cons (.ite (.isN (.v 1)) (.cons (.ret (.isN (.v 0))) .nil) .nil) (.cons (.ite (.isi (.v 1) [.str]) (.cons (.ret (.and (.isi (.v 0) [.str]) (.cmp .eq (.v 0) (.v 1)))) .nil) .nil) (.cons (.ite (.or (.isi (.v 1) [.bool]) (.isi (.v 0) [.bool])) (.cons (.ret (.and (.isi (.v 1) [.bool]) (.and (.isi (.v 0) [.bool]) (.cmp .eq (.v 0) (.v 1))))) .nil) .nil) (.cons (.ret (.and (.isi (.v 0) [.int]) (.cmp .eq (.v 0) (.v 1)))) .nil)))))⟩
/-- _law_integer(deck): 0 deck 1 few 2 base 3 value -/
def d__law_integer : FunD := ⟨1, 4,
  (.cons (.asg 1 (.call 28 (.cons (.v 0) (.cons (.cap (.bin .pow (.lit (.int 10)) (.lit (.int 6)))) .nil)) .nil [])) (.cons (.asg 2 (.bin .add (.lit (.int 1)) (.call 28 (.cons (.v 0) (.cons (.cap (.bin .pow (.lit (.int 10)) (.lit (.int 9)))) .nil)) .nil []))) (.cons (.asg 3 (.ix (.lst (.cons (.lit (.int 0)) (.cons (.v 1) (.cons (.bin .fdiv (.v 1) (.bin .pow (.lit (.int 10)) (.lit (.int 5)))) (.cons (.bin .pow (.v 2) (.lit (.int 3))) (.cons (.bin .add (.bin .pow (.v 2) (.lit (.int 9))) (.v 1)) (.cons (.lit (.int 1)) (.cons (.lit (.int 2)) .nil)))))))) (.call 28 (.cons (.v 0) (.cons (.lit (.int 7)) .nil)) .nil []))) (.cons (.ret (.ix (.lst (.cons (.v 3) (.cons (.neg (.v 3)) .nil))) (.call 28 (.cons (.v 0) (.cons (.lit (.int 2)) .nil)) .nil []))) .nil))))⟩
/-- _law_couple(deck): 0 deck 1 upper 2 lower 3 way 4 more -/
def d__law_couple : FunD := ⟨1, 5,
  (.cons (.par [1, 2] [false, false] (.cons (.call 35 (.cons (.v 0) .nil) .nil []) (.cons (.call 35 (.cons (.v 0) .nil) .nil []) .nil))) (.cons (.asg 3 (.call 28 (.cons (.v 0) (.cons (.lit (.int 4)) .nil)) .nil [])) (.cons (.ite (.or (.cmp .eq (.v 3) (.lit (.int 0))) (.cmp .eq (.v 2) (.lit (.int 0)))) (.cons (.ret (.tup (.cons (.v 1) (.cons (.v 2) .nil)))) .nil) .nil) (.cons (.ite (.cmp .eq (.v 3) (.lit (.int 1))) (.cons (.asg 4 (.bin .add (.lit (.int 2)) (.call 28 (.cons (.v 0) (.cons (.lit (.int 30)) .nil)) .nil []))) (.cons (.ret (.tup (.cons (.bin .mul (.v 1) (.v 4)) (.cons (.bin .mul (.blt .abs (.cons (.v 2) .nil)) (.v 4)) .nil)))) .nil)) .nil) (.cons (.ret (.call 30 (.cons (.v 1) (.cons (.v 2) .nil)) .nil [])) .nil)))))⟩
/-- _law_own(deck): 0 deck 1 upper 2 lower -/
def d__law_own : FunD := ⟨1, 3,
  (.cons (.par [1, 2] [false, false] (.cons (.call 35 (.cons (.v 0) .nil) .nil []) (.cons (.call 35 (.cons (.v 0) .nil) .nil []) .nil))) (.cons (.ret (.call 30 (.cons (.v 1) (.cons (.cap (.bin .add (.v 2) (.blt .int (.cons (.cmp .eq (.v 2) (.lit (.int 0))) .nil)))) .nil)) .nil [])) .nil))⟩
/-- _law_small(deck): 0 deck -/
def d__law_small : FunD := ⟨1, 1,
  (.cons (.ret (.call 30 (.cons (.cap (.bin .sub (.call 28 (.cons (.v 0) (.cons (.lit (.int 21)) .nil)) .nil []) (.lit (.int 10)))) (.cons (.cap (.bin .add (.lit (.int 1)) (.call 28 (.cons (.v 0) (.cons (.lit (.int 6)) .nil)) .nil []))) .nil)) .nil [])) .nil)⟩
/-- _law_is(pair): 0 pair -/
def d__law_is : FunD := ⟨1, 1,
  (.cons (.ret (.and (.cmp .gt (.ix (.v 0) (.lit (.int 1))) (.lit (.int 0))) (.cmp .eq (.call 29 (.cons (.cap (.blt .abs (.cons (.ix (.v 0) (.lit (.int 0))) .nil))) (.cons (.cap (.ix (.v 0) (.lit (.int 1)))) .nil)) .nil []) (.lit (.int 1))))) .nil)⟩
/-- _law_divided(door, u, named): 0 door 1 u 2 named 3 answer 4 e -/
def d__law_divided : FunD := ⟨3, 5,
  (.cons (.asg 3 (.lst (.cons (.lit (.str "")) (.cons (.lit .none) .nil)))) (.cons (.try_ (.cons (.ite (.cmp .eq (.v 0) (.lit (.int 0))) (.cons (.asg 3 (.lst (.cons (.lit (.str "none")) (.cons (.ite (.v 2) (.call 13 .nil (.cons (.lit (.int 0)) (.cons (.cap (.ix (.v 1) (.lit (.int 0)))) .nil)) [1, 0]) (.call 13 (.cons (.cap (.ix (.v 1) (.lit (.int 0)))) (.cons (.lit (.int 0)) .nil)) .nil [])) .nil)))) .nil) (.cons (.asg 3 (.lst (.cons (.lit (.str "none")) (.cons (.ite (.v 2) (.call 17 .nil (.cons (.tup (.cons (.lit (.int 0)) (.cons (.lit (.int 1)) .nil))) (.cons (.v 1) .nil)) [1, 0]) (.call 17 (.cons (.v 1) (.cons (.tup (.cons (.lit (.int 0)) (.cons (.lit (.int 1)) .nil))) .nil)) .nil [])) .nil)))) .nil)) .nil) (.cons 1 (some 4) (.asg 3 (.lst (.cons (.lit (.str "number")) (.cons .val .nil)))) (.cons 2 (some 4) (.asg 3 (.lst (.cons (.lit (.str "zero")) (.cons .val .nil)))) .nil))) (.cons (.ret (.v 3)) .nil)))⟩
/-- _law_two_right(u, v): 0 u 1 v 2 opposite_v -/
def d__law_two_right : FunD := ⟨2, 3,
  (.cons (.asg 2 (.tup (.cons (.neg (.ix (.v 1) (.lit (.int 0)))) (.cons (.ix (.v 1) (.lit (.int 1))) .nil)))) (.cons (.ite (.nt (.call 34 (.cons (.cap (.lst (.cons (.call 14 (.cons (.v 0) (.cons (.v 1) .nil)) .nil []) (.cons (.call 14 .nil (.cons (.v 1) (.cons (.v 0) .nil)) [1, 0]) .nil)))) (.cons (.cap (.bin .mul (.lst (.cons (.call 31 (.cons (.v 0) (.cons (.v 1) .nil)) .nil []) .nil)) (.lit (.int 2)))) .nil)) .nil [])) (.cons (.ret (.lit (.bool false))) .nil) .nil) (.cons (.ite (.nt (.call 34 (.cons (.cap (.lst (.cons (.call 15 (.cons (.v 0) (.cons (.v 1) .nil)) .nil []) (.cons (.call 15 .nil (.cons (.v 1) (.cons (.v 0) .nil)) [1, 0]) .nil)))) (.cons (.cap (.bin .mul (.lst (.cons (.call 31 (.cons (.v 0) (.cons (.v 2) .nil)) .nil []) .nil)) (.lit (.int 2)))) .nil)) .nil [])) (.cons (.ret (.lit (.bool false))) .nil) .nil) (.cons (.ite (.nt (.call 34 (.cons (.cap (.lst (.cons (.call 16 (.cons (.v 0) (.cons (.v 1) .nil)) .nil []) (.cons (.call 16 .nil (.cons (.v 1) (.cons (.v 0) .nil)) [1, 0]) .nil)))) (.cons (.cap (.bin .mul (.lst (.cons (.call 32 (.cons (.v 0) (.cons (.v 1) .nil)) .nil []) .nil)) (.lit (.int 2)))) .nil)) .nil [])) (.cons (.ret (.lit (.bool false))) .nil) .nil) (.cons (.ite (.and (.cmp .ne (.ix (.v 1) (.lit (.int 0))) (.lit (.int 0))) (.nt (.call 34 (.cons (.cap (.lst (.cons (.call 17 (.cons (.v 0) (.cons (.v 1) .nil)) .nil []) (.cons (.call 17 .nil (.cons (.v 1) (.cons (.v 0) .nil)) [1, 0]) .nil)))) (.cons (.cap (.bin .mul (.lst (.cons (.call 30 (.cons (.cap (.bin .mul (.ix (.v 0) (.lit (.int 0))) (.ix (.v 1) (.lit (.int 1))))) (.cons (.cap (.bin .mul (.ix (.v 0) (.lit (.int 1))) (.ix (.v 1) (.lit (.int 0))))) .nil)) .nil []) .nil)) (.lit (.int 2)))) .nil)) .nil []))) (.cons (.ret (.lit (.bool false))) .nil) .nil) (.cons (.ret (.call 34 (.cons (.cap (.lst (.cons (.call 20 (.cons (.v 0) (.cons (.v 1) .nil)) .nil []) (.cons (.call 20 .nil (.cons (.v 1) (.cons (.v 0) .nil)) [1, 0]) (.cons (.call 20 (.cons (.v 0) (.cons (.v 0) .nil)) .nil []) .nil))))) (.cons (.cap (.bin .add (.bin .mul (.lst (.cons (.call 33 (.cons (.v 0) (.cons (.v 1) .nil)) .nil []) .nil)) (.lit (.int 2))) (.lst (.cons (.lit (.bool false)) .nil)))) .nil)) .nil [])) .nil))))))⟩
/-- _law_power_right(u, many): 0 u 1 many 2 due 3 k -/
def d__law_power_right : FunD := ⟨2, 4,
  (.cons (.asg 2 (.tup (.cons (.lit (.int 1)) (.cons (.lit (.int 1)) .nil)))) (.cons (.for_ (.v 3) (.r1 (.v 1)) (.cons (.asg 2 (.call 32 (.cons (.v 2) (.cons (.v 0) .nil)) .nil [])) .nil)) (.cons (.ret (.call 34 (.cons (.cap (.lst (.cons (.call 19 (.cons (.v 0) (.cons (.v 1) .nil)) .nil []) (.cons (.call 19 .nil (.cons (.v 1) (.cons (.v 0) .nil)) [1, 0]) .nil)))) (.cons (.cap (.lst (.cons (.v 2) (.cons (.v 2) .nil)))) .nil)) .nil [])) .nil)))⟩
/-- _law_row_right(deck, row): 0 deck 1 row 2 kept 3 due 4 u 5 given 6 low 7 high -/
def d__law_row_right : FunD := ⟨2, 8,
  (.cons (.par [2, 3] [false, false] (.cons (.blt .repr (.cons (.v 1) .nil)) (.cons (.tup (.cons (.lit (.int 0)) (.cons (.lit (.int 1)) .nil))) .nil))) (.cons (.for_ (.v 4) (.seq (.v 1)) (.cons (.asg 3 (.call 31 (.cons (.v 3) (.cons (.v 4) .nil)) .nil [])) .nil)) (.cons (.asg 5 (.ix (.lst (.cons (.v 1) (.cons (.blt .tuple (.cons (.v 1) .nil)) .nil))) (.call 28 (.cons (.v 0) (.cons (.lit (.int 2)) .nil)) .nil []))) (.cons (.ite (.nt (.call 34 (.cons (.cap (.lst (.cons (.call 26 (.cons (.v 5) .nil) .nil []) (.cons (.call 26 .nil (.cons (.v 5) .nil) [0]) .nil)))) (.cons (.cap (.lst (.cons (.v 3) (.cons (.v 3) .nil)))) .nil)) .nil [])) (.cons (.ret (.lit (.bool false))) .nil) .nil) (.cons (.ite (.cmp .ne (.v 1) (.lst .nil)) (.cons (.par [6, 7] [false, false] (.cons (.call 24 (.cons (.v 5) .nil) .nil []) (.cons (.call 25 (.cons (.v 5) .nil) .nil []) .nil))) (.cons (.ite (.or (.cmp .notin (.v 6) (.v 1)) (.or (.cmp .notin (.v 7) (.v 1)) (.nt (.call 34 (.cons (.cap (.lst (.cons (.call 24 .nil (.cons (.v 5) .nil) [0]) (.cons (.call 25 .nil (.cons (.v 5) .nil) [0]) .nil)))) (.cons (.cap (.lst (.cons (.v 6) (.cons (.v 7) .nil)))) .nil)) .nil [])))) (.cons (.ret (.lit (.bool false))) .nil) .nil) (.cons (.ite (.cmp .ne (.comp (.v 4) (.v 4) (.seq (.v 1)) (.or (.call 33 (.cons (.v 4) (.cons (.v 6) .nil)) .nil []) (.call 33 (.cons (.v 7) (.cons (.v 4) .nil)) .nil [])) [4]) (.lst .nil)) (.cons (.ret (.lit (.bool false))) .nil) .nil) (.cons (.ite (.nt (.call 34 (.cons (.cap (.lst (.cons (.v 6) (.cons (.v 7) .nil)))) (.cons (.cap (.lst (.cons (.ix (.v 1) (.indx (.v 1) (.v 6))) (.cons (.ix (.v 1) (.indx (.v 1) (.v 7))) .nil)))) .nil)) .nil [])) (.cons (.ret (.lit (.bool false))) .nil) .nil) .nil)))) .nil) (.cons (.ret (.cmp .eq (.blt .repr (.cons (.v 1) .nil)) (.v 2))) .nil))))))⟩
/-- _law_right(deck): 0 deck 1 pair 2 u 3 v 4 due 5 named 6 row 7 k -/
def d__law_right : FunD := ⟨1, 8,
  (.cons (.par [1, 2, 3] [false, false, false] (.cons (.call 36 (.cons (.v 0) .nil) .nil []) (.cons (.call 37 (.cons (.v 0) .nil) .nil []) (.cons (.call 37 (.cons (.v 0) .nil) .nil []) .nil)))) (.cons (.ite (.cmp .eq (.call 28 (.cons (.v 0) (.cons (.lit (.int 4)) .nil)) .nil []) (.lit (.int 0))) (.cons (.asg 3 (.call 31 (.cons (.v 2) (.cons (.cap (.call 30 (.cons (.cap (.bin .sub (.call 28 (.cons (.v 0) (.cons (.lit (.int 3)) .nil)) .nil []) (.lit (.int 1)))) (.cons (.cap (.bin .mul (.ix (.v 2) (.lit (.int 1))) (.bin .add (.lit (.int 1)) (.call 28 (.cons (.v 0) (.cons (.lit (.int 3)) .nil)) .nil [])))) .nil)) .nil [])) .nil)) .nil [])) .nil) .nil) (.cons (.ite (.nt (.call 34 (.cons (.cap (.lst (.cons (.call 10 (.cons (.v 1) .nil) .nil []) (.cons (.call 10 .nil (.cons (.v 1) .nil) [0]) (.cons (.call 10 (.cons (.v 2) .nil) .nil []) .nil))))) (.cons (.cap (.bin .add (.bin .mul (.lst (.cons (.call 39 (.cons (.v 1) .nil) .nil []) .nil)) (.lit (.int 2))) (.lst (.cons (.lit (.bool true)) .nil)))) .nil)) .nil [])) (.cons (.ret (.lit (.bool false))) .nil) .nil) (.cons (.ite (.cmp .ne (.ix (.v 1) (.lit (.int 1))) (.lit (.int 0))) (.cons (.asg 4 (.call 30 (.cons (.cap (.ix (.v 1) (.lit (.int 0)))) (.cons (.cap (.ix (.v 1) (.lit (.int 1)))) .nil)) .nil [])) (.cons (.ite (.nt (.call 34 (.cons (.cap (.lst (.cons (.call 13 (.cons (.cap (.ix (.v 1) (.lit (.int 0)))) (.cons (.cap (.ix (.v 1) (.lit (.int 1)))) .nil)) .nil []) (.cons (.call 13 .nil (.cons (.cap (.ix (.v 1) (.lit (.int 1)))) (.cons (.cap (.ix (.v 1) (.lit (.int 0)))) .nil)) [1, 0]) .nil)))) (.cons (.cap (.lst (.cons (.v 4) (.cons (.v 4) .nil)))) .nil)) .nil [])) (.cons (.ret (.lit (.bool false))) .nil) .nil) .nil)) .nil) (.cons (.asg 5 (.cmp .eq (.call 28 (.cons (.v 0) (.cons (.lit (.int 2)) .nil)) .nil []) (.lit (.int 1)))) (.cons (.ite (.nt (.call 34 (.cons (.cap (.lst (.cons (.call 40 (.cons (.lit (.int 0)) (.cons (.v 2) (.cons (.v 5) .nil))) .nil []) (.cons (.call 40 (.cons (.lit (.int 1)) (.cons (.v 2) (.cons (.v 5) .nil))) .nil []) .nil)))) (.cons (.cap (.lst (.cons (.lst (.cons (.lit (.str "zero")) (.cons (.ix (.v 2) (.lit (.int 0))) .nil))) (.cons (.lst (.cons (.lit (.str "zero")) (.cons (.v 2) .nil))) .nil)))) .nil)) .nil [])) (.cons (.ret (.lit (.bool false))) .nil) .nil) (.cons (.ite (.or (.nt (.call 42 (.cons (.cap (.call 38 (.cons (.v 0) .nil) .nil [])) (.cons (.cap (.call 28 (.cons (.v 0) (.cons (.lit (.int 41)) .nil)) .nil [])) .nil)) .nil [])) (.nt (.call 42 (.cons (.v 3) (.cons (.cap (.call 28 (.cons (.v 0) (.cons (.lit (.int 4)) .nil)) .nil [])) .nil)) .nil []))) (.cons (.ret (.lit (.bool false))) .nil) .nil) (.cons (.own 6 (.comp (.ix (.lst (.cons (.call 38 (.cons (.v 0) .nil) .nil []) (.cons (.call 37 (.cons (.v 0) .nil) .nil []) .nil))) (.bin .fdiv (.call 28 (.cons (.v 0) (.cons (.lit (.int 5)) .nil)) .nil []) (.lit (.int 4)))) (.v 7) (.r1 (.call 28 (.cons (.v 0) (.cons (.lit (.int 12)) .nil)) .nil [])) (.lit (.bool true)) [7])) (.cons (.ite (.and (.cmp .ne (.v 6) (.lst .nil)) (.cmp .eq (.call 28 (.cons (.v 0) (.cons (.lit (.int 3)) .nil)) .nil []) (.lit (.int 0)))) (.cons (.app 6 (.ix (.v 6) (.call 28 (.cons (.v 0) (.cons (.cap (.blt .len (.cons (.v 6) .nil))) .nil)) .nil []))) .nil) .nil) (.cons (.ret (.and (.call 41 (.cons (.v 2) (.cons (.v 3) .nil)) .nil []) (.and (.call 41 (.cons (.v 3) (.cons (.v 2) .nil)) .nil []) (.call 43 (.cons (.v 0) (.cons (.cap (.v 6)) .nil)) .nil [])))) .nil))))))))))⟩
/-- law(script): 0 script 1 k 2 pair -/
def d_law : FunD := ⟨1, 3,
  (.cons (.for_ (.v 1) (.r1 (.blt .max2 (.cons (.lit (.int 3)) (.cons (.blt .min2 (.cons (.blt .len (.cons (.v 0) .nil)) (.cons (.lit (.int 30)) .nil))) .nil)))) (.cons (.ite (.nt (.call 44 (.cons (.call 27 (.cons (.v 0) (.cons (.v 1) .nil)) .nil []) .nil) .nil [])) (.cons (.ret (.lit (.bool false))) .nil) .nil) .nil)) (.cons (.for_ (.v 2) (.seq (.lst (.cons (.tup (.cons (.lit (.int 0)) (.cons (.lit (.int 1)) .nil))) (.cons (.tup (.cons (.lit (.int 0)) (.cons (.lit (.int 2)) .nil))) (.cons (.tup (.cons (.lit (.int 0)) (.cons (.neg (.lit (.int 1))) .nil))) (.cons (.tup (.cons (.lit (.int 0)) (.cons (.lit (.int 0)) .nil))) (.cons (.tup (.cons (.lit (.int 1)) (.cons (.lit (.int 0)) .nil))) (.cons (.tup (.cons (.neg (.lit (.int 1))) (.cons (.lit (.int 1)) .nil))) (.cons (.tup (.cons (.lit (.int 1)) (.cons (.neg (.lit (.int 1))) .nil))) (.cons (.tup (.cons (.lit (.int 2)) (.cons (.lit (.int 4)) .nil))) (.cons (.tup (.cons (.lit (.int 3)) (.cons (.lit (.int 9)) .nil))) (.cons (.tup (.cons (.lit (.int 4)) (.cons (.lit (.int 9)) .nil))) .nil)))))))))))) (.cons (.ite (.nt (.call 34 (.cons (.cap (.call 10 (.cons (.v 2) .nil) .nil [])) (.cons (.cap (.call 39 (.cons (.v 2) .nil) .nil [])) .nil)) .nil [])) (.cons (.ret (.lit (.bool false))) .nil) .nil) .nil)) (.cons (.ret (.call 43 (.cons (.lst (.cons (.lit (.int 0)) (.cons (.lit (.int 7)) .nil))) (.cons (.cap (.lst .nil)) .nil)) .nil [])) .nil)))⟩
def defs : List FunD := [d_is_integer, d_is_pair, d_lowest, d_sum_of_two, d_opposite, d_difference, d_product, d_quotient, d_is_less, d_sum_of_all, d_is_number, d_check_numbers, d_check_count, d_number, d_plus, d_minus, d_times, d_by, d_power_of, d_power, d_below, d_least_of, d_greatest_of, d_check_some, d_least, d_greatest, d_total, d__law_deck, d__law_take, d__law_gcd, d__law_pair, d__law_plus, d__law_times, d__law_less, d__law_same, d__law_integer, d__law_couple, d__law_own, d__law_small, d__law_is, d__law_divided, d__law_two_right, d__law_power_right, d__law_row_right, d__law_right, d_law]
def tab : Snd.Tab where
  fn := ([("is_integer", ["value"]), ("is_pair", ["value"]), ("lowest", ["top", "bottom"]), ("sum_of_two", ["a", "b"]), ("opposite", ["a"]), ("difference", ["a", "b"]), ("product", ["a", "b"]), ("quotient", ["a", "b"]), ("is_less", ["a", "b"]), ("sum_of_all", ["row"]), ("is_number", ["told"]), ("check_numbers", ["row"]), ("check_count", ["n"]), ("number", ["top", "bottom"]), ("plus", ["a", "b"]), ("minus", ["a", "b"]), ("times", ["a", "b"]), ("by", ["a", "b"]), ("power_of", ["a", "n"]), ("power", ["a", "n"]), ("below", ["a", "b"]), ("least_of", ["row"]), ("greatest_of", ["row"]), ("check_some", ["numbers"])] : List (PySem.Str × List PySem.Str)) ++ ([("least", ["numbers"]), ("greatest", ["numbers"]), ("total", ["numbers"]), ("_law_deck", ["script", "k"]), ("_law_take", ["deck", "many"]), ("_law_gcd", ["u", "v"]), ("_law_pair", ["upper", "lower"]), ("_law_plus", ["u", "v"]), ("_law_times", ["u", "v"]), ("_law_less", ["u", "v"]), ("_law_same", ["found", "due"]), ("_law_integer", ["deck"]), ("_law_couple", ["deck"]), ("_law_own", ["deck"]), ("_law_small", ["deck"]), ("_law_is", ["pair"]), ("_law_divided", ["door", "u", "named"]), ("_law_two_right", ["u", "v"]), ("_law_power_right", ["u", "many"]), ("_law_row_right", ["deck", "row"]), ("_law_right", ["deck"]), ("law", ["script"])] : List (PySem.Str × List PySem.Str))
  gl := ["ZERO", "ONE"]
  cls := ["TellError", "InvalidNumber", "DividedByZero"]
  gcd := true
  kw := [(13, 0, ["bottom", "top"], [1, 0]), (17, 0, ["b", "a"], [1, 0]), (20, 0, ["b", "a"], [1, 0]), (16, 0, ["b", "a"], [1, 0]), (15, 0, ["b", "a"], [1, 0]), (14, 0, ["b", "a"], [1, 0]), (19, 0, ["n", "a"], [1, 0]), (24, 0, ["numbers"], [0]), (25, 0, ["numbers"], [0]), (26, 0, ["numbers"], [0]), (10, 0, ["told"], [0])]
def subT : List (List (Option Bool)) := [[none, some false, some false], [none, some true, some false], [none, some false, some true]]
def subF (c d : Nat) : Option Bool := (subT[c]?).bind fun r => (r[d]?).bind id
def globs : List D := [.tuple [.int 0, .int 1], .tuple [.int 1, .int 1]]
def top (i : Nat) : PySem.Stmt := PySem.Challenge.pw_oneservesall_k01_whole_numbers.main.body.getD i (.Pass ⟨0, 0, 0, 0⟩)
def r_is_integer : Snd.Row := ⟨["value"], ["value"], L2.defScope (top 6), L2.defBody (top 6)⟩
def r_is_pair : Snd.Row := ⟨["value"], ["value"], L2.defScope (top 7), L2.defBody (top 7)⟩
def r_lowest : Snd.Row := ⟨["top", "bottom"], ["top", "bottom", "common"], L2.defScope (top 8), L2.defBody (top 8)⟩
def r_sum_of_two : Snd.Row := ⟨["a", "b"], ["a", "b"], L2.defScope (top 9), L2.defBody (top 9)⟩
def r_opposite : Snd.Row := ⟨["a"], ["a"], L2.defScope (top 10), L2.defBody (top 10)⟩
def r_difference : Snd.Row := ⟨["a", "b"], ["a", "b"], L2.defScope (top 11), L2.defBody (top 11)⟩
def r_product : Snd.Row := ⟨["a", "b"], ["a", "b"], L2.defScope (top 12), L2.defBody (top 12)⟩
def r_quotient : Snd.Row := ⟨["a", "b"], ["a", "b"], L2.defScope (top 13), L2.defBody (top 13)⟩
def r_is_less : Snd.Row := ⟨["a", "b"], ["a", "b"], L2.defScope (top 14), L2.defBody (top 14)⟩
def r_sum_of_all : Snd.Row := ⟨["row"], ["row", "total", "a"], L2.defScope (top 15), L2.defBody (top 15)⟩
def r_is_number : Snd.Row := ⟨["told"], ["told"], L2.defScope (top 19), L2.defBody (top 19)⟩
def r_check_numbers : Snd.Row := ⟨["row"], ["row", "a"], L2.defScope (top 20), L2.defBody (top 20)⟩
def r_check_count : Snd.Row := ⟨["n"], ["n"], L2.defScope (top 21), L2.defBody (top 21)⟩
def r_number : Snd.Row := ⟨["top", "bottom"], ["top", "bottom"], L2.defScope (top 22), L2.defBody (top 22)⟩
def r_plus : Snd.Row := ⟨["a", "b"], ["a", "b"], L2.defScope (top 23), L2.defBody (top 23)⟩
def r_minus : Snd.Row := ⟨["a", "b"], ["a", "b"], L2.defScope (top 24), L2.defBody (top 24)⟩
def r_times : Snd.Row := ⟨["a", "b"], ["a", "b"], L2.defScope (top 25), L2.defBody (top 25)⟩
def r_by : Snd.Row := ⟨["a", "b"], ["a", "b"], L2.defScope (top 26), L2.defBody (top 26)⟩
def r_power_of : Snd.Row := ⟨["a", "n"], ["a", "n", "found"], L2.defScope (top 27), L2.defBody (top 27)⟩
def r_power : Snd.Row := ⟨["a", "n"], ["a", "n"], L2.defScope (top 28), L2.defBody (top 28)⟩
def r_below : Snd.Row := ⟨["a", "b"], ["a", "b"], L2.defScope (top 29), L2.defBody (top 29)⟩
def r_least_of : Snd.Row := ⟨["row"], ["row", "found", "a"], L2.defScope (top 30), L2.defBody (top 30)⟩
def r_greatest_of : Snd.Row := ⟨["row"], ["row", "found", "a"], L2.defScope (top 31), L2.defBody (top 31)⟩
def r_check_some : Snd.Row := ⟨["numbers"], ["numbers"], L2.defScope (top 32), L2.defBody (top 32)⟩
def r_least : Snd.Row := ⟨["numbers"], ["numbers"], L2.defScope (top 33), L2.defBody (top 33)⟩
def r_greatest : Snd.Row := ⟨["numbers"], ["numbers"], L2.defScope (top 34), L2.defBody (top 34)⟩
def r_total : Snd.Row := ⟨["numbers"], ["numbers"], L2.defScope (top 35), L2.defBody (top 35)⟩
def r__law_deck : Snd.Row := ⟨["script", "k"], ["script", "k", "cell", "stir"], L2.defScope (top 37), L2.defBody (top 37)⟩
def r__law_take : Snd.Row := ⟨["deck", "many"], ["deck", "many", "taken"], L2.defScope (top 38), L2.defBody (top 38)⟩
def r__law_gcd : Snd.Row := ⟨["u", "v"], ["u", "v"], L2.defScope (top 39), L2.defBody (top 39)⟩
def r__law_pair : Snd.Row := ⟨["upper", "lower"], ["upper", "lower", "common"], L2.defScope (top 40), L2.defBody (top 40)⟩
def r__law_plus : Snd.Row := ⟨["u", "v"], ["u", "v"], L2.defScope (top 41), L2.defBody (top 41)⟩
def r__law_times : Snd.Row := ⟨["u", "v"], ["u", "v"], L2.defScope (top 42), L2.defBody (top 42)⟩
def r__law_less : Snd.Row := ⟨["u", "v"], ["u", "v"], L2.defScope (top 43), L2.defBody (top 43)⟩
def r__law_same : Snd.Row := ⟨["found", "due"], ["found", "due", "k"], L2.defScope (top 44), L2.defBody (top 44)⟩
def r__law_integer : Snd.Row := ⟨["deck"], ["deck", "few", "base", "value"], L2.defScope (top 45), L2.defBody (top 45)⟩
def r__law_couple : Snd.Row := ⟨["deck"], ["deck", "upper", "lower", "way", "more"], L2.defScope (top 46), L2.defBody (top 46)⟩
def r__law_own : Snd.Row := ⟨["deck"], ["deck", "upper", "lower"], L2.defScope (top 47), L2.defBody (top 47)⟩
def r__law_small : Snd.Row := ⟨["deck"], ["deck"], L2.defScope (top 48), L2.defBody (top 48)⟩
def r__law_is : Snd.Row := ⟨["pair"], ["pair"], L2.defScope (top 49), L2.defBody (top 49)⟩
def r__law_divided : Snd.Row := ⟨["door", "u", "named"], ["door", "u", "named", "answer", "e"], L2.defScope (top 50), L2.defBody (top 50)⟩
def r__law_two_right : Snd.Row := ⟨["u", "v"], ["u", "v", "opposite_v"], L2.defScope (top 51), L2.defBody (top 51)⟩
def r__law_power_right : Snd.Row := ⟨["u", "many"], ["u", "many", "due", "k"], L2.defScope (top 52), L2.defBody (top 52)⟩
def r__law_row_right : Snd.Row := ⟨["deck", "row"], ["deck", "row", "kept", "due", "u", "given", "low", "high"], L2.defScope (top 53), L2.defBody (top 53)⟩
def r__law_right : Snd.Row := ⟨["deck"], ["deck", "pair", "u", "v", "due", "named", "row", "k"], L2.defScope (top 54), L2.defBody (top 54)⟩
def r_law : Snd.Row := ⟨["script"], ["script", "k", "pair"], L2.defScope (top 55), L2.defBody (top 55)⟩
def rows : List Snd.Row := [r_is_integer, r_is_pair, r_lowest, r_sum_of_two, r_opposite, r_difference, r_product, r_quotient, r_is_less, r_sum_of_all, r_is_number, r_check_numbers, r_check_count, r_number, r_plus, r_minus, r_times, r_by, r_power_of, r_power, r_below, r_least_of, r_greatest_of, r_check_some, r_least, r_greatest, r_total, r__law_deck, r__law_take, r__law_gcd, r__law_pair, r__law_plus, r__law_times, r__law_less, r__law_same, r__law_integer, r__law_couple, r__law_own, r__law_small, r__law_is, r__law_divided, r__law_two_right, r__law_power_right, r__law_row_right, r__law_right, r_law]
def tops : List Nat := [6, 7, 8, 9, 10, 11, 12, 13, 14, 15, 19, 20, 21, 22, 23, 24, 25, 26, 27, 28, 29, 30, 31, 32, 33, 34, 35, 37, 38, 39, 40, 41, 42, 43, 44, 45, 46, 47, 48, 49, 50, 51, 52, 53, 54, 55]
end K01
end
section
set_option Elab.async false
set_option linter.all false
set_option maxRecDepth 100000
set_option maxHeartbeats 0
namespace K01
open PySem L2 Ev Snd
abbrev stI : Stmt := ((match top 2 with | .ClassDef (body := b) .. => b | _ => []).getD 0 (.Pass ⟨0, 0, 0, 0⟩))
abbrev D_is_integer : He.DefD := ⟨("is_integer", none), "is_integer", "is_integer", defArgs (top 6), defBody (top 6), defScope (top 6), [], []⟩
abbrev D_is_pair : He.DefD := ⟨("is_pair", none), "is_pair", "is_pair", defArgs (top 7), defBody (top 7), defScope (top 7), [], []⟩
abbrev D_lowest : He.DefD := ⟨("lowest", none), "lowest", "lowest", defArgs (top 8), defBody (top 8), defScope (top 8), [], []⟩
abbrev D_sum_of_two : He.DefD := ⟨("sum_of_two", none), "sum_of_two", "sum_of_two", defArgs (top 9), defBody (top 9), defScope (top 9), [], []⟩
abbrev D_opposite : He.DefD := ⟨("opposite", none), "opposite", "opposite", defArgs (top 10), defBody (top 10), defScope (top 10), [], []⟩
abbrev D_difference : He.DefD := ⟨("difference", none), "difference", "difference", defArgs (top 11), defBody (top 11), defScope (top 11), [], []⟩
abbrev D_product : He.DefD := ⟨("product", none), "product", "product", defArgs (top 12), defBody (top 12), defScope (top 12), [], []⟩
abbrev D_quotient : He.DefD := ⟨("quotient", none), "quotient", "quotient", defArgs (top 13), defBody (top 13), defScope (top 13), [], []⟩
abbrev D_is_less : He.DefD := ⟨("is_less", none), "is_less", "is_less", defArgs (top 14), defBody (top 14), defScope (top 14), [], []⟩
abbrev D_sum_of_all : He.DefD := ⟨("sum_of_all", none), "sum_of_all", "sum_of_all", defArgs (top 15), defBody (top 15), defScope (top 15), [], []⟩
abbrev D_is_number : He.DefD := ⟨("is_number", none), "is_number", "is_number", defArgs (top 19), defBody (top 19), defScope (top 19), [], []⟩
abbrev D_check_numbers : He.DefD := ⟨("check_numbers", none), "check_numbers", "check_numbers", defArgs (top 20), defBody (top 20), defScope (top 20), [], []⟩
abbrev D_check_count : He.DefD := ⟨("check_count", none), "check_count", "check_count", defArgs (top 21), defBody (top 21), defScope (top 21), [], []⟩
abbrev D_number : He.DefD := ⟨("number", none), "number", "number", defArgs (top 22), defBody (top 22), defScope (top 22), [], []⟩
abbrev D_plus : He.DefD := ⟨("plus", none), "plus", "plus", defArgs (top 23), defBody (top 23), defScope (top 23), [], []⟩
abbrev D_minus : He.DefD := ⟨("minus", none), "minus", "minus", defArgs (top 24), defBody (top 24), defScope (top 24), [], []⟩
abbrev D_times : He.DefD := ⟨("times", none), "times", "times", defArgs (top 25), defBody (top 25), defScope (top 25), [], []⟩
abbrev D_by : He.DefD := ⟨("by", none), "by", "by", defArgs (top 26), defBody (top 26), defScope (top 26), [], []⟩
abbrev D_power_of : He.DefD := ⟨("power_of", none), "power_of", "power_of", defArgs (top 27), defBody (top 27), defScope (top 27), [], []⟩
abbrev D_power : He.DefD := ⟨("power", none), "power", "power", defArgs (top 28), defBody (top 28), defScope (top 28), [], []⟩
abbrev D_below : He.DefD := ⟨("below", none), "below", "below", defArgs (top 29), defBody (top 29), defScope (top 29), [], []⟩
abbrev D_least_of : He.DefD := ⟨("least_of", none), "least_of", "least_of", defArgs (top 30), defBody (top 30), defScope (top 30), [], []⟩
abbrev D_greatest_of : He.DefD := ⟨("greatest_of", none), "greatest_of", "greatest_of", defArgs (top 31), defBody (top 31), defScope (top 31), [], []⟩
abbrev D_check_some : He.DefD := ⟨("check_some", none), "check_some", "check_some", defArgs (top 32), defBody (top 32), defScope (top 32), [], []⟩
abbrev D_least : He.DefD := ⟨("least", none), "least", "least", defArgs (top 33), defBody (top 33), defScope (top 33), [], []⟩
abbrev D_greatest : He.DefD := ⟨("greatest", none), "greatest", "greatest", defArgs (top 34), defBody (top 34), defScope (top 34), [], []⟩
abbrev D_total : He.DefD := ⟨("total", none), "total", "total", defArgs (top 35), defBody (top 35), defScope (top 35), [], []⟩
abbrev D__law_deck : He.DefD := ⟨("_law_deck", none), "_law_deck", "_law_deck", defArgs (top 37), defBody (top 37), defScope (top 37), [], []⟩
abbrev D__law_take : He.DefD := ⟨("_law_take", none), "_law_take", "_law_take", defArgs (top 38), defBody (top 38), defScope (top 38), [], []⟩
abbrev D__law_gcd : He.DefD := ⟨("_law_gcd", none), "_law_gcd", "_law_gcd", defArgs (top 39), defBody (top 39), defScope (top 39), [], []⟩
abbrev D__law_pair : He.DefD := ⟨("_law_pair", none), "_law_pair", "_law_pair", defArgs (top 40), defBody (top 40), defScope (top 40), [], []⟩
abbrev D__law_plus : He.DefD := ⟨("_law_plus", none), "_law_plus", "_law_plus", defArgs (top 41), defBody (top 41), defScope (top 41), [], []⟩
abbrev D__law_times : He.DefD := ⟨("_law_times", none), "_law_times", "_law_times", defArgs (top 42), defBody (top 42), defScope (top 42), [], []⟩
abbrev D__law_less : He.DefD := ⟨("_law_less", none), "_law_less", "_law_less", defArgs (top 43), defBody (top 43), defScope (top 43), [], []⟩
abbrev D__law_same : He.DefD := ⟨("_law_same", none), "_law_same", "_law_same", defArgs (top 44), defBody (top 44), defScope (top 44), [], []⟩
abbrev D__law_integer : He.DefD := ⟨("_law_integer", none), "_law_integer", "_law_integer", defArgs (top 45), defBody (top 45), defScope (top 45), [], []⟩
abbrev D__law_couple : He.DefD := ⟨("_law_couple", none), "_law_couple", "_law_couple", defArgs (top 46), defBody (top 46), defScope (top 46), [], []⟩
abbrev D__law_own : He.DefD := ⟨("_law_own", none), "_law_own", "_law_own", defArgs (top 47), defBody (top 47), defScope (top 47), [], []⟩
abbrev D__law_small : He.DefD := ⟨("_law_small", none), "_law_small", "_law_small", defArgs (top 48), defBody (top 48), defScope (top 48), [], []⟩
abbrev D__law_is : He.DefD := ⟨("_law_is", none), "_law_is", "_law_is", defArgs (top 49), defBody (top 49), defScope (top 49), [], []⟩
abbrev D__law_divided : He.DefD := ⟨("_law_divided", none), "_law_divided", "_law_divided", defArgs (top 50), defBody (top 50), defScope (top 50), [], []⟩
abbrev D__law_two_right : He.DefD := ⟨("_law_two_right", none), "_law_two_right", "_law_two_right", defArgs (top 51), defBody (top 51), defScope (top 51), [], []⟩
abbrev D__law_power_right : He.DefD := ⟨("_law_power_right", none), "_law_power_right", "_law_power_right", defArgs (top 52), defBody (top 52), defScope (top 52), [], []⟩
abbrev D__law_row_right : He.DefD := ⟨("_law_row_right", none), "_law_row_right", "_law_row_right", defArgs (top 53), defBody (top 53), defScope (top 53), [], []⟩
abbrev D__law_right : He.DefD := ⟨("_law_right", none), "_law_right", "_law_right", defArgs (top 54), defBody (top 54), defScope (top 54), [], []⟩
abbrev D_law : He.DefD := ⟨("law", none), "law", "law", defArgs (top 55), defBody (top 55), defScope (top 55), [], []⟩
abbrev D__init : He.DefD := ⟨("TellError", some "__init__"), "__init__", "TellError.__init__", defArgs stI, defBody stI, defScope stI, [], []⟩
def fnL1 : List He.DefD := [D_is_integer, D_is_pair, D_lowest, D_sum_of_two, D_opposite, D_difference, D_product, D_quotient, D_is_less, D_sum_of_all, D_is_number, D_check_numbers, D_check_count, D_number, D_plus, D_minus, D_times, D_by, D_power_of, D_power, D_below, D_least_of, D_greatest_of]
def fnL2 : List He.DefD := [D_check_some, D_least, D_greatest, D_total, D__law_deck, D__law_take, D__law_gcd, D__law_pair, D__law_plus, D__law_times, D__law_less, D__law_same, D__law_integer, D__law_couple, D__law_own, D__law_small, D__law_is, D__law_divided, D__law_two_right, D__law_power_right, D__law_row_right, D__law_right, D_law, D__init]
abbrev fnL : List He.DefD := fnL1 ++ fnL2
def faL : List He.Fa := (bnames ++ (["ValueError"] : List Str)).map He.Fa.free ++ [.glo "is_integer", .glo "is_pair", .glo "lowest", .glo "sum_of_two", .glo "opposite", .glo "difference", .glo "product", .glo "quotient", .glo "is_less", .glo "sum_of_all", .glo "is_number", .glo "check_numbers", .glo "check_count", .glo "number", .glo "plus", .glo "minus", .glo "times", .glo "by", .glo "power_of", .glo "power", .glo "below", .glo "least_of", .glo "greatest_of", .glo "check_some", .glo "least", .glo "greatest", .glo "total", .glo "_law_deck", .glo "_law_take", .glo "_law_gcd", .glo "_law_pair", .glo "_law_plus", .glo "_law_times", .glo "_law_less", .glo "_law_same", .glo "_law_integer", .glo "_law_couple", .glo "_law_own", .glo "_law_small", .glo "_law_is", .glo "_law_divided", .glo "_law_two_right", .glo "_law_power_right", .glo "_law_row_right", .glo "_law_right", .glo "law", .glo "TellError", .glo "InvalidNumber", .glo "DividedByZero"]
def exL (K : PySem.W.Frag) : List Bool := [He.tupB K "ZERO" [.int (0), .int (1)] && He.eqO (PySem.W.nsIn K mainGlobals "ZERO") (some (some (.ref (He.ga K "ZERO")))),
  He.tupB K "ONE" [.int (1), .int (1)] && He.eqO (PySem.W.nsIn K mainGlobals "ONE") (some (some (.ref (He.ga K "ONE")))),
  exB K "TellError" "TellError",
  exB K "InvalidNumber" "TellError",
  exB K "DividedByZero" "TellError",
  vvB K,
  He.eqO (PySem.W.nsIn K mainGlobals "gcd") (some (some (.builtin "math.gcd"))),
  xfB K (He.ga K "TellError"),
  xfB K (He.ga K "InvalidNumber"),
  xfB K (He.ga K "DividedByZero"),
  decide (PySem.W.exmOne K (.ref (He.ga K "TellError")) (.ref (He.ga K "InvalidNumber")) = some false),
  decide (PySem.W.exmOne K (.ref (He.ga K "TellError")) (.ref (He.ga K "DividedByZero")) = some false),
  decide (PySem.W.exmOne K (.ref (He.ga K "InvalidNumber")) (.ref (He.ga K "InvalidNumber")) = some true),
  decide (PySem.W.exmOne K (.ref (He.ga K "InvalidNumber")) (.ref (He.ga K "DividedByZero")) = some false),
  decide (PySem.W.exmOne K (.ref (He.ga K "DividedByZero")) (.ref (He.ga K "InvalidNumber")) = some false),
  decide (PySem.W.exmOne K (.ref (He.ga K "DividedByZero")) (.ref (He.ga K "DividedByZero")) = some true)]
def asL : List Addr := [3, 6, 4, 59, 72, 84, 93, 100, 107, 114, 121, 128, 135, 142, 149, 156, 157, 158, 165, 172, 179, 186, 193, 200, 207, 214, 221, 228, 235, 242, 249, 256, 263, 270, 277, 284, 291, 298, 305, 312, 319, 326, 331, 338, 345, 352, 359, 366, 373, 380, 387, 392, 397, 404, 0, 58, 71, 83, 92, 99, 106, 113, 120, 127, 134, 141, 148, 155, 164, 171, 178, 185, 192, 199, 206, 213, 220, 227, 234, 241, 248, 255, 262, 269, 276, 283, 290, 297, 304, 311, 318, 325, 330, 337, 344, 351, 358, 365, 372, 379, 386, 391, 396, 403, 56, 57, 60, 70, 82, 87, 88, 89, 90, 91, 94, 95, 96, 97, 98, 101, 102, 103, 104, 105, 108, 109, 110, 111, 112, 115, 116, 117, 118, 119, 122, 123, 124, 125, 126, 129, 130, 131, 132, 133, 136, 137, 138, 139, 140, 143, 144, 145, 146, 147, 150, 151, 152, 153, 154, 159, 160, 161, 162, 163, 166, 167, 168, 169, 170, 173, 174, 175, 176, 177, 180, 181, 182, 183, 184, 187, 188, 189, 190, 191, 194, 195, 196, 197, 198, 201, 202, 203, 204, 205, 208, 209, 210, 211, 212, 215, 216, 217, 218, 219, 222, 223, 224, 225, 226, 229, 230, 231, 232, 233, 236, 237, 238, 239, 240, 243, 244, 245, 246, 247, 250, 251, 252, 253, 254, 257, 258, 259, 260, 261, 264, 265, 266, 267, 268, 271, 272, 273, 274, 275, 278, 279, 280, 281, 282, 285, 286, 287, 288, 289, 292, 293, 294, 295, 296, 299, 300, 301, 302, 303, 306, 307, 308, 309, 310, 313, 314, 315, 316, 317, 320, 321, 322, 323, 324, 327, 328, 329, 332, 333, 334, 335, 336, 339, 340, 341, 342, 343, 346, 347, 348, 349, 350, 353, 354, 355, 356, 357, 360, 361, 362, 363, 364, 367, 368, 369, 370, 371, 374, 375, 376, 377, 378, 381, 382, 383, 384, 385, 388, 389, 390, 393, 394, 395, 398, 399, 400, 401, 402, 55, 50, 51, 52, 53, 54]
def exT (K : PySem.W.Frag) : Bool := (exL K).all id
theorem exT_at {K : PySem.W.Frag} (h : exT K = true) (i : Nat) {b : Bool} (e : (exL K)[i]? = some b) : b = true := List.all_eq_true.mp h b (List.mem_of_getElem? e)
abbrev RR0 : PySem.W.OpenRow := PySem.W.OpenLaw.row PySem.Challenge.rw_oneservesall_k01_whole_numbers
abbrev hk : PySem.W.Hook := hookX asL faL fnL exT
def ob : PySem.W.SharedT → He.AlD × Bool := obX asL faL fnL exT
abbrev ls0 : List Str := ["is_integer", "is_pair", "lowest", "sum_of_two", "opposite", "difference", "product", "quotient", "is_less", "sum_of_all", "is_number", "check_numbers", "check_count", "number", "plus", "minus", "times", "by", "power_of", "power", "below", "least_of", "greatest_of", "check_some"]
abbrev ls1 : List Str := ["least", "greatest", "total", "_law_deck", "_law_take", "_law_gcd", "_law_pair", "_law_plus", "_law_times", "_law_less", "_law_same", "_law_integer", "_law_couple", "_law_own", "_law_small", "_law_is", "_law_divided", "_law_two_right", "_law_power_right", "_law_row_right", "_law_right", "TellError", "InvalidNumber", "DividedByZero"]
abbrev ls2 : List Str := ["ZERO", "ONE"]
abbrev lsA : List Str := ls0 ++ ls1 ++ ls2
abbrev vw : List Nat := [0, 55]
open PySem.W in
theorem run_a (w : World) : (HandSHeadRun.wholeF (fun p => HandSHeadRun.stepQ (HandSHeadRun.denQ HandSHeadRun.tabQ) p w) HandSHeadRun.fenceQ 4000 RR0.prog).map (fun x => (HandSHeadRun.looksF RR0.prog x.1.heap x.2.abs, HandSHeadRun.seenQ (PySem.W.view RR0.prog vw) lsA (importedModules RR0.prog.main.body) (fun s => xlAt (PySem.W.view RR0.prog vw) [] s && recOk RR0.toRowW.records s) x.2.abs)) = some (true, openGood (PySem.W.view RR0.prog vw) lsA) := by
  kernel_rfl
theorem run_b (w : World) : (HandSHeadRun.wholeF (fun p => HandSHeadRun.stepQ (HandSHeadRun.denQ HandSHeadRun.tabQ) p w) HandSHeadRun.fenceQ 4000 RR0.prog).map (fun x => obX asL faL fnL1 (fun _ => true) x.2) = some (He.valD fnL1, true) := by
  kernel_rfl
theorem run_c (w : World) : (HandSHeadRun.wholeF (fun p => HandSHeadRun.stepQ (HandSHeadRun.denQ HandSHeadRun.tabQ) p w) HandSHeadRun.fenceQ 4000 RR0.prog).map (fun x => obX asL [] fnL2 exT x.2) = some (He.valD fnL2, true) := by
  kernel_rfl
theorem head_run (w : World) : HandSHeadRun.RunEqI RR0 (PySem.W.view RR0.prog vw) hk ob 4000 lsA w := head_join (run_a w) (run_b w) (run_c w)
theorem glo_at {K : PySem.W.Frag} {h : Heap} {mg : Str → Option Value} (X : K.In h) (G : h.Ns mainGlobals mg) (c : He.SaysD faL fnL K) (i : Nat) {x : Str} (e : faL[i]? = some (.glo x)) : mg x = some (.ref (He.ga K x)) := He.glo_ok X G (c.fact i e)
theorem free_at {K : PySem.W.Frag} {h : Heap} {mg : Str → Option Value} (X : K.In h) (G : h.Ns mainGlobals mg) (c : He.SaysD faL fnL K) : ∀ x ∈ bnames, mg x = none := fun x hx => by
  have e : He.Fa.free x ∈ faL := List.mem_append_left _ (List.mem_map.mpr ⟨x, List.mem_append_left _ hx, rfl⟩)
  obtain ⟨i, hi⟩ := List.getElem?_of_mem e
  exact He.free_ok X G (c.fact i hi)
theorem b_is_integer : ∀ (kV doc pm : Value) (an : Option Addr) (cdv ct : Value) (us : List Value), us.length = (["value"] : List Str).length → bindArgs (PySem.W.fnOf "is_integer" "is_integer" (defArgs (top 6)) (defBody (top 6)) (defScope (top 6)) .none kV doc pm an cdv ct) ⟨us, []⟩ = pure ((["value"] : List Str).zip us) := fun _ _ _ _ _ _ us hl => match us, hl with | [_], _ => rfl
theorem b_is_pair : ∀ (kV doc pm : Value) (an : Option Addr) (cdv ct : Value) (us : List Value), us.length = (["value"] : List Str).length → bindArgs (PySem.W.fnOf "is_pair" "is_pair" (defArgs (top 7)) (defBody (top 7)) (defScope (top 7)) .none kV doc pm an cdv ct) ⟨us, []⟩ = pure ((["value"] : List Str).zip us) := fun _ _ _ _ _ _ us hl => match us, hl with | [_], _ => rfl
theorem b_lowest : ∀ (kV doc pm : Value) (an : Option Addr) (cdv ct : Value) (us : List Value), us.length = (["top", "bottom"] : List Str).length → bindArgs (PySem.W.fnOf "lowest" "lowest" (defArgs (top 8)) (defBody (top 8)) (defScope (top 8)) .none kV doc pm an cdv ct) ⟨us, []⟩ = pure ((["top", "bottom"] : List Str).zip us) := fun _ _ _ _ _ _ us hl => match us, hl with | [_, _], _ => rfl
theorem b_sum_of_two : ∀ (kV doc pm : Value) (an : Option Addr) (cdv ct : Value) (us : List Value), us.length = (["a", "b"] : List Str).length → bindArgs (PySem.W.fnOf "sum_of_two" "sum_of_two" (defArgs (top 9)) (defBody (top 9)) (defScope (top 9)) .none kV doc pm an cdv ct) ⟨us, []⟩ = pure ((["a", "b"] : List Str).zip us) := fun _ _ _ _ _ _ us hl => match us, hl with | [_, _], _ => rfl
theorem b_opposite : ∀ (kV doc pm : Value) (an : Option Addr) (cdv ct : Value) (us : List Value), us.length = (["a"] : List Str).length → bindArgs (PySem.W.fnOf "opposite" "opposite" (defArgs (top 10)) (defBody (top 10)) (defScope (top 10)) .none kV doc pm an cdv ct) ⟨us, []⟩ = pure ((["a"] : List Str).zip us) := fun _ _ _ _ _ _ us hl => match us, hl with | [_], _ => rfl
theorem b_difference : ∀ (kV doc pm : Value) (an : Option Addr) (cdv ct : Value) (us : List Value), us.length = (["a", "b"] : List Str).length → bindArgs (PySem.W.fnOf "difference" "difference" (defArgs (top 11)) (defBody (top 11)) (defScope (top 11)) .none kV doc pm an cdv ct) ⟨us, []⟩ = pure ((["a", "b"] : List Str).zip us) := fun _ _ _ _ _ _ us hl => match us, hl with | [_, _], _ => rfl
theorem b_product : ∀ (kV doc pm : Value) (an : Option Addr) (cdv ct : Value) (us : List Value), us.length = (["a", "b"] : List Str).length → bindArgs (PySem.W.fnOf "product" "product" (defArgs (top 12)) (defBody (top 12)) (defScope (top 12)) .none kV doc pm an cdv ct) ⟨us, []⟩ = pure ((["a", "b"] : List Str).zip us) := fun _ _ _ _ _ _ us hl => match us, hl with | [_, _], _ => rfl
theorem b_quotient : ∀ (kV doc pm : Value) (an : Option Addr) (cdv ct : Value) (us : List Value), us.length = (["a", "b"] : List Str).length → bindArgs (PySem.W.fnOf "quotient" "quotient" (defArgs (top 13)) (defBody (top 13)) (defScope (top 13)) .none kV doc pm an cdv ct) ⟨us, []⟩ = pure ((["a", "b"] : List Str).zip us) := fun _ _ _ _ _ _ us hl => match us, hl with | [_, _], _ => rfl
theorem b_is_less : ∀ (kV doc pm : Value) (an : Option Addr) (cdv ct : Value) (us : List Value), us.length = (["a", "b"] : List Str).length → bindArgs (PySem.W.fnOf "is_less" "is_less" (defArgs (top 14)) (defBody (top 14)) (defScope (top 14)) .none kV doc pm an cdv ct) ⟨us, []⟩ = pure ((["a", "b"] : List Str).zip us) := fun _ _ _ _ _ _ us hl => match us, hl with | [_, _], _ => rfl
theorem b_sum_of_all : ∀ (kV doc pm : Value) (an : Option Addr) (cdv ct : Value) (us : List Value), us.length = (["row"] : List Str).length → bindArgs (PySem.W.fnOf "sum_of_all" "sum_of_all" (defArgs (top 15)) (defBody (top 15)) (defScope (top 15)) .none kV doc pm an cdv ct) ⟨us, []⟩ = pure ((["row"] : List Str).zip us) := fun _ _ _ _ _ _ us hl => match us, hl with | [_], _ => rfl
theorem b_is_number : ∀ (kV doc pm : Value) (an : Option Addr) (cdv ct : Value) (us : List Value), us.length = (["told"] : List Str).length → bindArgs (PySem.W.fnOf "is_number" "is_number" (defArgs (top 19)) (defBody (top 19)) (defScope (top 19)) .none kV doc pm an cdv ct) ⟨us, []⟩ = pure ((["told"] : List Str).zip us) := fun _ _ _ _ _ _ us hl => match us, hl with | [_], _ => rfl
theorem b_check_numbers : ∀ (kV doc pm : Value) (an : Option Addr) (cdv ct : Value) (us : List Value), us.length = (["row"] : List Str).length → bindArgs (PySem.W.fnOf "check_numbers" "check_numbers" (defArgs (top 20)) (defBody (top 20)) (defScope (top 20)) .none kV doc pm an cdv ct) ⟨us, []⟩ = pure ((["row"] : List Str).zip us) := fun _ _ _ _ _ _ us hl => match us, hl with | [_], _ => rfl
theorem b_check_count : ∀ (kV doc pm : Value) (an : Option Addr) (cdv ct : Value) (us : List Value), us.length = (["n"] : List Str).length → bindArgs (PySem.W.fnOf "check_count" "check_count" (defArgs (top 21)) (defBody (top 21)) (defScope (top 21)) .none kV doc pm an cdv ct) ⟨us, []⟩ = pure ((["n"] : List Str).zip us) := fun _ _ _ _ _ _ us hl => match us, hl with | [_], _ => rfl
theorem b_number : ∀ (kV doc pm : Value) (an : Option Addr) (cdv ct : Value) (us : List Value), us.length = (["top", "bottom"] : List Str).length → bindArgs (PySem.W.fnOf "number" "number" (defArgs (top 22)) (defBody (top 22)) (defScope (top 22)) .none kV doc pm an cdv ct) ⟨us, []⟩ = pure ((["top", "bottom"] : List Str).zip us) := fun _ _ _ _ _ _ us hl => match us, hl with | [_, _], _ => rfl
theorem b_plus : ∀ (kV doc pm : Value) (an : Option Addr) (cdv ct : Value) (us : List Value), us.length = (["a", "b"] : List Str).length → bindArgs (PySem.W.fnOf "plus" "plus" (defArgs (top 23)) (defBody (top 23)) (defScope (top 23)) .none kV doc pm an cdv ct) ⟨us, []⟩ = pure ((["a", "b"] : List Str).zip us) := fun _ _ _ _ _ _ us hl => match us, hl with | [_, _], _ => rfl
theorem b_minus : ∀ (kV doc pm : Value) (an : Option Addr) (cdv ct : Value) (us : List Value), us.length = (["a", "b"] : List Str).length → bindArgs (PySem.W.fnOf "minus" "minus" (defArgs (top 24)) (defBody (top 24)) (defScope (top 24)) .none kV doc pm an cdv ct) ⟨us, []⟩ = pure ((["a", "b"] : List Str).zip us) := fun _ _ _ _ _ _ us hl => match us, hl with | [_, _], _ => rfl
theorem b_times : ∀ (kV doc pm : Value) (an : Option Addr) (cdv ct : Value) (us : List Value), us.length = (["a", "b"] : List Str).length → bindArgs (PySem.W.fnOf "times" "times" (defArgs (top 25)) (defBody (top 25)) (defScope (top 25)) .none kV doc pm an cdv ct) ⟨us, []⟩ = pure ((["a", "b"] : List Str).zip us) := fun _ _ _ _ _ _ us hl => match us, hl with | [_, _], _ => rfl
theorem b_by : ∀ (kV doc pm : Value) (an : Option Addr) (cdv ct : Value) (us : List Value), us.length = (["a", "b"] : List Str).length → bindArgs (PySem.W.fnOf "by" "by" (defArgs (top 26)) (defBody (top 26)) (defScope (top 26)) .none kV doc pm an cdv ct) ⟨us, []⟩ = pure ((["a", "b"] : List Str).zip us) := fun _ _ _ _ _ _ us hl => match us, hl with | [_, _], _ => rfl
theorem b_power_of : ∀ (kV doc pm : Value) (an : Option Addr) (cdv ct : Value) (us : List Value), us.length = (["a", "n"] : List Str).length → bindArgs (PySem.W.fnOf "power_of" "power_of" (defArgs (top 27)) (defBody (top 27)) (defScope (top 27)) .none kV doc pm an cdv ct) ⟨us, []⟩ = pure ((["a", "n"] : List Str).zip us) := fun _ _ _ _ _ _ us hl => match us, hl with | [_, _], _ => rfl
theorem b_power : ∀ (kV doc pm : Value) (an : Option Addr) (cdv ct : Value) (us : List Value), us.length = (["a", "n"] : List Str).length → bindArgs (PySem.W.fnOf "power" "power" (defArgs (top 28)) (defBody (top 28)) (defScope (top 28)) .none kV doc pm an cdv ct) ⟨us, []⟩ = pure ((["a", "n"] : List Str).zip us) := fun _ _ _ _ _ _ us hl => match us, hl with | [_, _], _ => rfl
theorem b_below : ∀ (kV doc pm : Value) (an : Option Addr) (cdv ct : Value) (us : List Value), us.length = (["a", "b"] : List Str).length → bindArgs (PySem.W.fnOf "below" "below" (defArgs (top 29)) (defBody (top 29)) (defScope (top 29)) .none kV doc pm an cdv ct) ⟨us, []⟩ = pure ((["a", "b"] : List Str).zip us) := fun _ _ _ _ _ _ us hl => match us, hl with | [_, _], _ => rfl
theorem b_least_of : ∀ (kV doc pm : Value) (an : Option Addr) (cdv ct : Value) (us : List Value), us.length = (["row"] : List Str).length → bindArgs (PySem.W.fnOf "least_of" "least_of" (defArgs (top 30)) (defBody (top 30)) (defScope (top 30)) .none kV doc pm an cdv ct) ⟨us, []⟩ = pure ((["row"] : List Str).zip us) := fun _ _ _ _ _ _ us hl => match us, hl with | [_], _ => rfl
theorem b_greatest_of : ∀ (kV doc pm : Value) (an : Option Addr) (cdv ct : Value) (us : List Value), us.length = (["row"] : List Str).length → bindArgs (PySem.W.fnOf "greatest_of" "greatest_of" (defArgs (top 31)) (defBody (top 31)) (defScope (top 31)) .none kV doc pm an cdv ct) ⟨us, []⟩ = pure ((["row"] : List Str).zip us) := fun _ _ _ _ _ _ us hl => match us, hl with | [_], _ => rfl
theorem b_check_some : ∀ (kV doc pm : Value) (an : Option Addr) (cdv ct : Value) (us : List Value), us.length = (["numbers"] : List Str).length → bindArgs (PySem.W.fnOf "check_some" "check_some" (defArgs (top 32)) (defBody (top 32)) (defScope (top 32)) .none kV doc pm an cdv ct) ⟨us, []⟩ = pure ((["numbers"] : List Str).zip us) := fun _ _ _ _ _ _ us hl => match us, hl with | [_], _ => rfl
theorem b_least : ∀ (kV doc pm : Value) (an : Option Addr) (cdv ct : Value) (us : List Value), us.length = (["numbers"] : List Str).length → bindArgs (PySem.W.fnOf "least" "least" (defArgs (top 33)) (defBody (top 33)) (defScope (top 33)) .none kV doc pm an cdv ct) ⟨us, []⟩ = pure ((["numbers"] : List Str).zip us) := fun _ _ _ _ _ _ us hl => match us, hl with | [_], _ => rfl
theorem b_greatest : ∀ (kV doc pm : Value) (an : Option Addr) (cdv ct : Value) (us : List Value), us.length = (["numbers"] : List Str).length → bindArgs (PySem.W.fnOf "greatest" "greatest" (defArgs (top 34)) (defBody (top 34)) (defScope (top 34)) .none kV doc pm an cdv ct) ⟨us, []⟩ = pure ((["numbers"] : List Str).zip us) := fun _ _ _ _ _ _ us hl => match us, hl with | [_], _ => rfl
theorem b_total : ∀ (kV doc pm : Value) (an : Option Addr) (cdv ct : Value) (us : List Value), us.length = (["numbers"] : List Str).length → bindArgs (PySem.W.fnOf "total" "total" (defArgs (top 35)) (defBody (top 35)) (defScope (top 35)) .none kV doc pm an cdv ct) ⟨us, []⟩ = pure ((["numbers"] : List Str).zip us) := fun _ _ _ _ _ _ us hl => match us, hl with | [_], _ => rfl
theorem b__law_deck : ∀ (kV doc pm : Value) (an : Option Addr) (cdv ct : Value) (us : List Value), us.length = (["script", "k"] : List Str).length → bindArgs (PySem.W.fnOf "_law_deck" "_law_deck" (defArgs (top 37)) (defBody (top 37)) (defScope (top 37)) .none kV doc pm an cdv ct) ⟨us, []⟩ = pure ((["script", "k"] : List Str).zip us) := fun _ _ _ _ _ _ us hl => match us, hl with | [_, _], _ => rfl
theorem b__law_take : ∀ (kV doc pm : Value) (an : Option Addr) (cdv ct : Value) (us : List Value), us.length = (["deck", "many"] : List Str).length → bindArgs (PySem.W.fnOf "_law_take" "_law_take" (defArgs (top 38)) (defBody (top 38)) (defScope (top 38)) .none kV doc pm an cdv ct) ⟨us, []⟩ = pure ((["deck", "many"] : List Str).zip us) := fun _ _ _ _ _ _ us hl => match us, hl with | [_, _], _ => rfl
theorem b__law_gcd : ∀ (kV doc pm : Value) (an : Option Addr) (cdv ct : Value) (us : List Value), us.length = (["u", "v"] : List Str).length → bindArgs (PySem.W.fnOf "_law_gcd" "_law_gcd" (defArgs (top 39)) (defBody (top 39)) (defScope (top 39)) .none kV doc pm an cdv ct) ⟨us, []⟩ = pure ((["u", "v"] : List Str).zip us) := fun _ _ _ _ _ _ us hl => match us, hl with | [_, _], _ => rfl
theorem b__law_pair : ∀ (kV doc pm : Value) (an : Option Addr) (cdv ct : Value) (us : List Value), us.length = (["upper", "lower"] : List Str).length → bindArgs (PySem.W.fnOf "_law_pair" "_law_pair" (defArgs (top 40)) (defBody (top 40)) (defScope (top 40)) .none kV doc pm an cdv ct) ⟨us, []⟩ = pure ((["upper", "lower"] : List Str).zip us) := fun _ _ _ _ _ _ us hl => match us, hl with | [_, _], _ => rfl
theorem b__law_plus : ∀ (kV doc pm : Value) (an : Option Addr) (cdv ct : Value) (us : List Value), us.length = (["u", "v"] : List Str).length → bindArgs (PySem.W.fnOf "_law_plus" "_law_plus" (defArgs (top 41)) (defBody (top 41)) (defScope (top 41)) .none kV doc pm an cdv ct) ⟨us, []⟩ = pure ((["u", "v"] : List Str).zip us) := fun _ _ _ _ _ _ us hl => match us, hl with | [_, _], _ => rfl
theorem b__law_times : ∀ (kV doc pm : Value) (an : Option Addr) (cdv ct : Value) (us : List Value), us.length = (["u", "v"] : List Str).length → bindArgs (PySem.W.fnOf "_law_times" "_law_times" (defArgs (top 42)) (defBody (top 42)) (defScope (top 42)) .none kV doc pm an cdv ct) ⟨us, []⟩ = pure ((["u", "v"] : List Str).zip us) := fun _ _ _ _ _ _ us hl => match us, hl with | [_, _], _ => rfl
theorem b__law_less : ∀ (kV doc pm : Value) (an : Option Addr) (cdv ct : Value) (us : List Value), us.length = (["u", "v"] : List Str).length → bindArgs (PySem.W.fnOf "_law_less" "_law_less" (defArgs (top 43)) (defBody (top 43)) (defScope (top 43)) .none kV doc pm an cdv ct) ⟨us, []⟩ = pure ((["u", "v"] : List Str).zip us) := fun _ _ _ _ _ _ us hl => match us, hl with | [_, _], _ => rfl
theorem b__law_same : ∀ (kV doc pm : Value) (an : Option Addr) (cdv ct : Value) (us : List Value), us.length = (["found", "due"] : List Str).length → bindArgs (PySem.W.fnOf "_law_same" "_law_same" (defArgs (top 44)) (defBody (top 44)) (defScope (top 44)) .none kV doc pm an cdv ct) ⟨us, []⟩ = pure ((["found", "due"] : List Str).zip us) := fun _ _ _ _ _ _ us hl => match us, hl with | [_, _], _ => rfl
theorem b__law_integer : ∀ (kV doc pm : Value) (an : Option Addr) (cdv ct : Value) (us : List Value), us.length = (["deck"] : List Str).length → bindArgs (PySem.W.fnOf "_law_integer" "_law_integer" (defArgs (top 45)) (defBody (top 45)) (defScope (top 45)) .none kV doc pm an cdv ct) ⟨us, []⟩ = pure ((["deck"] : List Str).zip us) := fun _ _ _ _ _ _ us hl => match us, hl with | [_], _ => rfl
theorem b__law_couple : ∀ (kV doc pm : Value) (an : Option Addr) (cdv ct : Value) (us : List Value), us.length = (["deck"] : List Str).length → bindArgs (PySem.W.fnOf "_law_couple" "_law_couple" (defArgs (top 46)) (defBody (top 46)) (defScope (top 46)) .none kV doc pm an cdv ct) ⟨us, []⟩ = pure ((["deck"] : List Str).zip us) := fun _ _ _ _ _ _ us hl => match us, hl with | [_], _ => rfl
theorem b__law_own : ∀ (kV doc pm : Value) (an : Option Addr) (cdv ct : Value) (us : List Value), us.length = (["deck"] : List Str).length → bindArgs (PySem.W.fnOf "_law_own" "_law_own" (defArgs (top 47)) (defBody (top 47)) (defScope (top 47)) .none kV doc pm an cdv ct) ⟨us, []⟩ = pure ((["deck"] : List Str).zip us) := fun _ _ _ _ _ _ us hl => match us, hl with | [_], _ => rfl
theorem b__law_small : ∀ (kV doc pm : Value) (an : Option Addr) (cdv ct : Value) (us : List Value), us.length = (["deck"] : List Str).length → bindArgs (PySem.W.fnOf "_law_small" "_law_small" (defArgs (top 48)) (defBody (top 48)) (defScope (top 48)) .none kV doc pm an cdv ct) ⟨us, []⟩ = pure ((["deck"] : List Str).zip us) := fun _ _ _ _ _ _ us hl => match us, hl with | [_], _ => rfl
theorem b__law_is : ∀ (kV doc pm : Value) (an : Option Addr) (cdv ct : Value) (us : List Value), us.length = (["pair"] : List Str).length → bindArgs (PySem.W.fnOf "_law_is" "_law_is" (defArgs (top 49)) (defBody (top 49)) (defScope (top 49)) .none kV doc pm an cdv ct) ⟨us, []⟩ = pure ((["pair"] : List Str).zip us) := fun _ _ _ _ _ _ us hl => match us, hl with | [_], _ => rfl
theorem b__law_divided : ∀ (kV doc pm : Value) (an : Option Addr) (cdv ct : Value) (us : List Value), us.length = (["door", "u", "named"] : List Str).length → bindArgs (PySem.W.fnOf "_law_divided" "_law_divided" (defArgs (top 50)) (defBody (top 50)) (defScope (top 50)) .none kV doc pm an cdv ct) ⟨us, []⟩ = pure ((["door", "u", "named"] : List Str).zip us) := fun _ _ _ _ _ _ us hl => match us, hl with | [_, _, _], _ => rfl
theorem b__law_two_right : ∀ (kV doc pm : Value) (an : Option Addr) (cdv ct : Value) (us : List Value), us.length = (["u", "v"] : List Str).length → bindArgs (PySem.W.fnOf "_law_two_right" "_law_two_right" (defArgs (top 51)) (defBody (top 51)) (defScope (top 51)) .none kV doc pm an cdv ct) ⟨us, []⟩ = pure ((["u", "v"] : List Str).zip us) := fun _ _ _ _ _ _ us hl => match us, hl with | [_, _], _ => rfl
theorem b__law_power_right : ∀ (kV doc pm : Value) (an : Option Addr) (cdv ct : Value) (us : List Value), us.length = (["u", "many"] : List Str).length → bindArgs (PySem.W.fnOf "_law_power_right" "_law_power_right" (defArgs (top 52)) (defBody (top 52)) (defScope (top 52)) .none kV doc pm an cdv ct) ⟨us, []⟩ = pure ((["u", "many"] : List Str).zip us) := fun _ _ _ _ _ _ us hl => match us, hl with | [_, _], _ => rfl
theorem b__law_row_right : ∀ (kV doc pm : Value) (an : Option Addr) (cdv ct : Value) (us : List Value), us.length = (["deck", "row"] : List Str).length → bindArgs (PySem.W.fnOf "_law_row_right" "_law_row_right" (defArgs (top 53)) (defBody (top 53)) (defScope (top 53)) .none kV doc pm an cdv ct) ⟨us, []⟩ = pure ((["deck", "row"] : List Str).zip us) := fun _ _ _ _ _ _ us hl => match us, hl with | [_, _], _ => rfl
theorem b__law_right : ∀ (kV doc pm : Value) (an : Option Addr) (cdv ct : Value) (us : List Value), us.length = (["deck"] : List Str).length → bindArgs (PySem.W.fnOf "_law_right" "_law_right" (defArgs (top 54)) (defBody (top 54)) (defScope (top 54)) .none kV doc pm an cdv ct) ⟨us, []⟩ = pure ((["deck"] : List Str).zip us) := fun _ _ _ _ _ _ us hl => match us, hl with | [_], _ => rfl
theorem b_law : ∀ (kV doc pm : Value) (an : Option Addr) (cdv ct : Value) (us : List Value), us.length = (["script"] : List Str).length → bindArgs (PySem.W.fnOf "law" "law" (defArgs (top 55)) (defBody (top 55)) (defScope (top 55)) .none kV doc pm an cdv ct) ⟨us, []⟩ = pure ((["script"] : List Str).zip us) := fun _ _ _ _ _ _ us hl => match us, hl with | [_], _ => rfl
theorem b__init : ∀ (kV doc pm : Value) (an : Option Addr) (cdv ct : Value) (us : List Value), us.length = (["self", "value"] : List Str).length → bindArgs (PySem.W.fnOf "__init__" "TellError.__init__" (defArgs stI) (defBody stI) (defScope stI) .none kV doc pm an cdv ct) ⟨us, []⟩ = pure ((["self", "value"] : List Str).zip us) := fun _ _ _ _ _ _ us hl => match us, hl with | [_, _], _ => rfl
theorem k_0 : ∀ (kV doc pm : Value) (an : Option Addr) (cdv ct : Value) (us ws : List Value), us.length = 0 → ws.length = (["bottom", "top"] : List Str).length → bindArgs (PySem.W.fnOf "number" "number" (defArgs (top 22)) (defBody (top 22)) (defScope (top 22)) .none kV doc pm an cdv ct) ⟨us, (["bottom", "top"] : List Str).zip ws⟩ = pure ((["top", "bottom"] : List Str).zip (pick (us ++ ws) [1, 0])) := fun _ _ _ _ _ _ us ws h1 h2 => match us, ws, h1, h2 with | [], [_, _], _, _ => rfl
theorem k_1 : ∀ (kV doc pm : Value) (an : Option Addr) (cdv ct : Value) (us ws : List Value), us.length = 0 → ws.length = (["b", "a"] : List Str).length → bindArgs (PySem.W.fnOf "by" "by" (defArgs (top 26)) (defBody (top 26)) (defScope (top 26)) .none kV doc pm an cdv ct) ⟨us, (["b", "a"] : List Str).zip ws⟩ = pure ((["a", "b"] : List Str).zip (pick (us ++ ws) [1, 0])) := fun _ _ _ _ _ _ us ws h1 h2 => match us, ws, h1, h2 with | [], [_, _], _, _ => rfl
theorem k_2 : ∀ (kV doc pm : Value) (an : Option Addr) (cdv ct : Value) (us ws : List Value), us.length = 0 → ws.length = (["b", "a"] : List Str).length → bindArgs (PySem.W.fnOf "below" "below" (defArgs (top 29)) (defBody (top 29)) (defScope (top 29)) .none kV doc pm an cdv ct) ⟨us, (["b", "a"] : List Str).zip ws⟩ = pure ((["a", "b"] : List Str).zip (pick (us ++ ws) [1, 0])) := fun _ _ _ _ _ _ us ws h1 h2 => match us, ws, h1, h2 with | [], [_, _], _, _ => rfl
theorem k_3 : ∀ (kV doc pm : Value) (an : Option Addr) (cdv ct : Value) (us ws : List Value), us.length = 0 → ws.length = (["b", "a"] : List Str).length → bindArgs (PySem.W.fnOf "times" "times" (defArgs (top 25)) (defBody (top 25)) (defScope (top 25)) .none kV doc pm an cdv ct) ⟨us, (["b", "a"] : List Str).zip ws⟩ = pure ((["a", "b"] : List Str).zip (pick (us ++ ws) [1, 0])) := fun _ _ _ _ _ _ us ws h1 h2 => match us, ws, h1, h2 with | [], [_, _], _, _ => rfl
theorem k_4 : ∀ (kV doc pm : Value) (an : Option Addr) (cdv ct : Value) (us ws : List Value), us.length = 0 → ws.length = (["b", "a"] : List Str).length → bindArgs (PySem.W.fnOf "minus" "minus" (defArgs (top 24)) (defBody (top 24)) (defScope (top 24)) .none kV doc pm an cdv ct) ⟨us, (["b", "a"] : List Str).zip ws⟩ = pure ((["a", "b"] : List Str).zip (pick (us ++ ws) [1, 0])) := fun _ _ _ _ _ _ us ws h1 h2 => match us, ws, h1, h2 with | [], [_, _], _, _ => rfl
theorem k_5 : ∀ (kV doc pm : Value) (an : Option Addr) (cdv ct : Value) (us ws : List Value), us.length = 0 → ws.length = (["b", "a"] : List Str).length → bindArgs (PySem.W.fnOf "plus" "plus" (defArgs (top 23)) (defBody (top 23)) (defScope (top 23)) .none kV doc pm an cdv ct) ⟨us, (["b", "a"] : List Str).zip ws⟩ = pure ((["a", "b"] : List Str).zip (pick (us ++ ws) [1, 0])) := fun _ _ _ _ _ _ us ws h1 h2 => match us, ws, h1, h2 with | [], [_, _], _, _ => rfl
theorem k_6 : ∀ (kV doc pm : Value) (an : Option Addr) (cdv ct : Value) (us ws : List Value), us.length = 0 → ws.length = (["n", "a"] : List Str).length → bindArgs (PySem.W.fnOf "power" "power" (defArgs (top 28)) (defBody (top 28)) (defScope (top 28)) .none kV doc pm an cdv ct) ⟨us, (["n", "a"] : List Str).zip ws⟩ = pure ((["a", "n"] : List Str).zip (pick (us ++ ws) [1, 0])) := fun _ _ _ _ _ _ us ws h1 h2 => match us, ws, h1, h2 with | [], [_, _], _, _ => rfl
theorem k_7 : ∀ (kV doc pm : Value) (an : Option Addr) (cdv ct : Value) (us ws : List Value), us.length = 0 → ws.length = (["numbers"] : List Str).length → bindArgs (PySem.W.fnOf "least" "least" (defArgs (top 33)) (defBody (top 33)) (defScope (top 33)) .none kV doc pm an cdv ct) ⟨us, (["numbers"] : List Str).zip ws⟩ = pure ((["numbers"] : List Str).zip (pick (us ++ ws) [0])) := fun _ _ _ _ _ _ us ws h1 h2 => match us, ws, h1, h2 with | [], [_], _, _ => rfl
theorem k_8 : ∀ (kV doc pm : Value) (an : Option Addr) (cdv ct : Value) (us ws : List Value), us.length = 0 → ws.length = (["numbers"] : List Str).length → bindArgs (PySem.W.fnOf "greatest" "greatest" (defArgs (top 34)) (defBody (top 34)) (defScope (top 34)) .none kV doc pm an cdv ct) ⟨us, (["numbers"] : List Str).zip ws⟩ = pure ((["numbers"] : List Str).zip (pick (us ++ ws) [0])) := fun _ _ _ _ _ _ us ws h1 h2 => match us, ws, h1, h2 with | [], [_], _, _ => rfl
theorem k_9 : ∀ (kV doc pm : Value) (an : Option Addr) (cdv ct : Value) (us ws : List Value), us.length = 0 → ws.length = (["numbers"] : List Str).length → bindArgs (PySem.W.fnOf "total" "total" (defArgs (top 35)) (defBody (top 35)) (defScope (top 35)) .none kV doc pm an cdv ct) ⟨us, (["numbers"] : List Str).zip ws⟩ = pure ((["numbers"] : List Str).zip (pick (us ++ ws) [0])) := fun _ _ _ _ _ _ us ws h1 h2 => match us, ws, h1, h2 with | [], [_], _, _ => rfl
theorem k_10 : ∀ (kV doc pm : Value) (an : Option Addr) (cdv ct : Value) (us ws : List Value), us.length = 0 → ws.length = (["told"] : List Str).length → bindArgs (PySem.W.fnOf "is_number" "is_number" (defArgs (top 19)) (defBody (top 19)) (defScope (top 19)) .none kV doc pm an cdv ct) ⟨us, (["told"] : List Str).zip ws⟩ = pure ((["told"] : List Str).zip (pick (us ++ ws) [0])) := fun _ _ _ _ _ _ us ws h1 h2 => match us, ws, h1, h2 with | [], [_], _, _ => rfl
def CAof (K : PySem.W.Frag) (c : Nat) : Addr := He.ga K (tab.cls.getD c "")
section
variable {P : Program} {w : World} {K : PySem.W.Frag} {mg : Str → Option Value} {h base : Heap}
theorem f_is_integer (X : K.In h) (G : h.Ns mainGlobals mg) (c : He.SaysD faL fnL K) : ∃ (f : Addr) (fd : FuncData) (r : Row) (d : Ev.FunD) (y qual : Str) (params : Arguments), rows[0]? = some r ∧ defs[0]? = some d ∧ r.ps = (["value"] : List Str) ∧ mg "is_integer" = some (.ref f) ∧ PySem.W.keepIn K (.ref f) = true ∧
    L2.FunD K y qual params r.body r.sc [] [] f fd ∧ Binds K fd (["value"] : List Str) [] ∧ cD tab r d = true ∧
    (∀ m ks perm, (0, m, ks, perm) ∈ tab.kw → (perm.Nodup ∧ perm.length = ((["value"] : List Str) : List Str).length ∧ ∀ j ∈ perm, j < m + ks.length) ∧ ∀ (s : Shared) (us ws : List Value), us.length = m → ws.length = ks.length → BindsTo s fd ⟨us, ks.zip ws⟩ (((["value"] : List Str) : List Str).zip (pick (us ++ ws) perm))) := by
  obtain ⟨fd, F⟩ := c.def_ 0 (d := D_is_integer) rfl
  refine ⟨_, fd, r_is_integer, d_is_integer, _, _, _, rfl, rfl, rfl, glo_at X G c 19 rfl, F.kp, F, F.bindsN b_is_integer, by decide +kernel, fun m ks perm hm => ?_⟩
  simp only [tab, List.mem_cons, Prod.mk.injEq, List.not_mem_nil, or_false] at hm
  rcases hm with ⟨h1, h2, h3, h4⟩ | ⟨h1, h2, h3, h4⟩ | ⟨h1, h2, h3, h4⟩ | ⟨h1, h2, h3, h4⟩ | ⟨h1, h2, h3, h4⟩ | ⟨h1, h2, h3, h4⟩ | ⟨h1, h2, h3, h4⟩ | ⟨h1, h2, h3, h4⟩ | ⟨h1, h2, h3, h4⟩ | ⟨h1, h2, h3, h4⟩ | ⟨h1, h2, h3, h4⟩
  · exact absurd h1 (by decide)
  · exact absurd h1 (by decide)
  · exact absurd h1 (by decide)
  · exact absurd h1 (by decide)
  · exact absurd h1 (by decide)
  · exact absurd h1 (by decide)
  · exact absurd h1 (by decide)
  · exact absurd h1 (by decide)
  · exact absurd h1 (by decide)
  · exact absurd h1 (by decide)
  · exact absurd h1 (by decide)
theorem f_is_pair (X : K.In h) (G : h.Ns mainGlobals mg) (c : He.SaysD faL fnL K) : ∃ (f : Addr) (fd : FuncData) (r : Row) (d : Ev.FunD) (y qual : Str) (params : Arguments), rows[1]? = some r ∧ defs[1]? = some d ∧ r.ps = (["value"] : List Str) ∧ mg "is_pair" = some (.ref f) ∧ PySem.W.keepIn K (.ref f) = true ∧
    L2.FunD K y qual params r.body r.sc [] [] f fd ∧ Binds K fd (["value"] : List Str) [] ∧ cD tab r d = true ∧
    (∀ m ks perm, (1, m, ks, perm) ∈ tab.kw → (perm.Nodup ∧ perm.length = ((["value"] : List Str) : List Str).length ∧ ∀ j ∈ perm, j < m + ks.length) ∧ ∀ (s : Shared) (us ws : List Value), us.length = m → ws.length = ks.length → BindsTo s fd ⟨us, ks.zip ws⟩ (((["value"] : List Str) : List Str).zip (pick (us ++ ws) perm))) := by
  obtain ⟨fd, F⟩ := c.def_ 1 (d := D_is_pair) rfl
  refine ⟨_, fd, r_is_pair, d_is_pair, _, _, _, rfl, rfl, rfl, glo_at X G c 20 rfl, F.kp, F, F.bindsN b_is_pair, by decide +kernel, fun m ks perm hm => ?_⟩
  simp only [tab, List.mem_cons, Prod.mk.injEq, List.not_mem_nil, or_false] at hm
  rcases hm with ⟨h1, h2, h3, h4⟩ | ⟨h1, h2, h3, h4⟩ | ⟨h1, h2, h3, h4⟩ | ⟨h1, h2, h3, h4⟩ | ⟨h1, h2, h3, h4⟩ | ⟨h1, h2, h3, h4⟩ | ⟨h1, h2, h3, h4⟩ | ⟨h1, h2, h3, h4⟩ | ⟨h1, h2, h3, h4⟩ | ⟨h1, h2, h3, h4⟩ | ⟨h1, h2, h3, h4⟩
  · exact absurd h1 (by decide)
  · exact absurd h1 (by decide)
  · exact absurd h1 (by decide)
  · exact absurd h1 (by decide)
  · exact absurd h1 (by decide)
  · exact absurd h1 (by decide)
  · exact absurd h1 (by decide)
  · exact absurd h1 (by decide)
  · exact absurd h1 (by decide)
  · exact absurd h1 (by decide)
  · exact absurd h1 (by decide)
theorem f_lowest (X : K.In h) (G : h.Ns mainGlobals mg) (c : He.SaysD faL fnL K) : ∃ (f : Addr) (fd : FuncData) (r : Row) (d : Ev.FunD) (y qual : Str) (params : Arguments), rows[2]? = some r ∧ defs[2]? = some d ∧ r.ps = (["top", "bottom"] : List Str) ∧ mg "lowest" = some (.ref f) ∧ PySem.W.keepIn K (.ref f) = true ∧
    L2.FunD K y qual params r.body r.sc [] [] f fd ∧ Binds K fd (["top", "bottom"] : List Str) [] ∧ cD tab r d = true ∧
    (∀ m ks perm, (2, m, ks, perm) ∈ tab.kw → (perm.Nodup ∧ perm.length = ((["top", "bottom"] : List Str) : List Str).length ∧ ∀ j ∈ perm, j < m + ks.length) ∧ ∀ (s : Shared) (us ws : List Value), us.length = m → ws.length = ks.length → BindsTo s fd ⟨us, ks.zip ws⟩ (((["top", "bottom"] : List Str) : List Str).zip (pick (us ++ ws) perm))) := by
  obtain ⟨fd, F⟩ := c.def_ 2 (d := D_lowest) rfl
  refine ⟨_, fd, r_lowest, d_lowest, _, _, _, rfl, rfl, rfl, glo_at X G c 21 rfl, F.kp, F, F.bindsN b_lowest, by decide +kernel, fun m ks perm hm => ?_⟩
  simp only [tab, List.mem_cons, Prod.mk.injEq, List.not_mem_nil, or_false] at hm
  rcases hm with ⟨h1, h2, h3, h4⟩ | ⟨h1, h2, h3, h4⟩ | ⟨h1, h2, h3, h4⟩ | ⟨h1, h2, h3, h4⟩ | ⟨h1, h2, h3, h4⟩ | ⟨h1, h2, h3, h4⟩ | ⟨h1, h2, h3, h4⟩ | ⟨h1, h2, h3, h4⟩ | ⟨h1, h2, h3, h4⟩ | ⟨h1, h2, h3, h4⟩ | ⟨h1, h2, h3, h4⟩
  · exact absurd h1 (by decide)
  · exact absurd h1 (by decide)
  · exact absurd h1 (by decide)
  · exact absurd h1 (by decide)
  · exact absurd h1 (by decide)
  · exact absurd h1 (by decide)
  · exact absurd h1 (by decide)
  · exact absurd h1 (by decide)
  · exact absurd h1 (by decide)
  · exact absurd h1 (by decide)
  · exact absurd h1 (by decide)
theorem f_sum_of_two (X : K.In h) (G : h.Ns mainGlobals mg) (c : He.SaysD faL fnL K) : ∃ (f : Addr) (fd : FuncData) (r : Row) (d : Ev.FunD) (y qual : Str) (params : Arguments), rows[3]? = some r ∧ defs[3]? = some d ∧ r.ps = (["a", "b"] : List Str) ∧ mg "sum_of_two" = some (.ref f) ∧ PySem.W.keepIn K (.ref f) = true ∧
    L2.FunD K y qual params r.body r.sc [] [] f fd ∧ Binds K fd (["a", "b"] : List Str) [] ∧ cD tab r d = true ∧
    (∀ m ks perm, (3, m, ks, perm) ∈ tab.kw → (perm.Nodup ∧ perm.length = ((["a", "b"] : List Str) : List Str).length ∧ ∀ j ∈ perm, j < m + ks.length) ∧ ∀ (s : Shared) (us ws : List Value), us.length = m → ws.length = ks.length → BindsTo s fd ⟨us, ks.zip ws⟩ (((["a", "b"] : List Str) : List Str).zip (pick (us ++ ws) perm))) := by
  obtain ⟨fd, F⟩ := c.def_ 3 (d := D_sum_of_two) rfl
  refine ⟨_, fd, r_sum_of_two, d_sum_of_two, _, _, _, rfl, rfl, rfl, glo_at X G c 22 rfl, F.kp, F, F.bindsN b_sum_of_two, by decide +kernel, fun m ks perm hm => ?_⟩
  simp only [tab, List.mem_cons, Prod.mk.injEq, List.not_mem_nil, or_false] at hm
  rcases hm with ⟨h1, h2, h3, h4⟩ | ⟨h1, h2, h3, h4⟩ | ⟨h1, h2, h3, h4⟩ | ⟨h1, h2, h3, h4⟩ | ⟨h1, h2, h3, h4⟩ | ⟨h1, h2, h3, h4⟩ | ⟨h1, h2, h3, h4⟩ | ⟨h1, h2, h3, h4⟩ | ⟨h1, h2, h3, h4⟩ | ⟨h1, h2, h3, h4⟩ | ⟨h1, h2, h3, h4⟩
  · exact absurd h1 (by decide)
  · exact absurd h1 (by decide)
  · exact absurd h1 (by decide)
  · exact absurd h1 (by decide)
  · exact absurd h1 (by decide)
  · exact absurd h1 (by decide)
  · exact absurd h1 (by decide)
  · exact absurd h1 (by decide)
  · exact absurd h1 (by decide)
  · exact absurd h1 (by decide)
  · exact absurd h1 (by decide)
theorem f_opposite (X : K.In h) (G : h.Ns mainGlobals mg) (c : He.SaysD faL fnL K) : ∃ (f : Addr) (fd : FuncData) (r : Row) (d : Ev.FunD) (y qual : Str) (params : Arguments), rows[4]? = some r ∧ defs[4]? = some d ∧ r.ps = (["a"] : List Str) ∧ mg "opposite" = some (.ref f) ∧ PySem.W.keepIn K (.ref f) = true ∧
    L2.FunD K y qual params r.body r.sc [] [] f fd ∧ Binds K fd (["a"] : List Str) [] ∧ cD tab r d = true ∧
    (∀ m ks perm, (4, m, ks, perm) ∈ tab.kw → (perm.Nodup ∧ perm.length = ((["a"] : List Str) : List Str).length ∧ ∀ j ∈ perm, j < m + ks.length) ∧ ∀ (s : Shared) (us ws : List Value), us.length = m → ws.length = ks.length → BindsTo s fd ⟨us, ks.zip ws⟩ (((["a"] : List Str) : List Str).zip (pick (us ++ ws) perm))) := by
  obtain ⟨fd, F⟩ := c.def_ 4 (d := D_opposite) rfl
  refine ⟨_, fd, r_opposite, d_opposite, _, _, _, rfl, rfl, rfl, glo_at X G c 23 rfl, F.kp, F, F.bindsN b_opposite, by decide +kernel, fun m ks perm hm => ?_⟩
  simp only [tab, List.mem_cons, Prod.mk.injEq, List.not_mem_nil, or_false] at hm
  rcases hm with ⟨h1, h2, h3, h4⟩ | ⟨h1, h2, h3, h4⟩ | ⟨h1, h2, h3, h4⟩ | ⟨h1, h2, h3, h4⟩ | ⟨h1, h2, h3, h4⟩ | ⟨h1, h2, h3, h4⟩ | ⟨h1, h2, h3, h4⟩ | ⟨h1, h2, h3, h4⟩ | ⟨h1, h2, h3, h4⟩ | ⟨h1, h2, h3, h4⟩ | ⟨h1, h2, h3, h4⟩
  · exact absurd h1 (by decide)
  · exact absurd h1 (by decide)
  · exact absurd h1 (by decide)
  · exact absurd h1 (by decide)
  · exact absurd h1 (by decide)
  · exact absurd h1 (by decide)
  · exact absurd h1 (by decide)
  · exact absurd h1 (by decide)
  · exact absurd h1 (by decide)
  · exact absurd h1 (by decide)
  · exact absurd h1 (by decide)
theorem f_difference (X : K.In h) (G : h.Ns mainGlobals mg) (c : He.SaysD faL fnL K) : ∃ (f : Addr) (fd : FuncData) (r : Row) (d : Ev.FunD) (y qual : Str) (params : Arguments), rows[5]? = some r ∧ defs[5]? = some d ∧ r.ps = (["a", "b"] : List Str) ∧ mg "difference" = some (.ref f) ∧ PySem.W.keepIn K (.ref f) = true ∧
    L2.FunD K y qual params r.body r.sc [] [] f fd ∧ Binds K fd (["a", "b"] : List Str) [] ∧ cD tab r d = true ∧
    (∀ m ks perm, (5, m, ks, perm) ∈ tab.kw → (perm.Nodup ∧ perm.length = ((["a", "b"] : List Str) : List Str).length ∧ ∀ j ∈ perm, j < m + ks.length) ∧ ∀ (s : Shared) (us ws : List Value), us.length = m → ws.length = ks.length → BindsTo s fd ⟨us, ks.zip ws⟩ (((["a", "b"] : List Str) : List Str).zip (pick (us ++ ws) perm))) := by
  obtain ⟨fd, F⟩ := c.def_ 5 (d := D_difference) rfl
  refine ⟨_, fd, r_difference, d_difference, _, _, _, rfl, rfl, rfl, glo_at X G c 24 rfl, F.kp, F, F.bindsN b_difference, by decide +kernel, fun m ks perm hm => ?_⟩
  simp only [tab, List.mem_cons, Prod.mk.injEq, List.not_mem_nil, or_false] at hm
  rcases hm with ⟨h1, h2, h3, h4⟩ | ⟨h1, h2, h3, h4⟩ | ⟨h1, h2, h3, h4⟩ | ⟨h1, h2, h3, h4⟩ | ⟨h1, h2, h3, h4⟩ | ⟨h1, h2, h3, h4⟩ | ⟨h1, h2, h3, h4⟩ | ⟨h1, h2, h3, h4⟩ | ⟨h1, h2, h3, h4⟩ | ⟨h1, h2, h3, h4⟩ | ⟨h1, h2, h3, h4⟩
  · exact absurd h1 (by decide)
  · exact absurd h1 (by decide)
  · exact absurd h1 (by decide)
  · exact absurd h1 (by decide)
  · exact absurd h1 (by decide)
  · exact absurd h1 (by decide)
  · exact absurd h1 (by decide)
  · exact absurd h1 (by decide)
  · exact absurd h1 (by decide)
  · exact absurd h1 (by decide)
  · exact absurd h1 (by decide)
theorem f_product (X : K.In h) (G : h.Ns mainGlobals mg) (c : He.SaysD faL fnL K) : ∃ (f : Addr) (fd : FuncData) (r : Row) (d : Ev.FunD) (y qual : Str) (params : Arguments), rows[6]? = some r ∧ defs[6]? = some d ∧ r.ps = (["a", "b"] : List Str) ∧ mg "product" = some (.ref f) ∧ PySem.W.keepIn K (.ref f) = true ∧
    L2.FunD K y qual params r.body r.sc [] [] f fd ∧ Binds K fd (["a", "b"] : List Str) [] ∧ cD tab r d = true ∧
    (∀ m ks perm, (6, m, ks, perm) ∈ tab.kw → (perm.Nodup ∧ perm.length = ((["a", "b"] : List Str) : List Str).length ∧ ∀ j ∈ perm, j < m + ks.length) ∧ ∀ (s : Shared) (us ws : List Value), us.length = m → ws.length = ks.length → BindsTo s fd ⟨us, ks.zip ws⟩ (((["a", "b"] : List Str) : List Str).zip (pick (us ++ ws) perm))) := by
  obtain ⟨fd, F⟩ := c.def_ 6 (d := D_product) rfl
  refine ⟨_, fd, r_product, d_product, _, _, _, rfl, rfl, rfl, glo_at X G c 25 rfl, F.kp, F, F.bindsN b_product, by decide +kernel, fun m ks perm hm => ?_⟩
  simp only [tab, List.mem_cons, Prod.mk.injEq, List.not_mem_nil, or_false] at hm
  rcases hm with ⟨h1, h2, h3, h4⟩ | ⟨h1, h2, h3, h4⟩ | ⟨h1, h2, h3, h4⟩ | ⟨h1, h2, h3, h4⟩ | ⟨h1, h2, h3, h4⟩ | ⟨h1, h2, h3, h4⟩ | ⟨h1, h2, h3, h4⟩ | ⟨h1, h2, h3, h4⟩ | ⟨h1, h2, h3, h4⟩ | ⟨h1, h2, h3, h4⟩ | ⟨h1, h2, h3, h4⟩
  · exact absurd h1 (by decide)
  · exact absurd h1 (by decide)
  · exact absurd h1 (by decide)
  · exact absurd h1 (by decide)
  · exact absurd h1 (by decide)
  · exact absurd h1 (by decide)
  · exact absurd h1 (by decide)
  · exact absurd h1 (by decide)
  · exact absurd h1 (by decide)
  · exact absurd h1 (by decide)
  · exact absurd h1 (by decide)
theorem f_quotient (X : K.In h) (G : h.Ns mainGlobals mg) (c : He.SaysD faL fnL K) : ∃ (f : Addr) (fd : FuncData) (r : Row) (d : Ev.FunD) (y qual : Str) (params : Arguments), rows[7]? = some r ∧ defs[7]? = some d ∧ r.ps = (["a", "b"] : List Str) ∧ mg "quotient" = some (.ref f) ∧ PySem.W.keepIn K (.ref f) = true ∧
    L2.FunD K y qual params r.body r.sc [] [] f fd ∧ Binds K fd (["a", "b"] : List Str) [] ∧ cD tab r d = true ∧
    (∀ m ks perm, (7, m, ks, perm) ∈ tab.kw → (perm.Nodup ∧ perm.length = ((["a", "b"] : List Str) : List Str).length ∧ ∀ j ∈ perm, j < m + ks.length) ∧ ∀ (s : Shared) (us ws : List Value), us.length = m → ws.length = ks.length → BindsTo s fd ⟨us, ks.zip ws⟩ (((["a", "b"] : List Str) : List Str).zip (pick (us ++ ws) perm))) := by
  obtain ⟨fd, F⟩ := c.def_ 7 (d := D_quotient) rfl
  refine ⟨_, fd, r_quotient, d_quotient, _, _, _, rfl, rfl, rfl, glo_at X G c 26 rfl, F.kp, F, F.bindsN b_quotient, by decide +kernel, fun m ks perm hm => ?_⟩
  simp only [tab, List.mem_cons, Prod.mk.injEq, List.not_mem_nil, or_false] at hm
  rcases hm with ⟨h1, h2, h3, h4⟩ | ⟨h1, h2, h3, h4⟩ | ⟨h1, h2, h3, h4⟩ | ⟨h1, h2, h3, h4⟩ | ⟨h1, h2, h3, h4⟩ | ⟨h1, h2, h3, h4⟩ | ⟨h1, h2, h3, h4⟩ | ⟨h1, h2, h3, h4⟩ | ⟨h1, h2, h3, h4⟩ | ⟨h1, h2, h3, h4⟩ | ⟨h1, h2, h3, h4⟩
  · exact absurd h1 (by decide)
  · exact absurd h1 (by decide)
  · exact absurd h1 (by decide)
  · exact absurd h1 (by decide)
  · exact absurd h1 (by decide)
  · exact absurd h1 (by decide)
  · exact absurd h1 (by decide)
  · exact absurd h1 (by decide)
  · exact absurd h1 (by decide)
  · exact absurd h1 (by decide)
  · exact absurd h1 (by decide)
theorem f_is_less (X : K.In h) (G : h.Ns mainGlobals mg) (c : He.SaysD faL fnL K) : ∃ (f : Addr) (fd : FuncData) (r : Row) (d : Ev.FunD) (y qual : Str) (params : Arguments), rows[8]? = some r ∧ defs[8]? = some d ∧ r.ps = (["a", "b"] : List Str) ∧ mg "is_less" = some (.ref f) ∧ PySem.W.keepIn K (.ref f) = true ∧
    L2.FunD K y qual params r.body r.sc [] [] f fd ∧ Binds K fd (["a", "b"] : List Str) [] ∧ cD tab r d = true ∧
    (∀ m ks perm, (8, m, ks, perm) ∈ tab.kw → (perm.Nodup ∧ perm.length = ((["a", "b"] : List Str) : List Str).length ∧ ∀ j ∈ perm, j < m + ks.length) ∧ ∀ (s : Shared) (us ws : List Value), us.length = m → ws.length = ks.length → BindsTo s fd ⟨us, ks.zip ws⟩ (((["a", "b"] : List Str) : List Str).zip (pick (us ++ ws) perm))) := by
  obtain ⟨fd, F⟩ := c.def_ 8 (d := D_is_less) rfl
  refine ⟨_, fd, r_is_less, d_is_less, _, _, _, rfl, rfl, rfl, glo_at X G c 27 rfl, F.kp, F, F.bindsN b_is_less, by decide +kernel, fun m ks perm hm => ?_⟩
  simp only [tab, List.mem_cons, Prod.mk.injEq, List.not_mem_nil, or_false] at hm
  rcases hm with ⟨h1, h2, h3, h4⟩ | ⟨h1, h2, h3, h4⟩ | ⟨h1, h2, h3, h4⟩ | ⟨h1, h2, h3, h4⟩ | ⟨h1, h2, h3, h4⟩ | ⟨h1, h2, h3, h4⟩ | ⟨h1, h2, h3, h4⟩ | ⟨h1, h2, h3, h4⟩ | ⟨h1, h2, h3, h4⟩ | ⟨h1, h2, h3, h4⟩ | ⟨h1, h2, h3, h4⟩
  · exact absurd h1 (by decide)
  · exact absurd h1 (by decide)
  · exact absurd h1 (by decide)
  · exact absurd h1 (by decide)
  · exact absurd h1 (by decide)
  · exact absurd h1 (by decide)
  · exact absurd h1 (by decide)
  · exact absurd h1 (by decide)
  · exact absurd h1 (by decide)
  · exact absurd h1 (by decide)
  · exact absurd h1 (by decide)
theorem f_sum_of_all (X : K.In h) (G : h.Ns mainGlobals mg) (c : He.SaysD faL fnL K) : ∃ (f : Addr) (fd : FuncData) (r : Row) (d : Ev.FunD) (y qual : Str) (params : Arguments), rows[9]? = some r ∧ defs[9]? = some d ∧ r.ps = (["row"] : List Str) ∧ mg "sum_of_all" = some (.ref f) ∧ PySem.W.keepIn K (.ref f) = true ∧
    L2.FunD K y qual params r.body r.sc [] [] f fd ∧ Binds K fd (["row"] : List Str) [] ∧ cD tab r d = true ∧
    (∀ m ks perm, (9, m, ks, perm) ∈ tab.kw → (perm.Nodup ∧ perm.length = ((["row"] : List Str) : List Str).length ∧ ∀ j ∈ perm, j < m + ks.length) ∧ ∀ (s : Shared) (us ws : List Value), us.length = m → ws.length = ks.length → BindsTo s fd ⟨us, ks.zip ws⟩ (((["row"] : List Str) : List Str).zip (pick (us ++ ws) perm))) := by
  obtain ⟨fd, F⟩ := c.def_ 9 (d := D_sum_of_all) rfl
  refine ⟨_, fd, r_sum_of_all, d_sum_of_all, _, _, _, rfl, rfl, rfl, glo_at X G c 28 rfl, F.kp, F, F.bindsN b_sum_of_all, by decide +kernel, fun m ks perm hm => ?_⟩
  simp only [tab, List.mem_cons, Prod.mk.injEq, List.not_mem_nil, or_false] at hm
  rcases hm with ⟨h1, h2, h3, h4⟩ | ⟨h1, h2, h3, h4⟩ | ⟨h1, h2, h3, h4⟩ | ⟨h1, h2, h3, h4⟩ | ⟨h1, h2, h3, h4⟩ | ⟨h1, h2, h3, h4⟩ | ⟨h1, h2, h3, h4⟩ | ⟨h1, h2, h3, h4⟩ | ⟨h1, h2, h3, h4⟩ | ⟨h1, h2, h3, h4⟩ | ⟨h1, h2, h3, h4⟩
  · exact absurd h1 (by decide)
  · exact absurd h1 (by decide)
  · exact absurd h1 (by decide)
  · exact absurd h1 (by decide)
  · exact absurd h1 (by decide)
  · exact absurd h1 (by decide)
  · exact absurd h1 (by decide)
  · exact absurd h1 (by decide)
  · exact absurd h1 (by decide)
  · exact absurd h1 (by decide)
  · exact absurd h1 (by decide)
theorem f_is_number (X : K.In h) (G : h.Ns mainGlobals mg) (c : He.SaysD faL fnL K) : ∃ (f : Addr) (fd : FuncData) (r : Row) (d : Ev.FunD) (y qual : Str) (params : Arguments), rows[10]? = some r ∧ defs[10]? = some d ∧ r.ps = (["told"] : List Str) ∧ mg "is_number" = some (.ref f) ∧ PySem.W.keepIn K (.ref f) = true ∧
    L2.FunD K y qual params r.body r.sc [] [] f fd ∧ Binds K fd (["told"] : List Str) [] ∧ cD tab r d = true ∧
    (∀ m ks perm, (10, m, ks, perm) ∈ tab.kw → (perm.Nodup ∧ perm.length = ((["told"] : List Str) : List Str).length ∧ ∀ j ∈ perm, j < m + ks.length) ∧ ∀ (s : Shared) (us ws : List Value), us.length = m → ws.length = ks.length → BindsTo s fd ⟨us, ks.zip ws⟩ (((["told"] : List Str) : List Str).zip (pick (us ++ ws) perm))) := by
  obtain ⟨fd, F⟩ := c.def_ 10 (d := D_is_number) rfl
  refine ⟨_, fd, r_is_number, d_is_number, _, _, _, rfl, rfl, rfl, glo_at X G c 29 rfl, F.kp, F, F.bindsN b_is_number, by decide +kernel, fun m ks perm hm => ?_⟩
  simp only [tab, List.mem_cons, Prod.mk.injEq, List.not_mem_nil, or_false] at hm
  rcases hm with ⟨h1, h2, h3, h4⟩ | ⟨h1, h2, h3, h4⟩ | ⟨h1, h2, h3, h4⟩ | ⟨h1, h2, h3, h4⟩ | ⟨h1, h2, h3, h4⟩ | ⟨h1, h2, h3, h4⟩ | ⟨h1, h2, h3, h4⟩ | ⟨h1, h2, h3, h4⟩ | ⟨h1, h2, h3, h4⟩ | ⟨h1, h2, h3, h4⟩ | ⟨h1, h2, h3, h4⟩
  · exact absurd h1 (by decide)
  · exact absurd h1 (by decide)
  · exact absurd h1 (by decide)
  · exact absurd h1 (by decide)
  · exact absurd h1 (by decide)
  · exact absurd h1 (by decide)
  · exact absurd h1 (by decide)
  · exact absurd h1 (by decide)
  · exact absurd h1 (by decide)
  · exact absurd h1 (by decide)
  · subst h2 h3 h4
    exact ⟨by decide, bindsK F k_10⟩
theorem f_check_numbers (X : K.In h) (G : h.Ns mainGlobals mg) (c : He.SaysD faL fnL K) : ∃ (f : Addr) (fd : FuncData) (r : Row) (d : Ev.FunD) (y qual : Str) (params : Arguments), rows[11]? = some r ∧ defs[11]? = some d ∧ r.ps = (["row"] : List Str) ∧ mg "check_numbers" = some (.ref f) ∧ PySem.W.keepIn K (.ref f) = true ∧
    L2.FunD K y qual params r.body r.sc [] [] f fd ∧ Binds K fd (["row"] : List Str) [] ∧ cD tab r d = true ∧
    (∀ m ks perm, (11, m, ks, perm) ∈ tab.kw → (perm.Nodup ∧ perm.length = ((["row"] : List Str) : List Str).length ∧ ∀ j ∈ perm, j < m + ks.length) ∧ ∀ (s : Shared) (us ws : List Value), us.length = m → ws.length = ks.length → BindsTo s fd ⟨us, ks.zip ws⟩ (((["row"] : List Str) : List Str).zip (pick (us ++ ws) perm))) := by
  obtain ⟨fd, F⟩ := c.def_ 11 (d := D_check_numbers) rfl
  refine ⟨_, fd, r_check_numbers, d_check_numbers, _, _, _, rfl, rfl, rfl, glo_at X G c 30 rfl, F.kp, F, F.bindsN b_check_numbers, by decide +kernel, fun m ks perm hm => ?_⟩
  simp only [tab, List.mem_cons, Prod.mk.injEq, List.not_mem_nil, or_false] at hm
  rcases hm with ⟨h1, h2, h3, h4⟩ | ⟨h1, h2, h3, h4⟩ | ⟨h1, h2, h3, h4⟩ | ⟨h1, h2, h3, h4⟩ | ⟨h1, h2, h3, h4⟩ | ⟨h1, h2, h3, h4⟩ | ⟨h1, h2, h3, h4⟩ | ⟨h1, h2, h3, h4⟩ | ⟨h1, h2, h3, h4⟩ | ⟨h1, h2, h3, h4⟩ | ⟨h1, h2, h3, h4⟩
  · exact absurd h1 (by decide)
  · exact absurd h1 (by decide)
  · exact absurd h1 (by decide)
  · exact absurd h1 (by decide)
  · exact absurd h1 (by decide)
  · exact absurd h1 (by decide)
  · exact absurd h1 (by decide)
  · exact absurd h1 (by decide)
  · exact absurd h1 (by decide)
  · exact absurd h1 (by decide)
  · exact absurd h1 (by decide)
theorem f_check_count (X : K.In h) (G : h.Ns mainGlobals mg) (c : He.SaysD faL fnL K) : ∃ (f : Addr) (fd : FuncData) (r : Row) (d : Ev.FunD) (y qual : Str) (params : Arguments), rows[12]? = some r ∧ defs[12]? = some d ∧ r.ps = (["n"] : List Str) ∧ mg "check_count" = some (.ref f) ∧ PySem.W.keepIn K (.ref f) = true ∧
    L2.FunD K y qual params r.body r.sc [] [] f fd ∧ Binds K fd (["n"] : List Str) [] ∧ cD tab r d = true ∧
    (∀ m ks perm, (12, m, ks, perm) ∈ tab.kw → (perm.Nodup ∧ perm.length = ((["n"] : List Str) : List Str).length ∧ ∀ j ∈ perm, j < m + ks.length) ∧ ∀ (s : Shared) (us ws : List Value), us.length = m → ws.length = ks.length → BindsTo s fd ⟨us, ks.zip ws⟩ (((["n"] : List Str) : List Str).zip (pick (us ++ ws) perm))) := by
  obtain ⟨fd, F⟩ := c.def_ 12 (d := D_check_count) rfl
  refine ⟨_, fd, r_check_count, d_check_count, _, _, _, rfl, rfl, rfl, glo_at X G c 31 rfl, F.kp, F, F.bindsN b_check_count, by decide +kernel, fun m ks perm hm => ?_⟩
  simp only [tab, List.mem_cons, Prod.mk.injEq, List.not_mem_nil, or_false] at hm
  rcases hm with ⟨h1, h2, h3, h4⟩ | ⟨h1, h2, h3, h4⟩ | ⟨h1, h2, h3, h4⟩ | ⟨h1, h2, h3, h4⟩ | ⟨h1, h2, h3, h4⟩ | ⟨h1, h2, h3, h4⟩ | ⟨h1, h2, h3, h4⟩ | ⟨h1, h2, h3, h4⟩ | ⟨h1, h2, h3, h4⟩ | ⟨h1, h2, h3, h4⟩ | ⟨h1, h2, h3, h4⟩
  · exact absurd h1 (by decide)
  · exact absurd h1 (by decide)
  · exact absurd h1 (by decide)
  · exact absurd h1 (by decide)
  · exact absurd h1 (by decide)
  · exact absurd h1 (by decide)
  · exact absurd h1 (by decide)
  · exact absurd h1 (by decide)
  · exact absurd h1 (by decide)
  · exact absurd h1 (by decide)
  · exact absurd h1 (by decide)
theorem f_number (X : K.In h) (G : h.Ns mainGlobals mg) (c : He.SaysD faL fnL K) : ∃ (f : Addr) (fd : FuncData) (r : Row) (d : Ev.FunD) (y qual : Str) (params : Arguments), rows[13]? = some r ∧ defs[13]? = some d ∧ r.ps = (["top", "bottom"] : List Str) ∧ mg "number" = some (.ref f) ∧ PySem.W.keepIn K (.ref f) = true ∧
    L2.FunD K y qual params r.body r.sc [] [] f fd ∧ Binds K fd (["top", "bottom"] : List Str) [] ∧ cD tab r d = true ∧
    (∀ m ks perm, (13, m, ks, perm) ∈ tab.kw → (perm.Nodup ∧ perm.length = ((["top", "bottom"] : List Str) : List Str).length ∧ ∀ j ∈ perm, j < m + ks.length) ∧ ∀ (s : Shared) (us ws : List Value), us.length = m → ws.length = ks.length → BindsTo s fd ⟨us, ks.zip ws⟩ (((["top", "bottom"] : List Str) : List Str).zip (pick (us ++ ws) perm))) := by
  obtain ⟨fd, F⟩ := c.def_ 13 (d := D_number) rfl
  refine ⟨_, fd, r_number, d_number, _, _, _, rfl, rfl, rfl, glo_at X G c 32 rfl, F.kp, F, F.bindsN b_number, by decide +kernel, fun m ks perm hm => ?_⟩
  simp only [tab, List.mem_cons, Prod.mk.injEq, List.not_mem_nil, or_false] at hm
  rcases hm with ⟨h1, h2, h3, h4⟩ | ⟨h1, h2, h3, h4⟩ | ⟨h1, h2, h3, h4⟩ | ⟨h1, h2, h3, h4⟩ | ⟨h1, h2, h3, h4⟩ | ⟨h1, h2, h3, h4⟩ | ⟨h1, h2, h3, h4⟩ | ⟨h1, h2, h3, h4⟩ | ⟨h1, h2, h3, h4⟩ | ⟨h1, h2, h3, h4⟩ | ⟨h1, h2, h3, h4⟩
  · subst h2 h3 h4
    exact ⟨by decide, bindsK F k_0⟩
  · exact absurd h1 (by decide)
  · exact absurd h1 (by decide)
  · exact absurd h1 (by decide)
  · exact absurd h1 (by decide)
  · exact absurd h1 (by decide)
  · exact absurd h1 (by decide)
  · exact absurd h1 (by decide)
  · exact absurd h1 (by decide)
  · exact absurd h1 (by decide)
  · exact absurd h1 (by decide)
theorem f_plus (X : K.In h) (G : h.Ns mainGlobals mg) (c : He.SaysD faL fnL K) : ∃ (f : Addr) (fd : FuncData) (r : Row) (d : Ev.FunD) (y qual : Str) (params : Arguments), rows[14]? = some r ∧ defs[14]? = some d ∧ r.ps = (["a", "b"] : List Str) ∧ mg "plus" = some (.ref f) ∧ PySem.W.keepIn K (.ref f) = true ∧
    L2.FunD K y qual params r.body r.sc [] [] f fd ∧ Binds K fd (["a", "b"] : List Str) [] ∧ cD tab r d = true ∧
    (∀ m ks perm, (14, m, ks, perm) ∈ tab.kw → (perm.Nodup ∧ perm.length = ((["a", "b"] : List Str) : List Str).length ∧ ∀ j ∈ perm, j < m + ks.length) ∧ ∀ (s : Shared) (us ws : List Value), us.length = m → ws.length = ks.length → BindsTo s fd ⟨us, ks.zip ws⟩ (((["a", "b"] : List Str) : List Str).zip (pick (us ++ ws) perm))) := by
  obtain ⟨fd, F⟩ := c.def_ 14 (d := D_plus) rfl
  refine ⟨_, fd, r_plus, d_plus, _, _, _, rfl, rfl, rfl, glo_at X G c 33 rfl, F.kp, F, F.bindsN b_plus, by decide +kernel, fun m ks perm hm => ?_⟩
  simp only [tab, List.mem_cons, Prod.mk.injEq, List.not_mem_nil, or_false] at hm
  rcases hm with ⟨h1, h2, h3, h4⟩ | ⟨h1, h2, h3, h4⟩ | ⟨h1, h2, h3, h4⟩ | ⟨h1, h2, h3, h4⟩ | ⟨h1, h2, h3, h4⟩ | ⟨h1, h2, h3, h4⟩ | ⟨h1, h2, h3, h4⟩ | ⟨h1, h2, h3, h4⟩ | ⟨h1, h2, h3, h4⟩ | ⟨h1, h2, h3, h4⟩ | ⟨h1, h2, h3, h4⟩
  · exact absurd h1 (by decide)
  · exact absurd h1 (by decide)
  · exact absurd h1 (by decide)
  · exact absurd h1 (by decide)
  · exact absurd h1 (by decide)
  · subst h2 h3 h4
    exact ⟨by decide, bindsK F k_5⟩
  · exact absurd h1 (by decide)
  · exact absurd h1 (by decide)
  · exact absurd h1 (by decide)
  · exact absurd h1 (by decide)
  · exact absurd h1 (by decide)
theorem f_minus (X : K.In h) (G : h.Ns mainGlobals mg) (c : He.SaysD faL fnL K) : ∃ (f : Addr) (fd : FuncData) (r : Row) (d : Ev.FunD) (y qual : Str) (params : Arguments), rows[15]? = some r ∧ defs[15]? = some d ∧ r.ps = (["a", "b"] : List Str) ∧ mg "minus" = some (.ref f) ∧ PySem.W.keepIn K (.ref f) = true ∧
    L2.FunD K y qual params r.body r.sc [] [] f fd ∧ Binds K fd (["a", "b"] : List Str) [] ∧ cD tab r d = true ∧
    (∀ m ks perm, (15, m, ks, perm) ∈ tab.kw → (perm.Nodup ∧ perm.length = ((["a", "b"] : List Str) : List Str).length ∧ ∀ j ∈ perm, j < m + ks.length) ∧ ∀ (s : Shared) (us ws : List Value), us.length = m → ws.length = ks.length → BindsTo s fd ⟨us, ks.zip ws⟩ (((["a", "b"] : List Str) : List Str).zip (pick (us ++ ws) perm))) := by
  obtain ⟨fd, F⟩ := c.def_ 15 (d := D_minus) rfl
  refine ⟨_, fd, r_minus, d_minus, _, _, _, rfl, rfl, rfl, glo_at X G c 34 rfl, F.kp, F, F.bindsN b_minus, by decide +kernel, fun m ks perm hm => ?_⟩
  simp only [tab, List.mem_cons, Prod.mk.injEq, List.not_mem_nil, or_false] at hm
  rcases hm with ⟨h1, h2, h3, h4⟩ | ⟨h1, h2, h3, h4⟩ | ⟨h1, h2, h3, h4⟩ | ⟨h1, h2, h3, h4⟩ | ⟨h1, h2, h3, h4⟩ | ⟨h1, h2, h3, h4⟩ | ⟨h1, h2, h3, h4⟩ | ⟨h1, h2, h3, h4⟩ | ⟨h1, h2, h3, h4⟩ | ⟨h1, h2, h3, h4⟩ | ⟨h1, h2, h3, h4⟩
  · exact absurd h1 (by decide)
  · exact absurd h1 (by decide)
  · exact absurd h1 (by decide)
  · exact absurd h1 (by decide)
  · subst h2 h3 h4
    exact ⟨by decide, bindsK F k_4⟩
  · exact absurd h1 (by decide)
  · exact absurd h1 (by decide)
  · exact absurd h1 (by decide)
  · exact absurd h1 (by decide)
  · exact absurd h1 (by decide)
  · exact absurd h1 (by decide)
theorem f_times (X : K.In h) (G : h.Ns mainGlobals mg) (c : He.SaysD faL fnL K) : ∃ (f : Addr) (fd : FuncData) (r : Row) (d : Ev.FunD) (y qual : Str) (params : Arguments), rows[16]? = some r ∧ defs[16]? = some d ∧ r.ps = (["a", "b"] : List Str) ∧ mg "times" = some (.ref f) ∧ PySem.W.keepIn K (.ref f) = true ∧
    L2.FunD K y qual params r.body r.sc [] [] f fd ∧ Binds K fd (["a", "b"] : List Str) [] ∧ cD tab r d = true ∧
    (∀ m ks perm, (16, m, ks, perm) ∈ tab.kw → (perm.Nodup ∧ perm.length = ((["a", "b"] : List Str) : List Str).length ∧ ∀ j ∈ perm, j < m + ks.length) ∧ ∀ (s : Shared) (us ws : List Value), us.length = m → ws.length = ks.length → BindsTo s fd ⟨us, ks.zip ws⟩ (((["a", "b"] : List Str) : List Str).zip (pick (us ++ ws) perm))) := by
  obtain ⟨fd, F⟩ := c.def_ 16 (d := D_times) rfl
  refine ⟨_, fd, r_times, d_times, _, _, _, rfl, rfl, rfl, glo_at X G c 35 rfl, F.kp, F, F.bindsN b_times, by decide +kernel, fun m ks perm hm => ?_⟩
  simp only [tab, List.mem_cons, Prod.mk.injEq, List.not_mem_nil, or_false] at hm
  rcases hm with ⟨h1, h2, h3, h4⟩ | ⟨h1, h2, h3, h4⟩ | ⟨h1, h2, h3, h4⟩ | ⟨h1, h2, h3, h4⟩ | ⟨h1, h2, h3, h4⟩ | ⟨h1, h2, h3, h4⟩ | ⟨h1, h2, h3, h4⟩ | ⟨h1, h2, h3, h4⟩ | ⟨h1, h2, h3, h4⟩ | ⟨h1, h2, h3, h4⟩ | ⟨h1, h2, h3, h4⟩
  · exact absurd h1 (by decide)
  · exact absurd h1 (by decide)
  · exact absurd h1 (by decide)
  · subst h2 h3 h4
    exact ⟨by decide, bindsK F k_3⟩
  · exact absurd h1 (by decide)
  · exact absurd h1 (by decide)
  · exact absurd h1 (by decide)
  · exact absurd h1 (by decide)
  · exact absurd h1 (by decide)
  · exact absurd h1 (by decide)
  · exact absurd h1 (by decide)
theorem f_by (X : K.In h) (G : h.Ns mainGlobals mg) (c : He.SaysD faL fnL K) : ∃ (f : Addr) (fd : FuncData) (r : Row) (d : Ev.FunD) (y qual : Str) (params : Arguments), rows[17]? = some r ∧ defs[17]? = some d ∧ r.ps = (["a", "b"] : List Str) ∧ mg "by" = some (.ref f) ∧ PySem.W.keepIn K (.ref f) = true ∧
    L2.FunD K y qual params r.body r.sc [] [] f fd ∧ Binds K fd (["a", "b"] : List Str) [] ∧ cD tab r d = true ∧
    (∀ m ks perm, (17, m, ks, perm) ∈ tab.kw → (perm.Nodup ∧ perm.length = ((["a", "b"] : List Str) : List Str).length ∧ ∀ j ∈ perm, j < m + ks.length) ∧ ∀ (s : Shared) (us ws : List Value), us.length = m → ws.length = ks.length → BindsTo s fd ⟨us, ks.zip ws⟩ (((["a", "b"] : List Str) : List Str).zip (pick (us ++ ws) perm))) := by
  obtain ⟨fd, F⟩ := c.def_ 17 (d := D_by) rfl
  refine ⟨_, fd, r_by, d_by, _, _, _, rfl, rfl, rfl, glo_at X G c 36 rfl, F.kp, F, F.bindsN b_by, by decide +kernel, fun m ks perm hm => ?_⟩
  simp only [tab, List.mem_cons, Prod.mk.injEq, List.not_mem_nil, or_false] at hm
  rcases hm with ⟨h1, h2, h3, h4⟩ | ⟨h1, h2, h3, h4⟩ | ⟨h1, h2, h3, h4⟩ | ⟨h1, h2, h3, h4⟩ | ⟨h1, h2, h3, h4⟩ | ⟨h1, h2, h3, h4⟩ | ⟨h1, h2, h3, h4⟩ | ⟨h1, h2, h3, h4⟩ | ⟨h1, h2, h3, h4⟩ | ⟨h1, h2, h3, h4⟩ | ⟨h1, h2, h3, h4⟩
  · exact absurd h1 (by decide)
  · subst h2 h3 h4
    exact ⟨by decide, bindsK F k_1⟩
  · exact absurd h1 (by decide)
  · exact absurd h1 (by decide)
  · exact absurd h1 (by decide)
  · exact absurd h1 (by decide)
  · exact absurd h1 (by decide)
  · exact absurd h1 (by decide)
  · exact absurd h1 (by decide)
  · exact absurd h1 (by decide)
  · exact absurd h1 (by decide)
theorem f_power_of (X : K.In h) (G : h.Ns mainGlobals mg) (c : He.SaysD faL fnL K) : ∃ (f : Addr) (fd : FuncData) (r : Row) (d : Ev.FunD) (y qual : Str) (params : Arguments), rows[18]? = some r ∧ defs[18]? = some d ∧ r.ps = (["a", "n"] : List Str) ∧ mg "power_of" = some (.ref f) ∧ PySem.W.keepIn K (.ref f) = true ∧
    L2.FunD K y qual params r.body r.sc [] [] f fd ∧ Binds K fd (["a", "n"] : List Str) [] ∧ cD tab r d = true ∧
    (∀ m ks perm, (18, m, ks, perm) ∈ tab.kw → (perm.Nodup ∧ perm.length = ((["a", "n"] : List Str) : List Str).length ∧ ∀ j ∈ perm, j < m + ks.length) ∧ ∀ (s : Shared) (us ws : List Value), us.length = m → ws.length = ks.length → BindsTo s fd ⟨us, ks.zip ws⟩ (((["a", "n"] : List Str) : List Str).zip (pick (us ++ ws) perm))) := by
  obtain ⟨fd, F⟩ := c.def_ 18 (d := D_power_of) rfl
  refine ⟨_, fd, r_power_of, d_power_of, _, _, _, rfl, rfl, rfl, glo_at X G c 37 rfl, F.kp, F, F.bindsN b_power_of, by decide +kernel, fun m ks perm hm => ?_⟩
  simp only [tab, List.mem_cons, Prod.mk.injEq, List.not_mem_nil, or_false] at hm
  rcases hm with ⟨h1, h2, h3, h4⟩ | ⟨h1, h2, h3, h4⟩ | ⟨h1, h2, h3, h4⟩ | ⟨h1, h2, h3, h4⟩ | ⟨h1, h2, h3, h4⟩ | ⟨h1, h2, h3, h4⟩ | ⟨h1, h2, h3, h4⟩ | ⟨h1, h2, h3, h4⟩ | ⟨h1, h2, h3, h4⟩ | ⟨h1, h2, h3, h4⟩ | ⟨h1, h2, h3, h4⟩
  · exact absurd h1 (by decide)
  · exact absurd h1 (by decide)
  · exact absurd h1 (by decide)
  · exact absurd h1 (by decide)
  · exact absurd h1 (by decide)
  · exact absurd h1 (by decide)
  · exact absurd h1 (by decide)
  · exact absurd h1 (by decide)
  · exact absurd h1 (by decide)
  · exact absurd h1 (by decide)
  · exact absurd h1 (by decide)
theorem f_power (X : K.In h) (G : h.Ns mainGlobals mg) (c : He.SaysD faL fnL K) : ∃ (f : Addr) (fd : FuncData) (r : Row) (d : Ev.FunD) (y qual : Str) (params : Arguments), rows[19]? = some r ∧ defs[19]? = some d ∧ r.ps = (["a", "n"] : List Str) ∧ mg "power" = some (.ref f) ∧ PySem.W.keepIn K (.ref f) = true ∧
    L2.FunD K y qual params r.body r.sc [] [] f fd ∧ Binds K fd (["a", "n"] : List Str) [] ∧ cD tab r d = true ∧
    (∀ m ks perm, (19, m, ks, perm) ∈ tab.kw → (perm.Nodup ∧ perm.length = ((["a", "n"] : List Str) : List Str).length ∧ ∀ j ∈ perm, j < m + ks.length) ∧ ∀ (s : Shared) (us ws : List Value), us.length = m → ws.length = ks.length → BindsTo s fd ⟨us, ks.zip ws⟩ (((["a", "n"] : List Str) : List Str).zip (pick (us ++ ws) perm))) := by
  obtain ⟨fd, F⟩ := c.def_ 19 (d := D_power) rfl
  refine ⟨_, fd, r_power, d_power, _, _, _, rfl, rfl, rfl, glo_at X G c 38 rfl, F.kp, F, F.bindsN b_power, by decide +kernel, fun m ks perm hm => ?_⟩
  simp only [tab, List.mem_cons, Prod.mk.injEq, List.not_mem_nil, or_false] at hm
  rcases hm with ⟨h1, h2, h3, h4⟩ | ⟨h1, h2, h3, h4⟩ | ⟨h1, h2, h3, h4⟩ | ⟨h1, h2, h3, h4⟩ | ⟨h1, h2, h3, h4⟩ | ⟨h1, h2, h3, h4⟩ | ⟨h1, h2, h3, h4⟩ | ⟨h1, h2, h3, h4⟩ | ⟨h1, h2, h3, h4⟩ | ⟨h1, h2, h3, h4⟩ | ⟨h1, h2, h3, h4⟩
  · exact absurd h1 (by decide)
  · exact absurd h1 (by decide)
  · exact absurd h1 (by decide)
  · exact absurd h1 (by decide)
  · exact absurd h1 (by decide)
  · exact absurd h1 (by decide)
  · subst h2 h3 h4
    exact ⟨by decide, bindsK F k_6⟩
  · exact absurd h1 (by decide)
  · exact absurd h1 (by decide)
  · exact absurd h1 (by decide)
  · exact absurd h1 (by decide)
theorem f_below (X : K.In h) (G : h.Ns mainGlobals mg) (c : He.SaysD faL fnL K) : ∃ (f : Addr) (fd : FuncData) (r : Row) (d : Ev.FunD) (y qual : Str) (params : Arguments), rows[20]? = some r ∧ defs[20]? = some d ∧ r.ps = (["a", "b"] : List Str) ∧ mg "below" = some (.ref f) ∧ PySem.W.keepIn K (.ref f) = true ∧
    L2.FunD K y qual params r.body r.sc [] [] f fd ∧ Binds K fd (["a", "b"] : List Str) [] ∧ cD tab r d = true ∧
    (∀ m ks perm, (20, m, ks, perm) ∈ tab.kw → (perm.Nodup ∧ perm.length = ((["a", "b"] : List Str) : List Str).length ∧ ∀ j ∈ perm, j < m + ks.length) ∧ ∀ (s : Shared) (us ws : List Value), us.length = m → ws.length = ks.length → BindsTo s fd ⟨us, ks.zip ws⟩ (((["a", "b"] : List Str) : List Str).zip (pick (us ++ ws) perm))) := by
  obtain ⟨fd, F⟩ := c.def_ 20 (d := D_below) rfl
  refine ⟨_, fd, r_below, d_below, _, _, _, rfl, rfl, rfl, glo_at X G c 39 rfl, F.kp, F, F.bindsN b_below, by decide +kernel, fun m ks perm hm => ?_⟩
  simp only [tab, List.mem_cons, Prod.mk.injEq, List.not_mem_nil, or_false] at hm
  rcases hm with ⟨h1, h2, h3, h4⟩ | ⟨h1, h2, h3, h4⟩ | ⟨h1, h2, h3, h4⟩ | ⟨h1, h2, h3, h4⟩ | ⟨h1, h2, h3, h4⟩ | ⟨h1, h2, h3, h4⟩ | ⟨h1, h2, h3, h4⟩ | ⟨h1, h2, h3, h4⟩ | ⟨h1, h2, h3, h4⟩ | ⟨h1, h2, h3, h4⟩ | ⟨h1, h2, h3, h4⟩
  · exact absurd h1 (by decide)
  · exact absurd h1 (by decide)
  · subst h2 h3 h4
    exact ⟨by decide, bindsK F k_2⟩
  · exact absurd h1 (by decide)
  · exact absurd h1 (by decide)
  · exact absurd h1 (by decide)
  · exact absurd h1 (by decide)
  · exact absurd h1 (by decide)
  · exact absurd h1 (by decide)
  · exact absurd h1 (by decide)
  · exact absurd h1 (by decide)
theorem f_least_of (X : K.In h) (G : h.Ns mainGlobals mg) (c : He.SaysD faL fnL K) : ∃ (f : Addr) (fd : FuncData) (r : Row) (d : Ev.FunD) (y qual : Str) (params : Arguments), rows[21]? = some r ∧ defs[21]? = some d ∧ r.ps = (["row"] : List Str) ∧ mg "least_of" = some (.ref f) ∧ PySem.W.keepIn K (.ref f) = true ∧
    L2.FunD K y qual params r.body r.sc [] [] f fd ∧ Binds K fd (["row"] : List Str) [] ∧ cD tab r d = true ∧
    (∀ m ks perm, (21, m, ks, perm) ∈ tab.kw → (perm.Nodup ∧ perm.length = ((["row"] : List Str) : List Str).length ∧ ∀ j ∈ perm, j < m + ks.length) ∧ ∀ (s : Shared) (us ws : List Value), us.length = m → ws.length = ks.length → BindsTo s fd ⟨us, ks.zip ws⟩ (((["row"] : List Str) : List Str).zip (pick (us ++ ws) perm))) := by
  obtain ⟨fd, F⟩ := c.def_ 21 (d := D_least_of) rfl
  refine ⟨_, fd, r_least_of, d_least_of, _, _, _, rfl, rfl, rfl, glo_at X G c 40 rfl, F.kp, F, F.bindsN b_least_of, by decide +kernel, fun m ks perm hm => ?_⟩
  simp only [tab, List.mem_cons, Prod.mk.injEq, List.not_mem_nil, or_false] at hm
  rcases hm with ⟨h1, h2, h3, h4⟩ | ⟨h1, h2, h3, h4⟩ | ⟨h1, h2, h3, h4⟩ | ⟨h1, h2, h3, h4⟩ | ⟨h1, h2, h3, h4⟩ | ⟨h1, h2, h3, h4⟩ | ⟨h1, h2, h3, h4⟩ | ⟨h1, h2, h3, h4⟩ | ⟨h1, h2, h3, h4⟩ | ⟨h1, h2, h3, h4⟩ | ⟨h1, h2, h3, h4⟩
  · exact absurd h1 (by decide)
  · exact absurd h1 (by decide)
  · exact absurd h1 (by decide)
  · exact absurd h1 (by decide)
  · exact absurd h1 (by decide)
  · exact absurd h1 (by decide)
  · exact absurd h1 (by decide)
  · exact absurd h1 (by decide)
  · exact absurd h1 (by decide)
  · exact absurd h1 (by decide)
  · exact absurd h1 (by decide)
theorem f_greatest_of (X : K.In h) (G : h.Ns mainGlobals mg) (c : He.SaysD faL fnL K) : ∃ (f : Addr) (fd : FuncData) (r : Row) (d : Ev.FunD) (y qual : Str) (params : Arguments), rows[22]? = some r ∧ defs[22]? = some d ∧ r.ps = (["row"] : List Str) ∧ mg "greatest_of" = some (.ref f) ∧ PySem.W.keepIn K (.ref f) = true ∧
    L2.FunD K y qual params r.body r.sc [] [] f fd ∧ Binds K fd (["row"] : List Str) [] ∧ cD tab r d = true ∧
    (∀ m ks perm, (22, m, ks, perm) ∈ tab.kw → (perm.Nodup ∧ perm.length = ((["row"] : List Str) : List Str).length ∧ ∀ j ∈ perm, j < m + ks.length) ∧ ∀ (s : Shared) (us ws : List Value), us.length = m → ws.length = ks.length → BindsTo s fd ⟨us, ks.zip ws⟩ (((["row"] : List Str) : List Str).zip (pick (us ++ ws) perm))) := by
  obtain ⟨fd, F⟩ := c.def_ 22 (d := D_greatest_of) rfl
  refine ⟨_, fd, r_greatest_of, d_greatest_of, _, _, _, rfl, rfl, rfl, glo_at X G c 41 rfl, F.kp, F, F.bindsN b_greatest_of, by decide +kernel, fun m ks perm hm => ?_⟩
  simp only [tab, List.mem_cons, Prod.mk.injEq, List.not_mem_nil, or_false] at hm
  rcases hm with ⟨h1, h2, h3, h4⟩ | ⟨h1, h2, h3, h4⟩ | ⟨h1, h2, h3, h4⟩ | ⟨h1, h2, h3, h4⟩ | ⟨h1, h2, h3, h4⟩ | ⟨h1, h2, h3, h4⟩ | ⟨h1, h2, h3, h4⟩ | ⟨h1, h2, h3, h4⟩ | ⟨h1, h2, h3, h4⟩ | ⟨h1, h2, h3, h4⟩ | ⟨h1, h2, h3, h4⟩
  · exact absurd h1 (by decide)
  · exact absurd h1 (by decide)
  · exact absurd h1 (by decide)
  · exact absurd h1 (by decide)
  · exact absurd h1 (by decide)
  · exact absurd h1 (by decide)
  · exact absurd h1 (by decide)
  · exact absurd h1 (by decide)
  · exact absurd h1 (by decide)
  · exact absurd h1 (by decide)
  · exact absurd h1 (by decide)
theorem f_check_some (X : K.In h) (G : h.Ns mainGlobals mg) (c : He.SaysD faL fnL K) : ∃ (f : Addr) (fd : FuncData) (r : Row) (d : Ev.FunD) (y qual : Str) (params : Arguments), rows[23]? = some r ∧ defs[23]? = some d ∧ r.ps = (["numbers"] : List Str) ∧ mg "check_some" = some (.ref f) ∧ PySem.W.keepIn K (.ref f) = true ∧
    L2.FunD K y qual params r.body r.sc [] [] f fd ∧ Binds K fd (["numbers"] : List Str) [] ∧ cD tab r d = true ∧
    (∀ m ks perm, (23, m, ks, perm) ∈ tab.kw → (perm.Nodup ∧ perm.length = ((["numbers"] : List Str) : List Str).length ∧ ∀ j ∈ perm, j < m + ks.length) ∧ ∀ (s : Shared) (us ws : List Value), us.length = m → ws.length = ks.length → BindsTo s fd ⟨us, ks.zip ws⟩ (((["numbers"] : List Str) : List Str).zip (pick (us ++ ws) perm))) := by
  obtain ⟨fd, F⟩ := c.def_ 23 (d := D_check_some) rfl
  refine ⟨_, fd, r_check_some, d_check_some, _, _, _, rfl, rfl, rfl, glo_at X G c 42 rfl, F.kp, F, F.bindsN b_check_some, by decide +kernel, fun m ks perm hm => ?_⟩
  simp only [tab, List.mem_cons, Prod.mk.injEq, List.not_mem_nil, or_false] at hm
  rcases hm with ⟨h1, h2, h3, h4⟩ | ⟨h1, h2, h3, h4⟩ | ⟨h1, h2, h3, h4⟩ | ⟨h1, h2, h3, h4⟩ | ⟨h1, h2, h3, h4⟩ | ⟨h1, h2, h3, h4⟩ | ⟨h1, h2, h3, h4⟩ | ⟨h1, h2, h3, h4⟩ | ⟨h1, h2, h3, h4⟩ | ⟨h1, h2, h3, h4⟩ | ⟨h1, h2, h3, h4⟩
  · exact absurd h1 (by decide)
  · exact absurd h1 (by decide)
  · exact absurd h1 (by decide)
  · exact absurd h1 (by decide)
  · exact absurd h1 (by decide)
  · exact absurd h1 (by decide)
  · exact absurd h1 (by decide)
  · exact absurd h1 (by decide)
  · exact absurd h1 (by decide)
  · exact absurd h1 (by decide)
  · exact absurd h1 (by decide)
theorem f_least (X : K.In h) (G : h.Ns mainGlobals mg) (c : He.SaysD faL fnL K) : ∃ (f : Addr) (fd : FuncData) (r : Row) (d : Ev.FunD) (y qual : Str) (params : Arguments), rows[24]? = some r ∧ defs[24]? = some d ∧ r.ps = (["numbers"] : List Str) ∧ mg "least" = some (.ref f) ∧ PySem.W.keepIn K (.ref f) = true ∧
    L2.FunD K y qual params r.body r.sc [] [] f fd ∧ Binds K fd (["numbers"] : List Str) [] ∧ cD tab r d = true ∧
    (∀ m ks perm, (24, m, ks, perm) ∈ tab.kw → (perm.Nodup ∧ perm.length = ((["numbers"] : List Str) : List Str).length ∧ ∀ j ∈ perm, j < m + ks.length) ∧ ∀ (s : Shared) (us ws : List Value), us.length = m → ws.length = ks.length → BindsTo s fd ⟨us, ks.zip ws⟩ (((["numbers"] : List Str) : List Str).zip (pick (us ++ ws) perm))) := by
  obtain ⟨fd, F⟩ := c.def_ 24 (d := D_least) rfl
  refine ⟨_, fd, r_least, d_least, _, _, _, rfl, rfl, rfl, glo_at X G c 43 rfl, F.kp, F, F.bindsN b_least, by decide +kernel, fun m ks perm hm => ?_⟩
  simp only [tab, List.mem_cons, Prod.mk.injEq, List.not_mem_nil, or_false] at hm
  rcases hm with ⟨h1, h2, h3, h4⟩ | ⟨h1, h2, h3, h4⟩ | ⟨h1, h2, h3, h4⟩ | ⟨h1, h2, h3, h4⟩ | ⟨h1, h2, h3, h4⟩ | ⟨h1, h2, h3, h4⟩ | ⟨h1, h2, h3, h4⟩ | ⟨h1, h2, h3, h4⟩ | ⟨h1, h2, h3, h4⟩ | ⟨h1, h2, h3, h4⟩ | ⟨h1, h2, h3, h4⟩
  · exact absurd h1 (by decide)
  · exact absurd h1 (by decide)
  · exact absurd h1 (by decide)
  · exact absurd h1 (by decide)
  · exact absurd h1 (by decide)
  · exact absurd h1 (by decide)
  · exact absurd h1 (by decide)
  · subst h2 h3 h4
    exact ⟨by decide, bindsK F k_7⟩
  · exact absurd h1 (by decide)
  · exact absurd h1 (by decide)
  · exact absurd h1 (by decide)
theorem f_greatest (X : K.In h) (G : h.Ns mainGlobals mg) (c : He.SaysD faL fnL K) : ∃ (f : Addr) (fd : FuncData) (r : Row) (d : Ev.FunD) (y qual : Str) (params : Arguments), rows[25]? = some r ∧ defs[25]? = some d ∧ r.ps = (["numbers"] : List Str) ∧ mg "greatest" = some (.ref f) ∧ PySem.W.keepIn K (.ref f) = true ∧
    L2.FunD K y qual params r.body r.sc [] [] f fd ∧ Binds K fd (["numbers"] : List Str) [] ∧ cD tab r d = true ∧
    (∀ m ks perm, (25, m, ks, perm) ∈ tab.kw → (perm.Nodup ∧ perm.length = ((["numbers"] : List Str) : List Str).length ∧ ∀ j ∈ perm, j < m + ks.length) ∧ ∀ (s : Shared) (us ws : List Value), us.length = m → ws.length = ks.length → BindsTo s fd ⟨us, ks.zip ws⟩ (((["numbers"] : List Str) : List Str).zip (pick (us ++ ws) perm))) := by
  obtain ⟨fd, F⟩ := c.def_ 25 (d := D_greatest) rfl
  refine ⟨_, fd, r_greatest, d_greatest, _, _, _, rfl, rfl, rfl, glo_at X G c 44 rfl, F.kp, F, F.bindsN b_greatest, by decide +kernel, fun m ks perm hm => ?_⟩
  simp only [tab, List.mem_cons, Prod.mk.injEq, List.not_mem_nil, or_false] at hm
  rcases hm with ⟨h1, h2, h3, h4⟩ | ⟨h1, h2, h3, h4⟩ | ⟨h1, h2, h3, h4⟩ | ⟨h1, h2, h3, h4⟩ | ⟨h1, h2, h3, h4⟩ | ⟨h1, h2, h3, h4⟩ | ⟨h1, h2, h3, h4⟩ | ⟨h1, h2, h3, h4⟩ | ⟨h1, h2, h3, h4⟩ | ⟨h1, h2, h3, h4⟩ | ⟨h1, h2, h3, h4⟩
  · exact absurd h1 (by decide)
  · exact absurd h1 (by decide)
  · exact absurd h1 (by decide)
  · exact absurd h1 (by decide)
  · exact absurd h1 (by decide)
  · exact absurd h1 (by decide)
  · exact absurd h1 (by decide)
  · exact absurd h1 (by decide)
  · subst h2 h3 h4
    exact ⟨by decide, bindsK F k_8⟩
  · exact absurd h1 (by decide)
  · exact absurd h1 (by decide)
theorem f_total (X : K.In h) (G : h.Ns mainGlobals mg) (c : He.SaysD faL fnL K) : ∃ (f : Addr) (fd : FuncData) (r : Row) (d : Ev.FunD) (y qual : Str) (params : Arguments), rows[26]? = some r ∧ defs[26]? = some d ∧ r.ps = (["numbers"] : List Str) ∧ mg "total" = some (.ref f) ∧ PySem.W.keepIn K (.ref f) = true ∧
    L2.FunD K y qual params r.body r.sc [] [] f fd ∧ Binds K fd (["numbers"] : List Str) [] ∧ cD tab r d = true ∧
    (∀ m ks perm, (26, m, ks, perm) ∈ tab.kw → (perm.Nodup ∧ perm.length = ((["numbers"] : List Str) : List Str).length ∧ ∀ j ∈ perm, j < m + ks.length) ∧ ∀ (s : Shared) (us ws : List Value), us.length = m → ws.length = ks.length → BindsTo s fd ⟨us, ks.zip ws⟩ (((["numbers"] : List Str) : List Str).zip (pick (us ++ ws) perm))) := by
  obtain ⟨fd, F⟩ := c.def_ 26 (d := D_total) rfl
  refine ⟨_, fd, r_total, d_total, _, _, _, rfl, rfl, rfl, glo_at X G c 45 rfl, F.kp, F, F.bindsN b_total, by decide +kernel, fun m ks perm hm => ?_⟩
  simp only [tab, List.mem_cons, Prod.mk.injEq, List.not_mem_nil, or_false] at hm
  rcases hm with ⟨h1, h2, h3, h4⟩ | ⟨h1, h2, h3, h4⟩ | ⟨h1, h2, h3, h4⟩ | ⟨h1, h2, h3, h4⟩ | ⟨h1, h2, h3, h4⟩ | ⟨h1, h2, h3, h4⟩ | ⟨h1, h2, h3, h4⟩ | ⟨h1, h2, h3, h4⟩ | ⟨h1, h2, h3, h4⟩ | ⟨h1, h2, h3, h4⟩ | ⟨h1, h2, h3, h4⟩
  · exact absurd h1 (by decide)
  · exact absurd h1 (by decide)
  · exact absurd h1 (by decide)
  · exact absurd h1 (by decide)
  · exact absurd h1 (by decide)
  · exact absurd h1 (by decide)
  · exact absurd h1 (by decide)
  · exact absurd h1 (by decide)
  · exact absurd h1 (by decide)
  · subst h2 h3 h4
    exact ⟨by decide, bindsK F k_9⟩
  · exact absurd h1 (by decide)
theorem f__law_deck (X : K.In h) (G : h.Ns mainGlobals mg) (c : He.SaysD faL fnL K) : ∃ (f : Addr) (fd : FuncData) (r : Row) (d : Ev.FunD) (y qual : Str) (params : Arguments), rows[27]? = some r ∧ defs[27]? = some d ∧ r.ps = (["script", "k"] : List Str) ∧ mg "_law_deck" = some (.ref f) ∧ PySem.W.keepIn K (.ref f) = true ∧
    L2.FunD K y qual params r.body r.sc [] [] f fd ∧ Binds K fd (["script", "k"] : List Str) [] ∧ cD tab r d = true ∧
    (∀ m ks perm, (27, m, ks, perm) ∈ tab.kw → (perm.Nodup ∧ perm.length = ((["script", "k"] : List Str) : List Str).length ∧ ∀ j ∈ perm, j < m + ks.length) ∧ ∀ (s : Shared) (us ws : List Value), us.length = m → ws.length = ks.length → BindsTo s fd ⟨us, ks.zip ws⟩ (((["script", "k"] : List Str) : List Str).zip (pick (us ++ ws) perm))) := by
  obtain ⟨fd, F⟩ := c.def_ 27 (d := D__law_deck) rfl
  refine ⟨_, fd, r__law_deck, d__law_deck, _, _, _, rfl, rfl, rfl, glo_at X G c 46 rfl, F.kp, F, F.bindsN b__law_deck, by decide +kernel, fun m ks perm hm => ?_⟩
  simp only [tab, List.mem_cons, Prod.mk.injEq, List.not_mem_nil, or_false] at hm
  rcases hm with ⟨h1, h2, h3, h4⟩ | ⟨h1, h2, h3, h4⟩ | ⟨h1, h2, h3, h4⟩ | ⟨h1, h2, h3, h4⟩ | ⟨h1, h2, h3, h4⟩ | ⟨h1, h2, h3, h4⟩ | ⟨h1, h2, h3, h4⟩ | ⟨h1, h2, h3, h4⟩ | ⟨h1, h2, h3, h4⟩ | ⟨h1, h2, h3, h4⟩ | ⟨h1, h2, h3, h4⟩
  · exact absurd h1 (by decide)
  · exact absurd h1 (by decide)
  · exact absurd h1 (by decide)
  · exact absurd h1 (by decide)
  · exact absurd h1 (by decide)
  · exact absurd h1 (by decide)
  · exact absurd h1 (by decide)
  · exact absurd h1 (by decide)
  · exact absurd h1 (by decide)
  · exact absurd h1 (by decide)
  · exact absurd h1 (by decide)
theorem f__law_take (X : K.In h) (G : h.Ns mainGlobals mg) (c : He.SaysD faL fnL K) : ∃ (f : Addr) (fd : FuncData) (r : Row) (d : Ev.FunD) (y qual : Str) (params : Arguments), rows[28]? = some r ∧ defs[28]? = some d ∧ r.ps = (["deck", "many"] : List Str) ∧ mg "_law_take" = some (.ref f) ∧ PySem.W.keepIn K (.ref f) = true ∧
    L2.FunD K y qual params r.body r.sc [] [] f fd ∧ Binds K fd (["deck", "many"] : List Str) [] ∧ cD tab r d = true ∧
    (∀ m ks perm, (28, m, ks, perm) ∈ tab.kw → (perm.Nodup ∧ perm.length = ((["deck", "many"] : List Str) : List Str).length ∧ ∀ j ∈ perm, j < m + ks.length) ∧ ∀ (s : Shared) (us ws : List Value), us.length = m → ws.length = ks.length → BindsTo s fd ⟨us, ks.zip ws⟩ (((["deck", "many"] : List Str) : List Str).zip (pick (us ++ ws) perm))) := by
  obtain ⟨fd, F⟩ := c.def_ 28 (d := D__law_take) rfl
  refine ⟨_, fd, r__law_take, d__law_take, _, _, _, rfl, rfl, rfl, glo_at X G c 47 rfl, F.kp, F, F.bindsN b__law_take, by decide +kernel, fun m ks perm hm => ?_⟩
  simp only [tab, List.mem_cons, Prod.mk.injEq, List.not_mem_nil, or_false] at hm
  rcases hm with ⟨h1, h2, h3, h4⟩ | ⟨h1, h2, h3, h4⟩ | ⟨h1, h2, h3, h4⟩ | ⟨h1, h2, h3, h4⟩ | ⟨h1, h2, h3, h4⟩ | ⟨h1, h2, h3, h4⟩ | ⟨h1, h2, h3, h4⟩ | ⟨h1, h2, h3, h4⟩ | ⟨h1, h2, h3, h4⟩ | ⟨h1, h2, h3, h4⟩ | ⟨h1, h2, h3, h4⟩
  · exact absurd h1 (by decide)
  · exact absurd h1 (by decide)
  · exact absurd h1 (by decide)
  · exact absurd h1 (by decide)
  · exact absurd h1 (by decide)
  · exact absurd h1 (by decide)
  · exact absurd h1 (by decide)
  · exact absurd h1 (by decide)
  · exact absurd h1 (by decide)
  · exact absurd h1 (by decide)
  · exact absurd h1 (by decide)
theorem f__law_gcd (X : K.In h) (G : h.Ns mainGlobals mg) (c : He.SaysD faL fnL K) : ∃ (f : Addr) (fd : FuncData) (r : Row) (d : Ev.FunD) (y qual : Str) (params : Arguments), rows[29]? = some r ∧ defs[29]? = some d ∧ r.ps = (["u", "v"] : List Str) ∧ mg "_law_gcd" = some (.ref f) ∧ PySem.W.keepIn K (.ref f) = true ∧
    L2.FunD K y qual params r.body r.sc [] [] f fd ∧ Binds K fd (["u", "v"] : List Str) [] ∧ cD tab r d = true ∧
    (∀ m ks perm, (29, m, ks, perm) ∈ tab.kw → (perm.Nodup ∧ perm.length = ((["u", "v"] : List Str) : List Str).length ∧ ∀ j ∈ perm, j < m + ks.length) ∧ ∀ (s : Shared) (us ws : List Value), us.length = m → ws.length = ks.length → BindsTo s fd ⟨us, ks.zip ws⟩ (((["u", "v"] : List Str) : List Str).zip (pick (us ++ ws) perm))) := by
  obtain ⟨fd, F⟩ := c.def_ 29 (d := D__law_gcd) rfl
  refine ⟨_, fd, r__law_gcd, d__law_gcd, _, _, _, rfl, rfl, rfl, glo_at X G c 48 rfl, F.kp, F, F.bindsN b__law_gcd, by decide +kernel, fun m ks perm hm => ?_⟩
  simp only [tab, List.mem_cons, Prod.mk.injEq, List.not_mem_nil, or_false] at hm
  rcases hm with ⟨h1, h2, h3, h4⟩ | ⟨h1, h2, h3, h4⟩ | ⟨h1, h2, h3, h4⟩ | ⟨h1, h2, h3, h4⟩ | ⟨h1, h2, h3, h4⟩ | ⟨h1, h2, h3, h4⟩ | ⟨h1, h2, h3, h4⟩ | ⟨h1, h2, h3, h4⟩ | ⟨h1, h2, h3, h4⟩ | ⟨h1, h2, h3, h4⟩ | ⟨h1, h2, h3, h4⟩
  · exact absurd h1 (by decide)
  · exact absurd h1 (by decide)
  · exact absurd h1 (by decide)
  · exact absurd h1 (by decide)
  · exact absurd h1 (by decide)
  · exact absurd h1 (by decide)
  · exact absurd h1 (by decide)
  · exact absurd h1 (by decide)
  · exact absurd h1 (by decide)
  · exact absurd h1 (by decide)
  · exact absurd h1 (by decide)
theorem f__law_pair (X : K.In h) (G : h.Ns mainGlobals mg) (c : He.SaysD faL fnL K) : ∃ (f : Addr) (fd : FuncData) (r : Row) (d : Ev.FunD) (y qual : Str) (params : Arguments), rows[30]? = some r ∧ defs[30]? = some d ∧ r.ps = (["upper", "lower"] : List Str) ∧ mg "_law_pair" = some (.ref f) ∧ PySem.W.keepIn K (.ref f) = true ∧
    L2.FunD K y qual params r.body r.sc [] [] f fd ∧ Binds K fd (["upper", "lower"] : List Str) [] ∧ cD tab r d = true ∧
    (∀ m ks perm, (30, m, ks, perm) ∈ tab.kw → (perm.Nodup ∧ perm.length = ((["upper", "lower"] : List Str) : List Str).length ∧ ∀ j ∈ perm, j < m + ks.length) ∧ ∀ (s : Shared) (us ws : List Value), us.length = m → ws.length = ks.length → BindsTo s fd ⟨us, ks.zip ws⟩ (((["upper", "lower"] : List Str) : List Str).zip (pick (us ++ ws) perm))) := by
  obtain ⟨fd, F⟩ := c.def_ 30 (d := D__law_pair) rfl
  refine ⟨_, fd, r__law_pair, d__law_pair, _, _, _, rfl, rfl, rfl, glo_at X G c 49 rfl, F.kp, F, F.bindsN b__law_pair, by decide +kernel, fun m ks perm hm => ?_⟩
  simp only [tab, List.mem_cons, Prod.mk.injEq, List.not_mem_nil, or_false] at hm
  rcases hm with ⟨h1, h2, h3, h4⟩ | ⟨h1, h2, h3, h4⟩ | ⟨h1, h2, h3, h4⟩ | ⟨h1, h2, h3, h4⟩ | ⟨h1, h2, h3, h4⟩ | ⟨h1, h2, h3, h4⟩ | ⟨h1, h2, h3, h4⟩ | ⟨h1, h2, h3, h4⟩ | ⟨h1, h2, h3, h4⟩ | ⟨h1, h2, h3, h4⟩ | ⟨h1, h2, h3, h4⟩
  · exact absurd h1 (by decide)
  · exact absurd h1 (by decide)
  · exact absurd h1 (by decide)
  · exact absurd h1 (by decide)
  · exact absurd h1 (by decide)
  · exact absurd h1 (by decide)
  · exact absurd h1 (by decide)
  · exact absurd h1 (by decide)
  · exact absurd h1 (by decide)
  · exact absurd h1 (by decide)
  · exact absurd h1 (by decide)
theorem f__law_plus (X : K.In h) (G : h.Ns mainGlobals mg) (c : He.SaysD faL fnL K) : ∃ (f : Addr) (fd : FuncData) (r : Row) (d : Ev.FunD) (y qual : Str) (params : Arguments), rows[31]? = some r ∧ defs[31]? = some d ∧ r.ps = (["u", "v"] : List Str) ∧ mg "_law_plus" = some (.ref f) ∧ PySem.W.keepIn K (.ref f) = true ∧
    L2.FunD K y qual params r.body r.sc [] [] f fd ∧ Binds K fd (["u", "v"] : List Str) [] ∧ cD tab r d = true ∧
    (∀ m ks perm, (31, m, ks, perm) ∈ tab.kw → (perm.Nodup ∧ perm.length = ((["u", "v"] : List Str) : List Str).length ∧ ∀ j ∈ perm, j < m + ks.length) ∧ ∀ (s : Shared) (us ws : List Value), us.length = m → ws.length = ks.length → BindsTo s fd ⟨us, ks.zip ws⟩ (((["u", "v"] : List Str) : List Str).zip (pick (us ++ ws) perm))) := by
  obtain ⟨fd, F⟩ := c.def_ 31 (d := D__law_plus) rfl
  refine ⟨_, fd, r__law_plus, d__law_plus, _, _, _, rfl, rfl, rfl, glo_at X G c 50 rfl, F.kp, F, F.bindsN b__law_plus, by decide +kernel, fun m ks perm hm => ?_⟩
  simp only [tab, List.mem_cons, Prod.mk.injEq, List.not_mem_nil, or_false] at hm
  rcases hm with ⟨h1, h2, h3, h4⟩ | ⟨h1, h2, h3, h4⟩ | ⟨h1, h2, h3, h4⟩ | ⟨h1, h2, h3, h4⟩ | ⟨h1, h2, h3, h4⟩ | ⟨h1, h2, h3, h4⟩ | ⟨h1, h2, h3, h4⟩ | ⟨h1, h2, h3, h4⟩ | ⟨h1, h2, h3, h4⟩ | ⟨h1, h2, h3, h4⟩ | ⟨h1, h2, h3, h4⟩
  · exact absurd h1 (by decide)
  · exact absurd h1 (by decide)
  · exact absurd h1 (by decide)
  · exact absurd h1 (by decide)
  · exact absurd h1 (by decide)
  · exact absurd h1 (by decide)
  · exact absurd h1 (by decide)
  · exact absurd h1 (by decide)
  · exact absurd h1 (by decide)
  · exact absurd h1 (by decide)
  · exact absurd h1 (by decide)
theorem f__law_times (X : K.In h) (G : h.Ns mainGlobals mg) (c : He.SaysD faL fnL K) : ∃ (f : Addr) (fd : FuncData) (r : Row) (d : Ev.FunD) (y qual : Str) (params : Arguments), rows[32]? = some r ∧ defs[32]? = some d ∧ r.ps = (["u", "v"] : List Str) ∧ mg "_law_times" = some (.ref f) ∧ PySem.W.keepIn K (.ref f) = true ∧
    L2.FunD K y qual params r.body r.sc [] [] f fd ∧ Binds K fd (["u", "v"] : List Str) [] ∧ cD tab r d = true ∧
    (∀ m ks perm, (32, m, ks, perm) ∈ tab.kw → (perm.Nodup ∧ perm.length = ((["u", "v"] : List Str) : List Str).length ∧ ∀ j ∈ perm, j < m + ks.length) ∧ ∀ (s : Shared) (us ws : List Value), us.length = m → ws.length = ks.length → BindsTo s fd ⟨us, ks.zip ws⟩ (((["u", "v"] : List Str) : List Str).zip (pick (us ++ ws) perm))) := by
  obtain ⟨fd, F⟩ := c.def_ 32 (d := D__law_times) rfl
  refine ⟨_, fd, r__law_times, d__law_times, _, _, _, rfl, rfl, rfl, glo_at X G c 51 rfl, F.kp, F, F.bindsN b__law_times, by decide +kernel, fun m ks perm hm => ?_⟩
  simp only [tab, List.mem_cons, Prod.mk.injEq, List.not_mem_nil, or_false] at hm
  rcases hm with ⟨h1, h2, h3, h4⟩ | ⟨h1, h2, h3, h4⟩ | ⟨h1, h2, h3, h4⟩ | ⟨h1, h2, h3, h4⟩ | ⟨h1, h2, h3, h4⟩ | ⟨h1, h2, h3, h4⟩ | ⟨h1, h2, h3, h4⟩ | ⟨h1, h2, h3, h4⟩ | ⟨h1, h2, h3, h4⟩ | ⟨h1, h2, h3, h4⟩ | ⟨h1, h2, h3, h4⟩
  · exact absurd h1 (by decide)
  · exact absurd h1 (by decide)
  · exact absurd h1 (by decide)
  · exact absurd h1 (by decide)
  · exact absurd h1 (by decide)
  · exact absurd h1 (by decide)
  · exact absurd h1 (by decide)
  · exact absurd h1 (by decide)
  · exact absurd h1 (by decide)
  · exact absurd h1 (by decide)
  · exact absurd h1 (by decide)
theorem f__law_less (X : K.In h) (G : h.Ns mainGlobals mg) (c : He.SaysD faL fnL K) : ∃ (f : Addr) (fd : FuncData) (r : Row) (d : Ev.FunD) (y qual : Str) (params : Arguments), rows[33]? = some r ∧ defs[33]? = some d ∧ r.ps = (["u", "v"] : List Str) ∧ mg "_law_less" = some (.ref f) ∧ PySem.W.keepIn K (.ref f) = true ∧
    L2.FunD K y qual params r.body r.sc [] [] f fd ∧ Binds K fd (["u", "v"] : List Str) [] ∧ cD tab r d = true ∧
    (∀ m ks perm, (33, m, ks, perm) ∈ tab.kw → (perm.Nodup ∧ perm.length = ((["u", "v"] : List Str) : List Str).length ∧ ∀ j ∈ perm, j < m + ks.length) ∧ ∀ (s : Shared) (us ws : List Value), us.length = m → ws.length = ks.length → BindsTo s fd ⟨us, ks.zip ws⟩ (((["u", "v"] : List Str) : List Str).zip (pick (us ++ ws) perm))) := by
  obtain ⟨fd, F⟩ := c.def_ 33 (d := D__law_less) rfl
  refine ⟨_, fd, r__law_less, d__law_less, _, _, _, rfl, rfl, rfl, glo_at X G c 52 rfl, F.kp, F, F.bindsN b__law_less, by decide +kernel, fun m ks perm hm => ?_⟩
  simp only [tab, List.mem_cons, Prod.mk.injEq, List.not_mem_nil, or_false] at hm
  rcases hm with ⟨h1, h2, h3, h4⟩ | ⟨h1, h2, h3, h4⟩ | ⟨h1, h2, h3, h4⟩ | ⟨h1, h2, h3, h4⟩ | ⟨h1, h2, h3, h4⟩ | ⟨h1, h2, h3, h4⟩ | ⟨h1, h2, h3, h4⟩ | ⟨h1, h2, h3, h4⟩ | ⟨h1, h2, h3, h4⟩ | ⟨h1, h2, h3, h4⟩ | ⟨h1, h2, h3, h4⟩
  · exact absurd h1 (by decide)
  · exact absurd h1 (by decide)
  · exact absurd h1 (by decide)
  · exact absurd h1 (by decide)
  · exact absurd h1 (by decide)
  · exact absurd h1 (by decide)
  · exact absurd h1 (by decide)
  · exact absurd h1 (by decide)
  · exact absurd h1 (by decide)
  · exact absurd h1 (by decide)
  · exact absurd h1 (by decide)
theorem f__law_same (X : K.In h) (G : h.Ns mainGlobals mg) (c : He.SaysD faL fnL K) : ∃ (f : Addr) (fd : FuncData) (r : Row) (d : Ev.FunD) (y qual : Str) (params : Arguments), rows[34]? = some r ∧ defs[34]? = some d ∧ r.ps = (["found", "due"] : List Str) ∧ mg "_law_same" = some (.ref f) ∧ PySem.W.keepIn K (.ref f) = true ∧
    L2.FunD K y qual params r.body r.sc [] [] f fd ∧ Binds K fd (["found", "due"] : List Str) [] ∧ cD tab r d = true ∧
    (∀ m ks perm, (34, m, ks, perm) ∈ tab.kw → (perm.Nodup ∧ perm.length = ((["found", "due"] : List Str) : List Str).length ∧ ∀ j ∈ perm, j < m + ks.length) ∧ ∀ (s : Shared) (us ws : List Value), us.length = m → ws.length = ks.length → BindsTo s fd ⟨us, ks.zip ws⟩ (((["found", "due"] : List Str) : List Str).zip (pick (us ++ ws) perm))) := by
  obtain ⟨fd, F⟩ := c.def_ 34 (d := D__law_same) rfl
  refine ⟨_, fd, r__law_same, d__law_same, _, _, _, rfl, rfl, rfl, glo_at X G c 53 rfl, F.kp, F, F.bindsN b__law_same, by decide +kernel, fun m ks perm hm => ?_⟩
  simp only [tab, List.mem_cons, Prod.mk.injEq, List.not_mem_nil, or_false] at hm
  rcases hm with ⟨h1, h2, h3, h4⟩ | ⟨h1, h2, h3, h4⟩ | ⟨h1, h2, h3, h4⟩ | ⟨h1, h2, h3, h4⟩ | ⟨h1, h2, h3, h4⟩ | ⟨h1, h2, h3, h4⟩ | ⟨h1, h2, h3, h4⟩ | ⟨h1, h2, h3, h4⟩ | ⟨h1, h2, h3, h4⟩ | ⟨h1, h2, h3, h4⟩ | ⟨h1, h2, h3, h4⟩
  · exact absurd h1 (by decide)
  · exact absurd h1 (by decide)
  · exact absurd h1 (by decide)
  · exact absurd h1 (by decide)
  · exact absurd h1 (by decide)
  · exact absurd h1 (by decide)
  · exact absurd h1 (by decide)
  · exact absurd h1 (by decide)
  · exact absurd h1 (by decide)
  · exact absurd h1 (by decide)
  · exact absurd h1 (by decide)
theorem f__law_integer (X : K.In h) (G : h.Ns mainGlobals mg) (c : He.SaysD faL fnL K) : ∃ (f : Addr) (fd : FuncData) (r : Row) (d : Ev.FunD) (y qual : Str) (params : Arguments), rows[35]? = some r ∧ defs[35]? = some d ∧ r.ps = (["deck"] : List Str) ∧ mg "_law_integer" = some (.ref f) ∧ PySem.W.keepIn K (.ref f) = true ∧
    L2.FunD K y qual params r.body r.sc [] [] f fd ∧ Binds K fd (["deck"] : List Str) [] ∧ cD tab r d = true ∧
    (∀ m ks perm, (35, m, ks, perm) ∈ tab.kw → (perm.Nodup ∧ perm.length = ((["deck"] : List Str) : List Str).length ∧ ∀ j ∈ perm, j < m + ks.length) ∧ ∀ (s : Shared) (us ws : List Value), us.length = m → ws.length = ks.length → BindsTo s fd ⟨us, ks.zip ws⟩ (((["deck"] : List Str) : List Str).zip (pick (us ++ ws) perm))) := by
  obtain ⟨fd, F⟩ := c.def_ 35 (d := D__law_integer) rfl
  refine ⟨_, fd, r__law_integer, d__law_integer, _, _, _, rfl, rfl, rfl, glo_at X G c 54 rfl, F.kp, F, F.bindsN b__law_integer, by decide +kernel, fun m ks perm hm => ?_⟩
  simp only [tab, List.mem_cons, Prod.mk.injEq, List.not_mem_nil, or_false] at hm
  rcases hm with ⟨h1, h2, h3, h4⟩ | ⟨h1, h2, h3, h4⟩ | ⟨h1, h2, h3, h4⟩ | ⟨h1, h2, h3, h4⟩ | ⟨h1, h2, h3, h4⟩ | ⟨h1, h2, h3, h4⟩ | ⟨h1, h2, h3, h4⟩ | ⟨h1, h2, h3, h4⟩ | ⟨h1, h2, h3, h4⟩ | ⟨h1, h2, h3, h4⟩ | ⟨h1, h2, h3, h4⟩
  · exact absurd h1 (by decide)
  · exact absurd h1 (by decide)
  · exact absurd h1 (by decide)
  · exact absurd h1 (by decide)
  · exact absurd h1 (by decide)
  · exact absurd h1 (by decide)
  · exact absurd h1 (by decide)
  · exact absurd h1 (by decide)
  · exact absurd h1 (by decide)
  · exact absurd h1 (by decide)
  · exact absurd h1 (by decide)
theorem f__law_couple (X : K.In h) (G : h.Ns mainGlobals mg) (c : He.SaysD faL fnL K) : ∃ (f : Addr) (fd : FuncData) (r : Row) (d : Ev.FunD) (y qual : Str) (params : Arguments), rows[36]? = some r ∧ defs[36]? = some d ∧ r.ps = (["deck"] : List Str) ∧ mg "_law_couple" = some (.ref f) ∧ PySem.W.keepIn K (.ref f) = true ∧
    L2.FunD K y qual params r.body r.sc [] [] f fd ∧ Binds K fd (["deck"] : List Str) [] ∧ cD tab r d = true ∧
    (∀ m ks perm, (36, m, ks, perm) ∈ tab.kw → (perm.Nodup ∧ perm.length = ((["deck"] : List Str) : List Str).length ∧ ∀ j ∈ perm, j < m + ks.length) ∧ ∀ (s : Shared) (us ws : List Value), us.length = m → ws.length = ks.length → BindsTo s fd ⟨us, ks.zip ws⟩ (((["deck"] : List Str) : List Str).zip (pick (us ++ ws) perm))) := by
  obtain ⟨fd, F⟩ := c.def_ 36 (d := D__law_couple) rfl
  refine ⟨_, fd, r__law_couple, d__law_couple, _, _, _, rfl, rfl, rfl, glo_at X G c 55 rfl, F.kp, F, F.bindsN b__law_couple, by decide +kernel, fun m ks perm hm => ?_⟩
  simp only [tab, List.mem_cons, Prod.mk.injEq, List.not_mem_nil, or_false] at hm
  rcases hm with ⟨h1, h2, h3, h4⟩ | ⟨h1, h2, h3, h4⟩ | ⟨h1, h2, h3, h4⟩ | ⟨h1, h2, h3, h4⟩ | ⟨h1, h2, h3, h4⟩ | ⟨h1, h2, h3, h4⟩ | ⟨h1, h2, h3, h4⟩ | ⟨h1, h2, h3, h4⟩ | ⟨h1, h2, h3, h4⟩ | ⟨h1, h2, h3, h4⟩ | ⟨h1, h2, h3, h4⟩
  · exact absurd h1 (by decide)
  · exact absurd h1 (by decide)
  · exact absurd h1 (by decide)
  · exact absurd h1 (by decide)
  · exact absurd h1 (by decide)
  · exact absurd h1 (by decide)
  · exact absurd h1 (by decide)
  · exact absurd h1 (by decide)
  · exact absurd h1 (by decide)
  · exact absurd h1 (by decide)
  · exact absurd h1 (by decide)
theorem f__law_own (X : K.In h) (G : h.Ns mainGlobals mg) (c : He.SaysD faL fnL K) : ∃ (f : Addr) (fd : FuncData) (r : Row) (d : Ev.FunD) (y qual : Str) (params : Arguments), rows[37]? = some r ∧ defs[37]? = some d ∧ r.ps = (["deck"] : List Str) ∧ mg "_law_own" = some (.ref f) ∧ PySem.W.keepIn K (.ref f) = true ∧
    L2.FunD K y qual params r.body r.sc [] [] f fd ∧ Binds K fd (["deck"] : List Str) [] ∧ cD tab r d = true ∧
    (∀ m ks perm, (37, m, ks, perm) ∈ tab.kw → (perm.Nodup ∧ perm.length = ((["deck"] : List Str) : List Str).length ∧ ∀ j ∈ perm, j < m + ks.length) ∧ ∀ (s : Shared) (us ws : List Value), us.length = m → ws.length = ks.length → BindsTo s fd ⟨us, ks.zip ws⟩ (((["deck"] : List Str) : List Str).zip (pick (us ++ ws) perm))) := by
  obtain ⟨fd, F⟩ := c.def_ 37 (d := D__law_own) rfl
  refine ⟨_, fd, r__law_own, d__law_own, _, _, _, rfl, rfl, rfl, glo_at X G c 56 rfl, F.kp, F, F.bindsN b__law_own, by decide +kernel, fun m ks perm hm => ?_⟩
  simp only [tab, List.mem_cons, Prod.mk.injEq, List.not_mem_nil, or_false] at hm
  rcases hm with ⟨h1, h2, h3, h4⟩ | ⟨h1, h2, h3, h4⟩ | ⟨h1, h2, h3, h4⟩ | ⟨h1, h2, h3, h4⟩ | ⟨h1, h2, h3, h4⟩ | ⟨h1, h2, h3, h4⟩ | ⟨h1, h2, h3, h4⟩ | ⟨h1, h2, h3, h4⟩ | ⟨h1, h2, h3, h4⟩ | ⟨h1, h2, h3, h4⟩ | ⟨h1, h2, h3, h4⟩
  · exact absurd h1 (by decide)
  · exact absurd h1 (by decide)
  · exact absurd h1 (by decide)
  · exact absurd h1 (by decide)
  · exact absurd h1 (by decide)
  · exact absurd h1 (by decide)
  · exact absurd h1 (by decide)
  · exact absurd h1 (by decide)
  · exact absurd h1 (by decide)
  · exact absurd h1 (by decide)
  · exact absurd h1 (by decide)
theorem f__law_small (X : K.In h) (G : h.Ns mainGlobals mg) (c : He.SaysD faL fnL K) : ∃ (f : Addr) (fd : FuncData) (r : Row) (d : Ev.FunD) (y qual : Str) (params : Arguments), rows[38]? = some r ∧ defs[38]? = some d ∧ r.ps = (["deck"] : List Str) ∧ mg "_law_small" = some (.ref f) ∧ PySem.W.keepIn K (.ref f) = true ∧
    L2.FunD K y qual params r.body r.sc [] [] f fd ∧ Binds K fd (["deck"] : List Str) [] ∧ cD tab r d = true ∧
    (∀ m ks perm, (38, m, ks, perm) ∈ tab.kw → (perm.Nodup ∧ perm.length = ((["deck"] : List Str) : List Str).length ∧ ∀ j ∈ perm, j < m + ks.length) ∧ ∀ (s : Shared) (us ws : List Value), us.length = m → ws.length = ks.length → BindsTo s fd ⟨us, ks.zip ws⟩ (((["deck"] : List Str) : List Str).zip (pick (us ++ ws) perm))) := by
  obtain ⟨fd, F⟩ := c.def_ 38 (d := D__law_small) rfl
  refine ⟨_, fd, r__law_small, d__law_small, _, _, _, rfl, rfl, rfl, glo_at X G c 57 rfl, F.kp, F, F.bindsN b__law_small, by decide +kernel, fun m ks perm hm => ?_⟩
  simp only [tab, List.mem_cons, Prod.mk.injEq, List.not_mem_nil, or_false] at hm
  rcases hm with ⟨h1, h2, h3, h4⟩ | ⟨h1, h2, h3, h4⟩ | ⟨h1, h2, h3, h4⟩ | ⟨h1, h2, h3, h4⟩ | ⟨h1, h2, h3, h4⟩ | ⟨h1, h2, h3, h4⟩ | ⟨h1, h2, h3, h4⟩ | ⟨h1, h2, h3, h4⟩ | ⟨h1, h2, h3, h4⟩ | ⟨h1, h2, h3, h4⟩ | ⟨h1, h2, h3, h4⟩
  · exact absurd h1 (by decide)
  · exact absurd h1 (by decide)
  · exact absurd h1 (by decide)
  · exact absurd h1 (by decide)
  · exact absurd h1 (by decide)
  · exact absurd h1 (by decide)
  · exact absurd h1 (by decide)
  · exact absurd h1 (by decide)
  · exact absurd h1 (by decide)
  · exact absurd h1 (by decide)
  · exact absurd h1 (by decide)
theorem f__law_is (X : K.In h) (G : h.Ns mainGlobals mg) (c : He.SaysD faL fnL K) : ∃ (f : Addr) (fd : FuncData) (r : Row) (d : Ev.FunD) (y qual : Str) (params : Arguments), rows[39]? = some r ∧ defs[39]? = some d ∧ r.ps = (["pair"] : List Str) ∧ mg "_law_is" = some (.ref f) ∧ PySem.W.keepIn K (.ref f) = true ∧
    L2.FunD K y qual params r.body r.sc [] [] f fd ∧ Binds K fd (["pair"] : List Str) [] ∧ cD tab r d = true ∧
    (∀ m ks perm, (39, m, ks, perm) ∈ tab.kw → (perm.Nodup ∧ perm.length = ((["pair"] : List Str) : List Str).length ∧ ∀ j ∈ perm, j < m + ks.length) ∧ ∀ (s : Shared) (us ws : List Value), us.length = m → ws.length = ks.length → BindsTo s fd ⟨us, ks.zip ws⟩ (((["pair"] : List Str) : List Str).zip (pick (us ++ ws) perm))) := by
  obtain ⟨fd, F⟩ := c.def_ 39 (d := D__law_is) rfl
  refine ⟨_, fd, r__law_is, d__law_is, _, _, _, rfl, rfl, rfl, glo_at X G c 58 rfl, F.kp, F, F.bindsN b__law_is, by decide +kernel, fun m ks perm hm => ?_⟩
  simp only [tab, List.mem_cons, Prod.mk.injEq, List.not_mem_nil, or_false] at hm
  rcases hm with ⟨h1, h2, h3, h4⟩ | ⟨h1, h2, h3, h4⟩ | ⟨h1, h2, h3, h4⟩ | ⟨h1, h2, h3, h4⟩ | ⟨h1, h2, h3, h4⟩ | ⟨h1, h2, h3, h4⟩ | ⟨h1, h2, h3, h4⟩ | ⟨h1, h2, h3, h4⟩ | ⟨h1, h2, h3, h4⟩ | ⟨h1, h2, h3, h4⟩ | ⟨h1, h2, h3, h4⟩
  · exact absurd h1 (by decide)
  · exact absurd h1 (by decide)
  · exact absurd h1 (by decide)
  · exact absurd h1 (by decide)
  · exact absurd h1 (by decide)
  · exact absurd h1 (by decide)
  · exact absurd h1 (by decide)
  · exact absurd h1 (by decide)
  · exact absurd h1 (by decide)
  · exact absurd h1 (by decide)
  · exact absurd h1 (by decide)
theorem f__law_divided (X : K.In h) (G : h.Ns mainGlobals mg) (c : He.SaysD faL fnL K) : ∃ (f : Addr) (fd : FuncData) (r : Row) (d : Ev.FunD) (y qual : Str) (params : Arguments), rows[40]? = some r ∧ defs[40]? = some d ∧ r.ps = (["door", "u", "named"] : List Str) ∧ mg "_law_divided" = some (.ref f) ∧ PySem.W.keepIn K (.ref f) = true ∧
    L2.FunD K y qual params r.body r.sc [] [] f fd ∧ Binds K fd (["door", "u", "named"] : List Str) [] ∧ cD tab r d = true ∧
    (∀ m ks perm, (40, m, ks, perm) ∈ tab.kw → (perm.Nodup ∧ perm.length = ((["door", "u", "named"] : List Str) : List Str).length ∧ ∀ j ∈ perm, j < m + ks.length) ∧ ∀ (s : Shared) (us ws : List Value), us.length = m → ws.length = ks.length → BindsTo s fd ⟨us, ks.zip ws⟩ (((["door", "u", "named"] : List Str) : List Str).zip (pick (us ++ ws) perm))) := by
  obtain ⟨fd, F⟩ := c.def_ 40 (d := D__law_divided) rfl
  refine ⟨_, fd, r__law_divided, d__law_divided, _, _, _, rfl, rfl, rfl, glo_at X G c 59 rfl, F.kp, F, F.bindsN b__law_divided, by decide +kernel, fun m ks perm hm => ?_⟩
  simp only [tab, List.mem_cons, Prod.mk.injEq, List.not_mem_nil, or_false] at hm
  rcases hm with ⟨h1, h2, h3, h4⟩ | ⟨h1, h2, h3, h4⟩ | ⟨h1, h2, h3, h4⟩ | ⟨h1, h2, h3, h4⟩ | ⟨h1, h2, h3, h4⟩ | ⟨h1, h2, h3, h4⟩ | ⟨h1, h2, h3, h4⟩ | ⟨h1, h2, h3, h4⟩ | ⟨h1, h2, h3, h4⟩ | ⟨h1, h2, h3, h4⟩ | ⟨h1, h2, h3, h4⟩
  · exact absurd h1 (by decide)
  · exact absurd h1 (by decide)
  · exact absurd h1 (by decide)
  · exact absurd h1 (by decide)
  · exact absurd h1 (by decide)
  · exact absurd h1 (by decide)
  · exact absurd h1 (by decide)
  · exact absurd h1 (by decide)
  · exact absurd h1 (by decide)
  · exact absurd h1 (by decide)
  · exact absurd h1 (by decide)
theorem f__law_two_right (X : K.In h) (G : h.Ns mainGlobals mg) (c : He.SaysD faL fnL K) : ∃ (f : Addr) (fd : FuncData) (r : Row) (d : Ev.FunD) (y qual : Str) (params : Arguments), rows[41]? = some r ∧ defs[41]? = some d ∧ r.ps = (["u", "v"] : List Str) ∧ mg "_law_two_right" = some (.ref f) ∧ PySem.W.keepIn K (.ref f) = true ∧
    L2.FunD K y qual params r.body r.sc [] [] f fd ∧ Binds K fd (["u", "v"] : List Str) [] ∧ cD tab r d = true ∧
    (∀ m ks perm, (41, m, ks, perm) ∈ tab.kw → (perm.Nodup ∧ perm.length = ((["u", "v"] : List Str) : List Str).length ∧ ∀ j ∈ perm, j < m + ks.length) ∧ ∀ (s : Shared) (us ws : List Value), us.length = m → ws.length = ks.length → BindsTo s fd ⟨us, ks.zip ws⟩ (((["u", "v"] : List Str) : List Str).zip (pick (us ++ ws) perm))) := by
  obtain ⟨fd, F⟩ := c.def_ 41 (d := D__law_two_right) rfl
  refine ⟨_, fd, r__law_two_right, d__law_two_right, _, _, _, rfl, rfl, rfl, glo_at X G c 60 rfl, F.kp, F, F.bindsN b__law_two_right, by decide +kernel, fun m ks perm hm => ?_⟩
  simp only [tab, List.mem_cons, Prod.mk.injEq, List.not_mem_nil, or_false] at hm
  rcases hm with ⟨h1, h2, h3, h4⟩ | ⟨h1, h2, h3, h4⟩ | ⟨h1, h2, h3, h4⟩ | ⟨h1, h2, h3, h4⟩ | ⟨h1, h2, h3, h4⟩ | ⟨h1, h2, h3, h4⟩ | ⟨h1, h2, h3, h4⟩ | ⟨h1, h2, h3, h4⟩ | ⟨h1, h2, h3, h4⟩ | ⟨h1, h2, h3, h4⟩ | ⟨h1, h2, h3, h4⟩
  · exact absurd h1 (by decide)
  · exact absurd h1 (by decide)
  · exact absurd h1 (by decide)
  · exact absurd h1 (by decide)
  · exact absurd h1 (by decide)
  · exact absurd h1 (by decide)
  · exact absurd h1 (by decide)
  · exact absurd h1 (by decide)
  · exact absurd h1 (by decide)
  · exact absurd h1 (by decide)
  · exact absurd h1 (by decide)
theorem f__law_power_right (X : K.In h) (G : h.Ns mainGlobals mg) (c : He.SaysD faL fnL K) : ∃ (f : Addr) (fd : FuncData) (r : Row) (d : Ev.FunD) (y qual : Str) (params : Arguments), rows[42]? = some r ∧ defs[42]? = some d ∧ r.ps = (["u", "many"] : List Str) ∧ mg "_law_power_right" = some (.ref f) ∧ PySem.W.keepIn K (.ref f) = true ∧
    L2.FunD K y qual params r.body r.sc [] [] f fd ∧ Binds K fd (["u", "many"] : List Str) [] ∧ cD tab r d = true ∧
    (∀ m ks perm, (42, m, ks, perm) ∈ tab.kw → (perm.Nodup ∧ perm.length = ((["u", "many"] : List Str) : List Str).length ∧ ∀ j ∈ perm, j < m + ks.length) ∧ ∀ (s : Shared) (us ws : List Value), us.length = m → ws.length = ks.length → BindsTo s fd ⟨us, ks.zip ws⟩ (((["u", "many"] : List Str) : List Str).zip (pick (us ++ ws) perm))) := by
  obtain ⟨fd, F⟩ := c.def_ 42 (d := D__law_power_right) rfl
  refine ⟨_, fd, r__law_power_right, d__law_power_right, _, _, _, rfl, rfl, rfl, glo_at X G c 61 rfl, F.kp, F, F.bindsN b__law_power_right, by decide +kernel, fun m ks perm hm => ?_⟩
  simp only [tab, List.mem_cons, Prod.mk.injEq, List.not_mem_nil, or_false] at hm
  rcases hm with ⟨h1, h2, h3, h4⟩ | ⟨h1, h2, h3, h4⟩ | ⟨h1, h2, h3, h4⟩ | ⟨h1, h2, h3, h4⟩ | ⟨h1, h2, h3, h4⟩ | ⟨h1, h2, h3, h4⟩ | ⟨h1, h2, h3, h4⟩ | ⟨h1, h2, h3, h4⟩ | ⟨h1, h2, h3, h4⟩ | ⟨h1, h2, h3, h4⟩ | ⟨h1, h2, h3, h4⟩
  · exact absurd h1 (by decide)
  · exact absurd h1 (by decide)
  · exact absurd h1 (by decide)
  · exact absurd h1 (by decide)
  · exact absurd h1 (by decide)
  · exact absurd h1 (by decide)
  · exact absurd h1 (by decide)
  · exact absurd h1 (by decide)
  · exact absurd h1 (by decide)
  · exact absurd h1 (by decide)
  · exact absurd h1 (by decide)
theorem f__law_row_right (X : K.In h) (G : h.Ns mainGlobals mg) (c : He.SaysD faL fnL K) : ∃ (f : Addr) (fd : FuncData) (r : Row) (d : Ev.FunD) (y qual : Str) (params : Arguments), rows[43]? = some r ∧ defs[43]? = some d ∧ r.ps = (["deck", "row"] : List Str) ∧ mg "_law_row_right" = some (.ref f) ∧ PySem.W.keepIn K (.ref f) = true ∧
    L2.FunD K y qual params r.body r.sc [] [] f fd ∧ Binds K fd (["deck", "row"] : List Str) [] ∧ cD tab r d = true ∧
    (∀ m ks perm, (43, m, ks, perm) ∈ tab.kw → (perm.Nodup ∧ perm.length = ((["deck", "row"] : List Str) : List Str).length ∧ ∀ j ∈ perm, j < m + ks.length) ∧ ∀ (s : Shared) (us ws : List Value), us.length = m → ws.length = ks.length → BindsTo s fd ⟨us, ks.zip ws⟩ (((["deck", "row"] : List Str) : List Str).zip (pick (us ++ ws) perm))) := by
  obtain ⟨fd, F⟩ := c.def_ 43 (d := D__law_row_right) rfl
  refine ⟨_, fd, r__law_row_right, d__law_row_right, _, _, _, rfl, rfl, rfl, glo_at X G c 62 rfl, F.kp, F, F.bindsN b__law_row_right, by decide +kernel, fun m ks perm hm => ?_⟩
  simp only [tab, List.mem_cons, Prod.mk.injEq, List.not_mem_nil, or_false] at hm
  rcases hm with ⟨h1, h2, h3, h4⟩ | ⟨h1, h2, h3, h4⟩ | ⟨h1, h2, h3, h4⟩ | ⟨h1, h2, h3, h4⟩ | ⟨h1, h2, h3, h4⟩ | ⟨h1, h2, h3, h4⟩ | ⟨h1, h2, h3, h4⟩ | ⟨h1, h2, h3, h4⟩ | ⟨h1, h2, h3, h4⟩ | ⟨h1, h2, h3, h4⟩ | ⟨h1, h2, h3, h4⟩
  · exact absurd h1 (by decide)
  · exact absurd h1 (by decide)
  · exact absurd h1 (by decide)
  · exact absurd h1 (by decide)
  · exact absurd h1 (by decide)
  · exact absurd h1 (by decide)
  · exact absurd h1 (by decide)
  · exact absurd h1 (by decide)
  · exact absurd h1 (by decide)
  · exact absurd h1 (by decide)
  · exact absurd h1 (by decide)
theorem f__law_right (X : K.In h) (G : h.Ns mainGlobals mg) (c : He.SaysD faL fnL K) : ∃ (f : Addr) (fd : FuncData) (r : Row) (d : Ev.FunD) (y qual : Str) (params : Arguments), rows[44]? = some r ∧ defs[44]? = some d ∧ r.ps = (["deck"] : List Str) ∧ mg "_law_right" = some (.ref f) ∧ PySem.W.keepIn K (.ref f) = true ∧
    L2.FunD K y qual params r.body r.sc [] [] f fd ∧ Binds K fd (["deck"] : List Str) [] ∧ cD tab r d = true ∧
    (∀ m ks perm, (44, m, ks, perm) ∈ tab.kw → (perm.Nodup ∧ perm.length = ((["deck"] : List Str) : List Str).length ∧ ∀ j ∈ perm, j < m + ks.length) ∧ ∀ (s : Shared) (us ws : List Value), us.length = m → ws.length = ks.length → BindsTo s fd ⟨us, ks.zip ws⟩ (((["deck"] : List Str) : List Str).zip (pick (us ++ ws) perm))) := by
  obtain ⟨fd, F⟩ := c.def_ 44 (d := D__law_right) rfl
  refine ⟨_, fd, r__law_right, d__law_right, _, _, _, rfl, rfl, rfl, glo_at X G c 63 rfl, F.kp, F, F.bindsN b__law_right, by decide +kernel, fun m ks perm hm => ?_⟩
  simp only [tab, List.mem_cons, Prod.mk.injEq, List.not_mem_nil, or_false] at hm
  rcases hm with ⟨h1, h2, h3, h4⟩ | ⟨h1, h2, h3, h4⟩ | ⟨h1, h2, h3, h4⟩ | ⟨h1, h2, h3, h4⟩ | ⟨h1, h2, h3, h4⟩ | ⟨h1, h2, h3, h4⟩ | ⟨h1, h2, h3, h4⟩ | ⟨h1, h2, h3, h4⟩ | ⟨h1, h2, h3, h4⟩ | ⟨h1, h2, h3, h4⟩ | ⟨h1, h2, h3, h4⟩
  · exact absurd h1 (by decide)
  · exact absurd h1 (by decide)
  · exact absurd h1 (by decide)
  · exact absurd h1 (by decide)
  · exact absurd h1 (by decide)
  · exact absurd h1 (by decide)
  · exact absurd h1 (by decide)
  · exact absurd h1 (by decide)
  · exact absurd h1 (by decide)
  · exact absurd h1 (by decide)
  · exact absurd h1 (by decide)
theorem f_law (X : K.In h) (G : h.Ns mainGlobals mg) (c : He.SaysD faL fnL K) : ∃ (f : Addr) (fd : FuncData) (r : Row) (d : Ev.FunD) (y qual : Str) (params : Arguments), rows[45]? = some r ∧ defs[45]? = some d ∧ r.ps = (["script"] : List Str) ∧ mg "law" = some (.ref f) ∧ PySem.W.keepIn K (.ref f) = true ∧
    L2.FunD K y qual params r.body r.sc [] [] f fd ∧ Binds K fd (["script"] : List Str) [] ∧ cD tab r d = true ∧
    (∀ m ks perm, (45, m, ks, perm) ∈ tab.kw → (perm.Nodup ∧ perm.length = ((["script"] : List Str) : List Str).length ∧ ∀ j ∈ perm, j < m + ks.length) ∧ ∀ (s : Shared) (us ws : List Value), us.length = m → ws.length = ks.length → BindsTo s fd ⟨us, ks.zip ws⟩ (((["script"] : List Str) : List Str).zip (pick (us ++ ws) perm))) := by
  obtain ⟨fd, F⟩ := c.def_ 45 (d := D_law) rfl
  refine ⟨_, fd, r_law, d_law, _, _, _, rfl, rfl, rfl, glo_at X G c 64 rfl, F.kp, F, F.bindsN b_law, by decide +kernel, fun m ks perm hm => ?_⟩
  simp only [tab, List.mem_cons, Prod.mk.injEq, List.not_mem_nil, or_false] at hm
  rcases hm with ⟨h1, h2, h3, h4⟩ | ⟨h1, h2, h3, h4⟩ | ⟨h1, h2, h3, h4⟩ | ⟨h1, h2, h3, h4⟩ | ⟨h1, h2, h3, h4⟩ | ⟨h1, h2, h3, h4⟩ | ⟨h1, h2, h3, h4⟩ | ⟨h1, h2, h3, h4⟩ | ⟨h1, h2, h3, h4⟩ | ⟨h1, h2, h3, h4⟩ | ⟨h1, h2, h3, h4⟩
  · exact absurd h1 (by decide)
  · exact absurd h1 (by decide)
  · exact absurd h1 (by decide)
  · exact absurd h1 (by decide)
  · exact absurd h1 (by decide)
  · exact absurd h1 (by decide)
  · exact absurd h1 (by decide)
  · exact absurd h1 (by decide)
  · exact absurd h1 (by decide)
  · exact absurd h1 (by decide)
  · exact absurd h1 (by decide)
theorem facts (X : K.In h) (G : h.Ns mainGlobals mg) (c : He.SaysD faL fnL K) (ce : exT K = true) : Facts tab rows defs globs subF (CAof K) P w K mg base where
  funs := fun i x ps hi => by
    match i, hi with
    | 0, hi => cases hi; exact f_is_integer X G c
    | 1, hi => cases hi; exact f_is_pair X G c
    | 2, hi => cases hi; exact f_lowest X G c
    | 3, hi => cases hi; exact f_sum_of_two X G c
    | 4, hi => cases hi; exact f_opposite X G c
    | 5, hi => cases hi; exact f_difference X G c
    | 6, hi => cases hi; exact f_product X G c
    | 7, hi => cases hi; exact f_quotient X G c
    | 8, hi => cases hi; exact f_is_less X G c
    | 9, hi => cases hi; exact f_sum_of_all X G c
    | 10, hi => cases hi; exact f_is_number X G c
    | 11, hi => cases hi; exact f_check_numbers X G c
    | 12, hi => cases hi; exact f_check_count X G c
    | 13, hi => cases hi; exact f_number X G c
    | 14, hi => cases hi; exact f_plus X G c
    | 15, hi => cases hi; exact f_minus X G c
    | 16, hi => cases hi; exact f_times X G c
    | 17, hi => cases hi; exact f_by X G c
    | 18, hi => cases hi; exact f_power_of X G c
    | 19, hi => cases hi; exact f_power X G c
    | 20, hi => cases hi; exact f_below X G c
    | 21, hi => cases hi; exact f_least_of X G c
    | 22, hi => cases hi; exact f_greatest_of X G c
    | 23, hi => cases hi; exact f_check_some X G c
    | 24, hi => cases hi; exact f_least X G c
    | 25, hi => cases hi; exact f_greatest X G c
    | 26, hi => cases hi; exact f_total X G c
    | 27, hi => cases hi; exact f__law_deck X G c
    | 28, hi => cases hi; exact f__law_take X G c
    | 29, hi => cases hi; exact f__law_gcd X G c
    | 30, hi => cases hi; exact f__law_pair X G c
    | 31, hi => cases hi; exact f__law_plus X G c
    | 32, hi => cases hi; exact f__law_times X G c
    | 33, hi => cases hi; exact f__law_less X G c
    | 34, hi => cases hi; exact f__law_same X G c
    | 35, hi => cases hi; exact f__law_integer X G c
    | 36, hi => cases hi; exact f__law_couple X G c
    | 37, hi => cases hi; exact f__law_own X G c
    | 38, hi => cases hi; exact f__law_small X G c
    | 39, hi => cases hi; exact f__law_is X G c
    | 40, hi => cases hi; exact f__law_divided X G c
    | 41, hi => cases hi; exact f__law_two_right X G c
    | 42, hi => cases hi; exact f__law_power_right X G c
    | 43, hi => cases hi; exact f__law_row_right X G c
    | 44, hi => cases hi; exact f__law_right X G c
    | 45, hi => cases hi; exact f_law X G c
    | n + 46, hi => cases (show (none : Option (Str × List Str)) = some (x, ps) from hi)
  gl := fun g x hg => by
    match g, hg with
    | 0, hg =>
      cases hg
      obtain ⟨t1, t2⟩ := andb (exT_at ce 0 rfl)
      refine ⟨_, V.ref (He.ga K "ZERO"), _, PySem.W.mg_of X G (He.eqO_ok t2), rfl, rfl, fun O H => .tup (He.tupB_ok t1 H) ?_⟩
      exact .cons (.int _) (.cons (.int _) (.nil))
    | 1, hg =>
      cases hg
      obtain ⟨t1, t2⟩ := andb (exT_at ce 1 rfl)
      refine ⟨_, V.ref (He.ga K "ONE"), _, PySem.W.mg_of X G (He.eqO_ok t2), rfl, rfl, fun O H => .tup (He.tupB_ok t1 H) ?_⟩
      exact .cons (.int _) (.cons (.int _) (.nil))
    | n + 2, hg => cases (show (none : Option Str) = some x from hg)
  blt := free_at X G c
  exc := fun cc x hc => by
    obtain ⟨fd, F⟩ := c.def_ 46 (d := D__init) rfl
    have init : FnOk P w K mg base (L2.CX P w) 2 _ fd ["self", "value"] (spInit K) := init_ok (fun _ => rfl) F ⟨rfl, rfl, rfl, by decide +kernel, rfl, by decide +kernel, by decide +kernel⟩ rfl rfl rfl (He.free_ok X G (c.fact 18 rfl)) (vvB_ok (exT_at ce 5 rfl))
    match cc, hc with
    | 0, hc =>
      cases hc
      obtain ⟨t1, t2⟩ := andb (exT_at ce 2 rfl)
      obtain ⟨t2, t3⟩ := andb t2
      obtain ⟨t3, t4⟩ := andb t3
      exact ⟨_, fd, glo_at X G c 65 rfl, oexB_ok t1, of_decide_eq_true t2, of_decide_eq_true t3, of_decide_eq_true t4, init, F.bindsN b__init⟩
    | 1, hc =>
      cases hc
      obtain ⟨t1, t2⟩ := andb (exT_at ce 3 rfl)
      obtain ⟨t2, t3⟩ := andb t2
      obtain ⟨t3, t4⟩ := andb t3
      exact ⟨_, fd, glo_at X G c 66 rfl, oexB_ok t1, of_decide_eq_true t2, of_decide_eq_true t3, of_decide_eq_true t4, init, F.bindsN b__init⟩
    | 2, hc =>
      cases hc
      obtain ⟨t1, t2⟩ := andb (exT_at ce 4 rfl)
      obtain ⟨t2, t3⟩ := andb t2
      obtain ⟨t3, t4⟩ := andb t3
      exact ⟨_, fd, glo_at X G c 67 rfl, oexB_ok t1, of_decide_eq_true t2, of_decide_eq_true t3, of_decide_eq_true t4, init, F.bindsN b__init⟩
    | n + 3, hc => cases (show (none : Option Str) = some x from hc)
  gcd := fun _ => PySem.W.mg_of X G (He.eqO_ok (exT_at ce 6 rfl))
  sub := fun c d b hb => by
    match c, d, hb with
    | 0, 1, hb =>
      cases hb
      exact ⟨of_decide_eq_true (exT_at ce 10 rfl), xfB_ok (exT_at ce 7 rfl), of_decide_eq_true (andb (andb (exT_at ce 2 rfl)).2).1⟩
    | 0, 2, hb =>
      cases hb
      exact ⟨of_decide_eq_true (exT_at ce 11 rfl), xfB_ok (exT_at ce 7 rfl), of_decide_eq_true (andb (andb (exT_at ce 2 rfl)).2).1⟩
    | 1, 1, hb =>
      cases hb
      exact ⟨of_decide_eq_true (exT_at ce 12 rfl), xfB_ok (exT_at ce 8 rfl), of_decide_eq_true (andb (andb (exT_at ce 3 rfl)).2).1⟩
    | 1, 2, hb =>
      cases hb
      exact ⟨of_decide_eq_true (exT_at ce 13 rfl), xfB_ok (exT_at ce 8 rfl), of_decide_eq_true (andb (andb (exT_at ce 3 rfl)).2).1⟩
    | 2, 1, hb =>
      cases hb
      exact ⟨of_decide_eq_true (exT_at ce 14 rfl), xfB_ok (exT_at ce 9 rfl), of_decide_eq_true (andb (andb (exT_at ce 4 rfl)).2).1⟩
    | 2, 2, hb =>
      cases hb
      exact ⟨of_decide_eq_true (exT_at ce 15 rfl), xfB_ok (exT_at ce 9 rfl), of_decide_eq_true (andb (andb (exT_at ce 4 rfl)).2).1⟩
    | 0, 0, hb => cases (show (none : Option Bool) = some b from hb)
    | 0, n + 3, hb => cases (show (none : Option Bool) = some b from hb)
    | 1, 0, hb => cases (show (none : Option Bool) = some b from hb)
    | 1, n + 3, hb => cases (show (none : Option Bool) = some b from hb)
    | 2, 0, hb => cases (show (none : Option Bool) = some b from hb)
    | 2, n + 3, hb => cases (show (none : Option Bool) = some b from hb)
    | n + 3, _, hb => cases (show (none : Option Bool) = some b from hb)
end
/-- what is to be shown of the evaluator alone -/
def Kept : Prop := ∀ ns : List Int, ns.length ≤ 63 → ∃ fuel fin, Ev.run ⟨globs, fuel, subF⟩ defs 60 45 [.d (.list (ns.map PyData.int))] = .ok (.d (.bool true)) fin
theorem holds (hK : Kept) : PySem.Challenge.rw_oneservesall_k01_whole_numbers.Holds := by
  w_on
  o_law
  refine HandSHeadRun.head_imp (r := RR0) (q := PySem.W.view RR0.prog vw) (H := hk) (ob := ob) (M := 4000) (loose := lsA) (d := HandSHeadRun.topDef RR0.prog 55) (kwd := []) (obX_eq asL faL fnL exT) head_run (by kernel_rfl) (by kernel_rfl) (by kernel_rfl) (by rfl)
    (by first | assumption | decide +kernel) (by decide +kernel) ⟨rfl, rfl, rfl, rfl, rfl, by decide +kernel⟩ ?hw ?hc
  case hw => w_witness2
  case hc =>
    refine law_walk (l := PySem.Challenge.rw_oneservesall_k01_whole_numbers) (CA := CAof) (i := 45) (tb := tab) (rows := rows) (defs := defs) (globs := globs) (sub := subF) (x := "script") (r := r_law) (d0 := d_law) hK rfl (by kernel_rfl) ⟨rfl, by decide, by decide⟩ rfl (by decide +kernel) rfl ?F
    intro w mg fa h Y G hmg0
    obtain ⟨K, KX, c, ce, nl⟩ := Y
    have e : (HandSHeadRun.topDef RR0.prog 55).name = ("law" : PySem.Str) := by kernel_rfl
    rw [e] at hmg0
    obtain ⟨fd, F⟩ := c.def_ 45 (d := D_law) rfl
    have eg := hmg0.symm.trans (glo_at KX G c 64 rfl)
    cases eg
    exact ⟨K, fd, _, _, _, KX, nl, fun s u => F.bindsA b_law s [u] rfl, F, fun base KB GB => facts KB GB c ce⟩
end K01
end
section
set_option linter.all false
set_option maxRecDepth 100000
set_option maxHeartbeats 4000000
/-! numbers of the program and of the law -/
namespace K01
open PySem Ev
abbrev Q2 := Int × Int
def gI (t b : Int) : Int := (Nat.gcd t.natAbs b.natAbs : Nat)
def nrm (t b : Int) : Q2 := (t.fdiv (gI t b), b.fdiv (gI t b))
def pr2 (p : Q2) : D := .tuple [.int p.1, .int p.2]
def plusN (a b : Q2) : Q2 := nrm (a.1 * b.2 + b.1 * a.2) (a.2 * b.2)
/-! bounds -/
theorem log2_lt {n k : Nat} (h : n < 2 ^ k) (hk : 0 < k) : n.log2 < k := by
  by_cases hn : n = 0
  · subst hn
    simpa using hk
  · exact (Nat.log2_lt hn).mpr h
theorem mulOk_of {i j : Int} {a b : Nat} (h1 : i.natAbs < 2 ^ a) (h2 : j.natAbs < 2 ^ b) (h : a + b < 10000000) : mulOk i j = true := by
  unfold mulOk
  refine decide_eq_true ?_
  have := log2_lt (k := a + 1) (Nat.lt_of_lt_of_le h1 (Nat.pow_le_pow_right (by decide) (Nat.le_succ a))) (Nat.succ_pos _)
  have := log2_lt (k := b + 1) (Nat.lt_of_lt_of_le h2 (Nat.pow_le_pow_right (by decide) (Nat.le_succ b))) (Nat.succ_pos _)
  omega
theorem divOk_of {j : Int} {b : Nat} (h0 : j ≠ 0) (h : j.natAbs < 2 ^ b) (hb : b < 8000) : divOk j = true := by
  unfold divOk
  refine decide_eq_true ⟨h0, ?_⟩
  have := log2_lt (k := b + 1) (Nat.lt_of_lt_of_le h (Nat.pow_le_pow_right (by decide) (Nat.le_succ b))) (Nat.succ_pos _)
  omega
theorem gI_pos {t b : Int} (h : b ≠ 0) : 0 < gI t b := by
  unfold gI
  have : 0 < Nat.gcd t.natAbs b.natAbs := Nat.gcd_pos_of_pos_right _ (by omega)
  omega
theorem gI_le {t b : Int} (h : b ≠ 0) : (gI t b).natAbs ≤ b.natAbs := by
  unfold gI
  have : Nat.gcd t.natAbs b.natAbs ≤ b.natAbs := Nat.gcd_le_right _ (by omega)
  omega
theorem divOk_gI {t b : Int} {k : Nat} (h : b ≠ 0) (hb : b.natAbs < 2 ^ k) (hk : k < 8000) : divOk (gI t b) = true :=
  divOk_of (by have := gI_pos (t := t) h; omega) (Nat.lt_of_le_of_lt (gI_le h) hb) hk
/-! the program's functions -/
theorem is_integer_ok (pr : EProg) (n : Nat) (i : Int) : run pr defs (n + 1) 0 [.d (.int i)] = .ok (.d (.bool true)) [none] := by
  rw [run_at (d := d_is_integer) rfl ⟨rfl, by decide⟩]
  simp [d_is_integer, exs, ex, ev, evs, items, startEnv, argSlot, Out.bind, Out.no, lift, view, viewAll, gt, capt, captAll, put, putAll, assignTg, isOwn, bltD, cmpD, opD, ixD, asB, boolOf, Ev.finish, fins, finOf, moveOut, callF, mkArgs, mkArg, lent, back, nodupB, permute, parPl, putQ, asgT, setAt, isTy]
theorem is_pair_ok (pr : EProg) (n : Nat) (a b : D) : run pr defs (n + 1) 1 [.d (.tuple [a, b])] = .ok (.d (.bool true)) [none] := by
  rw [run_at (d := d_is_pair) rfl ⟨rfl, by decide⟩]
  simp [d_is_pair, okD, SeqAt.shaped, PyData.canLay0, PyData.depth, PyData.eqv, exs, ex, ev, evs, items, startEnv, argSlot, Out.bind, Out.no, lift, view, viewAll, gt, capt, captAll, put, putAll, assignTg, isOwn, bltD, cmpD, opD, ixD, asB, boolOf, Ev.finish, fins, finOf, moveOut, callF, mkArgs, mkArg, lent, back, nodupB, permute, parPl, putQ, asgT, setAt, isTy]
theorem lowest_ok (pr : EProg) (n : Nat) (t b : Int) (hb : 0 < b) (hd : divOk (gI t b) = true) : run pr defs (n + 1) 2 [.d (.int t), .d (.int b)] = .ok (.d (pr2 (nrm t b))) [none, none] := by
  rw [run_at (d := d_lowest) rfl ⟨rfl, by decide⟩]
  have hb' : ¬ b < 0 := by omega
  unfold gI at hd
  simp [d_lowest, pr2, nrm, gI, hb', hd, exs, ex, ev, evs, items, startEnv, argSlot, Out.bind, Out.no, lift, view, viewAll, gt, capt, captAll, put, putAll, assignTg, isOwn, bltD, cmpD, opD, ixD, asB, boolOf, Ev.finish, fins, finOf, moveOut, callF, mkArgs, mkArg, lent, back, nodupB, permute, parPl, putQ, asgT, setAt]
theorem sum_of_two_ok (pr : EProg) (n : Nat) (a b : Q2) {k l : Nat} (ha : a.1.natAbs < 2 ^ k ∧ 0 < a.2 ∧ a.2.natAbs < 2 ^ k) (hb : b.1.natAbs < 2 ^ l ∧ 0 < b.2 ∧ b.2.natAbs < 2 ^ l) (hk : k + l < 7000) :
    run pr defs (n + 2) 3 [.d (pr2 a), .d (pr2 b)] = .ok (.d (pr2 (plusN a b))) [none, none] := by
  obtain ⟨a1, a2⟩ := a
  obtain ⟨b1, b2⟩ := b
  simp only at ha hb
  obtain ⟨h1, h2, h3⟩ := ha
  obtain ⟨h4, h5, h6⟩ := hb
  rw [run_at (d := d_sum_of_two) rfl ⟨rfl, by decide⟩]
  have m1 : mulOk a1 b2 = true := mulOk_of h1 h6 (by omega)
  have m2 : mulOk b1 a2 = true := mulOk_of h4 h3 (by omega)
  have m3 : mulOk a2 b2 = true := mulOk_of h3 h6 (by omega)
  have hp : 0 < a2 * b2 := Int.mul_pos h2 h5
  have hq : (a2 * b2).natAbs < 2 ^ (k + l) := by
    rw [Int.natAbs_mul, Nat.pow_add]
    exact Nat.mul_lt_mul'' h3 h6
  have lo := lowest_ok pr n (a1 * b2 + b1 * a2) (a2 * b2) hp (divOk_gI (by omega) hq (by omega))
  by_cases c1 : a2 = 1
  · by_cases c2 : b2 = 1
    · subst c1 c2
      simp [d_sum_of_two, pr2, plusN, nrm, gI, okD, SeqAt.shaped, PyData.canLay0, PyData.depth, PyData.eqv, exs, ex, ev, evs, items, startEnv, argSlot, Out.bind, Out.no, lift, view, viewAll, gt, capt, captAll, put, putAll, assignTg, isOwn, bltD, cmpD, opD, ixD, asB, boolOf, Ev.finish, fins, finOf, moveOut, callF, mkArgs, mkArg, lent, back, nodupB, permute, parPl, putQ, asgT, setAt, atI, ixN]
    · subst c1
      simp [d_sum_of_two, pr2, okD, SeqAt.shaped, PyData.canLay0, PyData.depth, PyData.eqv, exs, ex, ev, evs, items, startEnv, argSlot, Out.bind, Out.no, lift, view, viewAll, gt, capt, captAll, put, putAll, assignTg, isOwn, bltD, cmpD, opD, ixD, asB, boolOf, Ev.finish, fins, finOf, moveOut, callF, mkArgs, mkArg, lent, back, nodupB, permute, parPl, putQ, asgT, setAt, atI, ixN, c2, m1, m2, m3]
      simp [pr2] at lo
      simp [lo, plusN, pr2, exs, ex, ev, evs, items, startEnv, argSlot, Out.bind, Out.no, lift, view, viewAll, gt, capt, captAll, put, putAll, assignTg, isOwn, bltD, cmpD, opD, ixD, asB, boolOf, Ev.finish, fins, finOf, moveOut, callF, mkArgs, mkArg, lent, back, nodupB, permute, parPl, putQ, asgT, setAt]
  · simp [d_sum_of_two, pr2, okD, SeqAt.shaped, PyData.canLay0, PyData.depth, PyData.eqv, exs, ex, ev, evs, items, startEnv, argSlot, Out.bind, Out.no, lift, view, viewAll, gt, capt, captAll, put, putAll, assignTg, isOwn, bltD, cmpD, opD, ixD, asB, boolOf, Ev.finish, fins, finOf, moveOut, callF, mkArgs, mkArg, lent, back, nodupB, permute, parPl, putQ, asgT, setAt, atI, ixN, c1, m1, m2, m3]
    simp [pr2] at lo
    simp [lo, plusN, pr2, exs, ex, ev, evs, items, startEnv, argSlot, Out.bind, Out.no, lift, view, viewAll, gt, capt, captAll, put, putAll, assignTg, isOwn, bltD, cmpD, opD, ixD, asB, boolOf, Ev.finish, fins, finOf, moveOut, callF, mkArgs, mkArg, lent, back, nodupB, permute, parPl, putQ, asgT, setAt]
end K01
end
section
set_option linter.all false
set_option maxRecDepth 100000
set_option maxHeartbeats 4000000
/-! rows and schemes as the program judges them -/
namespace K01
open PySem Ev
def rowD (r : List Q2) : D := .tuple (r.map pr2)
def schD (s : List (List Q2)) : D := .tuple (s.map rowD)
theorem exs_ok {pr : EProg} {T : FT} {np : Nat} {s : S} {r : Ss} {e e1 : FEnv} (h : ex pr T np s e = .ok .next e1) : exs pr T np (.cons s r) e = exs pr T np r e1 := by
  show (ex pr T np s e).bind _ = _
  rw [h]
  rfl
theorem ex_if {pr : EProg} {T : FT} {np : Nat} {c : P} {a b : Ss} {e e1 : FEnv} {k : Bool} (h : asB (ev pr T np c e) = .ok k e1) : ex pr T np (.ite c a b) e = if k then exs pr T np a e1 else exs pr T np b e1 := by
  show (asB (ev pr T np c e)).bind _ = _
  rw [h]
  rfl
theorem exs_ret {pr : EProg} {T : FT} {np : Nat} {p : P} {r : Ss} {e e1 e2 : FEnv} {x y : Rs} (h : ev pr T np p e = .ok x e1) (hm : moveOut np e1 x = some (y, e2)) : exs pr T np (.cons (.ret p) r) e = .ok (.ret y) e2 := by
  show ((ev pr T np p e).bind _).bind _ = _
  rw [h]
  show (match moveOut np e1 x with | some (r2, e2) => Out.ok (EFlow.ret r2) e2 | none => .stuck).bind _ = _
  rw [hm]
  rfl
/-- a statement that leaves the frame -/
theorem exs_out {pr : EProg} {T : FT} {np : Nat} {s : S} {r : Ss} {e e1 : FEnv} {y : Rs} (h : ex pr T np s e = .ok (.ret y) e1) : exs pr T np (.cons s r) e = .ok (.ret y) e1 := by
  show (ex pr T np s e).bind _ = _
  rw [h]
  rfl
theorem ex_for {pr : EProg} {T : FT} {np : Nat} {tg : Tg} {it : EIt} {body : Ss} {e e1 : FEnv} {xs : List D} {o : Out EFlow} (hit : items pr T np it e = .ok xs e1) (hf : forL np tg (fun e => exs pr T np body e) xs e1 = o) : ex pr T np (.for_ tg it body) e = o := by
  show (items pr T np it e).bind (fun xs e1 => forL np tg (fun e => exs pr T np body e) xs e1) = _
  rw [hit]
  exact hf
theorem ex_own {pr : EProg} {T : FT} {np i : Nat} {p : P} {e e1 e2 : FEnv} {c : ECell} (h : ev pr T np p e = .ok (.fresh c) e1) (hp : put np e1 i (.own c) = some e2) : ex pr T np (.own i p) e = .ok .next e2 := by
  show (ev pr T np p e).bind _ = _
  rw [h]
  show (match put np e1 i (.own c) with | some e2 => Out.ok EFlow.next e2 | none => Out.stuck) = _
  rw [hp]
theorem ex_asg {pr : EProg} {T : FT} {np i : Nat} {p : P} {e e1 e2 e3 : FEnv} {r : Rs} {d : D} (h : ev pr T np p e = .ok r e1) (hc : capt np e1 r = some (d, e2)) (hp : put np e2 i (.val d) = some e3) : ex pr T np (.asg i p) e = .ok .next e3 := by
  show (ev pr T np p e).bind _ = _
  rw [h]
  show (match capt np e1 r with | some (d, e2) => (match put np e2 i (.val d) with | some e3 => Out.ok EFlow.next e3 | none => Out.stuck) | none => Out.stuck) = _
  rw [hc]
  show (match put np e2 i (.val d) with | some e3 => Out.ok EFlow.next e3 | none => Out.stuck) = _
  rw [hp]
/-! lowest terms -/
theorem gI_dvd (t b : Int) : gI t b ∣ t ∧ gI t b ∣ b := by
  unfold gI
  exact ⟨Int.ofNat_dvd_left.mpr (Nat.gcd_dvd_left _ _), Int.ofNat_dvd_left.mpr (Nat.gcd_dvd_right _ _)⟩
theorem nrm_mul {t b : Int} : (nrm t b).1 * gI t b = t ∧ (nrm t b).2 * gI t b = b := ⟨Int.fdiv_mul_cancel (gI_dvd t b).1, Int.fdiv_mul_cancel (gI_dvd t b).2⟩
theorem nrm_pos {t b : Int} (h : 0 < b) : 0 < (nrm t b).2 := by
  have g := gI_pos (t := t) (b := b) (by omega)
  have m := (nrm_mul (t := t) (b := b)).2
  rcases Int.lt_or_le 0 (nrm t b).2 with h1 | h1
  · exact h1
  · have : (nrm t b).2 * gI t b ≤ 0 := Int.mul_nonpos_of_nonpos_of_nonneg h1 (by omega)
    omega
theorem nrm_le {t b : Int} (h : b ≠ 0) : (nrm t b).1.natAbs ≤ t.natAbs ∧ (nrm t b).2.natAbs ≤ b.natAbs := by
  have g := gI_pos (t := t) h
  obtain ⟨m1, m2⟩ := nrm_mul (t := t) (b := b)
  have gg : 1 ≤ (gI t b).natAbs := by omega
  refine ⟨?_, ?_⟩
  · have : (nrm t b).1.natAbs * (gI t b).natAbs = t.natAbs := by rw [← Int.natAbs_mul, m1]
    calc (nrm t b).1.natAbs ≤ (nrm t b).1.natAbs * (gI t b).natAbs := Nat.le_mul_of_pos_right _ gg
      _ = t.natAbs := this
  · have : (nrm t b).2.natAbs * (gI t b).natAbs = b.natAbs := by rw [← Int.natAbs_mul, m2]
    calc (nrm t b).2.natAbs ≤ (nrm t b).2.natAbs * (gI t b).natAbs := Nat.le_mul_of_pos_right _ gg
      _ = b.natAbs := this
def Sm (k : Nat) (p : Q2) : Prop := p.1.natAbs < 2 ^ k ∧ 0 < p.2 ∧ p.2.natAbs < 2 ^ k
theorem Sm.mono {k l : Nat} {p : Q2} (h : Sm k p) (hl : k ≤ l) : Sm l p := ⟨Nat.lt_of_lt_of_le h.1 (Nat.pow_le_pow_right (by decide) hl), h.2.1, Nat.lt_of_lt_of_le h.2.2 (Nat.pow_le_pow_right (by decide) hl)⟩
theorem nrm_sm {t b : Int} {k : Nat} (ht : t.natAbs < 2 ^ k) (h0 : 0 < b) (hb : b.natAbs < 2 ^ k) : Sm k (nrm t b) := by
  obtain ⟨h1, h2⟩ := nrm_le (t := t) (b := b) (by omega)
  exact ⟨Nat.lt_of_le_of_lt h1 ht, nrm_pos h0, Nat.lt_of_le_of_lt h2 hb⟩
theorem plusN_sm {a b : Q2} {k l : Nat} (ha : Sm k a) (hb : Sm l b) : Sm (k + l + 1) (plusN a b) := by
  obtain ⟨h1, h2, h3⟩ := ha
  obtain ⟨h4, h5, h6⟩ := hb
  have e1 : (a.1 * b.2).natAbs < 2 ^ (k + l) := by
    rw [Int.natAbs_mul, Nat.pow_add]
    exact Nat.mul_lt_mul'' h1 h6
  have e2 : (b.1 * a.2).natAbs < 2 ^ (k + l) := by
    rw [Int.natAbs_mul, Nat.pow_add, Nat.mul_comm]
    exact Nat.mul_lt_mul'' h3 h4
  have e3 : (a.2 * b.2).natAbs < 2 ^ (k + l) := by
    rw [Int.natAbs_mul, Nat.pow_add]
    exact Nat.mul_lt_mul'' h3 h6
  have p2 : 2 ^ (k + l + 1) = 2 ^ (k + l) * 2 := Nat.pow_succ ..
  refine nrm_sm ?_ (Int.mul_pos h2 h5) (by omega)
  have := Int.natAbs_add_le (a.1 * b.2) (b.1 * a.2)
  omega
theorem fold_sm {K : Nat} : ∀ (r : List Q2) (a : Q2) (k : Nat), Sm k a → (∀ c ∈ r, Sm K c) → Sm (k + r.length * (K + 1)) (r.foldl plusN a)
  | [], a, k, ha, _ => by simpa using ha
  | c :: r, a, k, ha, h => by
    have := fold_sm r (plusN a c) (k + K + 1) (plusN_sm ha (h c List.mem_cons_self)) fun d hd => h d (List.mem_cons_of_mem _ hd)
    refine this.mono ?_
    rw [List.length_cons, Nat.succ_mul]
    omega
/-! the program's functions -/
theorem sum_of_all_any (pr : EProg) (n : Nat) (X : D) (r : List Q2) (hX : itemsD X = some (r.map pr2)) {K : Nat} (hr : ∀ c ∈ r, Sm K c) (hl : 1 + r.length * (K + 1) < 6900) : run pr defs (n + 3) 9 [.d X] = .ok (.d (pr2 (r.foldl plusN (0, 1)))) [none] := by
  rw [run_at (d := d_sum_of_all) rfl ⟨rfl, by decide⟩]
  have h1 : ex pr (run pr defs (n + 2)) 1 (.asg 1 (.tup (.cons (.lit (.int 0)) (.cons (.lit (.int 1)) .nil)))) (startEnv d_sum_of_all [.d X]) = .ok .next [.val X, .val (pr2 (0, 1)), .emp] := by
    simp [d_sum_of_all, pr2, exs, ex, ev, evs, items, startEnv, argSlot, Out.bind, Out.no, lift, view, viewAll, gt, capt, captAll, put, putAll, assignTg, isOwn, bltD, cmpD, opD, ixD, asB, boolOf, Ev.finish, fins, finOf, moveOut, callF, mkArgs, mkArg, lent, back, nodupB, permute, parPl, putQ, asgT, setAt]
  obtain ⟨e', h2, p, h3⟩ := for_inv (np := 1) (tg := .v 2) (body := fun e => exs pr (run pr defs (n + 2)) 1 (.cons (.asg 1 (.call 3 (.cons (.v 1) (.cons (.v 2) .nil)) .nil [])) .nil) e) (xs := r.map pr2) (e := [.val X, .val (pr2 (0, 1)), .emp])
    (fun k e => ∃ p, e = [.val X, .val (pr2 ((r.take k).foldl plusN (0, 1))), p]) ⟨.emp, by simp⟩ (fun k e x hx ⟨p, he⟩ => by
      rw [List.getElem?_map] at hx
      cases hc : r[k]? with
      | none => rw [hc] at hx; cases hx
      | some c =>
        rw [hc] at hx
        cases hx
        have hm : c ∈ r := List.mem_of_getElem? hc
        have hk : k < r.length := (List.getElem?_eq_some_iff.mp hc).1
        have sm := fold_sm (K := K) (r.take k) (0, 1) 1 ⟨by decide, by decide, by decide⟩ fun d hd => hr d (List.mem_of_mem_take hd)
        have hlen : (r.take k).length = k := by rw [List.length_take]; omega
        rw [hlen] at sm
        have mm : (k + 1) * (K + 1) ≤ r.length * (K + 1) := Nat.mul_le_mul_right _ hk
        rw [Nat.succ_mul] at mm
        have call := sum_of_two_ok pr n ((r.take k).foldl plusN (0, 1)) c sm (hr c hm) (by omega)
        have et : (r.take (k + 1)).foldl plusN (0, 1) = plusN ((r.take k).foldl plusN (0, 1)) c := by
          rw [List.take_add_one, hc, List.foldl_append]
          rfl
        refine ⟨[.val X, .val (pr2 ((r.take k).foldl plusN (0, 1))), .val (pr2 c)], [.val X, .val (pr2 ((r.take (k + 1)).foldl plusN (0, 1))), .val (pr2 c)], ?_, ?_, .val (pr2 c), rfl⟩
        · subst he
          simp [exs, ex, ev, evs, items, startEnv, argSlot, Out.bind, Out.no, lift, view, viewAll, gt, capt, captAll, put, putAll, assignTg, isOwn, bltD, cmpD, opD, ixD, asB, boolOf, Ev.finish, fins, finOf, moveOut, callF, mkArgs, mkArg, lent, back, nodupB, permute, parPl, putQ, asgT, setAt]
        · rw [et]
          simp [call, exs, ex, ev, evs, items, startEnv, argSlot, Out.bind, Out.no, lift, view, viewAll, gt, capt, captAll, put, putAll, assignTg, isOwn, bltD, cmpD, opD, ixD, asB, boolOf, Ev.finish, fins, finOf, moveOut, callF, mkArgs, mkArg, lent, back, nodupB, permute, parPl, putQ, asgT, setAt])
  have h4 : ex pr (run pr defs (n + 2)) 1 (.for_ (.v 2) (.seq (.v 0)) (.cons (.asg 1 (.call 3 (.cons (.v 1) (.cons (.v 2) .nil)) .nil [])) .nil)) [.val X, .val (pr2 (0, 1)), .emp] = .ok .next e' := ex_for (xs := r.map pr2) (items_seq (r := .d X) rfl rfl hX) h2
  show Ev.finish _ (exs pr (run pr defs (n + 2)) 1 (.cons _ (.cons _ (.cons _ .nil))) _) = _
  rw [exs_ok h1, exs_ok h4, h3]
  rw [List.length_map, List.take_length]
  simp [exs, ex, ev, evs, items, startEnv, argSlot, Out.bind, Out.no, lift, view, viewAll, gt, capt, captAll, put, putAll, assignTg, isOwn, bltD, cmpD, opD, ixD, asB, boolOf, Ev.finish, fins, finOf, moveOut, callF, mkArgs, mkArg, lent, back, nodupB, permute, parPl, putQ, asgT, setAt]
theorem sum_of_all_ok (pr : EProg) (n : Nat) (r : List Q2) {K : Nat} (hr : ∀ c ∈ r, Sm K c) (hl : 1 + r.length * (K + 1) < 6900) : run pr defs (n + 3) 9 [.d (rowD r)] = .ok (.d (pr2 (r.foldl plusN (0, 1)))) [none] := sum_of_all_any pr n (rowD r) r rfl hr hl
def okN (c : Q2) : Bool := decide (1 ≤ c.2) && decide (Nat.gcd c.1.natAbs c.2.natAbs = 1)
def okc (c : Q2) : Bool := okN c && decide (0 ≤ c.1)
theorem fdiv_self_iff {l g : Int} (hl : 1 ≤ l) (hg : 0 < g) : l.fdiv g = l ↔ g = 1 := by
  constructor
  · intro h
    rcases Int.lt_or_le 1 g with h1 | h1
    · have : l.fdiv g < l := by
        rw [Int.fdiv_eq_ediv_of_nonneg _ (by omega)]
        exact Int.ediv_lt_self_of_pos_of_ne_one (by omega) (by omega)
      omega
    · omega
  · intro h
    subst h
    exact Int.fdiv_one l
theorem is_number_ok (pr : EProg) (n : Nat) (c : Q2) {k : Nat} (h1 : c.1.natAbs < 2 ^ k) (h2 : c.2.natAbs < 2 ^ k) (hk : k < 7000 := by decide) : run pr defs (n + 2) 10 [.d (pr2 c)] = .ok (.d (.bool (okN c))) [none] := by
  obtain ⟨u, l⟩ := c
  simp only at h1 h2
  rw [run_at (d := d_is_number) rfl ⟨rfl, by decide⟩]
  have a1 := is_pair_ok pr n (.int u) (.int l)
  have a2 := is_integer_ok pr n u
  have a3 := is_integer_ok pr n l
  by_cases hl : l < 1
  · simp [d_is_number, pr2, okN, a1, a2, a3, hl, atI, ixN, exs, ex, ev, evs, items, startEnv, argSlot, Out.bind, Out.no, lift, view, viewAll, gt, capt, captAll, put, putAll, assignTg, isOwn, bltD, cmpD, opD, ixD, asB, boolOf, Ev.finish, fins, finOf, moveOut, callF, mkArgs, mkArg, lent, back, nodupB, permute, parPl, putQ, asgT, setAt]
    omega
  · have lo := lowest_ok pr n u l (by omega) (divOk_gI (by omega) h2 (by omega))
    simp [pr2] at lo
    have e1 : (decide ((nrm u l).1 = u) && decide ((nrm u l).2 = l)) = okN (u, l) := by
      have g := gI_pos (t := u) (b := l) (by omega)
      have hgi : gI u l = 1 ↔ Nat.gcd u.natAbs l.natAbs = 1 := by
        unfold gI
        omega
      unfold okN nrm
      by_cases hg : gI u l = 1
      · have e := hgi.mp hg
        simp [hg, e, Int.fdiv_one]
        omega
      · have e : ¬ Nat.gcd u.natAbs l.natAbs = 1 := fun z => hg (hgi.mpr z)
        have : ¬ l.fdiv (gI u l) = l := fun z => hg ((fdiv_self_iff (by omega) g).mp z)
        simp [this, e]
    simp [d_is_number, pr2, a1, a2, a3, hl, lo, okD, SeqAt.shaped, PyData.canLay0, PyData.canLayAll0, PyData.depth, PyData.depthAll, PyData.eqv, PyData.eqvAll, atI, ixN, exs, ex, ev, evs, items, startEnv, argSlot, Out.bind, Out.no, lift, view, viewAll, gt, capt, captAll, put, putAll, assignTg, isOwn, bltD, cmpD, opD, ixD, asB, boolOf, Ev.finish, fins, finOf, moveOut, callF, mkArgs, mkArg, lent, back, nodupB, permute, parPl, putQ, asgT, setAt]
    rw [← e1]
    rfl
end K01
end
section
set_option linter.all false
set_option maxRecDepth 100000
set_option maxHeartbeats 4000000
namespace K01
open PySem Ev
def unc : D → Q2
  | .tuple [.int u, .int l] => (u, l)
  | _ => (0, 0)
def unr : D → List Q2
  | .tuple xs => xs.map unc
  | _ => []
theorem unc_pr (c : Q2) : unc (pr2 c) = c := rfl
theorem unr_row (r : List Q2) : unr (rowD r) = r := by
  show (r.map pr2).map unc = r
  rw [List.map_map]
  exact (List.map_congr_left fun c _ => unc_pr c).trans (List.map_id r)
theorem boolsD_map {α : Type} (f : α → Bool) : ∀ xs : List α, boolsD (xs.map fun x => PyData.bool (f x)) = some (xs.map f)
  | [] => rfl
  | x :: xs => by
    show (boolsD (xs.map fun x => PyData.bool (f x))).map (f x :: ·) = _
    rw [boolsD_map f xs]
    rfl
def BdR (r : List Q2) : Prop := ∃ K, K < 6900 ∧ 1 + r.length * (K + 1) < 6900 ∧ r.length ≤ 1000 ∧ ∀ c ∈ r, c.1.natAbs < 2 ^ K ∧ c.2.natAbs < 2 ^ K
def isRow (r : List Q2) : Bool := r.all okc && decide (r.foldl plusN (0, 1) = (1, 1))
theorem lim_ge {n : Nat} (h : n ≤ 1000) : n ≤ lim := Nat.le_trans h (by decide)
theorem canRow (r : List Q2) : PyData.canLay0 (rowD r) = true ∧ PyData.depth (rowD r) ≤ 2 := by
  have h : ∀ r : List Q2, PyData.canLayAll0 (r.map pr2) = true ∧ PyData.depthAll (r.map pr2) ≤ 1 := fun r => by
    induction r with
    | nil => exact ⟨rfl, Nat.zero_le _⟩
    | cons c r ih =>
      refine ⟨?_, ?_⟩
      · show (PyData.canLay0 (pr2 c) && PyData.canLayAll0 (r.map pr2)) = true
        rw [ih.1]
        rfl
      · show max (PyData.depth (pr2 c)) (PyData.depthAll (r.map pr2)) ≤ 1
        have : PyData.depth (pr2 c) = 1 := rfl
        omega
  obtain ⟨h1, h2⟩ := h r
  exact ⟨h1, by show PyData.depthAll (r.map pr2) + 1 ≤ 2; omega⟩
theorem canSch (s : List (List Q2)) : okD (schD s) = true := by
  have h : ∀ s : List (List Q2), PyData.canLayAll0 (s.map rowD) = true ∧ PyData.depthAll (s.map rowD) ≤ 2 := fun s => by
    induction s with
    | nil => exact ⟨rfl, Nat.zero_le _⟩
    | cons c r ih =>
      obtain ⟨c1, c2⟩ := canRow c
      refine ⟨?_, ?_⟩
      · show (PyData.canLay0 (rowD c) && PyData.canLayAll0 (r.map rowD)) = true
        rw [ih.1, c1]
        rfl
      · show max (PyData.depth (rowD c)) (PyData.depthAll (r.map rowD)) ≤ 2
        omega
  obtain ⟨h1, h2⟩ := h s
  unfold okD SeqAt.shaped
  rw [Bool.and_eq_true]
  exact ⟨h1, decide_eq_true (by show PyData.depthAll (s.map rowD) + 1 ≤ 64; omega)⟩
def isSch (s : List (List Q2)) : Bool := !s.isEmpty && s.all isRow && s.all fun r => r.length == (s.headD []).length
def BdS (s : List (List Q2)) : Prop := s.length ≤ 1000 ∧ ∀ r ∈ s, BdR r
end K01
end
section
set_option linter.all false
set_option maxRecDepth 100000
set_option maxHeartbeats 4000000
/-! the law's own numbers and draws -/
namespace K01
open PySem Ev
def DeckOk (l : List D) : Prop := ∃ x y : Int, l = [.int x, .int y] ∧ 0 ≤ x ∧ 0 ≤ y ∧ y < 2 ^ 64
theorem fm {a b : Int} (h : 0 < b) : 0 ≤ a.fmod b ∧ a.fmod b < b := ⟨Int.fmod_nonneg_of_pos a h, Int.fmod_lt_of_pos a h⟩
theorem fd_nonneg {a b : Int} (ha : 0 ≤ a) (h : 0 < b) : 0 ≤ a.fdiv b := Int.fdiv_nonneg ha (by omega)
theorem take_ok (pr : EProg) (n : Nat) (l : List D) (many : Int) (hl : DeckOk l) (h0 : 0 < many) (h1 : many < 2 ^ 60) :
    ∃ t l', 0 ≤ t ∧ t < many ∧ DeckOk l' ∧ run pr defs (n + 1) 28 [.own (.lst l), .d (.int many)] = .ok (.d (.int t)) [some (.lst l'), none] := by
  obtain ⟨x, y, rfl, hx, hy, hy2⟩ := hl
  have hd : divOk many = true := divOk_of (b := 60) (by omega) (by omega) (by decide)
  by_cases c : x > 0
  · refine ⟨x.fmod many, [.int (x.fdiv many), .int y], (fm h0).1, (fm h0).2, ⟨_, _, rfl, fd_nonneg hx h0, hy, hy2⟩, ?_⟩
    rw [run_at (d := d__law_take) rfl ⟨rfl, by decide⟩]
    have hm : many ≠ 0 := by omega
    simp [d__law_take, c, hd, hm, atI, ixN, exs, ex, ev, evs, items, startEnv, argSlot, Out.bind, Out.no, lift, view, viewAll, gt, capt, captAll, put, putAll, assignTg, isOwn, bltD, cmpD, opD, ixD, asB, boolOf, Ev.finish, fins, finOf, moveOut, callF, mkArgs, mkArg, lent, back, nodupB, permute, parPl, putQ, asgT, setAt]
  · have m1 : mulOk y 6364136223846793005 = true := mulOk_of (a := 64) (b := 64) (by omega) (by decide) (by decide)
    have hm : many ≠ 0 := by omega
    have p64 : (0 : Int) < 18446744073709551616 := by decide
    refine ⟨(((y * 6364136223846793005 + 1442695040888963407).fmod 18446744073709551616).fdiv 8589934592).fmod many, [.int x, .int ((y * 6364136223846793005 + 1442695040888963407).fmod 18446744073709551616)], (fm h0).1, (fm h0).2, ⟨_, _, rfl, hx, (fm p64).1, (fm p64).2⟩, ?_⟩
    rw [run_at (d := d__law_take) rfl ⟨rfl, by decide⟩]
    have d33 : divOk 8589934592 = true := divOk_of (b := 34) (by decide) (by decide) (by decide)
    simp [d__law_take, c, hd, hm, m1, d33, atI, ixN, exs, ex, ev, evs, items, startEnv, argSlot, Out.bind, Out.no, lift, view, viewAll, gt, capt, captAll, put, putAll, assignTg, isOwn, bltD, cmpD, opD, ixD, asB, boolOf, Ev.finish, fins, finOf, moveOut, callF, mkArgs, mkArg, lent, back, nodupB, permute, parPl, putQ, asgT, setAt]
theorem deck_ok (pr : EProg) (n : Nat) (ns : List Int) (k : Nat) (hk : k < 1000) (hl : ns.length ≤ 63) :
    ∃ l, DeckOk l ∧ run pr defs (n + 1) 27 [.d (.list (ns.map PyData.int)), .d (.int k)] = .ok (.fresh (.lst l)) [none, none] := by
  have hM : (0 : Int) < 2305843009213693951 := by decide
  have core : ∀ cell : Int, ∃ l, DeckOk l ∧ Ev.finish [.d (.list (ns.map PyData.int)), .d (.int k)] (exs pr (run pr defs n) 2 (match d__law_deck.body with | .cons _ (.cons _ r) => r | _ => .nil) [.val (.list (ns.map PyData.int)), .val (.int k), .val (.int cell), .emp]) = .ok (.fresh (.lst l)) [none, none] := by
    intro cell
    have hs := fm (a := cell + 7919 * (k : Int) + 104729) hM
    generalize hst : (cell + 7919 * (k : Int) + 104729).fmod 2305843009213693951 = st at hs
    have m0 : mulOk 7919 (k : Int) = true := mulOk_of (a := 20) (b := 20) (by decide) (by omega) (by decide)
    have m1 : mulOk st st = true := mulOk_of (a := 64) (b := 64) (by omega) (by omega) (by decide)
    have m2 : mulOk (st * st) st = true := mulOk_of (a := 128) (b := 64) (by
      rw [Int.natAbs_mul, show (2 : Nat) ^ 128 = 2 ^ 64 * 2 ^ 64 by decide]
      exact Nat.mul_lt_mul'' (by omega) (by omega)) (by omega) (by decide)
    have m3 : mulOk 31 (k : Int) = true := mulOk_of (a := 20) (b := 20) (by decide) (by omega) (by decide)
    have hs2 := fm (a := st * st * st + 31 * (k : Int) + 7) hM
    by_cases c : cell < 1000000000000000000
    · refine ⟨[.int 0, .int ((st * st * st + 31 * (k : Int) + 7).fmod 2305843009213693951)], ⟨_, _, rfl, Int.le_refl _, hs2.1, by omega⟩, ?_⟩
      simp [d__law_deck, hst, m0, m1, m2, m3, c, exs, ex, ev, evs, items, startEnv, argSlot, Out.bind, Out.no, lift, view, viewAll, gt, capt, captAll, put, putAll, assignTg, isOwn, bltD, cmpD, opD, ixD, asB, boolOf, Ev.finish, fins, finOf, moveOut, callF, mkArgs, mkArg, lent, back, nodupB, permute, parPl, putQ, asgT, setAt]
    · refine ⟨[.int (cell - 1000000000000000000), .int ((st * st * st + 31 * (k : Int) + 7).fmod 2305843009213693951)], ⟨_, _, rfl, by omega, hs2.1, by omega⟩, ?_⟩
      simp [d__law_deck, hst, m0, m1, m2, m3, c, exs, ex, ev, evs, items, startEnv, argSlot, Out.bind, Out.no, lift, view, viewAll, gt, capt, captAll, put, putAll, assignTg, isOwn, bltD, cmpD, opD, ixD, asB, boolOf, Ev.finish, fins, finOf, moveOut, callF, mkArgs, mkArg, lent, back, nodupB, permute, parPl, putQ, asgT, setAt]
  by_cases c : k < ns.length
  · obtain ⟨l, h1, h2⟩ := core ns[k]
    refine ⟨l, h1, ?_⟩
    rw [run_at (d := d__law_deck) rfl ⟨rfl, by decide⟩]
    have a1 : ex pr (run pr defs n) 2 (.asg 2 (.lit (.int 0))) (startEnv d__law_deck [.d (.list (ns.map PyData.int)), .d (.int k)]) = .ok .next [.val (.list (ns.map PyData.int)), .val (.int k), .val (.int 0), .emp] := by
      simp [d__law_deck, exs, ex, ev, evs, items, startEnv, argSlot, Out.bind, Out.no, lift, view, viewAll, gt, capt, captAll, put, putAll, assignTg, isOwn, bltD, cmpD, opD, ixD, asB, boolOf, Ev.finish, fins, finOf, moveOut, callF, mkArgs, mkArg, lent, back, nodupB, permute, parPl, putQ, asgT, setAt]
    have c2 : (k : Int) < (ns.length : Int) := by omega
    have hi : ns[k]? = some ns[k] := List.getElem?_eq_getElem c
    have a2 : ex pr (run pr defs n) 2 (.ite (.cmp .lt (.v 1) (.blt .len (.cons (.v 0) .nil))) (.cons (.asg 2 (.ix (.v 0) (.v 1))) .nil) .nil) [.val (.list (ns.map PyData.int)), .val (.int k), .val (.int 0), .emp] = .ok .next [.val (.list (ns.map PyData.int)), .val (.int k), .val (.int ns[k]), .emp] := by
      have c3 : (0 : Int) ≤ (k : Int) := by omega
      simp [c2, c3, c, atI, ixN, hi, exs, ex, ev, evs, items, startEnv, argSlot, Out.bind, Out.no, lift, view, viewAll, gt, capt, captAll, put, putAll, assignTg, isOwn, bltD, cmpD, opD, ixD, asB, boolOf, Ev.finish, fins, finOf, moveOut, callF, mkArgs, mkArg, lent, back, nodupB, permute, parPl, putQ, asgT, setAt]
    show Ev.finish _ (exs pr (run pr defs n) 2 (.cons _ (.cons _ _)) _) = _
    rw [exs_ok a1, exs_ok a2]
    exact h2
  · obtain ⟨l, h1, h2⟩ := core 0
    refine ⟨l, h1, ?_⟩
    rw [run_at (d := d__law_deck) rfl ⟨rfl, by decide⟩]
    have a1 : ex pr (run pr defs n) 2 (.asg 2 (.lit (.int 0))) (startEnv d__law_deck [.d (.list (ns.map PyData.int)), .d (.int k)]) = .ok .next [.val (.list (ns.map PyData.int)), .val (.int k), .val (.int 0), .emp] := by
      simp [d__law_deck, exs, ex, ev, evs, items, startEnv, argSlot, Out.bind, Out.no, lift, view, viewAll, gt, capt, captAll, put, putAll, assignTg, isOwn, bltD, cmpD, opD, ixD, asB, boolOf, Ev.finish, fins, finOf, moveOut, callF, mkArgs, mkArg, lent, back, nodupB, permute, parPl, putQ, asgT, setAt]
    have c2 : ¬ (k : Int) < (ns.length : Int) := by omega
    have a2 : ex pr (run pr defs n) 2 (.ite (.cmp .lt (.v 1) (.blt .len (.cons (.v 0) .nil))) (.cons (.asg 2 (.ix (.v 0) (.v 1))) .nil) .nil) [.val (.list (ns.map PyData.int)), .val (.int k), .val (.int 0), .emp] = .ok .next [.val (.list (ns.map PyData.int)), .val (.int k), .val (.int 0), .emp] := by
      simp [c2, c, exs, ex, ev, evs, items, startEnv, argSlot, Out.bind, Out.no, lift, view, viewAll, gt, capt, captAll, put, putAll, assignTg, isOwn, bltD, cmpD, opD, ixD, asB, boolOf, Ev.finish, fins, finOf, moveOut, callF, mkArgs, mkArg, lent, back, nodupB, permute, parPl, putQ, asgT, setAt]
    show Ev.finish _ (exs pr (run pr defs n) 2 (.cons _ (.cons _ _)) _) = _
    rw [exs_ok a1, exs_ok a2]
    exact h2
/-! the greatest common divisor by hand -/
theorem gcd_loop (pr : EProg) (T : FT) : ∀ (fuel : Nat) (u v : Nat), v < fuel →
    whileL (fun e => asB (ev pr T 2 (.cmp .ne (.v 1) (.lit (.int 0))) e)) (fun e => exs pr T 2 (.cons (.par [0, 1] [false, false] (.cons (.v 1) (.cons (.bin .mod (.blt .int (.cons (.v 0) .nil)) (.v 1)) .nil))) .nil) e) fuel [.val (.int u), .val (.int v)] =
      .ok .next [.val (.int (Nat.gcd u v : Nat)), .val (.int 0)]
  | 0, u, v, h => absurd h (Nat.not_lt_zero _)
  | fuel + 1, u, v, h => by
    unfold whileL
    by_cases hv : v = 0
    · subst hv
      simp [okD, SeqAt.shaped, PyData.canLay0, PyData.depth, PyData.eqv, exs, ex, ev, evs, items, startEnv, argSlot, Out.bind, Out.no, lift, view, viewAll, gt, capt, captAll, put, putAll, assignTg, isOwn, bltD, cmpD, opD, ixD, asB, boolOf, Ev.finish, fins, finOf, moveOut, callF, mkArgs, mkArg, lent, back, nodupB, permute, parPl, putQ, asgT, setAt]
    · have hv' : ¬ (v : Int) = 0 := by omega
      have e1 : ((u : Int).fmod (v : Int)) = ((u % v : Nat) : Int) := by
        rw [Int.fmod_eq_emod_of_nonneg _ (by omega)]
        rfl
      have ih := gcd_loop pr T fuel v (u % v) (by have := Nat.mod_lt u (Nat.pos_of_ne_zero hv); omega)
      have e2 : Nat.gcd u v = Nat.gcd v (u % v) := by
        rw [Nat.gcd_comm u v, Nat.gcd_rec v u, Nat.gcd_comm]
      rw [e2, ← ih]
      have c1 : asB (ev pr T 2 (.cmp .ne (.v 1) (.lit (.int 0))) [.val (.int u), .val (.int v)]) = .ok true [.val (.int u), .val (.int v)] := by
        simp [okD, SeqAt.shaped, PyData.canLay0, PyData.depth, PyData.eqv, hv, hv', exs, ex, ev, evs, items, startEnv, argSlot, Out.bind, Out.no, lift, view, viewAll, gt, capt, captAll, put, putAll, assignTg, isOwn, bltD, cmpD, opD, ixD, asB, boolOf, Ev.finish, fins, finOf, moveOut, callF, mkArgs, mkArg, lent, back, nodupB, permute, parPl, putQ, asgT, setAt]
      have c2 : exs pr T 2 (.cons (.par [0, 1] [false, false] (.cons (.v 1) (.cons (.bin .mod (.blt .int (.cons (.v 0) .nil)) (.v 1)) .nil))) .nil) [.val (.int u), .val (.int v)] = .ok .next [.val (.int v), .val (.int ((u % v : Nat) : Int))] := by
        simp [hv, hv', e1, exs, ex, ev, evs, items, startEnv, argSlot, Out.bind, Out.no, lift, view, viewAll, gt, capt, captAll, put, putAll, assignTg, isOwn, bltD, cmpD, opD, ixD, asB, boolOf, Ev.finish, fins, finOf, moveOut, callF, mkArgs, mkArg, lent, back, nodupB, permute, parPl, putQ, asgT, setAt]
      simp only [c1, c2, Out.bind, if_true]
theorem gcd_ok (pr : EProg) (n : Nat) (u v : Nat) (hf : v < pr.fuel) : run pr defs (n + 1) 29 [.d (.int u), .d (.int v)] = .ok (.d (.int (Nat.gcd u v : Nat))) [none, none] := by
  rw [run_at (d := d__law_gcd) rfl ⟨rfl, by decide⟩]
  have h : ex pr (run pr defs n) 2 (.whl (.cmp .ne (.v 1) (.lit (.int 0))) (.cons (.par [0, 1] [false, false] (.cons (.v 1) (.cons (.bin .mod (.blt .int (.cons (.v 0) .nil)) (.v 1)) .nil))) .nil)) [.val (.int u), .val (.int v)] = .ok .next [.val (.int (Nat.gcd u v : Nat)), .val (.int 0)] := gcd_loop pr (run pr defs n) pr.fuel u v hf
  show Ev.finish _ (exs pr (run pr defs n) 2 (.cons _ (.cons _ .nil)) [.val (.int u), .val (.int v)]) = _
  rw [exs_ok h]
  simp [exs, ex, ev, evs, items, startEnv, argSlot, Out.bind, Out.no, lift, view, viewAll, gt, capt, captAll, put, putAll, assignTg, isOwn, bltD, cmpD, opD, ixD, asB, boolOf, Ev.finish, fins, finOf, moveOut, callF, mkArgs, mkArg, lent, back, nodupB, permute, parPl, putQ, asgT, setAt]
theorem lpair_ok (pr : EProg) (n : Nat) (u l : Int) (h0 : 0 < l) (h1 : l.natAbs < 2 ^ 3900) (hf : 2 ^ 4000 ≤ pr.fuel) : run pr defs (n + 2) 30 [.d (.int u), .d (.int l)] = .ok (.d (pr2 (nrm u l))) [none, none] := by
  rw [run_at (d := d__law_pair) rfl ⟨rfl, by decide⟩]
  have lt : l.natAbs < pr.fuel := Nat.lt_of_lt_of_le h1 (Nat.le_trans (Nat.pow_le_pow_right (by decide) (by decide)) hf)
  have g := gcd_ok pr n u.natAbs l.natAbs lt
  have hd := divOk_gI (t := u) (by omega : l ≠ 0) h1 (by decide)
  have a1 : (if u < 0 then -u else u) = (u.natAbs : Int) := by split <;> omega
  have a2 : (l.natAbs : Int) = l := by omega
  have hn : ¬ l < 0 := by omega
  rw [a2] at g
  unfold gI at hd
  simp [d__law_pair, a1, hn, g, hd, exs, ex, ev, evs, items, startEnv, argSlot, Out.bind, Out.no, lift, view, viewAll, gt, capt, captAll, put, putAll, assignTg, isOwn, bltD, cmpD, opD, ixD, asB, boolOf, Ev.finish, fins, finOf, moveOut, callF, mkArgs, mkArg, lent, back, nodupB, permute, parPl, putQ, asgT, setAt]
  simp [pr2, nrm, gI]
end K01
end
section
set_option linter.all false
set_option maxRecDepth 100000
set_option maxHeartbeats 4000000
namespace K01
open PySem Ev
theorem lplus_ok (pr : EProg) (n : Nat) (a b : Q2) {k l : Nat} (ha : Sm k a) (hb : Sm l b) (hk : k + l < 3900) (hf : 2 ^ 4000 ≤ pr.fuel) : run pr defs (n + 3) 31 [.d (pr2 a), .d (pr2 b)] = .ok (.d (pr2 (plusN a b))) [none, none] := by
  obtain ⟨a1, a2⟩ := a
  obtain ⟨b1, b2⟩ := b
  obtain ⟨h1, h2, h3⟩ := ha
  obtain ⟨h4, h5, h6⟩ := hb
  simp only at h1 h2 h3 h4 h5 h6
  rw [run_at (d := d__law_plus) rfl ⟨rfl, by decide⟩]
  have m1 : mulOk a1 b2 = true := mulOk_of h1 h6 (by omega)
  have m2 : mulOk b1 a2 = true := mulOk_of h4 h3 (by omega)
  have m3 : mulOk a2 b2 = true := mulOk_of h3 h6 (by omega)
  have hq : (a2 * b2).natAbs < 2 ^ 3900 := by
    rw [Int.natAbs_mul]
    exact Nat.lt_of_lt_of_le (Nat.mul_lt_mul'' h3 h6) (by rw [← Nat.pow_add]; exact Nat.pow_le_pow_right (by decide) (by omega))
  have lo := lpair_ok pr n (a1 * b2 + b1 * a2) (a2 * b2) (Int.mul_pos h2 h5) hq hf
  simp [d__law_plus, pr2, m1, m2, m3, atI, ixN, lo, plusN, exs, ex, ev, evs, items, startEnv, argSlot, Out.bind, Out.no, lift, view, viewAll, gt, capt, captAll, put, putAll, assignTg, isOwn, bltD, cmpD, opD, ixD, asB, boolOf, Ev.finish, fins, finOf, moveOut, callF, mkArgs, mkArg, lent, back, nodupB, permute, parPl, putQ, asgT, setAt]
theorem ltimes_ok (pr : EProg) (n : Nat) (a b : Q2) {k l : Nat} (ha : Sm k a) (hb : Sm l b) (hk : k + l < 3900) (hf : 2 ^ 4000 ≤ pr.fuel) : run pr defs (n + 3) 32 [.d (pr2 a), .d (pr2 b)] = .ok (.d (pr2 (nrm (a.1 * b.1) (a.2 * b.2)))) [none, none] := by
  obtain ⟨a1, a2⟩ := a
  obtain ⟨b1, b2⟩ := b
  obtain ⟨h1, h2, h3⟩ := ha
  obtain ⟨h4, h5, h6⟩ := hb
  simp only at h1 h2 h3 h4 h5 h6
  rw [run_at (d := d__law_times) rfl ⟨rfl, by decide⟩]
  have m1 : mulOk a1 b1 = true := mulOk_of h1 h4 (by omega)
  have m3 : mulOk a2 b2 = true := mulOk_of h3 h6 (by omega)
  have hq : (a2 * b2).natAbs < 2 ^ 3900 := by
    rw [Int.natAbs_mul]
    exact Nat.lt_of_lt_of_le (Nat.mul_lt_mul'' h3 h6) (by rw [← Nat.pow_add]; exact Nat.pow_le_pow_right (by decide) (by omega))
  have lo := lpair_ok pr n (a1 * b1) (a2 * b2) (Int.mul_pos h2 h5) hq hf
  simp [d__law_times, pr2, m1, m3, atI, ixN, lo, exs, ex, ev, evs, items, startEnv, argSlot, Out.bind, Out.no, lift, view, viewAll, gt, capt, captAll, put, putAll, assignTg, isOwn, bltD, cmpD, opD, ixD, asB, boolOf, Ev.finish, fins, finOf, moveOut, callF, mkArgs, mkArg, lent, back, nodupB, permute, parPl, putQ, asgT, setAt]
/-! what is the same as itself -/
mutual
def okS : D → Bool
  | .none => true
  | .bool _ => true
  | .int _ => true
  | .str x => PyData.canLay0 (.str x)
  | .list xs => okSs xs && decide (xs.length ≤ 1000)
  | .tuple xs => okSs xs && decide (xs.length ≤ 1000)
  | .dict _ => false
def okSs : List D → Bool
  | [] => true
  | x :: xs => okS x && okSs xs
end
theorem okSs_at : ∀ {xs : List D} {i : Nat} {x : D}, okSs xs = true → xs[i]? = some x → okS x = true ∧ PyData.depth x ≤ PyData.depthAll xs
  | [], i, x, _, h => by simp at h
  | y :: ys, 0, x, h, e => by
    have h' : (okS y && okSs ys) = true := by simpa [okSs] using h
    simp at e
    subst e
    rw [Bool.and_eq_true] at h'
    refine ⟨h'.1, ?_⟩
    show _ ≤ max (PyData.depth y) (PyData.depthAll ys)
    omega
  | y :: ys, i + 1, x, h, e => by
    have h' : (okS y && okSs ys) = true := by simpa [okSs] using h
    rw [Bool.and_eq_true] at h'
    obtain ⟨h1, h2⟩ := okSs_at h'.2 (by simpa using e)
    refine ⟨h1, ?_⟩
    show _ ≤ max (PyData.depth y) (PyData.depthAll ys)
    omega
theorem mem_range {n : Nat} {x : D} (h : x ∈ rangeL 0 n) : ∃ k : Nat, k < n ∧ x = .int k := by
  unfold rangeL at h
  obtain ⟨k, hk, e⟩ := List.mem_map.mp h
  exact ⟨k, List.mem_range.mp hk, by rw [← e, Int.zero_add]⟩
theorem range_len (n : Nat) : (rangeL 0 n).length = n := by
  unfold rangeL
  rw [List.length_map, List.length_range]
theorem small_nat {n : Nat} (h : n ≤ 1000) : small62 (n : Int) = true := by
  unfold small62
  rw [show (2 : Int) ^ 62 = 4611686018427387904 by decide]
  exact decide_eq_true ⟨by omega, by omega⟩
theorem same_flat (pr : EProg) (n : Nat) (d : D) (h : PyData.depth d = 0) (ho : okS d = true) : run pr defs (n + 1) 34 [.d d, .d d] = .ok (.d (.bool true)) [none, none] := by
  rw [run_at (d := d__law_same) rfl ⟨rfl, by decide⟩]
  cases d with
  | dict kvs => cases ho
  | list xs => exact absurd h (Nat.succ_ne_zero (PyData.depthAll xs))
  | tuple xs => exact absurd h (Nat.succ_ne_zero (PyData.depthAll xs))
  | none => simp [d__law_same, isTy, exs, ex, ev, evs, items, startEnv, argSlot, Out.bind, Out.no, lift, view, viewAll, gt, capt, captAll, put, putAll, assignTg, isOwn, bltD, cmpD, opD, ixD, asB, boolOf, Ev.finish, fins, finOf, moveOut, callF, mkArgs, mkArg, lent, back, nodupB, permute, parPl, putQ, asgT, setAt]
  | bool b => simp [d__law_same, isTy, okD, SeqAt.shaped, PyData.canLay0, PyData.depth, PyData.eqv, exs, ex, ev, evs, items, startEnv, argSlot, Out.bind, Out.no, lift, view, viewAll, gt, capt, captAll, put, putAll, assignTg, isOwn, bltD, cmpD, opD, ixD, asB, boolOf, Ev.finish, fins, finOf, moveOut, callF, mkArgs, mkArg, lent, back, nodupB, permute, parPl, putQ, asgT, setAt]
  | int i => simp [d__law_same, isTy, okD, SeqAt.shaped, PyData.canLay0, PyData.depth, PyData.eqv, exs, ex, ev, evs, items, startEnv, argSlot, Out.bind, Out.no, lift, view, viewAll, gt, capt, captAll, put, putAll, assignTg, isOwn, bltD, cmpD, opD, ixD, asB, boolOf, Ev.finish, fins, finOf, moveOut, callF, mkArgs, mkArg, lent, back, nodupB, permute, parPl, putQ, asgT, setAt]
  | str x =>
    have w : PyData.canLay0 (.str x) = true := ho
    simp [d__law_same, isTy, okD, SeqAt.shaped, w, PyData.depth, PyData.eqv, exs, ex, ev, evs, items, startEnv, argSlot, Out.bind, Out.no, lift, view, viewAll, gt, capt, captAll, put, putAll, assignTg, isOwn, bltD, cmpD, opD, ixD, asB, boolOf, Ev.finish, fins, finOf, moveOut, callF, mkArgs, mkArg, lent, back, nodupB, permute, parPl, putQ, asgT, setAt]
theorem same_items (pr : EProg) (T : FT) (S : D) (xs : List D) (hS : S = .list xs ∨ S = .tuple xs) (h : xs.length ≤ 1000) : items pr T 2 (.r1 (.blt .len (.cons (.v 1) .nil))) [.val S, .val S, .emp] = .ok (rangeL 0 xs.length) [.val S, .val S, .emp] := by
  have e : items pr T 2 (.r1 (.blt .len (.cons (.v 1) .nil))) [.val S, .val S, .emp] = .ok (rangeL 0 ((xs.length : Nat) : Int).toNat) [.val S, .val S, .emp] := items_r1 (r := .d (.int (xs.length : Nat))) (by rcases hS with rfl | rfl <;> simp [ev, evs, Out.bind, lift, view, viewAll, gt, bltD]) rfl (small_nat h)
  rw [e, Int.toNat_natCast]
theorem same_comp (pr : EProg) (n : Nat) (ih : ∀ d : D, PyData.depth d ≤ n → okS d = true → run pr defs (n + 1) 34 [.d d, .d d] = .ok (.d (.bool true)) [none, none]) (S : D) (xs : List D) (hS : S = .list xs ∨ S = .tuple xs) (h1 : okSs xs = true) (h2 : xs.length ≤ 1000) (h3 : PyData.depthAll xs ≤ n) :
    ev pr (run pr defs (n + 1)) 2 (.comp (.v 2) (.v 2) (.r1 (.blt .len (.cons (.v 1) .nil))) (.nt (.call 34 (.cons (.cap (.ix (.v 0) (.v 2))) (.cons (.cap (.ix (.v 1) (.v 2))) .nil)) .nil [])) [2]) [.val S, .val S, .emp] = .ok (.fresh (.lst [])) [.val S, .val S, .emp] := by
  have hc := comp_pure (pr := pr) (T := run pr defs (n + 1)) (np := 2) (i := 2) (elt := .v 2) (cond := .nt (.call 34 (.cons (.cap (.ix (.v 0) (.v 2))) (.cons (.cap (.ix (.v 1) (.v 2))) .nil)) .nil [])) (it := .r1 (.blt .len (.cons (.v 1) .nil))) (e := [.val S, .val S, .emp]) (e1 := [.val S, .val S, .emp]) (xs := rangeL 0 xs.length) (B := fun _ => false) (F := fun x => x)
    (same_items pr _ S xs hS h2) (by simp) rfl (by rw [range_len]; exact lim_ge h2) (fun x hx => ⟨by
      obtain ⟨k, hk, rfl⟩ := mem_range hx
      have hi : xs[k]? = some xs[k] := List.getElem?_eq_getElem hk
      obtain ⟨o1, o2⟩ := okSs_at h1 hi
      have a := ih xs[k] (Nat.le_trans o2 h3) o1
      have k0 : (0 : Int) ≤ (k : Int) := Int.natCast_nonneg k
      have k1 : (k : Int) < (xs.length : Int) := Int.ofNat_lt.mpr hk
      rcases hS with rfl | rfl <;> simp [atI, ixN, k0, k1, hi, hk, a, exs, ex, ev, evs, items, startEnv, argSlot, Out.bind, Out.no, lift, view, viewAll, gt, capt, captAll, put, putAll, assignTg, isOwn, bltD, cmpD, opD, ixD, asB, boolOf, Ev.finish, fins, finOf, moveOut, callF, mkArgs, mkArg, lent, back, nodupB, permute, parPl, putQ, asgT, setAt], fun z => by cases z⟩)
  rw [hc, List.filter_eq_nil_iff.mpr (fun _ _ => by simp)]
  rfl
theorem same_seq (pr : EProg) (n : Nat) (ih : ∀ d : D, PyData.depth d ≤ n → okS d = true → run pr defs (n + 1) 34 [.d d, .d d] = .ok (.d (.bool true)) [none, none]) (S : D) (xs : List D) (hS : S = .list xs ∨ S = .tuple xs) (h1 : okSs xs = true) (h2 : xs.length ≤ 1000) (h3 : PyData.depthAll xs ≤ n) :
    run pr defs (n + 2) 34 [.d S, .d S] = .ok (.d (.bool true)) [none, none] := by
  rw [run_at (d := d__law_same) rfl ⟨rfl, by decide⟩]
  have hs := same_comp pr n ih S xs hS h1 h2 h3
  generalize run pr defs (n + 1) = T at hs
  have a1 : asB (ev pr T 2 (.isi (.v 1) [.tuple, .list]) [.val S, .val S, .emp]) = .ok true [.val S, .val S, .emp] := by
    rcases hS with rfl | rfl <;> simp [isTy, exs, ex, ev, evs, items, startEnv, argSlot, Out.bind, Out.no, lift, view, viewAll, gt, capt, captAll, put, putAll, assignTg, isOwn, bltD, cmpD, opD, ixD, asB, boolOf, Ev.finish, fins, finOf, moveOut, callF, mkArgs, mkArg, lent, back, nodupB, permute, parPl, putQ, asgT, setAt]
  have a2 : ex pr T 2 (.ite (.or (.cmp .ne (.isi (.v 0) [.tuple]) (.isi (.v 1) [.tuple])) (.cmp .ne (.isi (.v 0) [.list]) (.isi (.v 1) [.list]))) (.cons (.ret (.lit (.bool false))) .nil) .nil) [.val S, .val S, .emp] = .ok .next [.val S, .val S, .emp] := by
    rcases hS with rfl | rfl <;> simp [isTy, okD, SeqAt.shaped, PyData.canLay0, PyData.depth, PyData.eqv, exs, ex, ev, evs, items, startEnv, argSlot, Out.bind, Out.no, lift, view, viewAll, gt, capt, captAll, put, putAll, assignTg, isOwn, bltD, cmpD, opD, ixD, asB, boolOf, Ev.finish, fins, finOf, moveOut, callF, mkArgs, mkArg, lent, back, nodupB, permute, parPl, putQ, asgT, setAt]
  have a3 : ex pr T 2 (.ite (.cmp .ne (.blt .len (.cons (.v 0) .nil)) (.blt .len (.cons (.v 1) .nil))) (.cons (.ret (.lit (.bool false))) .nil) .nil) [.val S, .val S, .emp] = .ok .next [.val S, .val S, .emp] := by
    rcases hS with rfl | rfl <;> simp [okD, SeqAt.shaped, PyData.canLay0, PyData.depth, PyData.eqv, exs, ex, ev, evs, items, startEnv, argSlot, Out.bind, Out.no, lift, view, viewAll, gt, capt, captAll, put, putAll, assignTg, isOwn, bltD, cmpD, opD, ixD, asB, boolOf, Ev.finish, fins, finOf, moveOut, callF, mkArgs, mkArg, lent, back, nodupB, permute, parPl, putQ, asgT, setAt]
  have a4 : ev pr T 2 (.cmp .eq (.comp (.v 2) (.v 2) (.r1 (.blt .len (.cons (.v 1) .nil))) (.nt (.call 34 (.cons (.cap (.ix (.v 0) (.v 2))) (.cons (.cap (.ix (.v 1) (.v 2))) .nil)) .nil [])) [2]) (.lst .nil)) [.val S, .val S, .emp] = .ok (.d (.bool true)) [.val S, .val S, .emp] := by
    show (ev pr T 2 (.comp _ _ _ _ _) _).bind _ = _
    rw [hs]
    rfl
  show Ev.finish _ (exs pr T 2 (.cons (.ite _ (.cons _ (.cons _ (.cons (.ret _) .nil))) .nil) _) [.val S, .val S, .emp]) = _
  rw [exs_out (y := .d (.bool true)) (e1 := [.val S, .val S, .emp])]
  · rfl
  · rw [ex_if a1, if_pos rfl, exs_ok a2, exs_ok a3, exs_ret a4 rfl]
theorem same_ok (pr : EProg) : ∀ (n : Nat) (d : D), PyData.depth d ≤ n → okS d = true → run pr defs (n + 1) 34 [.d d, .d d] = .ok (.d (.bool true)) [none, none] := by
  intro n
  induction n with
  | zero => exact fun d hd ho => same_flat pr 0 d (Nat.le_zero.mp hd) ho
  | succ n ih =>
    intro d hd ho
    by_cases z : PyData.depth d = 0
    · exact same_flat pr (n + 1) d z ho
    cases d with
    | dict kvs => cases ho
    | none => exact absurd rfl z
    | bool b => exact absurd rfl z
    | int i => exact absurd rfl z
    | str x => exact absurd rfl z
    | list xs =>
      have ho' := Bool.and_eq_true_iff.mp (show (okSs xs && decide (xs.length ≤ 1000)) = true from ho)
      exact same_seq pr n ih (.list xs) xs (.inl rfl) ho'.1 (of_decide_eq_true ho'.2) (Nat.le_of_succ_le_succ hd)
    | tuple xs =>
      have ho' := Bool.and_eq_true_iff.mp (show (okSs xs && decide (xs.length ≤ 1000)) = true from ho)
      exact same_seq pr n ih (.tuple xs) xs (.inr rfl) ho'.1 (of_decide_eq_true ho'.2) (Nat.le_of_succ_le_succ hd)
end K01
end
section
set_option linter.all false
set_option maxRecDepth 100000
set_option maxHeartbeats 4000000
/-! products, quotients, what is less -/
namespace K01
open PySem Ev
def ltN (a b : Q2) : Bool := decide (a.1 * b.2 < b.1 * a.2)
def mulN (a b : Q2) : Q2 := nrm (a.1 * b.1) (a.2 * b.2)
def quoN (a b : Q2) : Q2 := nrm (a.1 * b.2) (a.2 * b.1)
theorem mul_lt {x y : Int} {k l : Nat} (h1 : x.natAbs < 2 ^ k) (h2 : y.natAbs < 2 ^ l) : (x * y).natAbs < 2 ^ (k + l) := by
  rw [Int.natAbs_mul, Nat.pow_add]
  exact Nat.mul_lt_mul'' h1 h2
theorem mulN_sm {a b : Q2} {k l : Nat} (ha : Sm k a) (hb : Sm l b) : Sm (k + l) (mulN a b) := nrm_sm (mul_lt ha.1 hb.1) (Int.mul_pos ha.2.1 hb.2.1) (mul_lt ha.2.2 hb.2.2)
theorem quoN_sm {a b : Q2} {k l : Nat} (ha : Sm k a) (hb : Sm l b) (h0 : 0 < b.1) : Sm (k + l) (quoN a b) := nrm_sm (mul_lt ha.1 hb.2.2) (Int.mul_pos ha.2.1 h0) (mul_lt ha.2.2 hb.1)
theorem product_ok (pr : EProg) (n : Nat) (a b : Q2) {k l : Nat} (ha : Sm k a) (hb : Sm l b) (hk : k + l < 7000) : run pr defs (n + 2) 6 [.d (pr2 a), .d (pr2 b)] = .ok (.d (pr2 (mulN a b))) [none, none] := by
  obtain ⟨a1, a2⟩ := a
  obtain ⟨b1, b2⟩ := b
  obtain ⟨h1, h2, h3⟩ := ha
  obtain ⟨h4, h5, h6⟩ := hb
  simp only at h1 h2 h3 h4 h5 h6
  rw [run_at (d := d_product) rfl ⟨rfl, by decide⟩]
  have m1 : mulOk a1 b1 = true := mulOk_of h1 h4 (by omega)
  have m3 : mulOk a2 b2 = true := mulOk_of h3 h6 (by omega)
  have hp : 0 < a2 * b2 := Int.mul_pos h2 h5
  have lo := lowest_ok pr n (a1 * b1) (a2 * b2) hp (divOk_gI (by omega) (mul_lt h3 h6) (by omega))
  by_cases c1 : a2 = 1
  · by_cases c2 : b2 = 1
    · subst c1 c2
      simp [d_product, pr2, mulN, nrm, gI, m1, okD, SeqAt.shaped, PyData.canLay0, PyData.depth, PyData.eqv, exs, ex, ev, evs, items, startEnv, argSlot, Out.bind, Out.no, lift, view, viewAll, gt, capt, captAll, put, putAll, assignTg, isOwn, bltD, cmpD, opD, ixD, asB, boolOf, Ev.finish, fins, finOf, moveOut, callF, mkArgs, mkArg, lent, back, nodupB, permute, parPl, putQ, asgT, setAt, atI, ixN]
    · subst c1
      simp [pr2] at lo
      simp [d_product, pr2, okD, SeqAt.shaped, PyData.canLay0, PyData.depth, PyData.eqv, exs, ex, ev, evs, items, startEnv, argSlot, Out.bind, Out.no, lift, view, viewAll, gt, capt, captAll, put, putAll, assignTg, isOwn, bltD, cmpD, opD, ixD, asB, boolOf, Ev.finish, fins, finOf, moveOut, callF, mkArgs, mkArg, lent, back, nodupB, permute, parPl, putQ, asgT, setAt, atI, ixN, c2, m1, m3]
      simp [lo, mulN, pr2, exs, ex, ev, evs, items, startEnv, argSlot, Out.bind, Out.no, lift, view, viewAll, gt, capt, captAll, put, putAll, assignTg, isOwn, bltD, cmpD, opD, ixD, asB, boolOf, Ev.finish, fins, finOf, moveOut, callF, mkArgs, mkArg, lent, back, nodupB, permute, parPl, putQ, asgT, setAt]
  · simp [pr2] at lo
    simp [d_product, pr2, okD, SeqAt.shaped, PyData.canLay0, PyData.depth, PyData.eqv, exs, ex, ev, evs, items, startEnv, argSlot, Out.bind, Out.no, lift, view, viewAll, gt, capt, captAll, put, putAll, assignTg, isOwn, bltD, cmpD, opD, ixD, asB, boolOf, Ev.finish, fins, finOf, moveOut, callF, mkArgs, mkArg, lent, back, nodupB, permute, parPl, putQ, asgT, setAt, atI, ixN, c1, m1, m3]
    simp [lo, mulN, pr2, exs, ex, ev, evs, items, startEnv, argSlot, Out.bind, Out.no, lift, view, viewAll, gt, capt, captAll, put, putAll, assignTg, isOwn, bltD, cmpD, opD, ixD, asB, boolOf, Ev.finish, fins, finOf, moveOut, callF, mkArgs, mkArg, lent, back, nodupB, permute, parPl, putQ, asgT, setAt]
theorem quotient_ok (pr : EProg) (n : Nat) (a b : Q2) {k l : Nat} (ha : Sm k a) (hb : Sm l b) (h0 : 0 < b.1) (hk : k + l < 7000) : run pr defs (n + 2) 7 [.d (pr2 a), .d (pr2 b)] = .ok (.d (pr2 (quoN a b))) [none, none] := by
  obtain ⟨a1, a2⟩ := a
  obtain ⟨b1, b2⟩ := b
  obtain ⟨h1, h2, h3⟩ := ha
  obtain ⟨h4, h5, h6⟩ := hb
  simp only at h1 h2 h3 h4 h5 h6 h0
  rw [run_at (d := d_quotient) rfl ⟨rfl, by decide⟩]
  have m1 : mulOk a1 b2 = true := mulOk_of h1 h6 (by omega)
  have m3 : mulOk a2 b1 = true := mulOk_of h3 h4 (by omega)
  have hp : 0 < a2 * b1 := Int.mul_pos h2 h0
  have lo := lowest_ok pr n (a1 * b2) (a2 * b1) hp (divOk_gI (by omega) (mul_lt h3 h4) (by omega))
  simp [d_quotient, pr2, m1, m3, atI, ixN, lo, quoN, exs, ex, ev, evs, items, startEnv, argSlot, Out.bind, Out.no, lift, view, viewAll, gt, capt, captAll, put, putAll, assignTg, isOwn, bltD, cmpD, opD, ixD, asB, boolOf, Ev.finish, fins, finOf, moveOut, callF, mkArgs, mkArg, lent, back, nodupB, permute, parPl, putQ, asgT, setAt]
theorem is_less_ok (pr : EProg) (n : Nat) (a b : Q2) {k l : Nat} (ha : Sm k a) (hb : Sm l b) (hk : k + l < 7000) : run pr defs (n + 1) 8 [.d (pr2 a), .d (pr2 b)] = .ok (.d (.bool (ltN a b))) [none, none] := by
  obtain ⟨a1, a2⟩ := a
  obtain ⟨b1, b2⟩ := b
  obtain ⟨h1, h2, h3⟩ := ha
  obtain ⟨h4, h5, h6⟩ := hb
  simp only at h1 h2 h3 h4 h5 h6
  rw [run_at (d := d_is_less) rfl ⟨rfl, by decide⟩]
  have m1 : mulOk a1 b2 = true := mulOk_of h1 h6 (by omega)
  have m3 : mulOk b1 a2 = true := mulOk_of h4 h3 (by omega)
  simp [d_is_less, pr2, m1, m3, atI, ixN, ltN, exs, ex, ev, evs, items, startEnv, argSlot, Out.bind, Out.no, lift, view, viewAll, gt, capt, captAll, put, putAll, assignTg, isOwn, bltD, cmpD, opD, ixD, asB, boolOf, Ev.finish, fins, finOf, moveOut, callF, mkArgs, mkArg, lent, back, nodupB, permute, parPl, putQ, asgT, setAt]
theorem lless_ok (pr : EProg) (n : Nat) (a b : Q2) {k l : Nat} (ha : Sm k a) (hb : Sm l b) (hk : k + l < 7000) : run pr defs (n + 1) 33 [.d (pr2 a), .d (pr2 b)] = .ok (.d (.bool (ltN a b))) [none, none] := by
  obtain ⟨a1, a2⟩ := a
  obtain ⟨b1, b2⟩ := b
  obtain ⟨h1, h2, h3⟩ := ha
  obtain ⟨h4, h5, h6⟩ := hb
  simp only at h1 h2 h3 h4 h5 h6
  rw [run_at (d := d__law_less) rfl ⟨rfl, by decide⟩]
  have m1 : mulOk a1 b2 = true := mulOk_of h1 h6 (by omega)
  have m3 : mulOk b1 a2 = true := mulOk_of h4 h3 (by omega)
  have e : decide (a1 * b2 - b1 * a2 < 0) = ltN (a1, a2) (b1, b2) := by
    unfold ltN
    by_cases q : a1 * b2 < b1 * a2
    · rw [decide_eq_true q, decide_eq_true (by omega)]
    · rw [decide_eq_false q, decide_eq_false (by omega)]
  simp [d__law_less, pr2, m1, m3, atI, ixN, exs, ex, ev, evs, items, startEnv, argSlot, Out.bind, Out.no, lift, view, viewAll, gt, capt, captAll, put, putAll, assignTg, isOwn, bltD, cmpD, opD, ixD, asB, boolOf, Ev.finish, fins, finOf, moveOut, callF, mkArgs, mkArg, lent, back, nodupB, permute, parPl, putQ, asgT, setAt]
  rw [← e]
  try simp
/-! the sequence of the numbers -/
theorem nrm_cross {t b : Int} : (nrm t b).1 * b = t * (nrm t b).2 := by
  obtain ⟨m1, m2⟩ := nrm_mul (t := t) (b := b)
  have : (nrm t b).1 * ((nrm t b).2 * gI t b) = (nrm t b).1 * gI t b * (nrm t b).2 := by rw [Int.mul_comm (nrm t b).2, Int.mul_assoc]
  rw [m1, m2] at this
  exact this
/-- two ways to write a number -/
def Same (a b : Q2) : Prop := a.1 * b.2 = b.1 * a.2
theorem same_nrm {t b : Int} : Same (nrm t b) (t, b) := nrm_cross
theorem Same.symm {a b : Q2} (h : Same a b) : Same b a := Eq.symm h
theorem lt_of_same {a a' b : Q2} (h : Same a a') (p : 0 < a.2) (p' : 0 < a'.2) : ltN a b = ltN a' b := by
  unfold Same at h
  unfold ltN
  have k : a.1 * b.2 < b.1 * a.2 ↔ a'.1 * b.2 < b.1 * a'.2 := by
    have e1 : a.1 * b.2 * a'.2 = a'.1 * b.2 * a.2 := by
      rw [Int.mul_right_comm, h, Int.mul_right_comm]
    have e2 : b.1 * a.2 * a'.2 = b.1 * a'.2 * a.2 := Int.mul_right_comm ..
    have s1 := Int.mul_lt_mul_right (b := a.1 * b.2) (c := b.1 * a.2) p'
    have s2 := Int.mul_lt_mul_right (b := a'.1 * b.2) (c := b.1 * a'.2) p
    rw [← s1, ← s2, e1, e2]
  by_cases q : a.1 * b.2 < b.1 * a.2
  · rw [decide_eq_true q, decide_eq_true (k.mp q)]
  · rw [decide_eq_false q, decide_eq_false fun z => q (k.mpr z)]
theorem lt_of_same_r {a b b' : Q2} (h : Same b b') (p : 0 < b.2) (p' : 0 < b'.2) : ltN a b = ltN a b' := by
  unfold Same at h
  unfold ltN
  have k : a.1 * b.2 < b.1 * a.2 ↔ a.1 * b'.2 < b'.1 * a.2 := by
    have e1 : a.1 * b.2 * b'.2 = a.1 * b'.2 * b.2 := Int.mul_right_comm ..
    have e2 : b.1 * a.2 * b'.2 = b'.1 * a.2 * b.2 := by
      rw [Int.mul_right_comm, h, Int.mul_right_comm]
    have s1 := Int.mul_lt_mul_right (b := a.1 * b.2) (c := b.1 * a.2) p'
    have s2 := Int.mul_lt_mul_right (b := a.1 * b'.2) (c := b'.1 * a.2) p
    rw [← s1, ← s2, e1, e2]
  by_cases q : a.1 * b.2 < b.1 * a.2
  · rw [decide_eq_true q, decide_eq_true (k.mp q)]
  · rw [decide_eq_false q, decide_eq_false fun z => q (k.mpr z)]
/-- a times b is less than c just if a is less than c by b -/
theorem lt_mul_quo {l u v : Q2} (hl : 0 < l.2) (hu : 0 < u.2) (hv : 0 < v.2) (h0 : 0 < u.1) : ltN (mulN l u) v = ltN l (quoN v u) := by
  rw [show mulN l u = nrm (l.1 * u.1) (l.2 * u.2) from rfl, lt_of_same (b := v) same_nrm (nrm_pos (Int.mul_pos hl hu)) (Int.mul_pos hl hu), show quoN v u = nrm (v.1 * u.2) (v.2 * u.1) from rfl,
    lt_of_same_r (a := l) same_nrm (nrm_pos (Int.mul_pos hv h0)) (Int.mul_pos hv h0)]
  unfold ltN
  have e1 : l.1 * u.1 * v.2 = l.1 * (v.2 * u.1) := by rw [Int.mul_assoc, Int.mul_comm u.1]
  have e2 : v.1 * (l.2 * u.2) = v.1 * u.2 * l.2 := by rw [Int.mul_comm l.2, Int.mul_assoc]
  simp only [e1, e2]
theorem lt_trans_not {a b c : Q2} (ha : 0 < a.2) (hb : 0 < b.2) (hc : 0 < c.2) (h1 : ltN b a = false) (h2 : ltN c b = false) : ltN c a = false := by
  unfold ltN at *
  have h1 := of_decide_eq_false h1
  have h2 := of_decide_eq_false h2
  refine decide_eq_false fun z => ?_
  have w1 : a.1 * b.2 ≤ b.1 * a.2 := by omega
  have w2 : b.1 * c.2 ≤ c.1 * b.2 := by omega
  have w3 : c.1 * a.2 < a.1 * c.2 := z
  have s1 : a.1 * b.2 * c.2 ≤ b.1 * a.2 * c.2 := Int.mul_le_mul_of_nonneg_right w1 (by omega)
  have s2 : b.1 * c.2 * a.2 ≤ c.1 * b.2 * a.2 := Int.mul_le_mul_of_nonneg_right w2 (by omega)
  have s3 : c.1 * a.2 * b.2 < a.1 * c.2 * b.2 := Int.mul_lt_mul_of_pos_right w3 hb
  have e1 : a.1 * b.2 * c.2 = a.1 * c.2 * b.2 := Int.mul_right_comm ..
  have e2 : b.1 * a.2 * c.2 = b.1 * c.2 * a.2 := Int.mul_right_comm ..
  have e3 : c.1 * b.2 * a.2 = c.1 * a.2 * b.2 := Int.mul_right_comm ..
  omega
theorem lt_irr (a : Q2) : ltN a a = false := decide_eq_false (Int.lt_irrefl _)
theorem lt_asym {a b : Q2} (h : ltN a b = true) : ltN b a = false := by
  unfold ltN at *
  have := of_decide_eq_true h
  exact decide_eq_false (by omega)
/-- lowest terms are the only ones -/
theorem okN_ext {a b : Q2} (ha : okN a = true) (hb : okN b = true) (h : Same a b) : a = b := by
  obtain ⟨a1, a2⟩ := a
  obtain ⟨b1, b2⟩ := b
  unfold okN at ha hb
  unfold Same at h
  simp only [Bool.and_eq_true, decide_eq_true_eq] at ha hb h
  have d1 : a2.natAbs ∣ b2.natAbs := by
    have : a2.natAbs ∣ a1.natAbs * b2.natAbs := by
      rw [← Int.natAbs_mul, h, Int.natAbs_mul]
      exact Nat.dvd_mul_left _ _
    exact (Nat.Coprime.symm ha.2).dvd_of_dvd_mul_left this
  have d2 : b2.natAbs ∣ a2.natAbs := by
    have : b2.natAbs ∣ b1.natAbs * a2.natAbs := by
      rw [← Int.natAbs_mul, ← h, Int.natAbs_mul]
      exact Nat.dvd_mul_left _ _
    exact (Nat.Coprime.symm hb.2).dvd_of_dvd_mul_left this
  have e := Nat.dvd_antisymm d1 d2
  have e2 : a2 = b2 := by omega
  subst e2
  have e1 : a1 = b1 := Int.eq_of_mul_eq_mul_right (by omega) h
  rw [e1]
theorem nrm_okN {t b : Int} (hb : 0 < b) : okN (nrm t b) = true := by
  have p := nrm_pos (t := t) hb
  obtain ⟨m1, m2⟩ := nrm_mul (t := t) (b := b)
  have g := gI_pos (t := t) (b := b) (by omega)
  unfold okN
  simp only [Bool.and_eq_true, decide_eq_true_eq]
  refine ⟨by omega, ?_⟩
  have e : Nat.gcd ((nrm t b).1.natAbs * (gI t b).natAbs) ((nrm t b).2.natAbs * (gI t b).natAbs) = (gI t b).natAbs := by
    rw [← Int.natAbs_mul, ← Int.natAbs_mul, m1, m2]
    unfold gI
    simp
  rw [Nat.gcd_mul_right] at e
  have gp : 0 < (gI t b).natAbs := by omega
  exact Nat.eq_of_mul_eq_mul_right gp (by rw [e, Nat.one_mul])
theorem quoN_okN {a b : Q2} (ha : 0 < a.2) (hb : 0 < b.1) : okN (quoN a b) = true := nrm_okN (Int.mul_pos ha hb)
theorem mulN_okN {a b : Q2} (ha : 0 < a.2) (hb : 0 < b.2) : okN (mulN a b) = true := nrm_okN (Int.mul_pos ha hb)
theorem plusN_okN {a b : Q2} (ha : 0 < a.2) (hb : 0 < b.2) : okN (plusN a b) = true := nrm_okN (Int.mul_pos ha hb)
theorem eq_of_not_lt {a b : Q2} (ha : okN a = true) (hb : okN b = true) (h1 : ltN a b = false) (h2 : ltN b a = false) : a = b := okN_ext ha hb (by
  unfold ltN at h1 h2
  have h1 := of_decide_eq_false h1
  have h2 := of_decide_eq_false h2
  unfold Same
  omega)
end K01
end
section
set_option linter.all false
set_option maxRecDepth 100000
set_option maxHeartbeats 4000000
/-! what the numbers are worth -/
namespace K01
open PySem Ev
def val (c : Q2) : Rat := (c.1 : Rat) / (c.2 : Rat)
theorem ic_ne {i : Int} (h : 0 < i) : (i : Rat) ≠ 0 := fun z => by
  have := Rat.intCast_eq_zero_iff.mp z
  omega
theorem val_eq {a b : Q2} (ha : 0 < a.2) (hb : 0 < b.2) : val a = val b ↔ Same a b := by
  have h1 := ic_ne ha
  have h2 := ic_ne hb
  unfold val Same
  constructor
  · intro h
    have e : (a.1 : Rat) * (b.2 : Rat) = (b.1 : Rat) * (a.2 : Rat) := by grind
    have e2 : ((a.1 * b.2 : Int) : Rat) = ((b.1 * a.2 : Int) : Rat) := by
      rw [Rat.intCast_mul, Rat.intCast_mul]
      exact e
    exact Rat.intCast_inj.mp e2
  · intro h
    have e : (a.1 : Rat) * (b.2 : Rat) = (b.1 : Rat) * (a.2 : Rat) := by
      rw [← Rat.intCast_mul, ← Rat.intCast_mul, h]
    grind
theorem val_nrm {t b : Int} (hb : 0 < b) : val (nrm t b) = (t : Rat) / (b : Rat) := (val_eq (a := nrm t b) (b := (t, b)) (nrm_pos hb) hb).mpr same_nrm
theorem val_plus {a b : Q2} (ha : 0 < a.2) (hb : 0 < b.2) : val (plusN a b) = val a + val b := by
  have h1 := ic_ne ha
  have h2 := ic_ne hb
  unfold plusN
  rw [val_nrm (Int.mul_pos ha hb), Rat.intCast_add, Rat.intCast_mul, Rat.intCast_mul, Rat.intCast_mul]
  unfold val
  grind
theorem val_mul {a b : Q2} (ha : 0 < a.2) (hb : 0 < b.2) : val (mulN a b) = val a * val b := by
  have h1 := ic_ne ha
  have h2 := ic_ne hb
  unfold mulN
  rw [val_nrm (Int.mul_pos ha hb), Rat.intCast_mul, Rat.intCast_mul]
  unfold val
  grind
theorem val_top {a : Q2} (ha : 0 < a.2) : (a.1 : Rat) = val a * (a.2 : Rat) := by
  have h1 := ic_ne ha
  unfold val
  grind
theorem rat_le_of {x y p : Rat} (hp : 0 < p) (h : x * p ≤ y * p) : x ≤ y := Rat.le_of_mul_le_mul_right h hp
theorem val_le {a b : Q2} (ha : 0 < a.2) (hb : 0 < b.2) : val a ≤ val b ↔ ltN b a = false := by
  have p1 : (0 : Rat) < (a.2 : Rat) := Rat.intCast_pos.mpr ha
  have p2 : (0 : Rat) < (b.2 : Rat) := Rat.intCast_pos.mpr hb
  have pp : (0 : Rat) < (a.2 : Rat) * (b.2 : Rat) := Rat.mul_pos p1 p2
  have e1 : (a.1 : Rat) * (b.2 : Rat) = val a * ((a.2 : Rat) * (b.2 : Rat)) := by rw [val_top ha, Rat.mul_assoc]
  have e2 : (b.1 : Rat) * (a.2 : Rat) = val b * ((a.2 : Rat) * (b.2 : Rat)) := by rw [val_top hb, Rat.mul_assoc, Rat.mul_comm (b.2 : Rat)]
  have e : val a ≤ val b ↔ a.1 * b.2 ≤ b.1 * a.2 := by
    rw [← Rat.intCast_le_intCast, Rat.intCast_mul, Rat.intCast_mul, e1, e2]
    exact ⟨fun h => Rat.mul_le_mul_of_nonneg_right h (Rat.le_of_lt pp), fun h => rat_le_of pp h⟩
  rw [e]
  unfold ltN
  constructor
  · intro h
    exact decide_eq_false (by omega)
  · intro h
    have := of_decide_eq_false h
    omega
theorem val_inj {a b : Q2} (ha : okN a = true) (hb : okN b = true) (h : val a = val b) : a = b := by
  have p1 : 0 < a.2 := by
    unfold okN at ha
    simp only [Bool.and_eq_true, decide_eq_true_eq] at ha
    omega
  have p2 : 0 < b.2 := by
    unfold okN at hb
    simp only [Bool.and_eq_true, decide_eq_true_eq] at hb
    omega
  exact okN_ext ha hb ((val_eq p1 p2).mp h)
/-! sums -/
def S : Nat → (Nat → Rat) → Rat
  | 0, _ => 0
  | n + 1, f => S n f + f n
theorem S_congr {f g : Nat → Rat} : ∀ {n : Nat}, (∀ i, i < n → f i = g i) → S n f = S n g
  | 0, _ => rfl
  | n + 1, h => by
    show S n f + f n = S n g + g n
    rw [S_congr fun i hi => h i (by omega), h n (by omega)]
theorem S_le {f g : Nat → Rat} : ∀ {n : Nat}, (∀ i, i < n → f i ≤ g i) → S n f ≤ S n g
  | 0, _ => Rat.le_refl
  | n + 1, h => by
    have h1 := S_le (n := n) fun i hi => h i (by omega)
    have h2 := h n (by omega)
    show S n f + f n ≤ S n g + g n
    grind
theorem S_nonneg {f : Nat → Rat} : ∀ {n : Nat}, (∀ i, i < n → 0 ≤ f i) → 0 ≤ S n f
  | 0, _ => Rat.le_refl
  | n + 1, h => by
    have h1 := S_nonneg (n := n) fun i hi => h i (by omega)
    have h2 := h n (by omega)
    show 0 ≤ S n f + f n
    grind
theorem S_mul (c : Rat) (f : Nat → Rat) : ∀ n : Nat, S n (fun i => c * f i) = c * S n f
  | 0 => by show (0 : Rat) = c * 0; grind
  | n + 1 => by
    show S n (fun i => c * f i) + c * f n = c * (S n f + f n)
    rw [S_mul c f n]
    grind
theorem S_mul_r (c : Rat) (f : Nat → Rat) : ∀ n : Nat, S n (fun i => f i * c) = S n f * c
  | 0 => by show (0 : Rat) = 0 * c; grind
  | n + 1 => by
    show S n (fun i => f i * c) + f n * c = (S n f + f n) * c
    rw [S_mul_r c f n]
    grind
theorem S_add (f g : Nat → Rat) : ∀ n : Nat, S n (fun i => f i + g i) = S n f + S n g
  | 0 => by show (0 : Rat) = 0 + 0; grind
  | n + 1 => by
    show S n (fun i => f i + g i) + (f n + g n) = S n f + f n + (S n g + g n)
    rw [S_add f g n]
    grind
theorem S_zero : ∀ n : Nat, S n (fun _ => 0) = 0
  | 0 => rfl
  | n + 1 => by
    show S n (fun _ => 0) + 0 = 0
    rw [S_zero n]
    grind
theorem S_swap (f : Nat → Nat → Rat) (m : Nat) : ∀ n : Nat, S n (fun i => S m (f i)) = S m (fun j => S n (fun i => f i j))
  | 0 => (S_zero m).symm
  | n + 1 => by
    show S n (fun i => S m (f i)) + S m (f n) = S m (fun j => S n (fun i => f i j) + f n j)
    rw [S_swap f m n, S_add]
/-- a row's sum by plusN -/
theorem fold_val (F : Nat → Q2) : ∀ n : Nat, (∀ i, i < n → 0 < (F i).2) → 0 < (((List.range n).map F).foldl plusN (0, 1)).2 ∧ okN (((List.range n).map F).foldl plusN (0, 1)) = true ∧ val (((List.range n).map F).foldl plusN (0, 1)) = S n fun i => val (F i)
  | 0, _ => ⟨show (0 : Int) < 1 by decide, show okN (0, 1) = true from rfl, by
    show val (0, 1) = 0
    unfold val
    show ((0 : Int) : Rat) / ((1 : Int) : Rat) = 0
    grind⟩
  | n + 1, h => by
    obtain ⟨h1, h2, h3⟩ := fold_val F n fun i hi => h i (by omega)
    have hn := h n (by omega)
    rw [List.range_succ, List.map_append, List.foldl_append]
    show 0 < (plusN _ (F n)).2 ∧ okN (plusN _ (F n)) = true ∧ val (plusN _ (F n)) = S n (fun i => val (F i)) + val (F n)
    refine ⟨nrm_pos (Int.mul_pos h1 hn), plusN_okN h1 hn, ?_⟩
    rw [val_plus h1 hn, h3]
theorem val_one : val (1, 1) = 1 := by
  unfold val
  show ((1 : Int) : Rat) / ((1 : Int) : Rat) = 1
  grind
theorem val_nn {c : Q2} (h : 0 < c.2) : 0 ≤ val c ↔ 0 ≤ c.1 := by
  have p : (0 : Rat) < (c.2 : Rat) := Rat.intCast_pos.mpr h
  have e := val_top h
  constructor
  · intro w
    have : (0 : Rat) ≤ (c.1 : Rat) := by
      rw [e]
      exact Rat.mul_nonneg w (Rat.le_of_lt p)
    exact Rat.intCast_nonneg.mp this
  · intro w
    have : (0 : Rat) ≤ (c.1 : Rat) := Rat.intCast_nonneg.mpr w
    rw [e] at this
    exact rat_le_of p (by rw [Rat.zero_mul]; exact this)
theorem val_pos {c : Q2} (h : 0 < c.2) (w : 0 < val c) : 0 < c.1 := by
  have p : (0 : Rat) < (c.2 : Rat) := Rat.intCast_pos.mpr h
  have e := val_top h
  have : (0 : Rat) < (c.1 : Rat) := by
    rw [e]
    exact Rat.mul_pos w p
  exact Rat.intCast_pos.mp this
theorem pos_val {c : Q2} (h : 0 < c.2) (w : 0 < c.1) : 0 < val c := by
  have e := val_top h
  have p : (0 : Rat) < (c.2 : Rat) := Rat.intCast_pos.mpr h
  have q : (0 : Rat) < (c.1 : Rat) := Rat.intCast_pos.mpr w
  have n0 := (val_nn h).mpr (by omega)
  rcases Rat.le_iff_lt_or_eq.mp n0 with z | z
  · exact z
  · rw [e, ← z] at q
    grind
end K01
end
section
set_option linter.all false
set_option maxRecDepth 100000
set_option maxHeartbeats 4000000
namespace K01
open PySem Ev
theorem eq_int {i j : Int} : cmpD .eq (.int i) (.int j) = some (decide (i = j)) := rfl
theorem gt_int' {i j : Int} : cmpD .gt (.int i) (.int j) = some (decide (j < i)) := rfl
theorem lt_int' {i j : Int} : cmpD .lt (.int i) (.int j) = some (decide (i < j)) := rfl
theorem ne_int {i j : Int} : cmpD .ne (.int i) (.int j) = some (!decide (i = j)) := by
  have : cmpD .ne (.int i) (.int j) = (cmpD .eq (.int i) (.int j)).map (!·) := by simp [cmpD, okD, SeqAt.shaped, PyData.canLay0, PyData.depth]
  rw [this, eq_int]
  rfl
theorem op_mul' {i j : Int} (h : mulOk i j = true) : opD .mul (.int i) (.int j) = some (.d (.int (i * j))) := by
  show (if mulOk i j then _ else _) = _
  rw [if_pos h]
theorem op_sub' {i j : Int} : opD .sub (.int i) (.int j) = some (.d (.int (i - j))) := rfl
theorem op_add' {i j : Int} : opD .add (.int i) (.int j) = some (.d (.int (i + j))) := rfl
theorem eq_pr {a b : Q2} : cmpD .eq (pr2 a) (pr2 b) = some (decide (a = b)) := by
  have e : (decide (a.1 = b.1) && decide (a.2 = b.2)) = decide (a = b) := by
    rw [Bool.eq_iff_iff]
    simp [Prod.ext_iff]
  rw [← e]
  simp [pr2, cmpD, okD, SeqAt.shaped, PyData.canLay0, PyData.canLayAll0, PyData.depth, PyData.depthAll, PyData.eqv, PyData.eqvAll]
  rfl
theorem okN_pos {c : Q2} (h : okN c = true) : 0 < c.2 := by
  unfold okN at h
  simp only [Bool.and_eq_true, decide_eq_true_eq] at h
  omega
theorem nrm_id {c : Q2} (h : okN c = true) : nrm c.1 c.2 = c := by
  have p := okN_pos h
  exact val_inj (nrm_okN p) h (val_nrm p)
theorem eqv_pr {a b : Q2} : PyData.eqv (pr2 a) (pr2 b) = decide (a = b) := by
  have e : (decide (a.1 = b.1) && decide (a.2 = b.2)) = decide (a = b) := by
    rw [Bool.eq_iff_iff]
    simp [Prod.ext_iff]
  rw [← e]
  simp [pr2, PyData.eqv, PyData.eqvAll]
  rfl
theorem ne_pr {a b : Q2} : cmpD .ne (pr2 a) (pr2 b) = some (!decide (a = b)) := by
  have o : ∀ c : Q2, okD (pr2 c) = true := fun c => rfl
  show (if (okD (pr2 a) && okD (pr2 b)) = true then some (!PyData.eqv (pr2 a) (pr2 b)) else none) = _
  rw [o, o, eqv_pr]
  rfl
theorem op_mod' {i j : Int} (h : j ≠ 0) : opD .mod (.int i) (.int j) = some (.d (.int (i.fmod j))) := by
  show (if j ≠ 0 then _ else _) = _
  rw [if_pos h]
theorem op_fdiv' {i j : Int} (h : divOk j = true) : opD .fdiv (.int i) (.int j) = some (.d (.int (i.fdiv j))) := by
  show (if divOk j = true then some (Rs.d (.int (i.fdiv j))) else none) = _
  rw [if_pos h]
theorem r1_ev {pr : EProg} {T : FT} {np : Nat} {e : FEnv} {A : P} {n : Nat} (hn : n ≤ 1000) (h : ev pr T np A e = .ok (.d (.int n)) e) : items pr T np (.r1 A) e = .ok ((List.range n).map fun (k : Nat) => PyData.int k) e := by
  have := items_r1 h rfl (small_nat hn)
  rw [Int.toNat_natCast, rangeL_map] at this
  exact this
end K01
end
section
set_option linter.all false
set_option maxRecDepth 100000
set_option maxHeartbeats 4000000
/-! bottoms of any sign; the program's numbers -/
namespace K01
open PySem Ev
def nrmS (t b : Int) : Q2 := if b < 0 then nrm (-t) (-b) else nrm t b
theorem gI_neg (t b : Int) : gI (-t) (-b) = gI t b := by
  unfold gI
  rw [Int.natAbs_neg, Int.natAbs_neg]
theorem fdiv_nn (t g : Int) : t.fdiv (-g) = (-t).fdiv g := by
  have h := Int.neg_fdiv_neg (-t) g
  rw [Int.neg_neg] at h
  exact h
theorem nrmS_neg {t b : Int} (h : b < 0) : nrmS t b = (t.fdiv (-(gI t b)), b.fdiv (-(gI t b))) := by
  unfold nrmS nrm
  rw [if_pos h, gI_neg, fdiv_nn, fdiv_nn]
theorem nrmS_pos {t b : Int} (h : 0 < b) : nrmS t b = nrm t b := by
  unfold nrmS
  rw [if_neg (by omega)]
theorem nrmS_sm {t b : Int} {k : Nat} (ht : t.natAbs < 2 ^ k) (h0 : b ≠ 0) (hb : b.natAbs < 2 ^ k) : Sm k (nrmS t b) := by
  unfold nrmS
  split
  · exact nrm_sm (by rw [Int.natAbs_neg]; exact ht) (by omega) (by rw [Int.natAbs_neg]; exact hb)
  · exact nrm_sm ht (by omega) hb
theorem nrmS_okN {t b : Int} (h0 : b ≠ 0) : okN (nrmS t b) = true := by
  unfold nrmS
  split
  · exact nrm_okN (by omega)
  · exact nrm_okN (by omega)
theorem lowestS_ok (pr : EProg) (n : Nat) (t b : Int) (h0 : b ≠ 0) {k : Nat} (hb : b.natAbs < 2 ^ k) (hk : k < 7000) : run pr defs (n + 1) 2 [.d (.int t), .d (.int b)] = .ok (.d (pr2 (nrmS t b))) [none, none] := by
  by_cases h : b < 0
  · rw [run_at (d := d_lowest) rfl ⟨rfl, by decide⟩]
    have hd : divOk (-(gI t b)) = true := divOk_of (b := k) (by have := gI_pos (t := t) h0; omega) (Nat.lt_of_le_of_lt (by rw [Int.natAbs_neg]; exact gI_le h0) hb) (by omega)
    rw [nrmS_neg h]
    unfold gI at hd ⊢
    simp [d_lowest, pr2, h, hd, exs, ex, ev, evs, items, startEnv, argSlot, Out.bind, Out.no, lift, view, viewAll, gt, capt, captAll, put, putAll, assignTg, isOwn, bltD, cmpD, opD, ixD, asB, boolOf, Ev.finish, fins, finOf, moveOut, callF, mkArgs, mkArg, lent, back, nodupB, permute, parPl, putQ, asgT, setAt]
  · rw [nrmS_pos (by omega)]
    exact lowest_ok pr n t b (by omega) (divOk_gI h0 hb (by omega))
theorem lpairS_ok (pr : EProg) (n : Nat) (u l : Int) (h0 : l ≠ 0) (h1 : l.natAbs < 2 ^ 3900) (hf : 2 ^ 4000 ≤ pr.fuel) : run pr defs (n + 2) 30 [.d (.int u), .d (.int l)] = .ok (.d (pr2 (nrmS u l))) [none, none] := by
  by_cases h : l < 0
  · rw [run_at (d := d__law_pair) rfl ⟨rfl, by decide⟩]
    have lt : l.natAbs < pr.fuel := Nat.lt_of_lt_of_le h1 (Nat.le_trans (Nat.pow_le_pow_right (by decide) (by decide)) hf)
    have g := gcd_ok pr n u.natAbs l.natAbs lt
    have hd : divOk (-(gI u l)) = true := divOk_of (b := 3900) (by have := gI_pos (t := u) h0; omega) (Nat.lt_of_le_of_lt (by rw [Int.natAbs_neg]; exact gI_le h0) h1) (by decide)
    have a1 : (if u < 0 then -u else u) = (u.natAbs : Int) := by split <;> omega
    have a2 : (l.natAbs : Int) = -l := by omega
    rw [nrmS_neg h]
    rw [a2] at g
    unfold gI at hd ⊢
    simp [d__law_pair, a1, h, g, hd, pr2, exs, ex, ev, evs, items, startEnv, argSlot, Out.bind, Out.no, lift, view, viewAll, gt, capt, captAll, put, putAll, assignTg, isOwn, bltD, cmpD, opD, ixD, asB, boolOf, Ev.finish, fins, finOf, moveOut, callF, mkArgs, mkArg, lent, back, nodupB, permute, parPl, putQ, asgT, setAt]
  · rw [nrmS_pos (by omega)]
    exact lpair_ok pr n u l (by omega) h1 hf
theorem number_ok (pr : EProg) (n : Nat) (t b : Int) (h0 : b ≠ 0) {k : Nat} (hb : b.natAbs < 2 ^ k) (hk : k < 7000) : run pr defs (n + 2) 13 [.d (.int t), .d (.int b)] = .ok (.d (pr2 (nrmS t b))) [none, none] := by
  rw [run_at (d := d_number) rfl ⟨rfl, by decide⟩]
  have lo := lowestS_ok pr n t b h0 hb hk
  have e := eq_int (i := b) (j := 0)
  rw [decide_eq_false h0] at e
  generalize pr2 (nrmS t b) = q at lo ⊢
  show Ev.finish _ (exs pr (run pr defs (n + 1)) 2 (.cons (.ite (.cmp .eq (.v 1) (.lit (.int 0))) (.cons (.raise 2 (.v 0)) .nil) .nil) (.cons (.ret (.call 2 (.cons (.v 0) (.cons (.v 1) .nil)) .nil [])) .nil)) [.val (.int t), .val (.int b)]) = _
  generalize run pr defs (n + 1) = T at lo ⊢
  simp [lo, e, exs, ex, ev, evs, items, startEnv, argSlot, Out.bind, Out.no, lift, view, viewAll, gt, capt, captAll, put, putAll, assignTg, isOwn, asB, boolOf, Ev.finish, fins, finOf, moveOut, callF, mkArgs, mkArg, lent, back, nodupB, permute, parPl, putQ, asgT, setAt]
theorem number_bad (pr : EProg) (n : Nat) (t : Int) : run pr defs (n + 2) 13 [.d (.int t), .d (.int 0)] = .err 2 (.int t) [none, none] := by
  rw [run_at (d := d_number) rfl ⟨rfl, by decide⟩]
  have e := eq_int (i := 0) (j := 0)
  rw [decide_eq_true rfl] at e
  show Ev.finish _ (exs pr (run pr defs (n + 1)) 2 (.cons (.ite (.cmp .eq (.v 1) (.lit (.int 0))) (.cons (.raise 2 (.v 0)) .nil) .nil) (.cons (.ret (.call 2 (.cons (.v 0) (.cons (.v 1) .nil)) .nil [])) .nil)) [.val (.int t), .val (.int 0)]) = _
  generalize run pr defs (n + 1) = T
  simp [e, exs, ex, ev, evs, items, startEnv, argSlot, Out.bind, Out.no, lift, view, viewAll, gt, capt, captAll, put, putAll, assignTg, isOwn, asB, boolOf, Ev.finish, fins, finOf, moveOut, callF, mkArgs, mkArg, lent, back, nodupB, permute, parPl, putQ, asgT, setAt]
theorem check_numbers_ok (pr : EProg) (n : Nat) (X : D) (cs : List Q2) (hX : itemsD X = some (cs.map pr2)) {K : Nat} (hs : ∀ c ∈ cs, Sm K c) (ho : ∀ c ∈ cs, okN c = true) (hK : K < 7000) : run pr defs (n + 3) 11 [.d X] = .ok (.d .none) [none] := by
  rw [run_at (d := d_check_numbers) rfl ⟨rfl, by decide⟩]
  obtain ⟨e', h1, y, rfl⟩ := forL_fold (np := 1) (tg := .v 1) (body := fun e => exs pr (run pr defs (n + 2)) 1 (.cons (.ite (.nt (.call 10 (.cons (.v 1) .nil) .nil [])) (.cons (.raise 1 (.v 1)) .nil) .nil) .nil) e) pr2 (fun (b : Unit) _ => b) (fun _ e => ∃ y, e = [.val X, y]) () cs [] (fun pre a post hpp e ⟨y, he⟩ => by
    subst he
    have ha : a ∈ cs := by rw [show cs = pre ++ a :: post from hpp]; simp
    have c := is_number_ok pr n a (hs a ha).1 (hs a ha).2.2 hK
    rw [ho a ha] at c
    refine ⟨[.val X, .val (pr2 a)], [.val X, .val (pr2 a)], put_loc (i := 1) rfl rfl, ?_, _, rfl⟩
    generalize pr2 a = q at c ⊢
    obtain ⟨T, hT⟩ : ∃ T : FT, T = run pr defs (n + 2) := ⟨_, rfl⟩
    rw [← hT] at c ⊢
    simp [c, exs, ex, ev, evs, items, startEnv, argSlot, Out.bind, Out.no, lift, view, viewAll, gt, capt, captAll, put, putAll, assignTg, isOwn, asB, boolOf, Ev.finish, fins, finOf, moveOut, callF, mkArgs, mkArg, lent, back, nodupB, permute, parPl, putQ, asgT, setAt]) [.val X, .emp] ⟨_, rfl⟩
  have S2 := ex_for (pr := pr) (T := run pr defs (n + 2)) (np := 1) (e := [.val X, .emp]) (it := .seq (.v 0)) (tg := .v 1) (items_seq (r := .d X) (d := X) rfl rfl hX) h1
  show Ev.finish _ (exs pr (run pr defs (n + 2)) 1 (.cons (.for_ (.v 1) (.seq (.v 0)) (.cons (.ite (.nt (.call 10 (.cons (.v 1) .nil) .nil [])) (.cons (.raise 1 (.v 1)) .nil) .nil) .nil)) .nil) [.val X, .emp]) = _
  rw [exs_ok S2]
  rfl
/-- two numbers, behind a check -/
theorem check2 (pr : EProg) (n : Nat) {a b : Q2} {k : Nat} (ha : Sm k a) (hb : Sm k b) (oa : okN a = true) (ob : okN b = true) (hk : k < 7000) : run pr defs (n + 3) 11 [.d (.tuple [pr2 a, pr2 b])] = .ok (.d .none) [none] :=
  check_numbers_ok pr n (.tuple [pr2 a, pr2 b]) [a, b] rfl (fun c hc => by
    rcases List.mem_cons.mp hc with rfl | hc
    · exact ha
    · rw [List.mem_singleton.mp hc]
      exact hb) (fun c hc => by
    rcases List.mem_cons.mp hc with rfl | hc
    · exact oa
    · rw [List.mem_singleton.mp hc]
      exact ob) hk
def negN (a : Q2) : Q2 := (-a.1, a.2)
theorem negN_sm {a : Q2} {k : Nat} (h : Sm k a) : Sm k (negN a) := ⟨by show (-a.1).natAbs < _; rw [Int.natAbs_neg]; exact h.1, h.2⟩
theorem plus_ok (pr : EProg) (n : Nat) (a b : Q2) {k : Nat} (ha : Sm k a) (hb : Sm k b) (oa : okN a = true) (ob : okN b = true) (hk : k + k < 6900) : run pr defs (n + 4) 14 [.d (pr2 a), .d (pr2 b)] = .ok (.d (pr2 (plusN a b))) [none, none] := by
  rw [run_at (d := d_plus) rfl ⟨rfl, by decide⟩]
  have c1 := check2 pr n ha hb oa ob (by omega)
  have c2 := sum_of_two_ok pr (n + 1) a b ha hb (by omega)
  generalize pr2 (plusN a b) = q at c2 ⊢
  generalize pr2 a = x at c1 c2 ⊢
  generalize pr2 b = y at c1 c2 ⊢
  show Ev.finish _ (exs pr (run pr defs (n + 3)) 2 (.cons (.expr (.call 11 (.cons (.tup (.cons (.v 0) (.cons (.v 1) .nil))) .nil) .nil [])) (.cons (.ret (.call 3 (.cons (.v 0) (.cons (.v 1) .nil)) .nil [])) .nil)) [.val x, .val y]) = _
  obtain ⟨T, hT⟩ : ∃ T : FT, T = run pr defs (n + 3) := ⟨_, rfl⟩
  rw [← hT] at c1 c2 ⊢
  simp [c1, c2, exs, ex, ev, evs, items, startEnv, argSlot, Out.bind, Out.no, lift, view, viewAll, gt, capt, captAll, put, putAll, assignTg, isOwn, asB, boolOf, Ev.finish, fins, finOf, moveOut, callF, mkArgs, mkArg, lent, back, nodupB, permute, parPl, putQ, asgT, setAt]
theorem opposite_ok (pr : EProg) (n : Nat) (a : Q2) : run pr defs (n + 1) 4 [.d (pr2 a)] = .ok (.d (pr2 (negN a))) [none] := by
  obtain ⟨a1, a2⟩ := a
  rw [run_at (d := d_opposite) rfl ⟨rfl, by decide⟩]
  simp [d_opposite, pr2, negN, atI, ixN, exs, ex, ev, evs, items, startEnv, argSlot, Out.bind, Out.no, lift, view, viewAll, gt, capt, captAll, put, putAll, assignTg, isOwn, bltD, cmpD, opD, ixD, asB, boolOf, Ev.finish, fins, finOf, moveOut, callF, mkArgs, mkArg, lent, back, nodupB, permute, parPl, putQ, asgT, setAt]
theorem difference_ok (pr : EProg) (n : Nat) (a b : Q2) {k : Nat} (ha : Sm k a) (hb : Sm k b) (hk : k + k < 6900) : run pr defs (n + 3) 5 [.d (pr2 a), .d (pr2 b)] = .ok (.d (pr2 (plusN a (negN b)))) [none, none] := by
  rw [run_at (d := d_difference) rfl ⟨rfl, by decide⟩]
  have c1 := opposite_ok pr (n + 1) b
  have c2 := sum_of_two_ok pr n a (negN b) ha (negN_sm hb) (by omega)
  generalize pr2 (plusN a (negN b)) = q at c2 ⊢
  generalize pr2 (negN b) = y' at c1 c2
  generalize pr2 a = x at c2 ⊢
  generalize pr2 b = y at c1 ⊢
  show Ev.finish _ (exs pr (run pr defs (n + 2)) 2 (.cons (.ret (.call 3 (.cons (.v 0) (.cons (.cap (.call 4 (.cons (.v 1) .nil) .nil [])) .nil)) .nil [])) .nil) [.val x, .val y]) = _
  obtain ⟨T, hT⟩ : ∃ T : FT, T = run pr defs (n + 2) := ⟨_, rfl⟩
  rw [← hT] at c1 c2 ⊢
  simp [c1, c2, exs, ex, ev, evs, items, startEnv, argSlot, Out.bind, Out.no, lift, view, viewAll, gt, capt, captAll, put, putAll, assignTg, isOwn, asB, boolOf, Ev.finish, fins, finOf, moveOut, callF, mkArgs, mkArg, lent, back, nodupB, permute, parPl, putQ, asgT, setAt]
theorem minus_ok (pr : EProg) (n : Nat) (a b : Q2) {k : Nat} (ha : Sm k a) (hb : Sm k b) (oa : okN a = true) (ob : okN b = true) (hk : k + k < 6900) : run pr defs (n + 4) 15 [.d (pr2 a), .d (pr2 b)] = .ok (.d (pr2 (plusN a (negN b)))) [none, none] := by
  rw [run_at (d := d_minus) rfl ⟨rfl, by decide⟩]
  have c1 := check2 pr n ha hb oa ob (by omega)
  have c2 := difference_ok pr n a b ha hb hk
  generalize pr2 (plusN a (negN b)) = q at c2 ⊢
  generalize pr2 a = x at c1 c2 ⊢
  generalize pr2 b = y at c1 c2 ⊢
  show Ev.finish _ (exs pr (run pr defs (n + 3)) 2 (.cons (.expr (.call 11 (.cons (.tup (.cons (.v 0) (.cons (.v 1) .nil))) .nil) .nil [])) (.cons (.ret (.call 5 (.cons (.v 0) (.cons (.v 1) .nil)) .nil [])) .nil)) [.val x, .val y]) = _
  obtain ⟨T, hT⟩ : ∃ T : FT, T = run pr defs (n + 3) := ⟨_, rfl⟩
  rw [← hT] at c1 c2 ⊢
  simp [c1, c2, exs, ex, ev, evs, items, startEnv, argSlot, Out.bind, Out.no, lift, view, viewAll, gt, capt, captAll, put, putAll, assignTg, isOwn, asB, boolOf, Ev.finish, fins, finOf, moveOut, callF, mkArgs, mkArg, lent, back, nodupB, permute, parPl, putQ, asgT, setAt]
theorem times_ok (pr : EProg) (n : Nat) (a b : Q2) {k : Nat} (ha : Sm k a) (hb : Sm k b) (oa : okN a = true) (ob : okN b = true) (hk : k + k < 6900) : run pr defs (n + 4) 16 [.d (pr2 a), .d (pr2 b)] = .ok (.d (pr2 (mulN a b))) [none, none] := by
  rw [run_at (d := d_times) rfl ⟨rfl, by decide⟩]
  have c1 := check2 pr n ha hb oa ob (by omega)
  have c2 := product_ok pr (n + 1) a b ha hb (by omega)
  generalize pr2 (mulN a b) = q at c2 ⊢
  generalize pr2 a = x at c1 c2 ⊢
  generalize pr2 b = y at c1 c2 ⊢
  show Ev.finish _ (exs pr (run pr defs (n + 3)) 2 (.cons (.expr (.call 11 (.cons (.tup (.cons (.v 0) (.cons (.v 1) .nil))) .nil) .nil [])) (.cons (.ret (.call 6 (.cons (.v 0) (.cons (.v 1) .nil)) .nil [])) .nil)) [.val x, .val y]) = _
  obtain ⟨T, hT⟩ : ∃ T : FT, T = run pr defs (n + 3) := ⟨_, rfl⟩
  rw [← hT] at c1 c2 ⊢
  simp [c1, c2, exs, ex, ev, evs, items, startEnv, argSlot, Out.bind, Out.no, lift, view, viewAll, gt, capt, captAll, put, putAll, assignTg, isOwn, asB, boolOf, Ev.finish, fins, finOf, moveOut, callF, mkArgs, mkArg, lent, back, nodupB, permute, parPl, putQ, asgT, setAt]
theorem below_ok (pr : EProg) (n : Nat) (a b : Q2) {k : Nat} (ha : Sm k a) (hb : Sm k b) (oa : okN a = true) (ob : okN b = true) (hk : k + k < 6900) : run pr defs (n + 4) 20 [.d (pr2 a), .d (pr2 b)] = .ok (.d (.bool (ltN a b))) [none, none] := by
  rw [run_at (d := d_below) rfl ⟨rfl, by decide⟩]
  have c1 := check2 pr n ha hb oa ob (by omega)
  have c2 := is_less_ok pr (n + 2) a b ha hb (by omega)
  generalize ltN a b = q at c2 ⊢
  generalize pr2 a = x at c1 c2 ⊢
  generalize pr2 b = y at c1 c2 ⊢
  show Ev.finish _ (exs pr (run pr defs (n + 3)) 2 (.cons (.expr (.call 11 (.cons (.tup (.cons (.v 0) (.cons (.v 1) .nil))) .nil) .nil [])) (.cons (.ret (.call 8 (.cons (.v 0) (.cons (.v 1) .nil)) .nil [])) .nil)) [.val x, .val y]) = _
  obtain ⟨T, hT⟩ : ∃ T : FT, T = run pr defs (n + 3) := ⟨_, rfl⟩
  rw [← hT] at c1 c2 ⊢
  simp [c1, c2, exs, ex, ev, evs, items, startEnv, argSlot, Out.bind, Out.no, lift, view, viewAll, gt, capt, captAll, put, putAll, assignTg, isOwn, asB, boolOf, Ev.finish, fins, finOf, moveOut, callF, mkArgs, mkArg, lent, back, nodupB, permute, parPl, putQ, asgT, setAt]
end K01
end
section
set_option linter.all false
set_option maxRecDepth 100000
set_option maxHeartbeats 4000000
/-! powers, quotients, least and greatest, sums -/
namespace K01
open PySem Ev
theorem one_sm : Sm 1 (1, 1) := ⟨by decide, by decide, by decide⟩
theorem one_okN : okN (1, 1) = true := rfl
def powN (a : Q2) : Nat → Q2
  | 0 => (1, 1)
  | n + 1 => mulN (powN a n) a
def vp (x : Rat) : Nat → Rat
  | 0 => 1
  | n + 1 => vp x n * x
theorem vp_two (x : Rat) : ∀ n : Nat, vp x (2 * n) = vp (x * x) n
  | 0 => rfl
  | n + 1 => by
    show vp x (2 * n) * x * x = vp (x * x) n * (x * x)
    rw [vp_two x n]
    grind
theorem powN_sm {a : Q2} {k : Nat} (h : Sm k a) : ∀ n : Nat, Sm (1 + n * k) (powN a n)
  | 0 => by rw [Nat.zero_mul]; exact one_sm
  | n + 1 => (mulN_sm (powN_sm h n) h).mono (by rw [Nat.succ_mul]; omega)
theorem powN_okN {a : Q2} (h : okN a = true) : ∀ n : Nat, okN (powN a n) = true
  | 0 => one_okN
  | n + 1 => mulN_okN (okN_pos (powN_okN h n)) (okN_pos h)
theorem powN_val {a : Q2} (h : okN a = true) : ∀ n : Nat, val (powN a n) = vp (val a) n
  | 0 => val_one
  | n + 1 => by
    show val (mulN _ _) = vp (val a) n * val a
    rw [val_mul (okN_pos (powN_okN h n)) (okN_pos h), powN_val h n]
theorem two_mod (n : Nat) : opD .mod (.int (n : Int)) (.int 2) = some (.d (.int ((n % 2 : Nat) : Int))) := by
  rw [op_mod' (by decide), Int.fmod_eq_emod_of_nonneg _ (by decide)]
  rfl
theorem two_div (n : Nat) : opD .fdiv (.int (n : Int)) (.int 2) = some (.d (.int ((n / 2 : Nat) : Int))) := by
  rw [op_fdiv' (divOk_of (b := 3) (by decide) (by decide) (by decide)), Int.fdiv_eq_ediv_of_nonneg _ (by decide)]
  rfl
theorem pw_loop (pr : EProg) (m : Nat) : ∀ (fuel n : Nat) (a f : Q2) (A F C : Nat), n < fuel → okN a = true → okN f = true → Sm A a → Sm F f → F + A * n ≤ C → C < 3400 →
    ∃ a' f', whileL (fun e => asB (ev pr (run pr defs (m + 2)) 2 (.cmp .gt (.v 1) (.lit (.int 0))) e)) (fun e => exs pr (run pr defs (m + 2)) 2 (.cons (.ite (.cmp .eq (.bin .mod (.v 1) (.lit (.int 2))) (.lit (.int 1))) (.cons (.asg 2 (.call 6 (.cons (.v 2) (.cons (.v 0) .nil)) .nil [])) .nil) .nil) (.cons (.asg 0 (.call 6 (.cons (.v 0) (.cons (.v 0) .nil)) .nil [])) (.cons (.asg 1 (.bin .fdiv (.v 1) (.lit (.int 2)))) .nil))) e) fuel [.val (pr2 a), .val (.int n), .val (pr2 f)] = .ok .next [.val (pr2 a'), .val (.int 0), .val (pr2 f')] ∧ okN f' = true ∧ val f' = val f * vp (val a) n
  | 0, n, a, f, A, F, C, h, _, _, _, _, _, _ => absurd h (Nat.not_lt_zero _)
  | fuel + 1, n, a, f, A, F, C, h, oa, of, sa, sf, hC, hC2 => by
    have g0 := gt_int' (i := (n : Int)) (j := 0)
    by_cases z : n = 0
    · subst z
      refine ⟨a, f, ?_, of, ?_⟩
      · unfold whileL
        rw [decide_eq_false (by omega)] at g0
        have c1 : asB (ev pr (run pr defs (m + 2)) 2 (.cmp .gt (.v 1) (.lit (.int 0))) [.val (pr2 a), .val (.int (0 : Nat)), .val (pr2 f)]) = .ok false [.val (pr2 a), .val (.int (0 : Nat)), .val (pr2 f)] := by
          generalize pr2 a = x
          generalize pr2 f = y
          generalize ((0 : Nat) : Int) = i at g0 ⊢
          generalize run pr defs (m + 2) = T
          simp [g0, exs, ex, ev, evs, items, startEnv, argSlot, Out.bind, Out.no, lift, view, viewAll, gt, capt, captAll, put, putAll, assignTg, isOwn, asB, boolOf, Ev.finish, fins, finOf, moveOut, callF, mkArgs, mkArg, lent, back, nodupB, permute, parPl, putQ, asgT, setAt]
        simp only [c1]
        rfl
      · show _ = val f * 1
        grind
    · have n1 : 1 ≤ n := by omega
      have hA : A ≤ A * n := Nat.le_mul_of_pos_right _ (by omega)
      have h2 : A + A * (2 * (n / 2)) = A * (2 * (n / 2) + 1) := by rw [Nat.mul_add]; omega
      have c2 := product_ok pr m a a sa sa (by omega)
      have oa2 := mulN_okN (okN_pos oa) (okN_pos oa)
      have sa2 := mulN_sm sa sa
      have va2 : val (mulN a a) = val a * val a := val_mul (okN_pos oa) (okN_pos oa)
      have hh : (A + A) * (n / 2) = A * (2 * (n / 2)) := by rw [← Nat.two_mul, Nat.mul_assoc, Nat.mul_left_comm]
      rw [decide_eq_true (by omega)] at g0
      have md := two_mod n
      have dv := two_div n
      have C1 : asB (ev pr (run pr defs (m + 2)) 2 (.cmp .gt (.v 1) (.lit (.int 0))) [.val (pr2 a), .val (.int n), .val (pr2 f)]) = .ok true [.val (pr2 a), .val (.int n), .val (pr2 f)] := by
        generalize pr2 a = x
        generalize pr2 f = y
        generalize (n : Int) = i at g0 ⊢
        generalize run pr defs (m + 2) = T
        simp [g0, exs, ex, ev, evs, items, startEnv, argSlot, Out.bind, Out.no, lift, view, viewAll, gt, capt, captAll, put, putAll, assignTg, isOwn, asB, boolOf, Ev.finish, fins, finOf, moveOut, callF, mkArgs, mkArg, lent, back, nodupB, permute, parPl, putQ, asgT, setAt]
      by_cases od : n % 2 = 1
      · have c1 := product_ok pr m f a sf sa (by omega)
        have e0 := eq_int (i := ((n % 2 : Nat) : Int)) (j := 1)
        rw [decide_eq_true (by omega)] at e0
        have B1 : exs pr (run pr defs (m + 2)) 2 (.cons (.ite (.cmp .eq (.bin .mod (.v 1) (.lit (.int 2))) (.lit (.int 1))) (.cons (.asg 2 (.call 6 (.cons (.v 2) (.cons (.v 0) .nil)) .nil [])) .nil) .nil) (.cons (.asg 0 (.call 6 (.cons (.v 0) (.cons (.v 0) .nil)) .nil [])) (.cons (.asg 1 (.bin .fdiv (.v 1) (.lit (.int 2)))) .nil))) [.val (pr2 a), .val (.int n), .val (pr2 f)] = .ok .next [.val (pr2 (mulN a a)), .val (.int (n / 2 : Nat)), .val (pr2 (mulN f a))] := by
          generalize pr2 (mulN f a) = fa at c1 ⊢
          generalize pr2 (mulN a a) = aa at c2 ⊢
          generalize pr2 a = x at c1 c2 ⊢
          generalize pr2 f = y at c1 ⊢
          generalize ((n / 2 : Nat) : Int) = i2 at dv ⊢
          generalize ((n % 2 : Nat) : Int) = i3 at md e0
          generalize (n : Int) = i at md dv ⊢
          obtain ⟨T, hT⟩ : ∃ T : FT, T = run pr defs (m + 2) := ⟨_, rfl⟩
          rw [← hT] at c1 c2 ⊢
          simp [c1, c2, md, dv, e0, exs, ex, ev, evs, items, startEnv, argSlot, Out.bind, Out.no, lift, view, viewAll, gt, capt, captAll, put, putAll, assignTg, isOwn, asB, boolOf, Ev.finish, fins, finOf, moveOut, callF, mkArgs, mkArg, lent, back, nodupB, permute, parPl, putQ, asgT, setAt]
        have en : n = 2 * (n / 2) + 1 := by omega
        obtain ⟨a', f', w, o', v⟩ := pw_loop pr m fuel (n / 2) (mulN a a) (mulN f a) (A + A) (F + A) C (by omega) oa2 (mulN_okN (okN_pos of) (okN_pos oa)) sa2 (mulN_sm sf sa) (by rw [hh]; rw [en] at hC; omega) hC2
        refine ⟨a', f', ?_, o', ?_⟩
        · unfold whileL
          simp only [C1, B1, Out.bind, if_true]
          exact w
        · rw [v, va2, val_mul (okN_pos of) (okN_pos oa), ← vp_two]
          have : vp (val a) n = vp (val a) (2 * (n / 2)) * val a := by
            conv => lhs; rw [en]
            rfl
          rw [this]
          grind
      · have e0 := eq_int (i := ((n % 2 : Nat) : Int)) (j := 1)
        rw [decide_eq_false (by omega)] at e0
        have B1 : exs pr (run pr defs (m + 2)) 2 (.cons (.ite (.cmp .eq (.bin .mod (.v 1) (.lit (.int 2))) (.lit (.int 1))) (.cons (.asg 2 (.call 6 (.cons (.v 2) (.cons (.v 0) .nil)) .nil [])) .nil) .nil) (.cons (.asg 0 (.call 6 (.cons (.v 0) (.cons (.v 0) .nil)) .nil [])) (.cons (.asg 1 (.bin .fdiv (.v 1) (.lit (.int 2)))) .nil))) [.val (pr2 a), .val (.int n), .val (pr2 f)] = .ok .next [.val (pr2 (mulN a a)), .val (.int (n / 2 : Nat)), .val (pr2 f)] := by
          generalize pr2 (mulN a a) = aa at c2 ⊢
          generalize pr2 a = x at c2 ⊢
          generalize pr2 f = y
          generalize ((n / 2 : Nat) : Int) = i2 at dv ⊢
          generalize ((n % 2 : Nat) : Int) = i3 at md e0
          generalize (n : Int) = i at md dv ⊢
          obtain ⟨T, hT⟩ : ∃ T : FT, T = run pr defs (m + 2) := ⟨_, rfl⟩
          rw [← hT] at c2 ⊢
          simp [c2, md, dv, e0, exs, ex, ev, evs, items, startEnv, argSlot, Out.bind, Out.no, lift, view, viewAll, gt, capt, captAll, put, putAll, assignTg, isOwn, asB, boolOf, Ev.finish, fins, finOf, moveOut, callF, mkArgs, mkArg, lent, back, nodupB, permute, parPl, putQ, asgT, setAt]
        have en : n = 2 * (n / 2) := by omega
        obtain ⟨a', f', w, o', v⟩ := pw_loop pr m fuel (n / 2) (mulN a a) f (A + A) F C (by omega) oa2 of sa2 sf (by rw [hh, ← en]; exact hC) hC2
        refine ⟨a', f', ?_, o', ?_⟩
        · unfold whileL
          simp only [C1, B1, Out.bind, if_true]
          exact w
        · rw [v, va2, ← vp_two, ← en]
theorem power_ok (pr : EProg) (m : Nat) (hp : pr.globs = globs) (a : Q2) (n : Nat) {A : Nat} (oa : okN a = true) (sa : Sm A a) (hn : 1 + A * n < 3400) (hA : A < 6000) (hf : n < pr.fuel) : run pr defs (m + 4) 19 [.d (pr2 a), .d (.int n)] = .ok (.d (pr2 (powN a n))) [none, none] := by
  rw [run_at (d := d_power) rfl ⟨rfl, by decide⟩]
  have c1 := check_numbers_ok pr m (.tuple [pr2 a]) [a] rfl (fun c hc => by rw [List.mem_singleton.mp hc]; exact sa) (fun c hc => by rw [List.mem_singleton.mp hc]; exact oa) (by omega)
  have c2 : run pr defs (m + 3) 12 [.d (.int n)] = .ok (.d .none) [none] := by
    rw [run_at (d := d_check_count) rfl ⟨rfl, by decide⟩]
    have q := is_integer_ok pr (m + 1) (n : Int)
    have l0 := lt_int' (i := (n : Int)) (j := 0)
    rw [decide_eq_false (by omega)] at l0
    show Ev.finish _ (exs pr (run pr defs (m + 2)) 1 (.cons (.ite (.or (.nt (.call 0 (.cons (.v 0) .nil) .nil [])) (.cmp .lt (.v 0) (.lit (.int 0)))) (.cons (.raise 1 (.v 0)) .nil) .nil) .nil) [.val (.int n)]) = _
    generalize (n : Int) = i at q l0 ⊢
    obtain ⟨T, hT⟩ : ∃ T : FT, T = run pr defs (m + 2) := ⟨_, rfl⟩
    rw [← hT] at q ⊢
    simp [q, l0, exs, ex, ev, evs, items, startEnv, argSlot, Out.bind, Out.no, lift, view, viewAll, gt, capt, captAll, put, putAll, assignTg, isOwn, asB, boolOf, Ev.finish, fins, finOf, moveOut, callF, mkArgs, mkArg, lent, back, nodupB, permute, parPl, putQ, asgT, setAt]
  have c3 : run pr defs (m + 3) 18 [.d (pr2 a), .d (.int n)] = .ok (.d (pr2 (powN a n))) [none, none] := by
    rw [run_at (d := d_power_of) rfl ⟨rfl, by decide⟩]
    obtain ⟨a', f', w, o', v⟩ := pw_loop pr m pr.fuel n a (1, 1) A 1 (1 + A * n) hf oa one_okN sa one_sm (Nat.le_refl _) hn
    have ef : f' = powN a n := val_inj o' (powN_okN oa n) (by rw [v, powN_val oa, val_one]; grind)
    subst ef
    have S0 : ex pr (run pr defs (m + 2)) 2 (.asg 2 (.glob 1)) [.val (pr2 a), .val (.int n), .emp] = .ok .next [.val (pr2 a), .val (.int n), .val (pr2 (1, 1))] := by
      have gl : pr.globs[1]? = some (pr2 (1, 1)) := by rw [hp]; rfl
      exact ex_asg (r := .d (pr2 (1, 1))) (by show lift (pr.globs[1]?.map Rs.d) _ = _; rw [gl]; rfl) rfl (put_loc rfl rfl)
    have S1 : ex pr (run pr defs (m + 2)) 2 (.whl (.cmp .gt (.v 1) (.lit (.int 0))) (.cons (.ite (.cmp .eq (.bin .mod (.v 1) (.lit (.int 2))) (.lit (.int 1))) (.cons (.asg 2 (.call 6 (.cons (.v 2) (.cons (.v 0) .nil)) .nil [])) .nil) .nil) (.cons (.asg 0 (.call 6 (.cons (.v 0) (.cons (.v 0) .nil)) .nil [])) (.cons (.asg 1 (.bin .fdiv (.v 1) (.lit (.int 2)))) .nil)))) [.val (pr2 a), .val (.int n), .val (pr2 (1, 1))] = .ok .next [.val (pr2 a'), .val (.int 0), .val (pr2 (powN a n))] := w
    show Ev.finish _ (exs pr (run pr defs (m + 2)) 2 (.cons (.asg 2 (.glob 1)) (.cons (.whl (.cmp .gt (.v 1) (.lit (.int 0))) (.cons (.ite (.cmp .eq (.bin .mod (.v 1) (.lit (.int 2))) (.lit (.int 1))) (.cons (.asg 2 (.call 6 (.cons (.v 2) (.cons (.v 0) .nil)) .nil [])) .nil) .nil) (.cons (.asg 0 (.call 6 (.cons (.v 0) (.cons (.v 0) .nil)) .nil [])) (.cons (.asg 1 (.bin .fdiv (.v 1) (.lit (.int 2)))) .nil)))) (.cons (.ret (.v 2)) .nil))) [.val (pr2 a), .val (.int n), .emp]) = _
    rw [exs_ok S0, exs_ok S1]
    rfl
  show Ev.finish _ (exs pr (run pr defs (m + 3)) 2 (.cons (.expr (.call 11 (.cons (.tup (.cons (.v 0) .nil)) .nil) .nil [])) (.cons (.expr (.call 12 (.cons (.v 1) .nil) .nil [])) (.cons (.ret (.call 18 (.cons (.v 0) (.cons (.v 1) .nil)) .nil [])) .nil))) [.val (pr2 a), .val (.int n)]) = _
  generalize pr2 (powN a n) = q at c3 ⊢
  generalize pr2 a = x at c1 c3 ⊢
  generalize (n : Int) = i at c2 c3 ⊢
  obtain ⟨T, hT⟩ : ∃ T : FT, T = run pr defs (m + 3) := ⟨_, rfl⟩
  rw [← hT] at c1 c2 c3 ⊢
  simp [c1, c2, c3, exs, ex, ev, evs, items, startEnv, argSlot, Out.bind, Out.no, lift, view, viewAll, gt, capt, captAll, put, putAll, assignTg, isOwn, asB, boolOf, Ev.finish, fins, finOf, moveOut, callF, mkArgs, mkArg, lent, back, nodupB, permute, parPl, putQ, asgT, setAt]
end K01
end
section
set_option linter.all false
set_option maxRecDepth 100000
set_option maxHeartbeats 4000000
/-! by, least, greatest, total -/
namespace K01
open PySem Ev
def quoS (a b : Q2) : Q2 := nrmS (a.1 * b.2) (a.2 * b.1)
theorem quotientS_ok (pr : EProg) (n : Nat) (a b : Q2) {k : Nat} (ha : Sm k a) (hb : Sm k b) (h0 : b.1 ≠ 0) (hk : k + k < 6900) : run pr defs (n + 2) 7 [.d (pr2 a), .d (pr2 b)] = .ok (.d (pr2 (quoS a b))) [none, none] := by
  obtain ⟨a1, a2⟩ := a
  obtain ⟨b1, b2⟩ := b
  obtain ⟨h1, h2, h3⟩ := ha
  obtain ⟨h4, h5, h6⟩ := hb
  simp only at h1 h2 h3 h4 h5 h6 h0
  rw [run_at (d := d_quotient) rfl ⟨rfl, by decide⟩]
  have m1 : mulOk a1 b2 = true := mulOk_of h1 h6 (by omega)
  have m3 : mulOk a2 b1 = true := mulOk_of h3 h4 (by omega)
  have lo := lowestS_ok pr n (a1 * b2) (a2 * b1) (Int.mul_ne_zero (by omega) h0) (mul_lt h3 h4) (by omega)
  show Ev.finish _ (exs pr (run pr defs (n + 1)) 2 (.cons (.ret (.call 2 (.cons (.cap (.bin .mul (.ix (.v 0) (.lit (.int 0))) (.ix (.v 1) (.lit (.int 1))))) (.cons (.cap (.bin .mul (.ix (.v 0) (.lit (.int 1))) (.ix (.v 1) (.lit (.int 0))))) .nil)) .nil [])) .nil) [.val (pr2 (a1, a2)), .val (pr2 (b1, b2))]) = _
  have x1 : ixD (pr2 (a1, a2)) (.int 0) = some (.int a1) := rfl
  have x2 : ixD (pr2 (a1, a2)) (.int 1) = some (.int a2) := rfl
  have x3 : ixD (pr2 (b1, b2)) (.int 0) = some (.int b1) := rfl
  have x4 : ixD (pr2 (b1, b2)) (.int 1) = some (.int b2) := rfl
  have o1 := op_mul' m1
  have o2 := op_mul' m3
  show _ = CallOut.ok (.d (pr2 (nrmS (a1 * b2) (a2 * b1)))) [none, none]
  generalize pr2 (nrmS (a1 * b2) (a2 * b1)) = q at lo ⊢
  generalize a1 * b2 = u at lo o1
  generalize a2 * b1 = v at lo o2
  generalize pr2 (a1, a2) = x at x1 x2 ⊢
  generalize pr2 (b1, b2) = y at x3 x4 ⊢
  obtain ⟨T, hT⟩ : ∃ T : FT, T = run pr defs (n + 1) := ⟨_, rfl⟩
  rw [← hT] at lo ⊢
  simp [lo, x1, x2, x3, x4, o1, o2, exs, ex, ev, evs, items, startEnv, argSlot, Out.bind, Out.no, lift, view, viewAll, gt, capt, captAll, put, putAll, assignTg, isOwn, asB, boolOf, Ev.finish, fins, finOf, moveOut, callF, mkArgs, mkArg, lent, back, nodupB, permute, parPl, putQ, asgT, setAt]
theorem by_ok (pr : EProg) (n : Nat) (hp : pr.globs = globs) (a b : Q2) {k : Nat} (ha : Sm k a) (hb : Sm k b) (oa : okN a = true) (ob : okN b = true) (h0 : b.1 ≠ 0) (hk : k + k < 6900) : run pr defs (n + 4) 17 [.d (pr2 a), .d (pr2 b)] = .ok (.d (pr2 (quoS a b))) [none, none] := by
  rw [run_at (d := d_by) rfl ⟨rfl, by decide⟩]
  have c1 := check2 pr n ha hb oa ob (by omega)
  have c2 := quotientS_ok pr (n + 1) a b ha hb h0 hk
  have gl : pr.globs[0]? = some (pr2 (0, 1)) := by rw [hp]; rfl
  have e0 := eq_pr (a := b) (b := (0, 1))
  rw [decide_eq_false (fun z => h0 (by rw [z]))] at e0
  show Ev.finish _ (exs pr (run pr defs (n + 3)) 2 (.cons (.expr (.call 11 (.cons (.tup (.cons (.v 0) (.cons (.v 1) .nil))) .nil) .nil [])) (.cons (.ite (.cmp .eq (.v 1) (.glob 0)) (.cons (.raise 2 (.v 0)) .nil) .nil) (.cons (.ret (.call 7 (.cons (.v 0) (.cons (.v 1) .nil)) .nil [])) .nil))) [.val (pr2 a), .val (pr2 b)]) = _
  generalize pr2 (quoS a b) = q at c2 ⊢
  generalize pr2 (0, 1) = z at gl e0
  generalize pr2 a = x at c1 c2 ⊢
  generalize pr2 b = y at c1 c2 e0 ⊢
  obtain ⟨T, hT⟩ : ∃ T : FT, T = run pr defs (n + 3) := ⟨_, rfl⟩
  rw [← hT] at c1 c2 ⊢
  simp [c1, c2, gl, e0, exs, ex, ev, evs, items, startEnv, argSlot, Out.bind, Out.no, lift, view, viewAll, gt, capt, captAll, put, putAll, assignTg, isOwn, asB, boolOf, Ev.finish, fins, finOf, moveOut, callF, mkArgs, mkArg, lent, back, nodupB, permute, parPl, putQ, asgT, setAt]
theorem by_bad (pr : EProg) (n : Nat) (hp : pr.globs = globs) (a : Q2) {k : Nat} (ha : Sm k a) (h1 : 1 ≤ k) (oa : okN a = true) (hk : k < 6900) : run pr defs (n + 4) 17 [.d (pr2 a), .d (pr2 (0, 1))] = .err 2 (pr2 a) [none, none] := by
  rw [run_at (d := d_by) rfl ⟨rfl, by decide⟩]
  have zs : Sm k (0, 1) := (show Sm 1 (0, 1) from ⟨by decide, by decide, by decide⟩).mono h1
  have c1 := check2 pr n ha zs oa rfl (by omega)
  have gl : pr.globs[0]? = some (pr2 (0, 1)) := by rw [hp]; rfl
  have e0 := eq_pr (a := (0, 1)) (b := (0, 1))
  rw [decide_eq_true rfl] at e0
  show Ev.finish _ (exs pr (run pr defs (n + 3)) 2 (.cons (.expr (.call 11 (.cons (.tup (.cons (.v 0) (.cons (.v 1) .nil))) .nil) .nil [])) (.cons (.ite (.cmp .eq (.v 1) (.glob 0)) (.cons (.raise 2 (.v 0)) .nil) .nil) (.cons (.ret (.call 7 (.cons (.v 0) (.cons (.v 1) .nil)) .nil [])) .nil))) [.val (pr2 a), .val (pr2 (0, 1))]) = _
  generalize pr2 (0, 1) = z at gl e0 c1 ⊢
  generalize pr2 a = x at c1 ⊢
  obtain ⟨T, hT⟩ : ∃ T : FT, T = run pr defs (n + 3) := ⟨_, rfl⟩
  rw [← hT] at c1 ⊢
  simp [c1, gl, e0, exs, ex, ev, evs, items, startEnv, argSlot, Out.bind, Out.no, lift, view, viewAll, gt, capt, captAll, put, putAll, assignTg, isOwn, asB, boolOf, Ev.finish, fins, finOf, moveOut, callF, mkArgs, mkArg, lent, back, nodupB, permute, parPl, putQ, asgT, setAt]
def lsS (f a : Q2) : Q2 := if ltN a f then a else f
def gtS (f a : Q2) : Q2 := if ltN f a then a else f
def lmn (c0 : Q2) (cs : List Q2) : Q2 := cs.foldl lsS c0
def gmn (c0 : Q2) (cs : List Q2) : Q2 := cs.foldl gtS c0
theorem ext_mem (st : Q2 → Q2 → Q2) (hst : ∀ f a, st f a = f ∨ st f a = a) : ∀ (cs : List Q2) (c0 : Q2), cs.foldl st c0 = c0 ∨ cs.foldl st c0 ∈ cs
  | [], c0 => .inl rfl
  | c :: cs, c0 => by
    rw [List.foldl_cons]
    rcases ext_mem st hst cs (st c0 c) with h | h
    · rw [h]
      rcases hst c0 c with e | e
      · exact .inl e
      · exact .inr (by rw [e]; exact List.mem_cons_self)
    · exact .inr (List.mem_cons_of_mem _ h)
theorem lsS_or (f a : Q2) : lsS f a = f ∨ lsS f a = a := by
  unfold lsS
  split
  · exact .inr rfl
  · exact .inl rfl
theorem gtS_or (f a : Q2) : gtS f a = f ∨ gtS f a = a := by
  unfold gtS
  split
  · exact .inr rfl
  · exact .inl rfl
theorem lmn_le : ∀ (cs : List Q2) (c0 : Q2), 0 < c0.2 → (∀ c ∈ cs, 0 < c.2) → val (lmn c0 cs) ≤ val c0 ∧ ∀ c ∈ cs, val (lmn c0 cs) ≤ val c
  | [], c0, _, _ => ⟨Rat.le_refl, fun _ z => nomatch z⟩
  | c :: cs, c0, p0, h => by
    have pc := h c List.mem_cons_self
    have st : 0 < (lsS c0 c).2 := by rcases lsS_or c0 c with e | e <;> rw [e] <;> assumption
    obtain ⟨h1, h2⟩ := lmn_le cs (lsS c0 c) st fun x hx => h x (List.mem_cons_of_mem _ hx)
    have k1 : val (lsS c0 c) ≤ val c0 ∧ val (lsS c0 c) ≤ val c := by
      unfold lsS
      cases hl : ltN c c0 with
      | true =>
        rw [if_pos rfl]
        exact ⟨(val_le pc p0).mpr (lt_asym hl), Rat.le_refl⟩
      | false =>
        rw [if_neg (by decide)]
        exact ⟨Rat.le_refl, (val_le p0 pc).mpr hl⟩
    show val (lmn (lsS c0 c) cs) ≤ _ ∧ ∀ x ∈ c :: cs, val (lmn (lsS c0 c) cs) ≤ val x
    refine ⟨Rat.le_trans h1 k1.1, fun x hx => ?_⟩
    rcases List.mem_cons.mp hx with rfl | hx
    · exact Rat.le_trans h1 k1.2
    · exact h2 x hx
theorem gmn_ge : ∀ (cs : List Q2) (c0 : Q2), 0 < c0.2 → (∀ c ∈ cs, 0 < c.2) → val c0 ≤ val (gmn c0 cs) ∧ ∀ c ∈ cs, val c ≤ val (gmn c0 cs)
  | [], c0, _, _ => ⟨Rat.le_refl, fun _ z => nomatch z⟩
  | c :: cs, c0, p0, h => by
    have pc := h c List.mem_cons_self
    have st : 0 < (gtS c0 c).2 := by rcases gtS_or c0 c with e | e <;> rw [e] <;> assumption
    obtain ⟨h1, h2⟩ := gmn_ge cs (gtS c0 c) st fun x hx => h x (List.mem_cons_of_mem _ hx)
    have k1 : val c0 ≤ val (gtS c0 c) ∧ val c ≤ val (gtS c0 c) := by
      unfold gtS
      cases hl : ltN c0 c with
      | true =>
        rw [if_pos rfl]
        exact ⟨(val_le p0 pc).mpr (lt_asym hl), Rat.le_refl⟩
      | false =>
        rw [if_neg (by decide)]
        exact ⟨Rat.le_refl, (val_le pc p0).mpr hl⟩
    show _ ≤ val (gmn (gtS c0 c) cs) ∧ ∀ x ∈ c :: cs, val x ≤ val (gmn (gtS c0 c) cs)
    refine ⟨Rat.le_trans k1.1 h1, fun x hx => ?_⟩
    rcases List.mem_cons.mp hx with rfl | hx
    · exact Rat.le_trans k1.2 h1
    · exact h2 x hx
theorem ext_ok (pr : EProg) (T : FT) (X : D) (c0 : Q2) (cs : List Q2) (st : Q2 → Q2 → Q2) (hst : ∀ f a, st f a = f ∨ st f a = a) (hX : itemsD X = some ((c0 :: cs).map pr2)) {K : Nat} (hc : ∀ c ∈ c0 :: cs, Sm K c) (body : Ss)
    (hb : ∀ f a : Q2, Sm K f → Sm K a → exs pr T 1 body [.val X, .val (pr2 f), .val (pr2 a)] = .ok .next [.val X, .val (pr2 (st f a)), .val (pr2 a)]) :
    ∃ y, ex pr T 1 (.for_ (.v 2) (.seq (.v 0)) body) [.val X, .val (pr2 c0), .emp] = .ok .next [.val X, .val (pr2 ((c0 :: cs).foldl st c0)), y] := by
  obtain ⟨e', h1, h3, y, rfl⟩ := forL_fold (np := 1) (tg := .v 2) (body := fun e => exs pr T 1 body e) pr2 st (fun b e => Sm K b ∧ ∃ y, e = [.val X, .val (pr2 b), y]) c0 (c0 :: cs) [] (fun pre a post hpp e ⟨hb', y, he⟩ => by
    subst he
    have ha : a ∈ c0 :: cs := by rw [show c0 :: cs = pre ++ a :: post from hpp]; simp
    generalize pre.foldl st c0 = b at hb' ⊢
    have sa := hc a ha
    refine ⟨[.val X, .val (pr2 b), .val (pr2 a)], _, put_loc (i := 2) rfl rfl, hb b a hb' sa, ?_, _, rfl⟩
    rcases hst b a with e | e
    · rw [e]; exact hb'
    · rw [e]; exact sa) [.val X, .val (pr2 c0), .emp] ⟨hc c0 List.mem_cons_self, _, rfl⟩
  exact ⟨y, ex_for (it := .seq (.v 0)) (tg := .v 2) (items_seq (r := .d X) (d := X) rfl rfl hX) h1⟩
theorem least_of_ok (pr : EProg) (n : Nat) (X : D) (c0 : Q2) (cs : List Q2) (hX : itemsD X = some ((c0 :: cs).map pr2)) (x0 : ixD X (.int 0) = some (pr2 c0)) {K : Nat} (hc : ∀ c ∈ c0 :: cs, Sm K c) (hK : K + K < 7000) : run pr defs (n + 2) 21 [.d X] = .ok (.d (pr2 (lmn c0 (c0 :: cs)))) [none] := by
  rw [run_at (d := d_least_of) rfl ⟨rfl, by decide⟩]
  have S1 : ex pr (run pr defs (n + 1)) 1 (.asg 1 (.ix (.v 0) (.lit (.int 0)))) [.val X, .emp, .emp] = .ok .next [.val X, .val (pr2 c0), .emp] := ex_asg (d := pr2 c0) (r := .d (pr2 c0)) (ev_ix (x := .d X) (y := .d (.int 0)) rfl rfl rfl rfl x0) rfl (put_loc rfl rfl)
  obtain ⟨y, S2⟩ := ext_ok pr (run pr defs (n + 1)) X c0 cs lsS lsS_or hX hc (.cons (.ite (.call 8 (.cons (.v 2) (.cons (.v 1) .nil)) .nil []) (.cons (.asg 1 (.v 2)) .nil) .nil) .nil) (fun f a sf sa => by
    have c := is_less_ok pr n a f sa sf hK
    unfold lsS
    generalize ltN a f = k at c ⊢
    have e : pr2 (if k = true then a else f) = if k = true then pr2 a else pr2 f := by cases k <;> rfl
    rw [e]
    generalize pr2 a = x at c ⊢
    generalize pr2 f = z at c ⊢
    obtain ⟨T, hT⟩ : ∃ T : FT, T = run pr defs (n + 1) := ⟨_, rfl⟩
    rw [← hT] at c ⊢
    cases k <;> simp [c, exs, ex, ev, evs, items, startEnv, argSlot, Out.bind, Out.no, lift, view, viewAll, gt, capt, captAll, put, putAll, assignTg, isOwn, asB, boolOf, Ev.finish, fins, finOf, moveOut, callF, mkArgs, mkArg, lent, back, nodupB, permute, parPl, putQ, asgT, setAt])
  show Ev.finish _ (exs pr (run pr defs (n + 1)) 1 (.cons (.asg 1 (.ix (.v 0) (.lit (.int 0)))) (.cons (.for_ (.v 2) (.seq (.v 0)) (.cons (.ite (.call 8 (.cons (.v 2) (.cons (.v 1) .nil)) .nil []) (.cons (.asg 1 (.v 2)) .nil) .nil) .nil)) (.cons (.ret (.v 1)) .nil))) [.val X, .emp, .emp]) = _
  rw [exs_ok S1, exs_ok S2]
  rfl
theorem greatest_of_ok (pr : EProg) (n : Nat) (X : D) (c0 : Q2) (cs : List Q2) (hX : itemsD X = some ((c0 :: cs).map pr2)) (x0 : ixD X (.int 0) = some (pr2 c0)) {K : Nat} (hc : ∀ c ∈ c0 :: cs, Sm K c) (hK : K + K < 7000) : run pr defs (n + 2) 22 [.d X] = .ok (.d (pr2 (gmn c0 (c0 :: cs)))) [none] := by
  rw [run_at (d := d_greatest_of) rfl ⟨rfl, by decide⟩]
  have S1 : ex pr (run pr defs (n + 1)) 1 (.asg 1 (.ix (.v 0) (.lit (.int 0)))) [.val X, .emp, .emp] = .ok .next [.val X, .val (pr2 c0), .emp] := ex_asg (d := pr2 c0) (r := .d (pr2 c0)) (ev_ix (x := .d X) (y := .d (.int 0)) rfl rfl rfl rfl x0) rfl (put_loc rfl rfl)
  obtain ⟨y, S2⟩ := ext_ok pr (run pr defs (n + 1)) X c0 cs gtS gtS_or hX hc (.cons (.ite (.call 8 (.cons (.v 1) (.cons (.v 2) .nil)) .nil []) (.cons (.asg 1 (.v 2)) .nil) .nil) .nil) (fun f a sf sa => by
    have c := is_less_ok pr n f a sf sa hK
    unfold gtS
    generalize ltN f a = k at c ⊢
    have e : pr2 (if k = true then a else f) = if k = true then pr2 a else pr2 f := by cases k <;> rfl
    rw [e]
    generalize pr2 a = x at c ⊢
    generalize pr2 f = z at c ⊢
    obtain ⟨T, hT⟩ : ∃ T : FT, T = run pr defs (n + 1) := ⟨_, rfl⟩
    rw [← hT] at c ⊢
    cases k <;> simp [c, exs, ex, ev, evs, items, startEnv, argSlot, Out.bind, Out.no, lift, view, viewAll, gt, capt, captAll, put, putAll, assignTg, isOwn, asB, boolOf, Ev.finish, fins, finOf, moveOut, callF, mkArgs, mkArg, lent, back, nodupB, permute, parPl, putQ, asgT, setAt])
  show Ev.finish _ (exs pr (run pr defs (n + 1)) 1 (.cons (.asg 1 (.ix (.v 0) (.lit (.int 0)))) (.cons (.for_ (.v 2) (.seq (.v 0)) (.cons (.ite (.call 8 (.cons (.v 1) (.cons (.v 2) .nil)) .nil []) (.cons (.asg 1 (.v 2)) .nil) .nil) .nil)) (.cons (.ret (.v 1)) .nil))) [.val X, .emp, .emp]) = _
  rw [exs_ok S1, exs_ok S2]
  rfl
structure RowX (X : D) (K : Nat) (c0 : Q2) (cs : List Q2) : Prop where
  it : itemsD X = some ((c0 :: cs).map pr2)
  x0 : ixD X (.int 0) = some (pr2 c0)
  ln : bltD .len [X] = some (.d (.int ((cs.length + 1 : Nat) : Int)))
  sm : ∀ c ∈ c0 :: cs, Sm K c
  ok : ∀ c ∈ c0 :: cs, okN c = true
theorem check_some_ok (pr : EProg) (n : Nat) {X : D} {K : Nat} {c0 : Q2} {cs : List Q2} (h : RowX X K c0 cs) (hK : K < 7000) : run pr defs (n + 4) 23 [.d X] = .ok (.d .none) [none] := by
  rw [run_at (d := d_check_some) rfl ⟨rfl, by decide⟩]
  have c1 := check_numbers_ok pr n X (c0 :: cs) h.it h.sm h.ok hK
  have ln := h.ln
  have e0 := eq_int (i := ((cs.length + 1 : Nat) : Int)) (j := 0)
  rw [decide_eq_false (by omega)] at e0
  show Ev.finish _ (exs pr (run pr defs (n + 3)) 1 (.cons (.expr (.call 11 (.cons (.v 0) .nil) .nil [])) (.cons (.ite (.cmp .eq (.blt .len (.cons (.v 0) .nil)) (.lit (.int 0))) (.cons (.raise 1 (.v 0)) .nil) .nil) .nil)) [.val X]) = _
  generalize ((cs.length + 1 : Nat) : Int) = i at ln e0
  obtain ⟨T, hT⟩ : ∃ T : FT, T = run pr defs (n + 3) := ⟨_, rfl⟩
  rw [← hT] at c1 ⊢
  simp [c1, ln, e0, exs, ex, ev, evs, items, startEnv, argSlot, Out.bind, Out.no, lift, view, viewAll, gt, capt, captAll, put, putAll, assignTg, isOwn, asB, boolOf, Ev.finish, fins, finOf, moveOut, callF, mkArgs, mkArg, lent, back, nodupB, permute, parPl, putQ, asgT, setAt]
theorem least_ok (pr : EProg) (n : Nat) {X : D} {K : Nat} {c0 : Q2} {cs : List Q2} (h : RowX X K c0 cs) (hK : K + K < 7000) : run pr defs (n + 5) 24 [.d X] = .ok (.d (pr2 (lmn c0 (c0 :: cs)))) [none] := by
  rw [run_at (d := d_least) rfl ⟨rfl, by decide⟩]
  have c1 := check_some_ok pr n h (by omega)
  have c2 := least_of_ok pr (n + 2) X c0 cs h.it h.x0 h.sm hK
  show Ev.finish _ (exs pr (run pr defs (n + 4)) 1 (.cons (.expr (.call 23 (.cons (.v 0) .nil) .nil [])) (.cons (.ret (.call 21 (.cons (.v 0) .nil) .nil [])) .nil)) [.val X]) = _
  generalize pr2 (lmn c0 (c0 :: cs)) = q at c2 ⊢
  obtain ⟨T, hT⟩ : ∃ T : FT, T = run pr defs (n + 4) := ⟨_, rfl⟩
  rw [← hT] at c1 c2 ⊢
  simp [c1, c2, exs, ex, ev, evs, items, startEnv, argSlot, Out.bind, Out.no, lift, view, viewAll, gt, capt, captAll, put, putAll, assignTg, isOwn, asB, boolOf, Ev.finish, fins, finOf, moveOut, callF, mkArgs, mkArg, lent, back, nodupB, permute, parPl, putQ, asgT, setAt]
theorem greatest_ok (pr : EProg) (n : Nat) {X : D} {K : Nat} {c0 : Q2} {cs : List Q2} (h : RowX X K c0 cs) (hK : K + K < 7000) : run pr defs (n + 5) 25 [.d X] = .ok (.d (pr2 (gmn c0 (c0 :: cs)))) [none] := by
  rw [run_at (d := d_greatest) rfl ⟨rfl, by decide⟩]
  have c1 := check_some_ok pr n h (by omega)
  have c2 := greatest_of_ok pr (n + 2) X c0 cs h.it h.x0 h.sm hK
  show Ev.finish _ (exs pr (run pr defs (n + 4)) 1 (.cons (.expr (.call 23 (.cons (.v 0) .nil) .nil [])) (.cons (.ret (.call 22 (.cons (.v 0) .nil) .nil [])) .nil)) [.val X]) = _
  generalize pr2 (gmn c0 (c0 :: cs)) = q at c2 ⊢
  obtain ⟨T, hT⟩ : ∃ T : FT, T = run pr defs (n + 4) := ⟨_, rfl⟩
  rw [← hT] at c1 c2 ⊢
  simp [c1, c2, exs, ex, ev, evs, items, startEnv, argSlot, Out.bind, Out.no, lift, view, viewAll, gt, capt, captAll, put, putAll, assignTg, isOwn, asB, boolOf, Ev.finish, fins, finOf, moveOut, callF, mkArgs, mkArg, lent, back, nodupB, permute, parPl, putQ, asgT, setAt]
theorem total_ok (pr : EProg) (n : Nat) (X : D) (cs : List Q2) (hX : itemsD X = some (cs.map pr2)) {K : Nat} (hs : ∀ c ∈ cs, Sm K c) (ho : ∀ c ∈ cs, okN c = true) (hl : 1 + cs.length * (K + 1) < 6900) (hK : K < 6900) : run pr defs (n + 4) 26 [.d X] = .ok (.d (pr2 (cs.foldl plusN (0, 1)))) [none] := by
  rw [run_at (d := d_total) rfl ⟨rfl, by decide⟩]
  have c1 := check_numbers_ok pr n X cs hX hs ho (by omega)
  have c2 := sum_of_all_any pr n X cs hX hs hl
  show Ev.finish _ (exs pr (run pr defs (n + 3)) 1 (.cons (.expr (.call 11 (.cons (.v 0) .nil) .nil [])) (.cons (.ret (.call 9 (.cons (.v 0) .nil) .nil [])) .nil)) [.val X]) = _
  generalize pr2 (cs.foldl plusN (0, 1)) = q at c2 ⊢
  obtain ⟨T, hT⟩ : ∃ T : FT, T = run pr defs (n + 3) := ⟨_, rfl⟩
  rw [← hT] at c1 c2 ⊢
  simp [c1, c2, exs, ex, ev, evs, items, startEnv, argSlot, Out.bind, Out.no, lift, view, viewAll, gt, capt, captAll, put, putAll, assignTg, isOwn, asB, boolOf, Ev.finish, fins, finOf, moveOut, callF, mkArgs, mkArg, lent, back, nodupB, permute, parPl, putQ, asgT, setAt]
end K01
end
section
set_option linter.all false
set_option maxRecDepth 100000
set_option maxHeartbeats 4000000
/-! the text of a row of numbers -/
namespace K01
open PySem Ev
theorem sok_app (a b : Str) : PyData.strOk (a ++ b) = (PyData.strOk a && PyData.strOk b) := by
  unfold PyData.strOk
  show (a.cps ++ b.cps).all _ = _
  exact Array.all_append
theorem sok_of (s : String) : PyData.strOk (Str.ofString s) = true := by
  unfold PyData.strOk
  rw [Str.ofString_eq_toList]
  show ((s.toList.map Char.toNat).toArray).all _ = true
  rw [List.all_toArray, List.all_eq_true]
  intro n hn
  obtain ⟨c, _, rfl⟩ := List.mem_map.mp hn
  refine decide_eq_true ?_
  have h := c.valid
  have : c.toNat = c.val.toNat := rfl
  rcases h with h | ⟨_, h⟩ <;> omega
theorem tf_ok : ∀ (ts : List Str) (k : Nat) (acc : Str), PyData.strOk acc = true → (∀ t ∈ ts, PyData.strOk t = true) → PyData.strOk (textFrom k acc ts) = true
  | [], _, acc, h, _ => h
  | t :: ts, k, acc, h, ht => by
    refine tf_ok ts (k + 1) _ ?_ fun u hu => ht u (List.mem_cons_of_mem _ hu)
    rw [sok_app, sok_app, h, ht t List.mem_cons_self]
    have : PyData.strOk (Str.ofString (if k > 0 then ", " else "")) = true := sok_of _
    rw [this]
    rfl
theorem tf_len {B : Nat} : ∀ (ts : List Str) (k : Nat) (acc : Str), (∀ t ∈ ts, t.length ≤ B) → (textFrom k acc ts).length ≤ acc.length + ts.length * (B + 2)
  | [], _, acc, _ => by show acc.length ≤ _; omega
  | t :: ts, k, acc, ht => by
    have ih := tf_len ts (k + 1) (acc ++ Str.ofString (if k > 0 then ", " else "") ++ t) fun u hu => ht u (List.mem_cons_of_mem _ hu)
    have e : (acc ++ Str.ofString (if k > 0 then ", " else "") ++ t).length ≤ acc.length + 2 + t.length := by
      rw [strLen_append, strLen_append]
      have : (Str.ofString (if k > 0 then ", " else "")).length ≤ 2 := by split <;> decide
      omega
    have := ht t List.mem_cons_self
    show (textFrom (k + 1) (acc ++ Str.ofString (if k > 0 then ", " else "") ++ t) ts).length ≤ _
    rw [List.length_cons, Nat.succ_mul]
    omega
def txP (c : Q2) : Str := PyData.shown (pr2 c)
theorem log_sm {i : Int} {k : Nat} (h : i.natAbs < 2 ^ k) (hk : k < 1900) : i.natAbs.log2 < 1920 := by
  by_cases z : i.natAbs = 0
  · rw [z]
    decide
  · have := (Nat.log2_lt z).mpr h
    omega
theorem tx_int {i : Int} {k : Nat} (h : i.natAbs < 2 ^ k) (hk : k < 1900) : (Str.ofString (toString i)).length ≤ 1921 := by
  rw [ofString_length]
  exact int_text_length_le (k := 1920) (by decide) (log_sm h hk)
theorem txP_eq (c : Q2) : txP c = Str.ofString "(" ++ (Str.ofString (toString c.1) ++ Str.ofString ", " ++ Str.ofString (toString c.2)) ++ Str.ofString ")" := rfl
theorem txP_ok (c : Q2) : PyData.strOk (txP c) = true := by
  rw [txP_eq, sok_app, sok_app, sok_app, sok_app, sok_of, sok_of, sok_of, sok_of, sok_of]
  rfl
theorem txP_len {c : Q2} {k : Nat} (h : Sm k c) (hk : k < 1900) : (txP c).length ≤ 3850 := by
  rw [txP_eq, strLen_append, strLen_append, strLen_append, strLen_append]
  have h1 := tx_int h.1 hk
  have h2 := tx_int h.2.2 hk
  have a1 : (Str.ofString "(").length = 1 := rfl
  have a2 : (Str.ofString ")").length = 1 := rfl
  have a3 : (Str.ofString ", ").length = 2 := rfl
  omega
theorem shown_map : ∀ cs : List Q2, PyData.shownAll (cs.map pr2) = cs.map txP
  | [] => rfl
  | c :: cs => by
    show PyData.shown (pr2 c) :: PyData.shownAll (cs.map pr2) = _
    rw [shown_map cs]
    rfl
theorem showable_map {k : Nat} (hk : k < 1900) : ∀ cs : List Q2, (∀ c ∈ cs, Sm k c) → PyData.showableAll (cs.map pr2) = true
  | [], _ => rfl
  | c :: cs, h => by
    show (PyData.showable (pr2 c) && PyData.showableAll (cs.map pr2)) = true
    rw [showable_map hk cs fun x hx => h x (List.mem_cons_of_mem _ hx)]
    have hc := h c List.mem_cons_self
    have e : PyData.showable (pr2 c) = (decide (c.1.natAbs.log2 < 1920) && (decide (c.2.natAbs.log2 < 1920) && true)) := rfl
    rw [e, decide_eq_true (log_sm hc.1 hk), decide_eq_true (log_sm hc.2.2 hk)]
    rfl
theorem noDict_map : ∀ cs : List Q2, PyData.hasDictAll (cs.map pr2) = false
  | [] => rfl
  | c :: cs => by
    show (PyData.hasDict (pr2 c) || PyData.hasDictAll (cs.map pr2)) = false
    rw [noDict_map cs]
    rfl
theorem repr_row {k : Nat} (hk : k < 1900) (cs : List Q2) (h : ∀ c ∈ cs, Sm k c) (hl : cs.length ≤ 100) : ∃ s : Str, bltD .repr [.list (cs.map pr2)] = some (.d (.str s)) ∧ cmpD .eq (.str s) (.str s) = some true := by
  have ok : PyData.strOk (PyData.shown (.list (cs.map pr2))) = true := by
    show PyData.strOk (listText (PyData.shownAll (cs.map pr2))) = true
    rw [shown_map]
    unfold listText
    rw [sok_app, sok_of, tf_ok _ _ _ (sok_of _) fun t ht => by obtain ⟨c, _, rfl⟩ := List.mem_map.mp ht; exact txP_ok c]
    rfl
  have len : (PyData.shown (.list (cs.map pr2))).length ≤ lim := by
    show (listText (PyData.shownAll (cs.map pr2))).length ≤ lim
    rw [shown_map]
    unfold listText
    rw [strLen_append]
    have t := tf_len (B := 3850) (cs.map txP) 0 (Str.ofString "[") fun t ht => by obtain ⟨c, hc, rfl⟩ := List.mem_map.mp ht; exact txP_len (h c hc) hk
    rw [List.length_map] at t
    have a1 : (Str.ofString "[").length = 1 := rfl
    have a2 : (Str.ofString "]").length = 1 := rfl
    rw [a1] at t
    rw [a2]
    have : cs.length * (3850 + 2) ≤ 100 * (3850 + 2) := Nat.mul_le_mul_right _ hl
    have l : 400000 ≤ lim := by decide
    exact Nat.le_trans (by omega) l
  have dp : PyData.depth (.list (cs.map pr2)) ≤ 60 := by
    have := (canRow cs).2
    show PyData.depthAll (cs.map pr2) + 1 ≤ 60
    have e : PyData.depth (rowD cs) = PyData.depthAll (cs.map pr2) + 1 := rfl
    omega
  have sh : PyData.showable (.list (cs.map pr2)) = true := showable_map hk cs h
  have nd : PyData.hasDict (.list (cs.map pr2)) = false := noDict_map cs
  refine ⟨PyData.shown (.list (cs.map pr2)), ?_, ?_⟩
  · show reprD (.list (cs.map pr2)) = _
    unfold reprD
    rw [sh, nd, decide_eq_true dp, decide_eq_true len]
    rfl
  · generalize PyData.shown (.list (cs.map pr2)) = s at ok
    have o : okD (.str s) = true := by
      show (PyData.canLay0 (.str s) && decide (PyData.depth (.str s) ≤ 64)) = true
      have e : PyData.canLay0 (.str s) = PyData.strOk s := rfl
      rw [e, ok]
      rfl
    show (if (okD (.str s) && okD (.str s)) = true then some (PyData.eqv (.str s) (.str s)) else none) = _
    rw [o]
    show some (PyData.eqv (.str s) (.str s)) = _
    have e : PyData.eqv (.str s) (.str s) = (s == s) := rfl
    rw [e, beq_self_eq_true]
end K01
end
section
set_option linter.all false
set_option maxRecDepth 100000
set_option maxHeartbeats 4000000
/-! drawn numbers and pairs -/
namespace K01
open PySem Ev
theorem pow_i {b : Int} {n : Nat} (hb : b.natAbs < 2 ^ 64) (hn : (n : Int) ≤ 1000000) : opD .pow (.int b) (.int (n : Int)) = some (.d (.int (b ^ n))) := by
  show (if 0 ≤ (n : Int) ∧ (n : Int) ≤ 1000000 ∧ b.natAbs < 2 ^ 64 then some (Rs.d (.int (b ^ (n : Int).toNat))) else _) = _
  rw [if_pos ⟨by omega, hn, hb⟩, Int.toNat_natCast]
theorem pow_lt {b : Int} {k : Nat} (hb : b.natAbs < 2 ^ k) : ∀ n : Nat, 0 < n → (b ^ n).natAbs < 2 ^ (k * n) := by
  intro n hn
  rw [Int.natAbs_pow, Nat.pow_mul]
  exact Nat.pow_lt_pow_left hb (by omega)
theorem b3 {bs : Int} (b0 : 0 ≤ bs) (b1 : bs < 1000000000) : ((1 + bs) ^ 3).natAbs < 2 ^ 280 := Nat.lt_of_lt_of_le (pow_lt (b := 1 + bs) (k := 30) (by omega) 3 (by decide)) (Nat.pow_le_pow_right (by decide) (by decide))
theorem b9 {bs few : Int} (b0 : 0 ≤ bs) (b1 : bs < 1000000000) (f0 : 0 ≤ few) (f1 : few < 1000000) : ((1 + bs) ^ 9 + few).natAbs < 2 ^ 280 := by
  have h := pow_lt (b := 1 + bs) (k := 30) (by omega) 9 (by decide)
  generalize (1 + bs) ^ 9 = g at h ⊢
  have e : (2 : Nat) ^ (30 * 9 + 10) = 2 ^ (30 * 9) * 2 ^ 10 := Nat.pow_add 2 _ _
  have p : 2 ^ 30 ≤ (2 : Nat) ^ (30 * 9) := Nat.pow_le_pow_right (by decide) (by decide)
  show (g + few).natAbs < 2 ^ (30 * 9 + 10)
  rw [e]
  generalize (2 : Nat) ^ (30 * 9) = x at h p ⊢
  omega
theorem sm_lt {v : Int} (h : v.natAbs < 2 ^ 30) : v.natAbs < 2 ^ 280 := Nat.lt_of_lt_of_le h (Nat.pow_le_pow_right (by decide) (by decide))
theorem pick7 {few g5 g3 g9 t : Int} (f0 : 0 ≤ few) (f1 : few < 1000000) (f5 : 0 ≤ g5 ∧ g5 ≤ few) (w3 : g3.natAbs < 2 ^ 280) (w9 : (g9 + few).natAbs < 2 ^ 280) (t0 : 0 ≤ t) (t1 : t < 7) : ∃ v : Int, v.natAbs < 2 ^ 280 ∧ ixD (.list [.int 0, .int few, .int g5, .int g3, .int (g9 + few), .int 1, .int 2]) (.int t) = some (.int v) := by
  have : t = 0 ∨ t = 1 ∨ t = 2 ∨ t = 3 ∨ t = 4 ∨ t = 5 ∨ t = 6 := by omega
  rcases this with rfl | rfl | rfl | rfl | rfl | rfl | rfl
  · exact ⟨0, sm_lt (by decide), rfl⟩
  · exact ⟨few, sm_lt (by omega), rfl⟩
  · exact ⟨g5, sm_lt (by omega), rfl⟩
  · exact ⟨g3, w3, rfl⟩
  · exact ⟨g9 + few, w9, rfl⟩
  · exact ⟨1, sm_lt (by decide), rfl⟩
  · exact ⟨2, sm_lt (by decide), rfl⟩
theorem ev_lstN {pr : EProg} {T : FT} {np : Nat} {xs : Ps} {e e1 e2 : FEnv} {rs : List Rs} {ds : List D} (h : evs pr T np xs e = .ok rs e1) (hc : captAll np e1 rs = some (ds, e2)) : ev pr T np (.lst xs) e = .ok (.fresh (.lst ds)) e2 := by
  show (evs pr T np xs e).bind _ = _
  rw [h]
  show (match captAll np e1 rs with | some (ds, e2) => Out.ok (Rs.fresh (.lst ds)) e2 | none => .stuck) = _
  rw [hc]
theorem int_walk (pr : EProg) (T : FT) {l l1 l2 l3 l4 : List D} {few bs t s v r g5 g3 g9 b1 gf m6 m9 m5 : Int} (c1 : T 28 [.own (.lst l), .d (.int m6)] = .ok (.d (.int few)) [some (.lst l1), none]) (c2 : T 28 [.own (.lst l1), .d (.int m9)] = .ok (.d (.int bs)) [some (.lst l2), none]) (c3 : T 28 [.own (.lst l2), .d (.int 7)] = .ok (.d (.int t)) [some (.lst l3), none]) (c4 : T 28 [.own (.lst l3), .d (.int 2)] = .ok (.d (.int s)) [some (.lst l4), none])
    (p6 : opD .pow (.int 10) (.int 6) = some (.d (.int m6))) (p9 : opD .pow (.int 10) (.int 9) = some (.d (.int m9))) (p5 : opD .pow (.int 10) (.int 5) = some (.d (.int m5))) (ad1 : opD .add (.int 1) (.int bs) = some (.d (.int b1))) (q3 : opD .pow (.int b1) (.int 3) = some (.d (.int g3))) (q9 : opD .pow (.int b1) (.int 9) = some (.d (.int g9))) (d5 : opD .fdiv (.int few) (.int m5) = some (.d (.int g5))) (ad2 : opD .add (.int g9) (.int few) = some (.d (.int gf)))
    (iv : ixD (.list [.int 0, .int few, .int g5, .int g3, .int gf, .int 1, .int 2]) (.int t) = some (.int v)) (ir : ixD (.list [.int v, .int (-v)]) (.int s) = some (.int r)) :
    Ev.finish [.own (.lst l)] (exs pr T 1 d__law_integer.body (startEnv d__law_integer [.own (.lst l)])) = .ok (.d (.int r)) [some (.lst l4)] := by
  have S0 : ex pr T 1 (.asg 1 (.call 28 (.cons (.v 0) (.cons (.cap (.bin .pow (.lit (.int 10)) (.lit (.int 6)))) .nil)) .nil [])) [.own (.lst l), .emp, .emp, .emp] = .ok .next [.own (.lst l1), .val (.int few), .emp, .emp] := ex_asg (ev_call (rs := [.slot 0, .d (.int m6)]) (evs2 rfl (ev_cap (ev_bin rfl rfl rfl rfl p6) rfl)) rfl rfl rfl rfl c1 rfl) rfl (put_loc rfl rfl)
  have S1 : ex pr T 1 (.asg 2 (.bin .add (.lit (.int 1)) (.call 28 (.cons (.v 0) (.cons (.cap (.bin .pow (.lit (.int 10)) (.lit (.int 9)))) .nil)) .nil []))) [.own (.lst l1), .val (.int few), .emp, .emp] = .ok .next [.own (.lst l2), .val (.int few), .val (.int b1), .emp] := ex_asg (ev_bin (x := .d (.int 1)) (dx := .int 1) rfl (ev_call (rs := [.slot 0, .d (.int m9)]) (evs2 rfl (ev_cap (ev_bin rfl rfl rfl rfl p9) rfl)) rfl rfl rfl rfl c2 rfl) rfl rfl ad1) rfl (put_loc rfl rfl)
  have i0 : ev pr T 1 (.lit (.int 0)) [.own (.lst l2), .val (.int few), .val (.int b1), .emp] = .ok (.d (.int 0)) [.own (.lst l2), .val (.int few), .val (.int b1), .emp] := rfl
  have i1 : ev pr T 1 (.v 1) [.own (.lst l2), .val (.int few), .val (.int b1), .emp] = .ok (.d (.int few)) [.own (.lst l2), .val (.int few), .val (.int b1), .emp] := rfl
  have i2a : ev pr T 1 (.bin .pow (.lit (.int 10)) (.lit (.int 5))) [.own (.lst l2), .val (.int few), .val (.int b1), .emp] = .ok (.d (.int m5)) [.own (.lst l2), .val (.int few), .val (.int b1), .emp] := ev_bin (dx := .int 10) (dy := .int 5) rfl rfl rfl rfl p5
  have i2 : ev pr T 1 (.bin .fdiv (.v 1) (.bin .pow (.lit (.int 10)) (.lit (.int 5)))) [.own (.lst l2), .val (.int few), .val (.int b1), .emp] = .ok (.d (.int g5)) [.own (.lst l2), .val (.int few), .val (.int b1), .emp] := ev_bin (dx := .int few) (dy := .int m5) i1 i2a rfl rfl d5
  have i3 : ev pr T 1 (.bin .pow (.v 2) (.lit (.int 3))) [.own (.lst l2), .val (.int few), .val (.int b1), .emp] = .ok (.d (.int g3)) [.own (.lst l2), .val (.int few), .val (.int b1), .emp] := ev_bin (dx := .int b1) (dy := .int 3) rfl rfl rfl rfl q3
  have i4a : ev pr T 1 (.bin .pow (.v 2) (.lit (.int 9))) [.own (.lst l2), .val (.int few), .val (.int b1), .emp] = .ok (.d (.int g9)) [.own (.lst l2), .val (.int few), .val (.int b1), .emp] := ev_bin (dx := .int b1) (dy := .int 9) rfl rfl rfl rfl q9
  have i4 : ev pr T 1 (.bin .add (.bin .pow (.v 2) (.lit (.int 9))) (.v 1)) [.own (.lst l2), .val (.int few), .val (.int b1), .emp] = .ok (.d (.int gf)) [.own (.lst l2), .val (.int few), .val (.int b1), .emp] := ev_bin (dx := .int g9) (dy := .int few) i4a i1 rfl rfl ad2
  have i5 : ev pr T 1 (.lit (.int 1)) [.own (.lst l2), .val (.int few), .val (.int b1), .emp] = .ok (.d (.int 1)) [.own (.lst l2), .val (.int few), .val (.int b1), .emp] := rfl
  have i6 : ev pr T 1 (.lit (.int 2)) [.own (.lst l2), .val (.int few), .val (.int b1), .emp] = .ok (.d (.int 2)) [.own (.lst l2), .val (.int few), .val (.int b1), .emp] := rfl
  have L := ev_lstN (evsc i0 (evsc i1 (evsc i2 (evsc i3 (evsc i4 (evsc i5 (evs1 i6))))))) rfl
  have S2 : ex pr T 1 (.asg 3 (.ix (.lst (.cons (.lit (.int 0)) (.cons (.v 1) (.cons (.bin .fdiv (.v 1) (.bin .pow (.lit (.int 10)) (.lit (.int 5)))) (.cons (.bin .pow (.v 2) (.lit (.int 3))) (.cons (.bin .add (.bin .pow (.v 2) (.lit (.int 9))) (.v 1)) (.cons (.lit (.int 1)) (.cons (.lit (.int 2)) .nil)))))))) (.call 28 (.cons (.v 0) (.cons (.lit (.int 7)) .nil)) .nil []))) [.own (.lst l2), .val (.int few), .val (.int b1), .emp] = .ok .next [.own (.lst l3), .val (.int few), .val (.int b1), .val (.int v)] := ex_asg (ev_ix L (ev_call (rs := [.slot 0, .d (.int 7)]) rfl rfl rfl rfl rfl c3 rfl) rfl rfl iv) rfl (put_loc rfl rfl)
  have S3 : ev pr T 1 (.ix (.lst (.cons (.v 3) (.cons (.neg (.v 3)) .nil))) (.call 28 (.cons (.v 0) (.cons (.lit (.int 2)) .nil)) .nil [])) [.own (.lst l3), .val (.int few), .val (.int b1), .val (.int v)] = .ok (.d (.int r)) [.own (.lst l4), .val (.int few), .val (.int b1), .val (.int v)] := ev_ix (x := .fresh (.lst [.int v, .int (-v)])) rfl (ev_call (rs := [.slot 0, .d (.int 2)]) rfl rfl rfl rfl rfl c4 rfl) rfl rfl ir
  show Ev.finish _ (exs pr T 1 (.cons (.asg 1 (.call 28 (.cons (.v 0) (.cons (.cap (.bin .pow (.lit (.int 10)) (.lit (.int 6)))) .nil)) .nil [])) (.cons (.asg 2 (.bin .add (.lit (.int 1)) (.call 28 (.cons (.v 0) (.cons (.cap (.bin .pow (.lit (.int 10)) (.lit (.int 9)))) .nil)) .nil []))) (.cons (.asg 3 (.ix (.lst (.cons (.lit (.int 0)) (.cons (.v 1) (.cons (.bin .fdiv (.v 1) (.bin .pow (.lit (.int 10)) (.lit (.int 5)))) (.cons (.bin .pow (.v 2) (.lit (.int 3))) (.cons (.bin .add (.bin .pow (.v 2) (.lit (.int 9))) (.v 1)) (.cons (.lit (.int 1)) (.cons (.lit (.int 2)) .nil)))))))) (.call 28 (.cons (.v 0) (.cons (.lit (.int 7)) .nil)) .nil []))) (.cons (.ret (.ix (.lst (.cons (.v 3) (.cons (.neg (.v 3)) .nil))) (.call 28 (.cons (.v 0) (.cons (.lit (.int 2)) .nil)) .nil []))) .nil)))) [.own (.lst l), .emp, .emp, .emp]) = _
  rw [exs_ok S0, exs_ok S1, exs_ok S2, exs_ret S3 rfl]
  rfl
theorem integer_ok (pr : EProg) (m : Nat) (l : List D) (hl : DeckOk l) : ∃ (v : Int) (l' : List D), v.natAbs < 2 ^ 280 ∧ DeckOk l' ∧ run pr defs (m + 2) 35 [.own (.lst l)] = .ok (.d (.int v)) [some (.lst l')] := by
  rw [run_at (d := d__law_integer) rfl ⟨rfl, by decide⟩]
  obtain ⟨few, l1, f0, f1, k1, c1⟩ := take_ok pr m l 1000000 hl (by decide) (by decide)
  obtain ⟨bs, l2, b0, b1, k2, c2⟩ := take_ok pr m l1 1000000000 k1 (by decide) (by decide)
  obtain ⟨t, l3, t0, t1, k3, c3⟩ := take_ok pr m l2 7 k2 (by decide) (by decide)
  obtain ⟨s, l4, s0, s1, k4, c4⟩ := take_ok pr m l3 2 k3 (by decide) (by decide)
  have p6 : opD .pow (.int 10) (.int 6) = some (.d (.int 1000000)) := pow_i (b := 10) (n := 6) (by decide) (by decide)
  have p9 : opD .pow (.int 10) (.int 9) = some (.d (.int 1000000000)) := pow_i (b := 10) (n := 9) (by decide) (by decide)
  have p5 : opD .pow (.int 10) (.int 5) = some (.d (.int 100000)) := pow_i (b := 10) (n := 5) (by decide) (by decide)
  have q3 : opD .pow (.int (1 + bs)) (.int 3) = some (.d (.int ((1 + bs) ^ 3))) := pow_i (b := 1 + bs) (n := 3) (by omega) (by decide)
  have q9 : opD .pow (.int (1 + bs)) (.int 9) = some (.d (.int ((1 + bs) ^ 9))) := pow_i (b := 1 + bs) (n := 9) (by omega) (by decide)
  have w3 := b3 b0 b1
  have w9 := b9 b0 b1 f0 f1
  have d5 := op_fdiv' (i := few) (j := 100000) (divOk_of (b := 20) (by decide) (by decide) (by decide))
  have f5 : 0 ≤ few.fdiv 100000 ∧ few.fdiv 100000 ≤ few := by
    rw [Int.fdiv_eq_ediv_of_nonneg _ (by decide)]
    omega
  generalize few.fdiv 100000 = g5 at d5 f5
  generalize (1 + bs) ^ 3 = g3 at q3 w3
  generalize (1 + bs) ^ 9 = g9 at q9 w9
  have iv := pick7 (g9 := g9) f0 f1 f5 w3 w9 t0 t1
  obtain ⟨v, hv, iv⟩ := iv
  obtain ⟨r, hr, ir⟩ : ∃ r : Int, r.natAbs < 2 ^ 280 ∧ ixD (.list [.int v, .int (-v)]) (.int s) = some (.int r) := by
    have : s = 0 ∨ s = 1 := by omega
    rcases this with rfl | rfl
    · exact ⟨v, hv, rfl⟩
    · exact ⟨-v, by rw [Int.natAbs_neg]; exact hv, rfl⟩
  refine ⟨r, l4, hr, k4, ?_⟩
  have C1 : run pr defs (m + 1) 28 [.own (.lst l), .d (.int 1000000)] = .ok (.d (.int few)) [some (.lst l1), none] := c1
  have C2 : run pr defs (m + 1) 28 [.own (.lst l1), .d (.int 1000000000)] = .ok (.d (.int bs)) [some (.lst l2), none] := c2
  have C3 : run pr defs (m + 1) 28 [.own (.lst l2), .d (.int 7)] = .ok (.d (.int t)) [some (.lst l3), none] := c3
  have C4 : run pr defs (m + 1) 28 [.own (.lst l3), .d (.int 2)] = .ok (.d (.int s)) [some (.lst l4), none] := c4
  have ad1 : opD .add (.int 1) (.int bs) = some (.d (.int (1 + bs))) := op_add'
  have ad2 : opD .add (.int g9) (.int few) = some (.d (.int (g9 + few))) := op_add'
  exact int_walk pr (run pr defs (m + 1)) C1 C2 C3 C4 p6 p9 p5 ad1 q3 q9 d5 ad2 iv ir
theorem couple_ok (pr : EProg) (m : Nat) (hf : 2 ^ 4000 ≤ pr.fuel) (l : List D) (hl : DeckOk l) : ∃ (p : Q2) (l' : List D), p.1.natAbs < 2 ^ 290 ∧ p.2.natAbs < 2 ^ 290 ∧ DeckOk l' ∧ run pr defs (m + 3) 36 [.own (.lst l)] = .ok (.d (pr2 p)) [some (.lst l')] := by
  rw [run_at (d := d__law_couple) rfl ⟨rfl, by decide⟩]
  obtain ⟨u, l1, hu, k1, c1⟩ := integer_ok pr m l hl
  obtain ⟨v, l2, hv, k2, c2⟩ := integer_ok pr m l1 k1
  obtain ⟨w, l3, w0, w1, k3, c3⟩ := take_ok pr (m + 1) l2 4 k2 (by decide) (by decide)
  obtain ⟨o, l4, o0, o1, k4, c4⟩ := take_ok pr (m + 1) l3 30 k3 (by decide) (by decide)
  have e0 := eq_int (i := w) (j := 0)
  have e1 := eq_int (i := v) (j := 0)
  have e2 := eq_int (i := w) (j := 1)
  have big : (2 : Nat) ^ 280 ≤ 2 ^ 290 := Nat.pow_le_pow_right (by decide) (by decide)
  have S : ∀ (p : Q2) (l' : List D), Ev.finish [.own (.lst l)] (exs pr (run pr defs (m + 2)) 1 (.cons (.par [1, 2] [false, false] (.cons (.call 35 (.cons (.v 0) .nil) .nil []) (.cons (.call 35 (.cons (.v 0) .nil) .nil []) .nil))) (.cons (.asg 3 (.call 28 (.cons (.v 0) (.cons (.lit (.int 4)) .nil)) .nil [])) (.cons (.ite (.or (.cmp .eq (.v 3) (.lit (.int 0))) (.cmp .eq (.v 2) (.lit (.int 0)))) (.cons (.ret (.tup (.cons (.v 1) (.cons (.v 2) .nil)))) .nil) .nil) (.cons (.ite (.cmp .eq (.v 3) (.lit (.int 1))) (.cons (.asg 4 (.bin .add (.lit (.int 2)) (.call 28 (.cons (.v 0) (.cons (.lit (.int 30)) .nil)) .nil []))) (.cons (.ret (.tup (.cons (.bin .mul (.v 1) (.v 4)) (.cons (.bin .mul (.blt .abs (.cons (.v 2) .nil)) (.v 4)) .nil)))) .nil)) .nil) (.cons (.ret (.call 30 (.cons (.v 1) (.cons (.v 2) .nil)) .nil [])) .nil))))) [.own (.lst l), .emp, .emp, .emp, .emp]) = .ok (.d (pr2 p)) [some (.lst l')] → Ev.finish [.own (.lst l)] (exs pr (run pr defs (m + 2)) 1 d__law_couple.body (startEnv d__law_couple [.own (.lst l)])) = .ok (.d (pr2 p)) [some (.lst l')] := fun _ _ h => h
  by_cases z : w = 0 ∨ v = 0
  · refine ⟨(u, v), l3, Nat.lt_of_lt_of_le hu big, Nat.lt_of_lt_of_le hv big, k3, S _ _ ?_⟩
    show _ = CallOut.ok (.d (.tuple [.int u, .int v])) _
    obtain ⟨T, hT⟩ : ∃ T : FT, T = run pr defs (m + 2) := ⟨_, rfl⟩
    rw [← hT] at c1 c2 c3 ⊢
    by_cases z0 : w = 0
    · rw [decide_eq_true z0] at e0
      simp [c1, c2, c3, e0, exs, ex, ev, evs, items, startEnv, argSlot, Out.bind, Out.no, lift, view, viewAll, gt, capt, captAll, put, putAll, assignTg, isOwn, asB, boolOf, Ev.finish, fins, finOf, moveOut, callF, mkArgs, mkArg, lent, back, nodupB, permute, parPl, putQ, asgT, setAt]
    · rw [decide_eq_false z0] at e0
      rw [decide_eq_true (z.resolve_left z0)] at e1
      simp [c1, c2, c3, e0, e1, exs, ex, ev, evs, items, startEnv, argSlot, Out.bind, Out.no, lift, view, viewAll, gt, capt, captAll, put, putAll, assignTg, isOwn, asB, boolOf, Ev.finish, fins, finOf, moveOut, callF, mkArgs, mkArg, lent, back, nodupB, permute, parPl, putQ, asgT, setAt]
  · obtain ⟨z0, z1⟩ := not_or.mp z
    rw [decide_eq_false z0] at e0
    rw [decide_eq_false z1] at e1
    by_cases y : w = 1
    · rw [decide_eq_true y] at e2
      have mm1 := op_mul' (mulOk_of (i := u) (j := 2 + o) (a := 280) (b := 10) hu (by omega) (by decide))
      have mm2 := op_mul' (mulOk_of (i := if v < 0 then -v else v) (j := 2 + o) (a := 280) (b := 10) (by split <;> (try rw [Int.natAbs_neg]) <;> exact hv) (by omega) (by decide))
      have ab : bltD .abs [.int v] = some (.d (.int (if v < 0 then -v else v))) := rfl
      have av : (if v < 0 then -v else v).natAbs < 2 ^ 280 := by split <;> (try rw [Int.natAbs_neg]) <;> exact hv
      have x1 : (u * (2 + o)).natAbs < 2 ^ 290 := mul_lt (k := 280) (l := 10) hu (by omega)
      have x2 : ((if v < 0 then -v else v) * (2 + o)).natAbs < 2 ^ 290 := mul_lt (k := 280) (l := 10) av (by omega)
      refine ⟨(u * (2 + o), (if v < 0 then -v else v) * (2 + o)), l4, x1, x2, k4, S _ _ ?_⟩
      show _ = CallOut.ok (.d (.tuple [.int (u * (2 + o)), .int ((if v < 0 then -v else v) * (2 + o))])) _
      generalize (if v < 0 then -v else v) = va at mm2 ab ⊢
      obtain ⟨T, hT⟩ : ∃ T : FT, T = run pr defs (m + 2) := ⟨_, rfl⟩
      rw [← hT] at c1 c2 c3 c4 ⊢
      simp [c1, c2, c3, c4, e0, e1, e2, op_add', mm1, mm2, ab, exs, ex, ev, evs, items, startEnv, argSlot, Out.bind, Out.no, lift, view, viewAll, gt, capt, captAll, put, putAll, assignTg, isOwn, asB, boolOf, Ev.finish, fins, finOf, moveOut, callF, mkArgs, mkArg, lent, back, nodupB, permute, parPl, putQ, asgT, setAt]
    · rw [decide_eq_false y] at e2
      have c5 := lpairS_ok pr m u v z1 (Nat.lt_of_lt_of_le hv (Nat.pow_le_pow_right (by decide) (by decide))) hf
      have sm := nrmS_sm hu z1 hv
      refine ⟨nrmS u v, l3, Nat.lt_of_lt_of_le sm.1 big, Nat.lt_of_lt_of_le sm.2.2 big, k3, S _ _ ?_⟩
      generalize pr2 (nrmS u v) = q at c5 ⊢
      obtain ⟨T, hT⟩ : ∃ T : FT, T = run pr defs (m + 2) := ⟨_, rfl⟩
      rw [← hT] at c1 c2 c3 c5 ⊢
      simp [c1, c2, c3, c5, e0, e1, e2, exs, ex, ev, evs, items, startEnv, argSlot, Out.bind, Out.no, lift, view, viewAll, gt, capt, captAll, put, putAll, assignTg, isOwn, asB, boolOf, Ev.finish, fins, finOf, moveOut, callF, mkArgs, mkArg, lent, back, nodupB, permute, parPl, putQ, asgT, setAt]
theorem own_ok (pr : EProg) (m : Nat) (hf : 2 ^ 4000 ≤ pr.fuel) (l : List D) (hl : DeckOk l) : ∃ (c : Q2) (l' : List D), Sm 281 c ∧ okN c = true ∧ DeckOk l' ∧ run pr defs (m + 3) 37 [.own (.lst l)] = .ok (.d (pr2 c)) [some (.lst l')] := by
  rw [run_at (d := d__law_own) rfl ⟨rfl, by decide⟩]
  obtain ⟨u, l1, hu, k1, c1⟩ := integer_ok pr m l hl
  obtain ⟨v, l2, hv, k2, c2⟩ := integer_ok pr m l1 k1
  have e1 := eq_int (i := v) (j := 0)
  have big : (2 : Nat) ^ 281 = 2 * 2 ^ 280 := by rw [Nat.pow_succ, Nat.mul_comm]
  have i1 : bltD .int [.bool true] = some (.d (.int 1)) := rfl
  have i0 : bltD .int [.bool false] = some (.d (.int 0)) := rfl
  have p0 : 0 < (2 : Nat) ^ 280 := Nat.pow_pos (by decide)
  obtain ⟨d, d0, dl, dv⟩ : ∃ d : Int, v + d ≠ 0 ∧ (v + d).natAbs < 2 ^ 281 ∧ bltD .int [.bool (decide (v = 0))] = some (.d (.int d)) := by
    rw [big]
    by_cases z : v = 0
    · rw [decide_eq_true z]
      exact ⟨1, by omega, by omega, i1⟩
    · rw [decide_eq_false z]
      exact ⟨0, by omega, by omega, i0⟩
  have hu2 : u.natAbs < 2 ^ 281 := by rw [big]; omega
  have c5 := lpairS_ok pr m u (v + d) d0 (Nat.lt_of_lt_of_le dl (Nat.pow_le_pow_right (by decide) (by decide))) hf
  refine ⟨nrmS u (v + d), l2, nrmS_sm hu2 d0 dl, nrmS_okN d0, k2, ?_⟩
  show Ev.finish _ (exs pr (run pr defs (m + 2)) 1 (.cons (.par [1, 2] [false, false] (.cons (.call 35 (.cons (.v 0) .nil) .nil []) (.cons (.call 35 (.cons (.v 0) .nil) .nil []) .nil))) (.cons (.ret (.call 30 (.cons (.v 1) (.cons (.cap (.bin .add (.v 2) (.blt .int (.cons (.cmp .eq (.v 2) (.lit (.int 0))) .nil)))) .nil)) .nil [])) .nil)) [.own (.lst l), .emp, .emp]) = _
  generalize decide (v = 0) = b at e1 dv
  generalize pr2 (nrmS u (v + d)) = q at c5 ⊢
  have ad : opD .add (.int v) (.int d) = some (.d (.int (v + d))) := op_add'
  generalize v + d = vd at c5 ad
  obtain ⟨T, hT⟩ : ∃ T : FT, T = run pr defs (m + 2) := ⟨_, rfl⟩
  rw [← hT] at c1 c2 c5 ⊢
  simp [c1, c2, c5, e1, dv, ad, exs, ex, ev, evs, items, startEnv, argSlot, Out.bind, Out.no, lift, view, viewAll, gt, capt, captAll, put, putAll, assignTg, isOwn, asB, boolOf, Ev.finish, fins, finOf, moveOut, callF, mkArgs, mkArg, lent, back, nodupB, permute, parPl, putQ, asgT, setAt]
theorem small_ok (pr : EProg) (m : Nat) (hf : 2 ^ 4000 ≤ pr.fuel) (l : List D) (hl : DeckOk l) : ∃ (c : Q2) (l' : List D), Sm 5 c ∧ okN c = true ∧ DeckOk l' ∧ run pr defs (m + 3) 38 [.own (.lst l)] = .ok (.d (pr2 c)) [some (.lst l')] := by
  rw [run_at (d := d__law_small) rfl ⟨rfl, by decide⟩]
  obtain ⟨u, l1, u0, u1, k1, c1⟩ := take_ok pr (m + 1) l 21 hl (by decide) (by decide)
  obtain ⟨v, l2, v0, v1, k2, c2⟩ := take_ok pr (m + 1) l1 6 k1 (by decide) (by decide)
  have c5 := lpairS_ok pr m (u - 10) (1 + v) (by omega) (Nat.lt_of_lt_of_le (show (1 + v).natAbs < 2 ^ 5 by omega) (Nat.pow_le_pow_right (by decide) (by decide))) hf
  refine ⟨nrmS (u - 10) (1 + v), l2, nrmS_sm (by omega) (by omega) (by omega), nrmS_okN (by omega), k2, ?_⟩
  show Ev.finish _ (exs pr (run pr defs (m + 2)) 1 (.cons (.ret (.call 30 (.cons (.cap (.bin .sub (.call 28 (.cons (.v 0) (.cons (.lit (.int 21)) .nil)) .nil []) (.lit (.int 10)))) (.cons (.cap (.bin .add (.lit (.int 1)) (.call 28 (.cons (.v 0) (.cons (.lit (.int 6)) .nil)) .nil []))) .nil)) .nil [])) .nil) [.own (.lst l)]) = _
  generalize pr2 (nrmS (u - 10) (1 + v)) = q at c5 ⊢
  obtain ⟨T, hT⟩ : ∃ T : FT, T = run pr defs (m + 2) := ⟨_, rfl⟩
  rw [← hT] at c1 c2 c5 ⊢
  simp [c1, c2, c5, op_sub', op_add', exs, ex, ev, evs, items, startEnv, argSlot, Out.bind, Out.no, lift, view, viewAll, gt, capt, captAll, put, putAll, assignTg, isOwn, asB, boolOf, Ev.finish, fins, finOf, moveOut, callF, mkArgs, mkArg, lent, back, nodupB, permute, parPl, putQ, asgT, setAt]
theorem is_ok (pr : EProg) (m : Nat) (hf : 2 ^ 4000 ≤ pr.fuel) (p : Q2) (h : p.2.natAbs < 2 ^ 3900) : run pr defs (m + 2) 39 [.d (pr2 p)] = .ok (.d (.bool (okN p))) [none] := by
  obtain ⟨a, b⟩ := p
  rw [run_at (d := d__law_is) rfl ⟨rfl, by decide⟩]
  have g0 := gt_int' (i := b) (j := 0)
  have x1 : ixD (pr2 (a, b)) (.int 0) = some (.int a) := rfl
  have x2 : ixD (pr2 (a, b)) (.int 1) = some (.int b) := rfl
  show Ev.finish _ (exs pr (run pr defs (m + 1)) 1 (.cons (.ret (.and (.cmp .gt (.ix (.v 0) (.lit (.int 1))) (.lit (.int 0))) (.cmp .eq (.call 29 (.cons (.cap (.blt .abs (.cons (.ix (.v 0) (.lit (.int 0))) .nil))) (.cons (.cap (.ix (.v 0) (.lit (.int 1)))) .nil)) .nil []) (.lit (.int 1))))) .nil) [.val (pr2 (a, b))]) = _
  by_cases z : 0 < b
  · rw [decide_eq_true z] at g0
    have lt : b.natAbs < pr.fuel := Nat.lt_of_lt_of_le h (Nat.le_trans (Nat.pow_le_pow_right (by decide) (by decide)) hf)
    have g := gcd_ok pr m a.natAbs b.natAbs lt
    have ab : bltD .abs [.int a] = some (.d (.int (a.natAbs : Int))) := by
      show some (Rs.d (.int (if a < 0 then -a else a))) = _
      have : (if a < 0 then -a else a) = (a.natAbs : Int) := by split <;> omega
      rw [this]
    rw [show ((b.natAbs : Nat) : Int) = b by omega] at g
    have e0 := eq_int (i := (Nat.gcd a.natAbs b.natAbs : Nat)) (j := 1)
    have ek : okN (a, b) = decide (((Nat.gcd a.natAbs b.natAbs : Nat) : Int) = 1) := by
      unfold okN
      show (decide (1 ≤ b) && decide (Nat.gcd a.natAbs b.natAbs = 1)) = _
      rw [decide_eq_true (by omega : 1 ≤ b), Bool.true_and]
      by_cases y : Nat.gcd a.natAbs b.natAbs = 1
      · rw [decide_eq_true y, decide_eq_true (by omega)]
      · rw [decide_eq_false y, decide_eq_false (by omega)]
    rw [ek]
    generalize decide (((Nat.gcd a.natAbs b.natAbs : Nat) : Int) = 1) = k at e0 ⊢
    generalize ((Nat.gcd a.natAbs b.natAbs : Nat) : Int) = gg at g e0
    generalize (a.natAbs : Int) = aa at g ab
    generalize pr2 (a, b) = x at x1 x2 ⊢
    obtain ⟨T, hT⟩ : ∃ T : FT, T = run pr defs (m + 1) := ⟨_, rfl⟩
    rw [← hT] at g ⊢
    simp [g, g0, x1, x2, ab, e0, exs, ex, ev, evs, items, startEnv, argSlot, Out.bind, Out.no, lift, view, viewAll, gt, capt, captAll, put, putAll, assignTg, isOwn, asB, boolOf, Ev.finish, fins, finOf, moveOut, callF, mkArgs, mkArg, lent, back, nodupB, permute, parPl, putQ, asgT, setAt]
  · rw [decide_eq_false z] at g0
    have ek : okN (a, b) = false := by
      unfold okN
      show (decide (1 ≤ b) && _) = _
      rw [decide_eq_false (by omega : ¬ 1 ≤ b)]
      rfl
    rw [ek]
    generalize pr2 (a, b) = x at x1 x2 ⊢
    generalize run pr defs (m + 1) = T
    simp [g0, x1, x2, exs, ex, ev, evs, items, startEnv, argSlot, Out.bind, Out.no, lift, view, viewAll, gt, capt, captAll, put, putAll, assignTg, isOwn, asB, boolOf, Ev.finish, fins, finOf, moveOut, callF, mkArgs, mkArg, lent, back, nodupB, permute, parPl, putQ, asgT, setAt]
end K01
end
section
set_option linter.all false
set_option maxRecDepth 100000
set_option maxHeartbeats 4000000
/-! sums, orders and powers told right -/
namespace K01
open PySem Ev
theorem mul2' {x : D} : opD .mul (.list [x]) (.int 2) = some (.fresh (.lst [x, x])) := rfl
theorem cat21 {x y z : D} : opD .add (.list [x, y]) (.list [z]) = some (.fresh (.lst [x, y, z])) := by
  show (if 2 + 1 ≤ lim then some (Rs.fresh (.lst [x, y, z])) else none) = _
  rw [if_pos (by decide)]
theorem okS_pq (c : Q2) : okS (pr2 c) = true := rfl
theorem dp_pq (c : Q2) : PyData.depth (pr2 c) = 1 := rfl
theorem same2 (pr : EProg) (m : Nat) (a b : D) (ha : okS a = true) (hb : okS b = true) (da : PyData.depth a ≤ 4) (db : PyData.depth b ≤ 4) : run pr defs (m + 6) 34 [.d (.list [a, b]), .d (.list [a, b])] = .ok (.d (.bool true)) [none, none] :=
  same_ok pr (m + 5) (.list [a, b]) (by
    show max (PyData.depth a) (max (PyData.depth b) 0) + 1 ≤ m + 5
    omega) (by
    show (okS a && (okS b && true)) && decide (2 ≤ 1000) = true
    rw [ha, hb]
    rfl)
theorem same3 (pr : EProg) (m : Nat) (a b c : D) (ha : okS a = true) (hb : okS b = true) (hc : okS c = true) (da : PyData.depth a ≤ 4) (db : PyData.depth b ≤ 4) (dc : PyData.depth c ≤ 4) : run pr defs (m + 6) 34 [.d (.list [a, b, c]), .d (.list [a, b, c])] = .ok (.d (.bool true)) [none, none] :=
  same_ok pr (m + 5) (.list [a, b, c]) (by
    show max (PyData.depth a) (max (PyData.depth b) (max (PyData.depth c) 0)) + 1 ≤ m + 5
    omega) (by
    show (okS a && (okS b && (okS c && true))) && decide (3 ≤ 1000) = true
    rw [ha, hb, hc]
    rfl)
theorem sameq (pr : EProg) (m : Nat) (c d : Q2) : run pr defs (m + 6) 34 [.d (.list [pr2 c, pr2 d]), .d (.list [pr2 c, pr2 d])] = .ok (.d (.bool true)) [none, none] := same2 pr m _ _ rfl rfl (by rw [dp_pq]; omega) (by rw [dp_pq]; omega)
theorem two_ok (pr : EProg) (m : Nat) (hp : pr.globs = globs) (hf : 2 ^ 4000 ≤ pr.fuel) (u v : Q2) {k : Nat} (hu : Sm k u) (hv : Sm k v) (ou : okN u = true) (ov : okN v = true) (hk : k < 1900) : run pr defs (m + 10) 41 [.d (pr2 u), .d (pr2 v)] = .ok (.d (.bool true)) [none, none] := by
  rw [run_at (d := d__law_two_right) rfl ⟨rfl, by decide⟩]
  have nv := negN_sm hv
  have E0 : ex pr (run pr defs (m + 9)) 2 (.asg 2 (.tup (.cons (.neg (.ix (.v 1) (.lit (.int 0)))) (.cons (.ix (.v 1) (.lit (.int 1))) .nil)))) [.val (pr2 u), .val (pr2 v), .emp] = .ok .next [.val (pr2 u), .val (pr2 v), .val (pr2 (negN v))] := by
    have x1 : ixD (pr2 v) (.int 0) = some (.int v.1) := rfl
    have x2 : ixD (pr2 v) (.int 1) = some (.int v.2) := rfl
    show _ = Out.ok EFlow.next [.val (pr2 u), .val (pr2 v), .val (.tuple [.int (-v.1), .int v.2])]
    generalize pr2 v = y at x1 x2 ⊢
    generalize pr2 u = x
    generalize run pr defs (m + 9) = T
    simp [x1, x2, exs, ex, ev, evs, items, startEnv, argSlot, Out.bind, Out.no, lift, view, viewAll, gt, capt, captAll, put, putAll, assignTg, isOwn, asB, boolOf, Ev.finish, fins, finOf, moveOut, callF, mkArgs, mkArg, lent, back, nodupB, permute, parPl, putQ, asgT, setAt]
  have E1 : ex pr (run pr defs (m + 9)) 2 (.ite (.nt (.call 34 (.cons (.cap (.lst (.cons (.call 14 (.cons (.v 0) (.cons (.v 1) .nil)) .nil []) (.cons (.call 14 .nil (.cons (.v 1) (.cons (.v 0) .nil)) [1, 0]) .nil)))) (.cons (.cap (.bin .mul (.lst (.cons (.call 31 (.cons (.v 0) (.cons (.v 1) .nil)) .nil []) .nil)) (.lit (.int 2)))) .nil)) .nil [])) (.cons (.ret (.lit (.bool false))) .nil) .nil) [.val (pr2 u), .val (pr2 v), .val (pr2 (negN v))] = .ok .next [.val (pr2 u), .val (pr2 v), .val (pr2 (negN v))] := by
    have c1 := plus_ok pr (m + 5) u v hu hv ou ov (by omega)
    have c2 := lplus_ok pr (m + 6) u v hu hv (by omega) hf
    have c3 := sameq pr (m + 3) (plusN u v) (plusN u v)
    have m2 := mul2' (x := pr2 (plusN u v))
    generalize pr2 (negN v) = z
    generalize pr2 (plusN u v) = q at c1 c2 c3 m2
    generalize pr2 u = x at c1 c2 ⊢
    generalize pr2 v = y at c1 c2 ⊢
    obtain ⟨T, hT⟩ : ∃ T : FT, T = run pr defs (m + 9) := ⟨_, rfl⟩
    rw [← hT] at c1 c2 c3 ⊢
    simp [c1, c2, c3, m2, exs, ex, ev, evs, items, startEnv, argSlot, Out.bind, Out.no, lift, view, viewAll, gt, capt, captAll, put, putAll, assignTg, isOwn, asB, boolOf, Ev.finish, fins, finOf, moveOut, callF, mkArgs, mkArg, lent, back, nodupB, permute, parPl, putQ, asgT, setAt]
  have E2 : ex pr (run pr defs (m + 9)) 2 (.ite (.nt (.call 34 (.cons (.cap (.lst (.cons (.call 15 (.cons (.v 0) (.cons (.v 1) .nil)) .nil []) (.cons (.call 15 .nil (.cons (.v 1) (.cons (.v 0) .nil)) [1, 0]) .nil)))) (.cons (.cap (.bin .mul (.lst (.cons (.call 31 (.cons (.v 0) (.cons (.v 2) .nil)) .nil []) .nil)) (.lit (.int 2)))) .nil)) .nil [])) (.cons (.ret (.lit (.bool false))) .nil) .nil) [.val (pr2 u), .val (pr2 v), .val (pr2 (negN v))] = .ok .next [.val (pr2 u), .val (pr2 v), .val (pr2 (negN v))] := by
    have c1 := minus_ok pr (m + 5) u v hu hv ou ov (by omega)
    have c2 := lplus_ok pr (m + 6) u (negN v) hu nv (by omega) hf
    have c3 := sameq pr (m + 3) (plusN u (negN v)) (plusN u (negN v))
    have m2 := mul2' (x := pr2 (plusN u (negN v)))
    generalize pr2 (plusN u (negN v)) = q at c1 c2 c3 m2
    generalize pr2 (negN v) = z at c2 ⊢
    generalize pr2 u = x at c1 c2 ⊢
    generalize pr2 v = y at c1 ⊢
    obtain ⟨T, hT⟩ : ∃ T : FT, T = run pr defs (m + 9) := ⟨_, rfl⟩
    rw [← hT] at c1 c2 c3 ⊢
    simp [c1, c2, c3, m2, exs, ex, ev, evs, items, startEnv, argSlot, Out.bind, Out.no, lift, view, viewAll, gt, capt, captAll, put, putAll, assignTg, isOwn, asB, boolOf, Ev.finish, fins, finOf, moveOut, callF, mkArgs, mkArg, lent, back, nodupB, permute, parPl, putQ, asgT, setAt]
  have E3 : ex pr (run pr defs (m + 9)) 2 (.ite (.nt (.call 34 (.cons (.cap (.lst (.cons (.call 16 (.cons (.v 0) (.cons (.v 1) .nil)) .nil []) (.cons (.call 16 .nil (.cons (.v 1) (.cons (.v 0) .nil)) [1, 0]) .nil)))) (.cons (.cap (.bin .mul (.lst (.cons (.call 32 (.cons (.v 0) (.cons (.v 1) .nil)) .nil []) .nil)) (.lit (.int 2)))) .nil)) .nil [])) (.cons (.ret (.lit (.bool false))) .nil) .nil) [.val (pr2 u), .val (pr2 v), .val (pr2 (negN v))] = .ok .next [.val (pr2 u), .val (pr2 v), .val (pr2 (negN v))] := by
    have c1 := times_ok pr (m + 5) u v hu hv ou ov (by omega)
    have c2 : run pr defs (m + 9) 32 [.d (pr2 u), .d (pr2 v)] = .ok (.d (pr2 (mulN u v))) [none, none] := ltimes_ok pr (m + 6) u v hu hv (by omega) hf
    have c3 := sameq pr (m + 3) (mulN u v) (mulN u v)
    have m2 := mul2' (x := pr2 (mulN u v))
    generalize pr2 (negN v) = z
    generalize pr2 (mulN u v) = q at c1 c2 c3 m2
    generalize pr2 u = x at c1 c2 ⊢
    generalize pr2 v = y at c1 c2 ⊢
    obtain ⟨T, hT⟩ : ∃ T : FT, T = run pr defs (m + 9) := ⟨_, rfl⟩
    rw [← hT] at c1 c2 c3 ⊢
    simp [c1, c2, c3, m2, exs, ex, ev, evs, items, startEnv, argSlot, Out.bind, Out.no, lift, view, viewAll, gt, capt, captAll, put, putAll, assignTg, isOwn, asB, boolOf, Ev.finish, fins, finOf, moveOut, callF, mkArgs, mkArg, lent, back, nodupB, permute, parPl, putQ, asgT, setAt]
  have E4 : ex pr (run pr defs (m + 9)) 2 (.ite (.and (.cmp .ne (.ix (.v 1) (.lit (.int 0))) (.lit (.int 0))) (.nt (.call 34 (.cons (.cap (.lst (.cons (.call 17 (.cons (.v 0) (.cons (.v 1) .nil)) .nil []) (.cons (.call 17 .nil (.cons (.v 1) (.cons (.v 0) .nil)) [1, 0]) .nil)))) (.cons (.cap (.bin .mul (.lst (.cons (.call 30 (.cons (.cap (.bin .mul (.ix (.v 0) (.lit (.int 0))) (.ix (.v 1) (.lit (.int 1))))) (.cons (.cap (.bin .mul (.ix (.v 0) (.lit (.int 1))) (.ix (.v 1) (.lit (.int 0))))) .nil)) .nil []) .nil)) (.lit (.int 2)))) .nil)) .nil []))) (.cons (.ret (.lit (.bool false))) .nil) .nil) [.val (pr2 u), .val (pr2 v), .val (pr2 (negN v))] = .ok .next [.val (pr2 u), .val (pr2 v), .val (pr2 (negN v))] := by
    have x1 : ixD (pr2 v) (.int 0) = some (.int v.1) := rfl
    have x2 : ixD (pr2 v) (.int 1) = some (.int v.2) := rfl
    have x3 : ixD (pr2 u) (.int 0) = some (.int u.1) := rfl
    have x4 : ixD (pr2 u) (.int 1) = some (.int u.2) := rfl
    have n0 := ne_int (i := v.1) (j := 0)
    by_cases z : v.1 = 0
    · rw [decide_eq_true z] at n0
      generalize pr2 (negN v) = z
      generalize pr2 v = y at x1 ⊢
      generalize pr2 u = x
      generalize run pr defs (m + 9) = T
      simp [x1, n0, exs, ex, ev, evs, items, startEnv, argSlot, Out.bind, Out.no, lift, view, viewAll, gt, capt, captAll, put, putAll, assignTg, isOwn, asB, boolOf, Ev.finish, fins, finOf, moveOut, callF, mkArgs, mkArg, lent, back, nodupB, permute, parPl, putQ, asgT, setAt]
    · rw [decide_eq_false z] at n0
      have c1 := by_ok pr (m + 5) hp u v hu hv ou ov z (by omega)
      have nz : u.2 * v.1 ≠ 0 := Int.mul_ne_zero (by have := hu.2.1; omega) z
      have lt : (u.2 * v.1).natAbs < 2 ^ 3900 := Nat.lt_of_lt_of_le (mul_lt hu.2.2 hv.1) (Nat.pow_le_pow_right (by decide) (by omega))
      have c2 : run pr defs (m + 9) 30 [.d (.int (u.1 * v.2)), .d (.int (u.2 * v.1))] = .ok (.d (pr2 (quoS u v))) [none, none] := lpairS_ok pr (m + 7) (u.1 * v.2) (u.2 * v.1) nz lt hf
      have c3 := sameq pr (m + 3) (quoS u v) (quoS u v)
      have m2 := mul2' (x := pr2 (quoS u v))
      have o1 := op_mul' (mulOk_of (i := u.1) (j := v.2) hu.1 hv.2.2 (by omega))
      have o2 := op_mul' (mulOk_of (i := u.2) (j := v.1) hu.2.2 hv.1 (by omega))
      generalize pr2 (negN v) = z
      generalize pr2 (quoS u v) = q at c1 c2 c3 m2
      generalize pr2 u = x at c1 x3 x4 ⊢
      generalize pr2 v = y at c1 x1 x2 ⊢
      generalize u.1 * v.2 = a1 at c2 o1
      generalize u.2 * v.1 = a2 at c2 o2
      obtain ⟨T, hT⟩ : ∃ T : FT, T = run pr defs (m + 9) := ⟨_, rfl⟩
      rw [← hT] at c1 c2 c3 ⊢
      simp [c1, c2, c3, m2, x1, x2, x3, x4, n0, o1, o2, exs, ex, ev, evs, items, startEnv, argSlot, Out.bind, Out.no, lift, view, viewAll, gt, capt, captAll, put, putAll, assignTg, isOwn, asB, boolOf, Ev.finish, fins, finOf, moveOut, callF, mkArgs, mkArg, lent, back, nodupB, permute, parPl, putQ, asgT, setAt]
  have E5 : ev pr (run pr defs (m + 9)) 2 (.call 34 (.cons (.cap (.lst (.cons (.call 20 (.cons (.v 0) (.cons (.v 1) .nil)) .nil []) (.cons (.call 20 .nil (.cons (.v 1) (.cons (.v 0) .nil)) [1, 0]) (.cons (.call 20 (.cons (.v 0) (.cons (.v 0) .nil)) .nil []) .nil))))) (.cons (.cap (.bin .add (.bin .mul (.lst (.cons (.call 33 (.cons (.v 0) (.cons (.v 1) .nil)) .nil []) .nil)) (.lit (.int 2))) (.lst (.cons (.lit (.bool false)) .nil)))) .nil)) .nil []) [.val (pr2 u), .val (pr2 v), .val (pr2 (negN v))] = .ok (.d (.bool true)) [.val (pr2 u), .val (pr2 v), .val (pr2 (negN v))] := by
    have c1 := below_ok pr (m + 5) u v hu hv ou ov (by omega)
    have c4 := below_ok pr (m + 5) u u hu hu ou ou (by omega)
    rw [lt_irr] at c4
    have c2 := lless_ok pr (m + 8) u v hu hv (by omega)
    have c3 := same3 pr (m + 3) (.bool (ltN u v)) (.bool (ltN u v)) (.bool false) rfl rfl rfl (Nat.zero_le _) (Nat.zero_le _) (Nat.zero_le _)
    have m2 := mul2' (x := .bool (ltN u v))
    have m3 := cat21 (x := .bool (ltN u v)) (y := .bool (ltN u v)) (z := .bool false)
    generalize pr2 (negN v) = z
    generalize ltN u v = b at c1 c2 c3 m2 m3
    generalize PyData.bool b = q at c1 c2 c3 m2 m3
    generalize pr2 u = x at c1 c2 c4 ⊢
    generalize pr2 v = y at c1 c2 ⊢
    obtain ⟨T, hT⟩ : ∃ T : FT, T = run pr defs (m + 9) := ⟨_, rfl⟩
    rw [← hT] at c1 c2 c3 c4 ⊢
    simp [c1, c2, c3, c4, m2, m3, exs, ex, ev, evs, items, startEnv, argSlot, Out.bind, Out.no, lift, view, viewAll, gt, capt, captAll, put, putAll, assignTg, isOwn, asB, boolOf, Ev.finish, fins, finOf, moveOut, callF, mkArgs, mkArg, lent, back, nodupB, permute, parPl, putQ, asgT, setAt]
  show Ev.finish _ (exs pr (run pr defs (m + 9)) 2 (.cons (.asg 2 (.tup (.cons (.neg (.ix (.v 1) (.lit (.int 0)))) (.cons (.ix (.v 1) (.lit (.int 1))) .nil)))) (.cons (.ite (.nt (.call 34 (.cons (.cap (.lst (.cons (.call 14 (.cons (.v 0) (.cons (.v 1) .nil)) .nil []) (.cons (.call 14 .nil (.cons (.v 1) (.cons (.v 0) .nil)) [1, 0]) .nil)))) (.cons (.cap (.bin .mul (.lst (.cons (.call 31 (.cons (.v 0) (.cons (.v 1) .nil)) .nil []) .nil)) (.lit (.int 2)))) .nil)) .nil [])) (.cons (.ret (.lit (.bool false))) .nil) .nil) (.cons (.ite (.nt (.call 34 (.cons (.cap (.lst (.cons (.call 15 (.cons (.v 0) (.cons (.v 1) .nil)) .nil []) (.cons (.call 15 .nil (.cons (.v 1) (.cons (.v 0) .nil)) [1, 0]) .nil)))) (.cons (.cap (.bin .mul (.lst (.cons (.call 31 (.cons (.v 0) (.cons (.v 2) .nil)) .nil []) .nil)) (.lit (.int 2)))) .nil)) .nil [])) (.cons (.ret (.lit (.bool false))) .nil) .nil) (.cons (.ite (.nt (.call 34 (.cons (.cap (.lst (.cons (.call 16 (.cons (.v 0) (.cons (.v 1) .nil)) .nil []) (.cons (.call 16 .nil (.cons (.v 1) (.cons (.v 0) .nil)) [1, 0]) .nil)))) (.cons (.cap (.bin .mul (.lst (.cons (.call 32 (.cons (.v 0) (.cons (.v 1) .nil)) .nil []) .nil)) (.lit (.int 2)))) .nil)) .nil [])) (.cons (.ret (.lit (.bool false))) .nil) .nil) (.cons (.ite (.and (.cmp .ne (.ix (.v 1) (.lit (.int 0))) (.lit (.int 0))) (.nt (.call 34 (.cons (.cap (.lst (.cons (.call 17 (.cons (.v 0) (.cons (.v 1) .nil)) .nil []) (.cons (.call 17 .nil (.cons (.v 1) (.cons (.v 0) .nil)) [1, 0]) .nil)))) (.cons (.cap (.bin .mul (.lst (.cons (.call 30 (.cons (.cap (.bin .mul (.ix (.v 0) (.lit (.int 0))) (.ix (.v 1) (.lit (.int 1))))) (.cons (.cap (.bin .mul (.ix (.v 0) (.lit (.int 1))) (.ix (.v 1) (.lit (.int 0))))) .nil)) .nil []) .nil)) (.lit (.int 2)))) .nil)) .nil []))) (.cons (.ret (.lit (.bool false))) .nil) .nil) (.cons (.ret (.call 34 (.cons (.cap (.lst (.cons (.call 20 (.cons (.v 0) (.cons (.v 1) .nil)) .nil []) (.cons (.call 20 .nil (.cons (.v 1) (.cons (.v 0) .nil)) [1, 0]) (.cons (.call 20 (.cons (.v 0) (.cons (.v 0) .nil)) .nil []) .nil))))) (.cons (.cap (.bin .add (.bin .mul (.lst (.cons (.call 33 (.cons (.v 0) (.cons (.v 1) .nil)) .nil []) .nil)) (.lit (.int 2))) (.lst (.cons (.lit (.bool false)) .nil)))) .nil)) .nil [])) .nil)))))) [.val (pr2 u), .val (pr2 v), .emp]) = _
  rw [exs_ok E0, exs_ok E1, exs_ok E2, exs_ok E3, exs_ok E4, exs_ret E5 rfl]
  rfl
theorem powr_ok (pr : EProg) (m : Nat) (hp : pr.globs = globs) (hf : 2 ^ 4000 ≤ pr.fuel) (u : Q2) (n : Nat) {k : Nat} (hu : Sm k u) (ou : okN u = true) (hk : 1 + k * n < 1900) (hk2 : k < 1900) (hn : n ≤ 100) : run pr defs (m + 10) 42 [.d (pr2 u), .d (.int n)] = .ok (.d (.bool true)) [none, none] := by
  rw [run_at (d := d__law_power_right) rfl ⟨rfl, by decide⟩]
  have S0 : ex pr (run pr defs (m + 9)) 2 (.asg 2 (.tup (.cons (.lit (.int 1)) (.cons (.lit (.int 1)) .nil)))) [.val (pr2 u), .val (.int n), .emp, .emp] = .ok .next [.val (pr2 u), .val (.int n), .val (pr2 (1, 1)), .emp] := ex_asg (d := pr2 (1, 1)) rfl rfl (put_loc rfl rfl)
  obtain ⟨e', h1, y, rfl⟩ := for_inv (np := 2) (tg := .v 3) (body := fun e => exs pr (run pr defs (m + 9)) 2 (.cons (.asg 2 (.call 32 (.cons (.v 2) (.cons (.v 0) .nil)) .nil [])) .nil) e) (xs := (List.range n).map fun (j : Nat) => PyData.int j) (e := [.val (pr2 u), .val (.int n), .val (pr2 (1, 1)), .emp])
    (fun j e => ∃ y, e = [.val (pr2 u), .val (.int n), .val (pr2 (powN u j)), y]) ⟨_, rfl⟩ (fun j e x hx ⟨y, he⟩ => by
      subst he
      have hj : j < n := by
        have := (List.getElem?_eq_some_iff.mp hx).1
        simpa using this
      have b : j * k ≤ k * n := by rw [Nat.mul_comm]; exact Nat.mul_le_mul_left _ (by omega)
      have c1 : run pr defs (m + 9) 32 [.d (pr2 (powN u j)), .d (pr2 u)] = .ok (.d (pr2 (powN u (j + 1)))) [none, none] := ltimes_ok pr (m + 6) (powN u j) u (powN_sm hu j) hu (by omega) hf
      refine ⟨[.val (pr2 u), .val (.int n), .val (pr2 (powN u j)), .val x], [.val (pr2 u), .val (.int n), .val (pr2 (powN u (j + 1))), .val x], put_loc (i := 3) rfl rfl, ?_, .val x, rfl⟩
      exact exs_ok (r := .nil) (ex_asg (d := pr2 (powN u (j + 1))) (ev_call (rs := [.d (pr2 (powN u j)), .d (pr2 u)]) rfl rfl rfl rfl rfl c1 rfl) rfl (put_loc rfl rfl)))
  rw [List.length_map, List.length_range] at h1
  have hit : items pr (run pr defs (m + 9)) 2 (.r1 (.v 1)) [.val (pr2 u), .val (.int n), .val (pr2 (1, 1)), .emp] = .ok ((List.range n).map fun (j : Nat) => PyData.int j) [.val (pr2 u), .val (.int n), .val (pr2 (1, 1)), .emp] := by
    exact r1_ev (by omega) rfl
  have S1 := ex_for (tg := .v 3) hit h1
  have c1 := power_ok pr (m + 5) hp u n ou hu (by omega) (by omega) (Nat.lt_of_lt_of_le (Nat.lt_of_le_of_lt hn (by decide : 100 < 2 ^ 10)) (Nat.le_trans (Nat.pow_le_pow_right (by decide) (by decide)) hf))
  have c3 := sameq pr (m + 3) (powN u n) (powN u n)
  have S2 : ev pr (run pr defs (m + 9)) 2 (.call 34 (.cons (.cap (.lst (.cons (.call 19 (.cons (.v 0) (.cons (.v 1) .nil)) .nil []) (.cons (.call 19 .nil (.cons (.v 1) (.cons (.v 0) .nil)) [1, 0]) .nil)))) (.cons (.cap (.lst (.cons (.v 2) (.cons (.v 2) .nil)))) .nil)) .nil []) [.val (pr2 u), .val (.int n), .val (pr2 (powN u n)), y] = .ok (.d (.bool true)) [.val (pr2 u), .val (.int n), .val (pr2 (powN u n)), y] := by
    generalize pr2 (powN u n) = q at c1 c3 ⊢
    generalize pr2 u = x at c1 ⊢
    generalize (n : Int) = i at c1 ⊢
    obtain ⟨T, hT⟩ : ∃ T : FT, T = run pr defs (m + 9) := ⟨_, rfl⟩
    rw [← hT] at c1 c3 ⊢
    simp [c1, c3, exs, ex, ev, evs, items, startEnv, argSlot, Out.bind, Out.no, lift, view, viewAll, gt, capt, captAll, put, putAll, assignTg, isOwn, asB, boolOf, Ev.finish, fins, finOf, moveOut, callF, mkArgs, mkArg, lent, back, nodupB, permute, parPl, putQ, asgT, setAt]
  show Ev.finish _ (exs pr (run pr defs (m + 9)) 2 (.cons (.asg 2 (.tup (.cons (.lit (.int 1)) (.cons (.lit (.int 1)) .nil)))) (.cons (.for_ (.v 3) (.r1 (.v 1)) (.cons (.asg 2 (.call 32 (.cons (.v 2) (.cons (.v 0) .nil)) .nil [])) .nil)) (.cons (.ret (.call 34 (.cons (.cap (.lst (.cons (.call 19 (.cons (.v 0) (.cons (.v 1) .nil)) .nil []) (.cons (.call 19 .nil (.cons (.v 1) (.cons (.v 0) .nil)) [1, 0]) .nil)))) (.cons (.cap (.lst (.cons (.v 2) (.cons (.v 2) .nil)))) .nil)) .nil [])) .nil))) [.val (pr2 u), .val (.int n), .emp, .emp]) = _
  rw [exs_ok S0, exs_ok S1, exs_ret S2 rfl]
  rfl
end K01
end
section
set_option linter.all false
set_option maxRecDepth 100000
set_option maxHeartbeats 4000000
/-! divisions by zero; rows told right -/
namespace K01
open PySem Ev
theorem try_zero (pr : EProg) (T : FT) (hsub : pr.sub = subF) (body : Ss) (e : FEnv) (v : D) (A B C : Plc) (he : e = [A, B, C, .val (.list [.str "", .none]), .emp]) (hb : exs pr T 3 body e = .err 2 v e) :
    ex pr T 3 (.try_ body (.cons 1 (some 4) (.asg 3 (.lst (.cons (.lit (.str "number")) (.cons .val .nil)))) (.cons 2 (some 4) (.asg 3 (.lst (.cons (.lit (.str "zero")) (.cons .val .nil)))) .nil))) e = .ok .next [A, B, C, .val (.list [.str "zero", v]), .emp] := by
  subst he
  have s1 : pr.sub 2 1 = some false := by rw [hsub]; rfl
  have s2 : pr.sub 2 2 = some true := by rw [hsub]; rfl
  show (match exs pr T 3 body _ with | .err c d e1 => catch_ pr T 3 _ c d e1 | o => o) = _
  rw [hb]
  show (match pr.sub 2 1 with | none => _ | some true => _ | some false => _) = _
  rw [s1]
  show (match pr.sub 2 2 with | none => _ | some true => _ | some false => _) = _
  rw [s2]
  rfl
theorem divided_ok (pr : EProg) (m : Nat) (hp : pr.globs = globs) (hsub : pr.sub = subF) (dr : Int) (hdr : dr = 0 ∨ dr = 1) (u : Q2) (nm : Bool) {k : Nat} (hu : Sm k u) (h1 : 1 ≤ k) (hk : k < 1900) (ou : okN u = true) :
    run pr defs (m + 5) 40 [.d (.int dr), .d (pr2 u), .d (.bool nm)] = .ok (.d (.list [.str "zero", if dr = 0 then .int u.1 else pr2 u])) [none, none, none] := by
  rw [run_at (d := d__law_divided) rfl ⟨rfl, by decide⟩]
  have c1 := number_bad pr (m + 2) u.1
  have c2 := by_bad pr m hp u hu h1 ou (by omega)
  have x0 : ixD (pr2 u) (.int 0) = some (.int u.1) := rfl
  have e0 := eq_int (i := dr) (j := 0)
  have z2 : pr2 (0, 1) = .tuple [.int 0, .int 1] := rfl
  rw [z2] at c2
  have S0 : ex pr (run pr defs (m + 4)) 3 (.asg 3 (.lst (.cons (.lit (.str "")) (.cons (.lit .none) .nil)))) [.val (.int dr), .val (pr2 u), .val (.bool nm), .emp, .emp] = .ok .next [.val (.int dr), .val (pr2 u), .val (.bool nm), .val (.list [.str "", .none]), .emp] := rfl
  have B : exs pr (run pr defs (m + 4)) 3 (.cons (.ite (.cmp .eq (.v 0) (.lit (.int 0))) (.cons (.asg 3 (.lst (.cons (.lit (.str "none")) (.cons (.ite (.v 2) (.call 13 .nil (.cons (.lit (.int 0)) (.cons (.cap (.ix (.v 1) (.lit (.int 0)))) .nil)) [1, 0]) (.call 13 (.cons (.cap (.ix (.v 1) (.lit (.int 0)))) (.cons (.lit (.int 0)) .nil)) .nil [])) .nil)))) .nil) (.cons (.asg 3 (.lst (.cons (.lit (.str "none")) (.cons (.ite (.v 2) (.call 17 .nil (.cons (.tup (.cons (.lit (.int 0)) (.cons (.lit (.int 1)) .nil))) (.cons (.v 1) .nil)) [1, 0]) (.call 17 (.cons (.v 1) (.cons (.tup (.cons (.lit (.int 0)) (.cons (.lit (.int 1)) .nil))) .nil)) .nil [])) .nil)))) .nil)) .nil) [.val (.int dr), .val (pr2 u), .val (.bool nm), .val (.list [.str "", .none]), .emp] = .err 2 (if dr = 0 then .int u.1 else pr2 u) [.val (.int dr), .val (pr2 u), .val (.bool nm), .val (.list [.str "", .none]), .emp] := by
    generalize pr2 u = x at c2 x0 ⊢
    generalize u.1 = t at c1 x0 ⊢
    obtain ⟨T, hT⟩ : ∃ T : FT, T = run pr defs (m + 4) := ⟨_, rfl⟩
    rw [← hT] at c1 c2 ⊢
    rcases hdr with rfl | rfl
    · rw [decide_eq_true rfl] at e0
      cases nm <;> simp [c1, c2, x0, e0, exs, ex, ev, evs, items, startEnv, argSlot, Out.bind, Out.no, lift, view, viewAll, gt, capt, captAll, put, putAll, assignTg, isOwn, asB, boolOf, Ev.finish, fins, finOf, moveOut, callF, mkArgs, mkArg, lent, back, nodupB, permute, parPl, putQ, asgT, setAt]
    · rw [decide_eq_false (by decide)] at e0
      cases nm <;> simp [c1, c2, x0, e0, exs, ex, ev, evs, items, startEnv, argSlot, Out.bind, Out.no, lift, view, viewAll, gt, capt, captAll, put, putAll, assignTg, isOwn, asB, boolOf, Ev.finish, fins, finOf, moveOut, callF, mkArgs, mkArg, lent, back, nodupB, permute, parPl, putQ, asgT, setAt]
  have S1 := try_zero pr (run pr defs (m + 4)) hsub (.cons (.ite (.cmp .eq (.v 0) (.lit (.int 0))) (.cons (.asg 3 (.lst (.cons (.lit (.str "none")) (.cons (.ite (.v 2) (.call 13 .nil (.cons (.lit (.int 0)) (.cons (.cap (.ix (.v 1) (.lit (.int 0)))) .nil)) [1, 0]) (.call 13 (.cons (.cap (.ix (.v 1) (.lit (.int 0)))) (.cons (.lit (.int 0)) .nil)) .nil [])) .nil)))) .nil) (.cons (.asg 3 (.lst (.cons (.lit (.str "none")) (.cons (.ite (.v 2) (.call 17 .nil (.cons (.tup (.cons (.lit (.int 0)) (.cons (.lit (.int 1)) .nil))) (.cons (.v 1) .nil)) [1, 0]) (.call 17 (.cons (.v 1) (.cons (.tup (.cons (.lit (.int 0)) (.cons (.lit (.int 1)) .nil))) .nil)) .nil [])) .nil)))) .nil)) .nil) [.val (.int dr), .val (pr2 u), .val (.bool nm), .val (.list [.str "", .none]), .emp] _ _ _ _ rfl B
  show Ev.finish _ (exs pr (run pr defs (m + 4)) 3 (.cons (.asg 3 (.lst (.cons (.lit (.str "")) (.cons (.lit .none) .nil)))) (.cons (.try_ (.cons (.ite (.cmp .eq (.v 0) (.lit (.int 0))) (.cons (.asg 3 (.lst (.cons (.lit (.str "none")) (.cons (.ite (.v 2) (.call 13 .nil (.cons (.lit (.int 0)) (.cons (.cap (.ix (.v 1) (.lit (.int 0)))) .nil)) [1, 0]) (.call 13 (.cons (.cap (.ix (.v 1) (.lit (.int 0)))) (.cons (.lit (.int 0)) .nil)) .nil [])) .nil)))) .nil) (.cons (.asg 3 (.lst (.cons (.lit (.str "none")) (.cons (.ite (.v 2) (.call 17 .nil (.cons (.tup (.cons (.lit (.int 0)) (.cons (.lit (.int 1)) .nil))) (.cons (.v 1) .nil)) [1, 0]) (.call 17 (.cons (.v 1) (.cons (.tup (.cons (.lit (.int 0)) (.cons (.lit (.int 1)) .nil))) .nil)) .nil [])) .nil)))) .nil)) .nil) (.cons 1 (some 4) (.asg 3 (.lst (.cons (.lit (.str "number")) (.cons .val .nil)))) (.cons 2 (some 4) (.asg 3 (.lst (.cons (.lit (.str "zero")) (.cons .val .nil)))) .nil))) (.cons (.ret (.v 3)) .nil))) [.val (.int dr), .val (pr2 u), .val (.bool nm), .emp, .emp]) = _
  rw [exs_ok S0]
  show Ev.finish _ (exs pr (run pr defs (m + 4)) 3 (.cons (.try_ (.cons (.ite (.cmp .eq (.v 0) (.lit (.int 0))) (.cons (.asg 3 (.lst (.cons (.lit (.str "none")) (.cons (.ite (.v 2) (.call 13 .nil (.cons (.lit (.int 0)) (.cons (.cap (.ix (.v 1) (.lit (.int 0)))) .nil)) [1, 0]) (.call 13 (.cons (.cap (.ix (.v 1) (.lit (.int 0)))) (.cons (.lit (.int 0)) .nil)) .nil [])) .nil)))) .nil) (.cons (.asg 3 (.lst (.cons (.lit (.str "none")) (.cons (.ite (.v 2) (.call 17 .nil (.cons (.tup (.cons (.lit (.int 0)) (.cons (.lit (.int 1)) .nil))) (.cons (.v 1) .nil)) [1, 0]) (.call 17 (.cons (.v 1) (.cons (.tup (.cons (.lit (.int 0)) (.cons (.lit (.int 1)) .nil))) .nil)) .nil [])) .nil)))) .nil)) .nil) (.cons 1 (some 4) (.asg 3 (.lst (.cons (.lit (.str "number")) (.cons .val .nil)))) (.cons 2 (some 4) (.asg 3 (.lst (.cons (.lit (.str "zero")) (.cons .val .nil)))) .nil))) (.cons (.ret (.v 3)) .nil)) [.val (.int dr), .val (pr2 u), .val (.bool nm), .val (.list [.str "", .none]), .emp]) = _
  rw [exs_ok S1]
  rfl
end K01
end
section
set_option linter.all false
set_option maxRecDepth 100000
set_option maxHeartbeats 4000000
/-! rows told right -/
namespace K01
open PySem Ev
theorem okD_row (cs : List Q2) : okD (.list (cs.map pr2)) = true := by
  have h := canRow cs
  show (PyData.canLay0 (rowD cs) && decide (PyData.depth (rowD cs) ≤ 64)) = true
  rw [h.1, decide_eq_true (by have := h.2; omega)]
  rfl
theorem okD_pr (c : Q2) : okD (pr2 c) = true := rfl
theorem ind_mem {cs : List Q2} {c : Q2} (h : c ∈ cs) : ∃ j : Nat, indD (.list (cs.map pr2)) (pr2 c) = some (.d (.int j)) ∧ ixD (.list (cs.map pr2)) (.int j) = some (pr2 c) := by
  have e : indD (.list (cs.map pr2)) (pr2 c) = ((cs.map pr2).findIdx? fun z => PyData.eqv z (pr2 c)).map fun j => .d (.int (j : Nat)) := by
    show (if okD (pr2 c) && okD (.list (cs.map pr2)) then _ else none) = _
    rw [okD_row, okD_pr]
    rfl
  rw [e]
  cases hf : (cs.map pr2).findIdx? fun z => PyData.eqv z (pr2 c) with
  | none =>
    have := List.findIdx?_eq_none_iff.mp hf (pr2 c) (List.mem_map.mpr ⟨c, h, rfl⟩)
    rw [eqv_pr, decide_eq_true rfl] at this
    cases this
  | some j =>
    obtain ⟨hj, hp, _⟩ := List.findIdx?_eq_some_iff_getElem.mp hf
    have hj2 : j < cs.length := by rw [List.length_map] at hj; exact hj
    rw [List.getElem_map, eqv_pr] at hp
    have hc := of_decide_eq_true hp
    refine ⟨j, rfl, ?_⟩
    show atI (cs.map pr2) (j : Int) = _
    unfold atI ixN
    rw [if_pos (by omega), if_pos (by rw [List.length_map]; omega)]
    show (cs.map pr2)[((j : Nat) : Int).toNat]? = _
    rw [Int.toNat_natCast, List.getElem?_map, List.getElem?_eq_getElem hj2]
    show some (pr2 cs[j]) = _
    rw [hc]
theorem notin_mem {cs : List Q2} {c : Q2} (h : c ∈ cs) : cmpD .notin (pr2 c) (.list (cs.map pr2)) = some false := by
  show (if okD (pr2 c) && okD (.list (cs.map pr2)) then some (!(cs.map pr2).any fun z => PyData.eqv z (pr2 c)) else none) = _
  rw [okD_row, okD_pr]
  have : ((cs.map pr2).any fun z => PyData.eqv z (pr2 c)) = true := List.any_eq_true.mpr ⟨pr2 c, List.mem_map.mpr ⟨c, h, rfl⟩, by rw [eqv_pr]; exact decide_eq_true rfl⟩
  rw [this]
  rfl
theorem ne_nil (c : Q2) (cs : List Q2) : cmpD .ne (.list ((c :: cs).map pr2)) (.list []) = some true := by
  show (if okD (.list ((c :: cs).map pr2)) && okD (.list []) then _ else none) = _
  rw [okD_row]
  rfl
theorem ne_nil2 : cmpD .ne (.list []) (.list []) = some false := rfl
def rrE (l : List D) (X kept due u g low high : Plc) : FEnv := [.own (.lst l), X, kept, due, u, g, low, high]
theorem row_due (pr : EProg) (m : Nat) (hf : 2 ^ 4000 ≤ pr.fuel) (l : List D) (kept : Plc) (cs : List Q2) {K : Nat} (hs : ∀ c ∈ cs, Sm K c) (hl : cs.length ≤ 13) (hK : K ≤ 290) :
    ∃ y, isOwn y = false ∧ ex pr (run pr defs (m + 9)) 2 (.for_ (.v 4) (.seq (.v 1)) (.cons (.asg 3 (.call 31 (.cons (.v 3) (.cons (.v 4) .nil)) .nil [])) .nil)) (rrE l (.val (.list (cs.map pr2))) kept (.val (pr2 (0, 1))) .emp .emp .emp .emp) = .ok .next (rrE l (.val (.list (cs.map pr2))) kept (.val (pr2 (cs.foldl plusN (0, 1)))) y .emp .emp .emp) := by
  obtain ⟨e', h1, y, hy, rfl⟩ := forL_fold (np := 2) (tg := .v 4) (body := fun e => exs pr (run pr defs (m + 9)) 2 (.cons (.asg 3 (.call 31 (.cons (.v 3) (.cons (.v 4) .nil)) .nil [])) .nil) e) pr2 plusN (fun b e => ∃ y, isOwn y = false ∧ e = rrE l (.val (.list (cs.map pr2))) kept (.val (pr2 b)) y .emp .emp .emp) (0, 1) cs [] (fun pre a post hpp e ⟨y, _, he⟩ => by
    subst he
    have hpp : cs = pre ++ a :: post := hpp
    have ha : a ∈ cs := by rw [hpp]; simp
    have hle : pre.length + 1 ≤ cs.length := by rw [hpp, List.length_append, List.length_cons]; omega
    have sm := fold_sm (K := K) pre (0, 1) 1 ⟨by decide, by decide, by decide⟩ fun c hc => hs c (by rw [hpp]; exact List.mem_append_left _ hc)
    have b1 : pre.length * (K + 1) ≤ 12 * (290 + 1) := Nat.mul_le_mul (by omega) (by omega)
    have c := lplus_ok pr (m + 6) (pre.foldl plusN (0, 1)) a sm (hs a ha) (by omega) hf
    generalize pre.foldl plusN (0, 1) = b at c ⊢
    exact ⟨rrE l (.val (.list (cs.map pr2))) kept (.val (pr2 b)) (.val (pr2 a)) .emp .emp .emp, rrE l (.val (.list (cs.map pr2))) kept (.val (pr2 (plusN b a))) (.val (pr2 a)) .emp .emp .emp, put_loc (i := 4) rfl rfl, exs_ok (r := .nil) (ex_asg (d := pr2 (plusN b a)) (ev_call (rs := [.d (pr2 b), .d (pr2 a)]) rfl rfl rfl rfl rfl c rfl) rfl (put_loc rfl rfl)), .val (pr2 a), rfl, rfl⟩) (rrE l (.val (.list (cs.map pr2))) kept (.val (pr2 (0, 1))) .emp .emp .emp .emp) ⟨.emp, rfl, rfl⟩
  exact ⟨y, hy, ex_for (it := .seq (.v 1)) (tg := .v 4) (items_seq (r := .d (.list (cs.map pr2))) (d := .list (cs.map pr2)) rfl rfl rfl) h1⟩
theorem row_ends (pr : EProg) (m : Nat) (l : List D) (kept due g0 : Plc) (y : Plc) (hy : isOwn y = false) (G : D) (c0 : Q2) (cs : List Q2) {K : Nat} (hG : RowX G K c0 cs) (hl : cs.length ≤ 12) (hK : K ≤ 290) :
    ∃ y6 y7 : Plc, ex pr (run pr defs (m + 9)) 2 (.ite (.cmp .ne (.v 1) (.lst .nil)) (.cons (.par [6, 7] [false, false] (.cons (.call 24 (.cons (.v 5) .nil) .nil []) (.cons (.call 25 (.cons (.v 5) .nil) .nil []) .nil))) (.cons (.ite (.or (.cmp .notin (.v 6) (.v 1)) (.or (.cmp .notin (.v 7) (.v 1)) (.nt (.call 34 (.cons (.cap (.lst (.cons (.call 24 .nil (.cons (.v 5) .nil) [0]) (.cons (.call 25 .nil (.cons (.v 5) .nil) [0]) .nil)))) (.cons (.cap (.lst (.cons (.v 6) (.cons (.v 7) .nil)))) .nil)) .nil [])))) (.cons (.ret (.lit (.bool false))) .nil) .nil) (.cons (.ite (.cmp .ne (.comp (.v 4) (.v 4) (.seq (.v 1)) (.or (.call 33 (.cons (.v 4) (.cons (.v 6) .nil)) .nil []) (.call 33 (.cons (.v 7) (.cons (.v 4) .nil)) .nil [])) [4]) (.lst .nil)) (.cons (.ret (.lit (.bool false))) .nil) .nil) (.cons (.ite (.nt (.call 34 (.cons (.cap (.lst (.cons (.v 6) (.cons (.v 7) .nil)))) (.cons (.cap (.lst (.cons (.ix (.v 1) (.indx (.v 1) (.v 6))) (.cons (.ix (.v 1) (.indx (.v 1) (.v 7))) .nil)))) .nil)) .nil [])) (.cons (.ret (.lit (.bool false))) .nil) .nil) .nil)))) .nil) (rrE l (.val (.list ((c0 :: cs).map pr2))) kept due y (.val G) .emp .emp) = .ok .next (rrE l (.val (.list ((c0 :: cs).map pr2))) kept due y (.val G) y6 y7) := by
  have c1 := least_ok pr (m + 4) hG (by omega)
  have c2 := greatest_ok pr (m + 4) hG (by omega)
  have pos : ∀ c ∈ c0 :: cs, 0 < c.2 := fun c hc => (hG.sm c hc).2.1
  have lm := lmn_le (c0 :: cs) c0 (pos c0 List.mem_cons_self) pos
  have gm := gmn_ge (c0 :: cs) c0 (pos c0 List.mem_cons_self) pos
  have ml : lmn c0 (c0 :: cs) ∈ c0 :: cs := by
    rcases ext_mem lsS lsS_or (c0 :: cs) c0 with h | h
    · show (c0 :: cs).foldl lsS c0 ∈ _
      rw [h]
      exact List.mem_cons_self
    · exact h
  have mg : gmn c0 (c0 :: cs) ∈ c0 :: cs := by
    rcases ext_mem gtS gtS_or (c0 :: cs) c0 with h | h
    · show (c0 :: cs).foldl gtS c0 ∈ _
      rw [h]
      exact List.mem_cons_self
    · exact h
  generalize lmn c0 (c0 :: cs) = lo at c1 lm ml
  generalize gmn c0 (c0 :: cs) = hi at c2 gm mg
  have n1 := notin_mem ml
  have n2 := notin_mem mg
  obtain ⟨j1, i1, x1⟩ := ind_mem ml
  obtain ⟨j2, i2, x2⟩ := ind_mem mg
  have sq := sameq pr (m + 3) lo hi
  have nn := ne_nil c0 cs
  have less : ∀ c ∈ c0 :: cs, run pr defs (m + 9) 33 [.d (pr2 c), .d (pr2 lo)] = .ok (.d (.bool false)) [none, none] ∧ run pr defs (m + 9) 33 [.d (pr2 hi), .d (pr2 c)] = .ok (.d (.bool false)) [none, none] := fun c hc => by
    have a1 := lless_ok pr (m + 8) c lo (hG.sm c hc) (hG.sm lo ml) (by omega)
    have a2 := lless_ok pr (m + 8) hi c (hG.sm hi mg) (hG.sm c hc) (by omega)
    rw [(val_le (pos lo ml) (pos c hc)).mp (lm.2 c hc)] at a1
    rw [(val_le (pos c hc) (pos hi mg)).mp (gm.2 c hc)] at a2
    exact ⟨a1, a2⟩
  have ix : itemsD (.list ((c0 :: cs).map pr2)) = some ((c0 :: cs).map pr2) := rfl
  have llen : ((c0 :: cs).map pr2).length ≤ lim := by rw [List.length_map]; exact lim_ge (by rw [List.length_cons]; omega)
  have mem : ∀ x ∈ (c0 :: cs).map pr2, ∃ c ∈ c0 :: cs, x = pr2 c := fun x hx => by
    obtain ⟨c, hc, rfl⟩ := List.mem_map.mp hx
    exact ⟨c, hc, rfl⟩
  generalize (c0 :: cs).map pr2 = zs at n1 n2 i1 i2 x1 x2 nn ix llen mem ⊢
  generalize pr2 lo = ld at c1 n1 i1 x1 sq less ⊢
  generalize pr2 hi = hd at c2 n2 i2 x2 sq less ⊢
  have P0 : ∀ E, E = rrE l (.val (.list zs)) kept due y (.val G) .emp .emp → ex pr (run pr defs (m + 9)) 2 (.par [6, 7] [false, false] (.cons (.call 24 (.cons (.v 5) .nil) .nil []) (.cons (.call 25 (.cons (.v 5) .nil) .nil []) .nil))) E = .ok .next (rrE l (.val (.list zs)) kept due y (.val G) (.val ld) (.val hd)) := fun E hE => by
    subst hE
    obtain ⟨T, hT⟩ : ∃ T : FT, T = run pr defs (m + 9) := ⟨_, rfl⟩
    rw [← hT] at c1 c2 ⊢
    simp [rrE, c1, c2, exs, ex, ev, evs, items, startEnv, argSlot, Out.bind, Out.no, lift, view, viewAll, gt, capt, captAll, put, putAll, assignTg, isOwn, asB, boolOf, Ev.finish, fins, finOf, moveOut, callF, mkArgs, mkArg, lent, back, nodupB, permute, parPl, putQ, asgT, setAt]
  have P1 : ex pr (run pr defs (m + 9)) 2 (.ite (.or (.cmp .notin (.v 6) (.v 1)) (.or (.cmp .notin (.v 7) (.v 1)) (.nt (.call 34 (.cons (.cap (.lst (.cons (.call 24 .nil (.cons (.v 5) .nil) [0]) (.cons (.call 25 .nil (.cons (.v 5) .nil) [0]) .nil)))) (.cons (.cap (.lst (.cons (.v 6) (.cons (.v 7) .nil)))) .nil)) .nil [])))) (.cons (.ret (.lit (.bool false))) .nil) .nil) (rrE l (.val (.list zs)) kept due y (.val G) (.val ld) (.val hd)) = .ok .next (rrE l (.val (.list zs)) kept due y (.val G) (.val ld) (.val hd)) := by
    clear less
    obtain ⟨T, hT⟩ : ∃ T : FT, T = run pr defs (m + 9) := ⟨_, rfl⟩
    rw [← hT] at c1 c2 sq ⊢
    simp [rrE, c1, c2, sq, n1, n2, exs, ex, ev, evs, items, startEnv, argSlot, Out.bind, Out.no, lift, view, viewAll, gt, capt, captAll, put, putAll, assignTg, isOwn, asB, boolOf, Ev.finish, fins, finOf, moveOut, callF, mkArgs, mkArg, lent, back, nodupB, permute, parPl, putQ, asgT, setAt]
  have cp := comp_pure (pr := pr) (T := run pr defs (m + 9)) (np := 2) (i := 4) (elt := .v 4) (cond := (.or (.call 33 (.cons (.v 4) (.cons (.v 6) .nil)) .nil []) (.call 33 (.cons (.v 7) (.cons (.v 4) .nil)) .nil []))) (it := .seq (.v 1)) (e := rrE l (.val (.list zs)) kept due y (.val G) (.val ld) (.val hd)) (e1 := rrE l (.val (.list zs)) kept due y (.val G) (.val ld) (.val hd)) (xs := zs) (B := fun _ => false) (F := fun x => x)
    (items_seq (r := .d (.list zs)) (d := .list zs) rfl rfl ix) (show 4 < 8 by decide) hy llen (fun x hx => ⟨by
      obtain ⟨c, hc, rfl⟩ := mem x hx
      obtain ⟨a1, a2⟩ := less c hc
      generalize pr2 c = q at a1 a2 ⊢
      obtain ⟨T, hT⟩ : ∃ T : FT, T = run pr defs (m + 9) := ⟨_, rfl⟩
      rw [← hT] at a1 a2 ⊢
      simp [rrE, a1, a2, exs, ex, ev, evs, items, startEnv, argSlot, Out.bind, Out.no, lift, view, viewAll, gt, capt, captAll, put, putAll, assignTg, isOwn, asB, boolOf, Ev.finish, fins, finOf, moveOut, callF, mkArgs, mkArg, lent, back, nodupB, permute, parPl, putQ, asgT, setAt], fun z => by cases z⟩)
  rw [List.filter_eq_nil_iff.mpr (fun _ _ => by simp), List.map_nil] at cp
  have P2 : ex pr (run pr defs (m + 9)) 2 (.ite (.cmp .ne (.comp (.v 4) (.v 4) (.seq (.v 1)) (.or (.call 33 (.cons (.v 4) (.cons (.v 6) .nil)) .nil []) (.call 33 (.cons (.v 7) (.cons (.v 4) .nil)) .nil [])) [4]) (.lst .nil)) (.cons (.ret (.lit (.bool false))) .nil) .nil) (rrE l (.val (.list zs)) kept due y (.val G) (.val ld) (.val hd)) = .ok .next (rrE l (.val (.list zs)) kept due y (.val G) (.val ld) (.val hd)) := by
    have t : asB (ev pr (run pr defs (m + 9)) 2 (.cmp .ne (.comp (.v 4) (.v 4) (.seq (.v 1)) (.or (.call 33 (.cons (.v 4) (.cons (.v 6) .nil)) .nil []) (.call 33 (.cons (.v 7) (.cons (.v 4) .nil)) .nil [])) [4]) (.lst .nil)) (rrE l (.val (.list zs)) kept due y (.val G) (.val ld) (.val hd))) = .ok false (rrE l (.val (.list zs)) kept due y (.val G) (.val ld) (.val hd)) := asB_ok (by
      show (ev pr (run pr defs (m + 9)) 2 (.comp _ _ _ _ _) _).bind _ = _
      rw [cp]
      rfl)
    exact (ex_if t).trans rfl
  have P3 : ex pr (run pr defs (m + 9)) 2 (.ite (.nt (.call 34 (.cons (.cap (.lst (.cons (.v 6) (.cons (.v 7) .nil)))) (.cons (.cap (.lst (.cons (.ix (.v 1) (.indx (.v 1) (.v 6))) (.cons (.ix (.v 1) (.indx (.v 1) (.v 7))) .nil)))) .nil)) .nil [])) (.cons (.ret (.lit (.bool false))) .nil) .nil) (rrE l (.val (.list zs)) kept due y (.val G) (.val ld) (.val hd)) = .ok .next (rrE l (.val (.list zs)) kept due y (.val G) (.val ld) (.val hd)) := by
    clear less cp
    generalize ((j1 : Nat) : Int) = q1 at i1 x1
    generalize ((j2 : Nat) : Int) = q2 at i2 x2
    have il : isL (some (.list zs)) = true := rfl
    obtain ⟨T, hT⟩ : ∃ T : FT, T = run pr defs (m + 9) := ⟨_, rfl⟩
    rw [← hT] at sq ⊢
    simp [rrE, sq, i1, i2, x1, x2, il, exs, ex, ev, evs, items, startEnv, argSlot, Out.bind, Out.no, lift, view, viewAll, gt, capt, captAll, put, putAll, assignTg, isOwn, asB, boolOf, Ev.finish, fins, finOf, moveOut, callF, mkArgs, mkArg, lent, back, nodupB, permute, parPl, putQ, asgT, setAt]
  refine ⟨.val ld, .val hd, ?_⟩
  have tt : asB (ev pr (run pr defs (m + 9)) 2 (.cmp .ne (.v 1) (.lst .nil)) (rrE l (.val (.list zs)) kept due y (.val G) .emp .emp)) = .ok true (rrE l (.val (.list zs)) kept due y (.val G) .emp .emp) := by
    generalize run pr defs (m + 9) = T
    simp [rrE, nn, exs, ex, ev, evs, items, startEnv, argSlot, Out.bind, Out.no, lift, view, viewAll, gt, capt, captAll, put, putAll, assignTg, isOwn, asB, boolOf, Ev.finish, fins, finOf, moveOut, callF, mkArgs, mkArg, lent, back, nodupB, permute, parPl, putQ, asgT, setAt]
  refine (ex_if tt).trans ?_
  rw [if_pos rfl, exs_ok (P0 _ rfl), exs_ok P1, exs_ok P2, exs_ok (r := .nil) P3]
  rfl
end K01
end
section
set_option linter.all false
set_option maxRecDepth 100000
set_option maxHeartbeats 4000000
/-! rows told right, joined -/
namespace K01
open PySem Ev
theorem rowr_ok (pr : EProg) (m : Nat) (hf : 2 ^ 4000 ≤ pr.fuel) (l : List D) (hl : DeckOk l) (cs : List Q2) {K : Nat} (hs : ∀ c ∈ cs, Sm K c) (ho : ∀ c ∈ cs, okN c = true) (hn : cs.length ≤ 13) (hK : K ≤ 290) :
    ∃ l', DeckOk l' ∧ run pr defs (m + 10) 43 [.own (.lst l), .d (.list (cs.map pr2))] = .ok (.d (.bool true)) [some (.lst l'), none] := by
  rw [run_at (d := d__law_row_right) rfl ⟨rfl, by decide⟩]
  obtain ⟨s, rp, eqs⟩ := repr_row (k := K) (by omega) cs hs (by omega)
  obtain ⟨t, l1, t0, t1, k1, ct⟩ := take_ok pr (m + 8) l 2 hl (by decide) (by decide)
  have S0 : ex pr (run pr defs (m + 9)) 2 (.par [2, 3] [false, false] (.cons (.blt .repr (.cons (.v 1) .nil)) (.cons (.tup (.cons (.lit (.int 0)) (.cons (.lit (.int 1)) .nil))) .nil))) [.own (.lst l), .val (.list (cs.map pr2)), .emp, .emp, .emp, .emp, .emp, .emp] = .ok .next (rrE l (.val (.list (cs.map pr2))) (.val (.str s)) (.val (pr2 (0, 1))) .emp .emp .emp .emp) := ex_par2 (a := .str s) (b := pr2 (0, 1)) (evs2 (ev_blt1 (d := .list (cs.map pr2)) (r := .d (.list (cs.map pr2))) rfl rfl rp) rfl) (put_loc rfl rfl) (put_loc rfl rfl)
  obtain ⟨y, hy, S1⟩ := row_due pr m hf l (.val (.str s)) cs hs hn hK
  obtain ⟨G, iG, hG⟩ : ∃ G : D, ixD (.list [.list (cs.map pr2), .tuple (cs.map pr2)]) (.int t) = some G ∧ (G = .list (cs.map pr2) ∨ G = .tuple (cs.map pr2)) := by
    have : t = 0 ∨ t = 1 := by omega
    rcases this with rfl | rfl
    · exact ⟨_, rfl, .inl rfl⟩
    · exact ⟨_, rfl, .inr rfl⟩
  have tG : itemsD G = some (cs.map pr2) := by rcases hG with rfl | rfl <;> rfl
  have bl : cs.length * (K + 1) ≤ 13 * (290 + 1) := Nat.mul_le_mul hn (by omega)
  have ctt := total_ok pr (m + 5) G cs tG hs ho (by omega) (by omega)
  have csq := sameq pr (m + 3) (cs.foldl plusN (0, 1)) (cs.foldl plusN (0, 1))
  generalize cs.foldl plusN (0, 1) = due at S1 ctt csq
  have S2 : ex pr (run pr defs (m + 9)) 2 (.asg 5 (.ix (.lst (.cons (.v 1) (.cons (.blt .tuple (.cons (.v 1) .nil)) .nil))) (.call 28 (.cons (.v 0) (.cons (.lit (.int 2)) .nil)) .nil []))) (rrE l (.val (.list (cs.map pr2))) (.val (.str s)) (.val (pr2 due)) y .emp .emp .emp) = .ok .next (rrE l1 (.val (.list (cs.map pr2))) (.val (.str s)) (.val (pr2 due)) y (.val G) .emp .emp) := by
    have bt : bltD .tuple [.list (cs.map pr2)] = some (.d (.tuple (cs.map pr2))) := rfl
    generalize PyData.list (cs.map pr2) = X at bt iG ⊢
    generalize PyData.tuple (cs.map pr2) = Y at bt iG
    generalize pr2 due = q
    obtain ⟨T, hT⟩ : ∃ T : FT, T = run pr defs (m + 9) := ⟨_, rfl⟩
    rw [← hT] at ct ⊢
    simp [rrE, ct, bt, iG, exs, ex, ev, evs, items, startEnv, argSlot, Out.bind, Out.no, lift, view, viewAll, gt, capt, captAll, put, putAll, assignTg, isOwn, asB, boolOf, Ev.finish, fins, finOf, moveOut, callF, mkArgs, mkArg, lent, back, nodupB, permute, parPl, putQ, asgT, setAt]
  have S3 : ex pr (run pr defs (m + 9)) 2 (.ite (.nt (.call 34 (.cons (.cap (.lst (.cons (.call 26 (.cons (.v 5) .nil) .nil []) (.cons (.call 26 .nil (.cons (.v 5) .nil) [0]) .nil)))) (.cons (.cap (.lst (.cons (.v 3) (.cons (.v 3) .nil)))) .nil)) .nil [])) (.cons (.ret (.lit (.bool false))) .nil) .nil) (rrE l1 (.val (.list (cs.map pr2))) (.val (.str s)) (.val (pr2 due)) y (.val G) .emp .emp) = .ok .next (rrE l1 (.val (.list (cs.map pr2))) (.val (.str s)) (.val (pr2 due)) y (.val G) .emp .emp) := by
    generalize PyData.list (cs.map pr2) = X
    generalize pr2 due = q at ctt csq ⊢
    obtain ⟨T, hT⟩ : ∃ T : FT, T = run pr defs (m + 9) := ⟨_, rfl⟩
    rw [← hT] at ctt csq ⊢
    simp [rrE, ctt, csq, exs, ex, ev, evs, items, startEnv, argSlot, Out.bind, Out.no, lift, view, viewAll, gt, capt, captAll, put, putAll, assignTg, isOwn, asB, boolOf, Ev.finish, fins, finOf, moveOut, callF, mkArgs, mkArg, lent, back, nodupB, permute, parPl, putQ, asgT, setAt]
  obtain ⟨y6, y7, S4⟩ : ∃ y6 y7 : Plc, ex pr (run pr defs (m + 9)) 2 (.ite (.cmp .ne (.v 1) (.lst .nil)) (.cons (.par [6, 7] [false, false] (.cons (.call 24 (.cons (.v 5) .nil) .nil []) (.cons (.call 25 (.cons (.v 5) .nil) .nil []) .nil))) (.cons (.ite (.or (.cmp .notin (.v 6) (.v 1)) (.or (.cmp .notin (.v 7) (.v 1)) (.nt (.call 34 (.cons (.cap (.lst (.cons (.call 24 .nil (.cons (.v 5) .nil) [0]) (.cons (.call 25 .nil (.cons (.v 5) .nil) [0]) .nil)))) (.cons (.cap (.lst (.cons (.v 6) (.cons (.v 7) .nil)))) .nil)) .nil [])))) (.cons (.ret (.lit (.bool false))) .nil) .nil) (.cons (.ite (.cmp .ne (.comp (.v 4) (.v 4) (.seq (.v 1)) (.or (.call 33 (.cons (.v 4) (.cons (.v 6) .nil)) .nil []) (.call 33 (.cons (.v 7) (.cons (.v 4) .nil)) .nil [])) [4]) (.lst .nil)) (.cons (.ret (.lit (.bool false))) .nil) .nil) (.cons (.ite (.nt (.call 34 (.cons (.cap (.lst (.cons (.v 6) (.cons (.v 7) .nil)))) (.cons (.cap (.lst (.cons (.ix (.v 1) (.indx (.v 1) (.v 6))) (.cons (.ix (.v 1) (.indx (.v 1) (.v 7))) .nil)))) .nil)) .nil [])) (.cons (.ret (.lit (.bool false))) .nil) .nil) .nil)))) .nil) (rrE l1 (.val (.list (cs.map pr2))) (.val (.str s)) (.val (pr2 due)) y (.val G) .emp .emp) = .ok .next (rrE l1 (.val (.list (cs.map pr2))) (.val (.str s)) (.val (pr2 due)) y (.val G) y6 y7) := by
    cases cs with
    | nil =>
      have nn := ne_nil2
      refine ⟨.emp, .emp, ?_⟩
      generalize pr2 due = q
      generalize run pr defs (m + 9) = T
      show ex pr T 2 (.ite (.cmp .ne (.v 1) (.lst .nil)) (.cons (.par [6, 7] [false, false] (.cons (.call 24 (.cons (.v 5) .nil) .nil []) (.cons (.call 25 (.cons (.v 5) .nil) .nil []) .nil))) (.cons (.ite (.or (.cmp .notin (.v 6) (.v 1)) (.or (.cmp .notin (.v 7) (.v 1)) (.nt (.call 34 (.cons (.cap (.lst (.cons (.call 24 .nil (.cons (.v 5) .nil) [0]) (.cons (.call 25 .nil (.cons (.v 5) .nil) [0]) .nil)))) (.cons (.cap (.lst (.cons (.v 6) (.cons (.v 7) .nil)))) .nil)) .nil [])))) (.cons (.ret (.lit (.bool false))) .nil) .nil) (.cons (.ite (.cmp .ne (.comp (.v 4) (.v 4) (.seq (.v 1)) (.or (.call 33 (.cons (.v 4) (.cons (.v 6) .nil)) .nil []) (.call 33 (.cons (.v 7) (.cons (.v 4) .nil)) .nil [])) [4]) (.lst .nil)) (.cons (.ret (.lit (.bool false))) .nil) .nil) (.cons (.ite (.nt (.call 34 (.cons (.cap (.lst (.cons (.v 6) (.cons (.v 7) .nil)))) (.cons (.cap (.lst (.cons (.ix (.v 1) (.indx (.v 1) (.v 6))) (.cons (.ix (.v 1) (.indx (.v 1) (.v 7))) .nil)))) .nil)) .nil [])) (.cons (.ret (.lit (.bool false))) .nil) .nil) .nil)))) .nil) (rrE l1 (.val (.list [])) (.val (.str s)) (.val q) y (.val G) .emp .emp) = .ok .next (rrE l1 (.val (.list [])) (.val (.str s)) (.val q) y (.val G) .emp .emp)
      simp [rrE, nn, exs, ex, ev, evs, items, startEnv, argSlot, Out.bind, Out.no, lift, view, viewAll, gt, capt, captAll, put, putAll, assignTg, isOwn, asB, boolOf, Ev.finish, fins, finOf, moveOut, callF, mkArgs, mkArg, lent, back, nodupB, permute, parPl, putQ, asgT, setAt]
    | cons c0 cs =>
      have x0 : ixD G (.int 0) = some (pr2 c0) := by
        have : atI ((c0 :: cs).map pr2) 0 = some (pr2 c0) := by
          unfold atI ixN
          rw [if_pos (by decide), if_pos (by rw [List.length_map, List.length_cons]; omega)]
          rfl
        rcases hG with rfl | rfl <;> exact this
      have ln : bltD .len [G] = some (.d (.int ((cs.length + 1 : Nat) : Int))) := by
        have : (((c0 :: cs).map pr2).length : Int) = ((cs.length + 1 : Nat) : Int) := by rw [List.length_map, List.length_cons]
        rcases hG with rfl | rfl
        · show some (Rs.d (.int (((c0 :: cs).map pr2).length : Nat))) = _
          rw [this]
        · show some (Rs.d (.int (((c0 :: cs).map pr2).length : Nat))) = _
          rw [this]
      exact row_ends pr m l1 _ _ .emp y hy G c0 cs ⟨tG, x0, ln, hs, ho⟩ (by rw [List.length_cons] at hn; omega) hK
  refine ⟨l1, k1, ?_⟩
  have S5 : ev pr (run pr defs (m + 9)) 2 (.cmp .eq (.blt .repr (.cons (.v 1) .nil)) (.v 2)) (rrE l1 (.val (.list (cs.map pr2))) (.val (.str s)) (.val (pr2 due)) y (.val G) y6 y7) = .ok (.d (.bool true)) (rrE l1 (.val (.list (cs.map pr2))) (.val (.str s)) (.val (pr2 due)) y (.val G) y6 y7) := by
    generalize PyData.list (cs.map pr2) = X at rp ⊢
    generalize pr2 due = q
    generalize run pr defs (m + 9) = T
    simp [rrE, rp, eqs, exs, ex, ev, evs, items, startEnv, argSlot, Out.bind, Out.no, lift, view, viewAll, gt, capt, captAll, put, putAll, assignTg, isOwn, asB, boolOf, Ev.finish, fins, finOf, moveOut, callF, mkArgs, mkArg, lent, back, nodupB, permute, parPl, putQ, asgT, setAt]
  show Ev.finish _ (exs pr (run pr defs (m + 9)) 2 (.cons (.par [2, 3] [false, false] (.cons (.blt .repr (.cons (.v 1) .nil)) (.cons (.tup (.cons (.lit (.int 0)) (.cons (.lit (.int 1)) .nil))) .nil))) (.cons (.for_ (.v 4) (.seq (.v 1)) (.cons (.asg 3 (.call 31 (.cons (.v 3) (.cons (.v 4) .nil)) .nil [])) .nil)) (.cons (.asg 5 (.ix (.lst (.cons (.v 1) (.cons (.blt .tuple (.cons (.v 1) .nil)) .nil))) (.call 28 (.cons (.v 0) (.cons (.lit (.int 2)) .nil)) .nil []))) (.cons (.ite (.nt (.call 34 (.cons (.cap (.lst (.cons (.call 26 (.cons (.v 5) .nil) .nil []) (.cons (.call 26 .nil (.cons (.v 5) .nil) [0]) .nil)))) (.cons (.cap (.lst (.cons (.v 3) (.cons (.v 3) .nil)))) .nil)) .nil [])) (.cons (.ret (.lit (.bool false))) .nil) .nil) (.cons (.ite (.cmp .ne (.v 1) (.lst .nil)) (.cons (.par [6, 7] [false, false] (.cons (.call 24 (.cons (.v 5) .nil) .nil []) (.cons (.call 25 (.cons (.v 5) .nil) .nil []) .nil))) (.cons (.ite (.or (.cmp .notin (.v 6) (.v 1)) (.or (.cmp .notin (.v 7) (.v 1)) (.nt (.call 34 (.cons (.cap (.lst (.cons (.call 24 .nil (.cons (.v 5) .nil) [0]) (.cons (.call 25 .nil (.cons (.v 5) .nil) [0]) .nil)))) (.cons (.cap (.lst (.cons (.v 6) (.cons (.v 7) .nil)))) .nil)) .nil [])))) (.cons (.ret (.lit (.bool false))) .nil) .nil) (.cons (.ite (.cmp .ne (.comp (.v 4) (.v 4) (.seq (.v 1)) (.or (.call 33 (.cons (.v 4) (.cons (.v 6) .nil)) .nil []) (.call 33 (.cons (.v 7) (.cons (.v 4) .nil)) .nil [])) [4]) (.lst .nil)) (.cons (.ret (.lit (.bool false))) .nil) .nil) (.cons (.ite (.nt (.call 34 (.cons (.cap (.lst (.cons (.v 6) (.cons (.v 7) .nil)))) (.cons (.cap (.lst (.cons (.ix (.v 1) (.indx (.v 1) (.v 6))) (.cons (.ix (.v 1) (.indx (.v 1) (.v 7))) .nil)))) .nil)) .nil [])) (.cons (.ret (.lit (.bool false))) .nil) .nil) .nil)))) .nil) (.cons (.ret (.cmp .eq (.blt .repr (.cons (.v 1) .nil)) (.v 2))) .nil)))))) [.own (.lst l), .val (.list (cs.map pr2)), .emp, .emp, .emp, .emp, .emp, .emp]) = _
  rw [exs_ok S0, exs_ok S1, exs_ok S2, exs_ok S3, exs_ok S4, exs_ret S5 rfl]
  rfl
end K01
end
section
set_option linter.all false
set_option maxRecDepth 100000
set_option maxHeartbeats 4000000
/-! the law of whole numbers: its steps -/
namespace K01
open PySem Ev
theorem set_sameR {R : FEnv} {i : Nat} {p : Plc} (h : R[i]? = some p) : R.set i p = R := by
  obtain ⟨hi, rfl⟩ := List.getElem?_eq_some_iff.mp h
  exact List.set_getElem_self hi
theorem put_empR {np i : Nat} {e : FEnv} {x : D} (hi : i < e.length) : put np (e.set i .emp) i (.val x) = some (e.set i (.val x)) := by
  unfold put
  have : isOwn (gt (e.set i .emp) i) = false := by
    unfold gt
    rw [List.getD_eq_getElem?_getD, List.getElem?_set_self hi]
    rfl
  rw [if_pos (by rw [List.length_set]; exact hi), this]
  simp [set_set]
/-- a comprehension that draws, its draws counted -/
theorem comp_drawX {e0 : FEnv} {pr : EProg} {T : FT} {np k i : Nat} {R : FEnv} {elt : P} {it : EIt} {xs : List D} (OK : Nat → List D → Prop) (hki : k ≠ i) (hi : R[i]? = some .emp) (l0 : List D) (h0 : OK 0 l0)
    (hit : items pr T np it e0 = .ok xs (R.set k (.own (.lst l0)))) (hl : xs.length ≤ lim) (Q : D → Prop)
    (h : ∀ j l x, j < xs.length → OK j l → x ∈ xs → ∃ r d l', OK (j + 1) l' ∧ Q d ∧ ev pr T np elt ((R.set k (.own (.lst l))).set i (.val x)) = .ok r ((R.set k (.own (.lst l'))).set i (.val x)) ∧ capt np ((R.set k (.own (.lst l'))).set i (.val x)) r = some (d, (R.set k (.own (.lst l'))).set i (.val x))) :
    ∃ ds l', OK xs.length l' ∧ ds.length = xs.length ∧ (∀ d ∈ ds, Q d) ∧ ev pr T np (.comp elt (.v i) it (.lit (.bool true)) [i]) e0 = .ok (.fresh (.lst ds)) (R.set k (.own (.lst l'))) := by
  have hil : i < R.length := (List.getElem?_eq_some_iff.mp hi).1
  have hR : ∀ l, (R.set k (.own (.lst l)))[i]? = some .emp := fun l => by rw [List.getElem?_set_ne hki]; exact hi
  have hlen : ∀ l, i < (R.set k (.own (.lst l))).length := fun l => by rw [List.length_set]; exact hil
  obtain ⟨ds, e', h2, h3, l', p, h4, h5, h6⟩ := compL_inv (np := np) (i := i) (elt := fun e => ev pr T np elt e) (xs := xs) (e := R.set k (.own (.lst l0)))
    (fun j acc e => ∃ l p, OK j l ∧ (∀ d ∈ acc, Q d) ∧ e = (R.set k (.own (.lst l))).set i p) ⟨l0, .emp, h0, (fun _ z => nomatch z), (set_sameR (hR l0)).symm⟩ hl (fun j acc e x hx hj ⟨l, p, i1, i2, i3⟩ => by
      subst i3
      obtain ⟨r, d, l2, g1, g2, g3, g4⟩ := h j l x (List.getElem?_eq_some_iff.mp hx).1 i1 (List.mem_of_getElem? hx)
      refine ⟨(R.set k (.own (.lst l))).set i (.val x), r, _, d, _, ?_, g3, g4, l2, .val x, g1, fun z hz => ?_, rfl⟩
      · show put np (((R.set k (.own (.lst l))).set i p).set i .emp) i (.val x) = _
        rw [set_set, put_empR (hlen l)]
      · rcases List.mem_append.mp hz with hz | hz
        · exact i2 z hz
        · rw [List.mem_singleton.mp hz]
          exact g2)
  subst h6
  refine ⟨ds, l', h4, h3, h5, ?_⟩
  have g0 : ∀ l, gt (R.set k (.own (.lst l))) i = .emp := fun l => by
    unfold gt
    rw [List.getD_eq_getElem?_getD, hR l]
    rfl
  have pl : plainOwn (R.set k (.own (.lst l0))) [i] = true := by simp [plainOwn, g0 l0, isOwn]
  show (items pr T np it e0).no (fun xs e1 => if plainOwn e1 [i] = true then ((compL np [i] (.v i) (fun e => asB (ev pr T np (.lit (.bool true)) e)) (fun e => ev pr T np elt e) xs e1 []).no fun ds e2 => Out.ok (Rs.fresh (.lst ds)) (restore e1 e2 [i])) else .stuck) = _
  rw [hit]
  have c : (fun e => asB (ev pr T np (.lit (.bool true)) e)) = fun e => Out.ok true e := funext fun e => rfl
  simp only [Out.no, pl, if_true]
  rw [c, h2]
  show Out.ok (Rs.fresh (.lst ds)) (((R.set k (.own (.lst l'))).set i p).set i (gt (R.set k (.own (.lst l0))) i)) = _
  rw [g0 l0, set_set, set_sameR (hR l')]

def lrE (l : List D) (pair u v due named row k : Plc) : FEnv := [.own (.lst l), pair, u, v, due, named, row, k]
theorem nums_of {P : Q2 → Prop} : ∀ {ds : List D}, (∀ d ∈ ds, ∃ c, d = pr2 c ∧ P c) → ∃ cs : List Q2, ds = cs.map pr2 ∧ ∀ c ∈ cs, P c
  | [], _ => ⟨[], rfl, (fun _ z => nomatch z)⟩
  | d :: ds, h => by
    obtain ⟨r, rfl, hr⟩ := h d List.mem_cons_self
    obtain ⟨rs, rfl, hrs⟩ := nums_of fun d hd => h d (List.mem_cons_of_mem _ hd)
    refine ⟨r :: rs, rfl, fun x hx => ?_⟩
    rcases List.mem_cons.mp hx with rfl | hx
    · exact hr
    · exact hrs x hx
/-- the row that is drawn -/
theorem row_drawn (pr : EProg) (m : Nat) (hf : 2 ^ 4000 ≤ pr.fuel) (l : List D) (hl : DeckOk l) (pair u v due named : Plc) :
    ∃ (cs : List Q2) (l' : List D), (∀ c ∈ cs, Sm 290 c ∧ okN c = true) ∧ cs.length ≤ 11 ∧ DeckOk l' ∧ ex pr (run pr defs (m + 10)) 1 (.own 6 (.comp (.ix (.lst (.cons (.call 38 (.cons (.v 0) .nil) .nil []) (.cons (.call 37 (.cons (.v 0) .nil) .nil []) .nil))) (.bin .fdiv (.call 28 (.cons (.v 0) (.cons (.lit (.int 5)) .nil)) .nil []) (.lit (.int 4)))) (.v 7) (.r1 (.call 28 (.cons (.v 0) (.cons (.lit (.int 12)) .nil)) .nil [])) (.lit (.bool true)) [7])) (lrE l pair u v due named .emp .emp) = .ok .next (lrE l' pair u v due named (.own (.lst (cs.map pr2))) .emp) := by
  obtain ⟨t, l1, t0, t1, k1, c1⟩ := take_ok pr (m + 9) l 12 hl (by decide) (by decide)
  obtain ⟨n, rfl⟩ : ∃ n : Nat, t = n := ⟨t.toNat, by omega⟩
  have hit : items pr (run pr defs (m + 10)) 1 (.r1 (.call 28 (.cons (.v 0) (.cons (.lit (.int 12)) .nil)) .nil [])) (lrE l pair u v due named .emp .emp) = .ok ((List.range n).map fun (k : Nat) => PyData.int k) (lrE l1 pair u v due named .emp .emp) := by
    have z := items_r1 (pr := pr) (T := run pr defs (m + 10)) (np := 1) (p := (.call 28 (.cons (.v 0) (.cons (.lit (.int 12)) .nil)) .nil [])) (e := lrE l pair u v due named .emp .emp) (e1 := lrE l1 pair u v due named .emp .emp) (r := .d (.int n)) (ev_call (rs := [.slot 0, .d (.int 12)]) rfl rfl rfl rfl rfl c1 rfl) rfl (small_nat (n := n) (by omega))
    rw [Int.toNat_natCast, rangeL_map] at z
    exact z
  obtain ⟨ds, l2, k2, hlen, hQ, hc⟩ := comp_drawX (e0 := lrE l pair u v due named .emp .emp) (pr := pr) (T := run pr defs (m + 10)) (np := 1) (k := 0) (i := 7) (R := lrE l1 pair u v due named .emp .emp) (elt := (.ix (.lst (.cons (.call 38 (.cons (.v 0) .nil) .nil []) (.cons (.call 37 (.cons (.v 0) .nil) .nil []) .nil))) (.bin .fdiv (.call 28 (.cons (.v 0) (.cons (.lit (.int 5)) .nil)) .nil []) (.lit (.int 4))))) (it := (.r1 (.call 28 (.cons (.v 0) (.cons (.lit (.int 12)) .nil)) .nil []))) (xs := (List.range n).map fun (k : Nat) => PyData.int k) (fun _ l => DeckOk l) (by decide) rfl l1 k1 hit (by rw [List.length_map, List.length_range]; exact lim_ge (by omega)) (fun d => ∃ c, d = pr2 c ∧ (Sm 290 c ∧ okN c = true)) (fun j l x _ hl hx => by
    obtain ⟨a, la, sa, oa, ka, ca⟩ := small_ok pr (m + 7) hf l hl
    obtain ⟨b, lb, sb, ob, kb, cb⟩ := own_ok pr (m + 7) hf la ka
    obtain ⟨t, lc, t0, t1, kc, cc⟩ := take_ok pr (m + 9) lb 5 kb (by decide) (by decide)
    have dv := op_fdiv' (i := t) (j := 4) (divOk_of (b := 4) (by decide) (by decide) (by decide))
    have tq : t.fdiv 4 = 0 ∨ t.fdiv 4 = 1 := by
      rw [Int.fdiv_eq_ediv_of_nonneg _ (by decide)]
      omega
    obtain ⟨c, hc, ic⟩ : ∃ c : Q2, (Sm 290 c ∧ okN c = true) ∧ ixD (.list [pr2 a, pr2 b]) (.int (t.fdiv 4)) = some (pr2 c) := by
      rcases tq with e | e <;> rw [e]
      · exact ⟨a, ⟨sa.mono (by decide), oa⟩, rfl⟩
      · exact ⟨b, ⟨sb.mono (by decide), ob⟩, rfl⟩
    refine ⟨.d (pr2 c), pr2 c, lc, kc, ⟨c, rfl, hc⟩, ?_, rfl⟩
    generalize t.fdiv 4 = q at dv ic
    generalize pr2 a = ad at ca ic
    generalize pr2 b = bd at cb ic
    generalize pr2 c = cd at ic ⊢
    obtain ⟨T, hT⟩ : ∃ T : FT, T = run pr defs (m + 10) := ⟨_, rfl⟩
    rw [← hT] at ca cb cc ⊢
    simp [lrE, ca, cb, cc, dv, ic, exs, ex, ev, evs, items, startEnv, argSlot, Out.bind, Out.no, lift, view, viewAll, gt, capt, captAll, put, putAll, assignTg, isOwn, asB, boolOf, Ev.finish, fins, finOf, moveOut, callF, mkArgs, mkArg, lent, back, nodupB, permute, parPl, putQ, asgT, setAt])
  obtain ⟨cs, rfl, hcs⟩ := nums_of hQ
  rw [List.length_map, List.length_map, List.length_range] at hlen
  exact ⟨cs, l2, hcs, by omega, k2, ex_own (e1 := lrE l2 pair u v due named .emp .emp) hc rfl⟩
/-- one of the row once more, at times -/
theorem row_more (pr : EProg) (m : Nat) (l : List D) (hl : DeckOk l) (pair u v due named : Plc) (cs : List Q2) (h : ∀ c ∈ cs, Sm 290 c ∧ okN c = true) (hn : cs.length ≤ 11) :
    ∃ (qs : List Q2) (l' : List D), (∀ c ∈ qs, Sm 290 c ∧ okN c = true) ∧ qs.length ≤ 12 ∧ DeckOk l' ∧ ex pr (run pr defs (m + 10)) 1 (.ite (.and (.cmp .ne (.v 6) (.lst .nil)) (.cmp .eq (.call 28 (.cons (.v 0) (.cons (.lit (.int 3)) .nil)) .nil []) (.lit (.int 0)))) (.cons (.app 6 (.ix (.v 6) (.call 28 (.cons (.v 0) (.cons (.cap (.blt .len (.cons (.v 6) .nil))) .nil)) .nil []))) .nil) .nil) (lrE l pair u v due named (.own (.lst (cs.map pr2))) .emp) = .ok .next (lrE l' pair u v due named (.own (.lst (qs.map pr2))) .emp) := by
  cases cs with
  | nil =>
    have nn := ne_nil2
    refine ⟨[], l, h, by decide, hl, ?_⟩
    generalize run pr defs (m + 10) = T
    show ex pr T 1 (.ite (.and (.cmp .ne (.v 6) (.lst .nil)) (.cmp .eq (.call 28 (.cons (.v 0) (.cons (.lit (.int 3)) .nil)) .nil []) (.lit (.int 0)))) (.cons (.app 6 (.ix (.v 6) (.call 28 (.cons (.v 0) (.cons (.cap (.blt .len (.cons (.v 6) .nil))) .nil)) .nil []))) .nil) .nil) (lrE l pair u v due named (.own (.lst [])) .emp) = .ok .next (lrE l pair u v due named (.own (.lst [])) .emp)
    simp [lrE, nn, exs, ex, ev, evs, items, startEnv, argSlot, Out.bind, Out.no, lift, view, viewAll, gt, capt, captAll, put, putAll, assignTg, isOwn, asB, boolOf, Ev.finish, fins, finOf, moveOut, callF, mkArgs, mkArg, lent, back, nodupB, permute, parPl, putQ, asgT, setAt]
  | cons c0 cs =>
    have nn := ne_nil c0 cs
    obtain ⟨t, l1, t0, t1, k1, c1⟩ := take_ok pr (m + 9) l 3 hl (by decide) (by decide)
    have e0 := eq_int (i := t) (j := 0)
    by_cases z : t = 0
    · rw [decide_eq_true z] at e0
      obtain ⟨j, l2, j0, j1, k2, c2⟩ := take_ok pr (m + 9) l1 ((cs.length + 1 : Nat) : Int) k1 (by omega) (by rw [List.length_cons] at hn; omega)
      obtain ⟨i, rfl⟩ : ∃ i : Nat, j = i := ⟨j.toNat, by omega⟩
      have hi : i < (c0 :: cs).length := by rw [List.length_cons]; omega
      have ln : bltD .len [.list ((c0 :: cs).map pr2)] = some (.d (.int ((cs.length + 1 : Nat) : Int))) := by
        show some (Rs.d (.int (((c0 :: cs).map pr2).length : Nat))) = _
        rw [List.length_map, List.length_cons]
      have ix : ixD (.list ((c0 :: cs).map pr2)) (.int i) = some (pr2 (c0 :: cs)[i]) := by
        show atI ((c0 :: cs).map pr2) (i : Int) = _
        unfold atI ixN
        rw [if_pos (by omega), if_pos (by rw [List.length_map]; omega)]
        show ((c0 :: cs).map pr2)[((i : Nat) : Int).toNat]? = _
        rw [Int.toNat_natCast, List.getElem?_map, List.getElem?_eq_getElem hi]
        rfl
      have hm : (c0 :: cs)[i] ∈ c0 :: cs := List.getElem_mem hi
      refine ⟨(c0 :: cs) ++ [(c0 :: cs)[i]], l2, fun c hc => ?_, by rw [List.length_append]; show _ + 1 ≤ 12; omega, k2, ?_⟩
      · rcases List.mem_append.mp hc with hc | hc
        · exact h c hc
        · rw [List.mem_singleton.mp hc]
          exact h _ hm
      · rw [List.map_append]
        have ll : ((c0 :: cs).map pr2).length < lim := by rw [List.length_map]; exact Nat.lt_of_lt_of_le (by omega : (c0 :: cs).length < 100) (by decide)
        show _ = Out.ok EFlow.next (lrE l2 pair u v due named (.own (.lst ((c0 :: cs).map pr2 ++ [pr2 (c0 :: cs)[i]]))) .emp)
        generalize pr2 (c0 :: cs)[i] = q at ix ⊢
        generalize (c0 :: cs).map pr2 = zs at nn ln ix ll ⊢
        generalize ((cs.length + 1 : Nat) : Int) = w at c2 ln
        generalize (i : Int) = ii at c2 ix
        obtain ⟨T, hT⟩ : ∃ T : FT, T = run pr defs (m + 10) := ⟨_, rfl⟩
        rw [← hT] at c1 c2 ⊢
        simp [lrE, c1, c2, nn, e0, ln, ix, ll, exs, ex, ev, evs, items, startEnv, argSlot, Out.bind, Out.no, lift, view, viewAll, gt, capt, captAll, put, putAll, assignTg, isOwn, asB, boolOf, Ev.finish, fins, finOf, moveOut, callF, mkArgs, mkArg, lent, back, nodupB, permute, parPl, putQ, asgT, setAt]
    · rw [decide_eq_false z] at e0
      refine ⟨c0 :: cs, l1, h, by omega, k1, ?_⟩
      generalize (c0 :: cs).map pr2 = zs at nn ⊢
      obtain ⟨T, hT⟩ : ∃ T : FT, T = run pr defs (m + 10) := ⟨_, rfl⟩
      rw [← hT] at c1 ⊢
      simp [lrE, c1, nn, e0, exs, ex, ev, evs, items, startEnv, argSlot, Out.bind, Out.no, lift, view, viewAll, gt, capt, captAll, put, putAll, assignTg, isOwn, asB, boolOf, Ev.finish, fins, finOf, moveOut, callF, mkArgs, mkArg, lent, back, nodupB, permute, parPl, putQ, asgT, setAt]
end K01
end
section
set_option linter.all false
set_option maxRecDepth 100000
set_option maxHeartbeats 4000000
/-! the law of whole numbers -/
namespace K01
open PySem Ev
theorem cat21' {x y z : D} : opD .add (.list [x, y]) (.list [z]) = some (.fresh (.lst [x, y, z])) := cat21
theorem st0 (pr : EProg) (m : Nat) (hf : 2 ^ 4000 ≤ pr.fuel) (l : List D) (hl : DeckOk l) :
    ∃ (p u v : Q2) (l' : List D), (p.1.natAbs < 2 ^ 290 ∧ p.2.natAbs < 2 ^ 290) ∧ (Sm 281 u ∧ okN u = true) ∧ (Sm 281 v ∧ okN v = true) ∧ DeckOk l' ∧ ex pr (run pr defs (m + 10)) 1 (.par [1, 2, 3] [false, false, false] (.cons (.call 36 (.cons (.v 0) .nil) .nil []) (.cons (.call 37 (.cons (.v 0) .nil) .nil []) (.cons (.call 37 (.cons (.v 0) .nil) .nil []) .nil)))) (lrE l .emp .emp .emp .emp .emp .emp .emp) = .ok .next (lrE l' (.val (pr2 p)) (.val (pr2 u)) (.val (pr2 v)) .emp .emp .emp .emp) := by
  obtain ⟨p, l1, p1, p2, k1, c1⟩ := couple_ok pr (m + 7) hf l hl
  obtain ⟨u, l2, su, ou, k2, c2⟩ := own_ok pr (m + 7) hf l1 k1
  obtain ⟨v, l3, sv, ov, k3, c3⟩ := own_ok pr (m + 7) hf l2 k2
  refine ⟨p, u, v, l3, ⟨p1, p2⟩, ⟨su, ou⟩, ⟨sv, ov⟩, k3, ?_⟩
  generalize pr2 p = a at c1 ⊢
  generalize pr2 u = b at c2 ⊢
  generalize pr2 v = c at c3 ⊢
  obtain ⟨T, hT⟩ : ∃ T : FT, T = run pr defs (m + 10) := ⟨_, rfl⟩
  rw [← hT] at c1 c2 c3 ⊢
  simp [lrE, c1, c2, c3, exs, ex, ev, evs, items, startEnv, argSlot, Out.bind, Out.no, lift, view, viewAll, gt, capt, captAll, put, putAll, assignTg, isOwn, asB, boolOf, Ev.finish, fins, finOf, moveOut, callF, mkArgs, mkArg, lent, back, nodupB, permute, parPl, putQ, asgT, setAt]
theorem st1 (pr : EProg) (m : Nat) (hf : 2 ^ 4000 ≤ pr.fuel) (l : List D) (hl : DeckOk l) (P : Plc) (u v : Q2) (hu : Sm 281 u ∧ okN u = true) (hv : Sm 281 v ∧ okN v = true) :
    ∃ (w : Q2) (l' : List D), (Sm 565 w ∧ okN w = true) ∧ DeckOk l' ∧ ex pr (run pr defs (m + 10)) 1 (.ite (.cmp .eq (.call 28 (.cons (.v 0) (.cons (.lit (.int 4)) .nil)) .nil []) (.lit (.int 0))) (.cons (.asg 3 (.call 31 (.cons (.v 2) (.cons (.cap (.call 30 (.cons (.cap (.bin .sub (.call 28 (.cons (.v 0) (.cons (.lit (.int 3)) .nil)) .nil []) (.lit (.int 1)))) (.cons (.cap (.bin .mul (.ix (.v 2) (.lit (.int 1))) (.bin .add (.lit (.int 1)) (.call 28 (.cons (.v 0) (.cons (.lit (.int 3)) .nil)) .nil [])))) .nil)) .nil [])) .nil)) .nil [])) .nil) .nil) (lrE l P (.val (pr2 u)) (.val (pr2 v)) .emp .emp .emp .emp) = .ok .next (lrE l' P (.val (pr2 u)) (.val (pr2 w)) .emp .emp .emp .emp) := by
  obtain ⟨t, l1, t0, t1, k1, c1⟩ := take_ok pr (m + 9) l 4 hl (by decide) (by decide)
  have e0 := eq_int (i := t) (j := 0)
  by_cases z : t = 0
  · rw [decide_eq_true z] at e0
    obtain ⟨a, l2, a0, a1, k2, c2⟩ := take_ok pr (m + 9) l1 3 k1 (by decide) (by decide)
    obtain ⟨b, l3, b0, b1, k3, c3⟩ := take_ok pr (m + 9) l2 3 k2 (by decide) (by decide)
    have up := hu.1.2.1
    have nz : u.2 * (1 + b) ≠ 0 := Int.mul_ne_zero (by omega) (by omega)
    have lt : (u.2 * (1 + b)).natAbs < 2 ^ 283 := mul_lt (k := 281) (l := 2) hu.1.2.2 (by omega)
    have c4 := lpairS_ok pr (m + 8) (a - 1) (u.2 * (1 + b)) nz (Nat.lt_of_lt_of_le lt (Nat.pow_le_pow_right (by decide) (by decide))) hf
    have sq : Sm 283 (nrmS (a - 1) (u.2 * (1 + b))) := nrmS_sm (Nat.lt_of_lt_of_le (show (a - 1).natAbs < 2 ^ 2 by omega) (Nat.pow_le_pow_right (by decide) (by decide))) nz lt
    have oq := nrmS_okN (t := a - 1) nz
    have c5 := lplus_ok pr (m + 7) u _ hu.1 sq (by decide) hf
    have mm := op_mul' (mulOk_of (i := u.2) (j := 1 + b) (a := 281) (b := 2) hu.1.2.2 (by omega) (by decide))
    have x1 : ixD (pr2 u) (.int 1) = some (.int u.2) := rfl
    refine ⟨plusN u (nrmS (a - 1) (u.2 * (1 + b))), l3, ⟨(plusN_sm hu.1 sq).mono (by decide), plusN_okN up (okN_pos oq)⟩, k3, ?_⟩
    generalize pr2 (plusN u (nrmS (a - 1) (u.2 * (1 + b)))) = q at c5 ⊢
    generalize pr2 (nrmS (a - 1) (u.2 * (1 + b))) = q2 at c4 c5
    generalize u.2 * (1 + b) = w at c4 mm
    generalize pr2 u = x at c5 x1 ⊢
    generalize pr2 v = y
    obtain ⟨T, hT⟩ : ∃ T : FT, T = run pr defs (m + 10) := ⟨_, rfl⟩
    rw [← hT] at c1 c2 c3 c4 c5 ⊢
    simp [lrE, c1, c2, c3, c4, c5, e0, x1, mm, op_sub', op_add', exs, ex, ev, evs, items, startEnv, argSlot, Out.bind, Out.no, lift, view, viewAll, gt, capt, captAll, put, putAll, assignTg, isOwn, asB, boolOf, Ev.finish, fins, finOf, moveOut, callF, mkArgs, mkArg, lent, back, nodupB, permute, parPl, putQ, asgT, setAt]
  · rw [decide_eq_false z] at e0
    refine ⟨v, l1, ⟨hv.1.mono (by decide), hv.2⟩, k1, ?_⟩
    generalize pr2 u = x
    generalize pr2 v = y
    obtain ⟨T, hT⟩ : ∃ T : FT, T = run pr defs (m + 10) := ⟨_, rfl⟩
    rw [← hT] at c1 ⊢
    simp [lrE, c1, e0, exs, ex, ev, evs, items, startEnv, argSlot, Out.bind, Out.no, lift, view, viewAll, gt, capt, captAll, put, putAll, assignTg, isOwn, asB, boolOf, Ev.finish, fins, finOf, moveOut, callF, mkArgs, mkArg, lent, back, nodupB, permute, parPl, putQ, asgT, setAt]
theorem st2 (pr : EProg) (m : Nat) (hf : 2 ^ 4000 ≤ pr.fuel) (l : List D) (p u : Q2) (V : Plc) (hp : p.1.natAbs < 2 ^ 290 ∧ p.2.natAbs < 2 ^ 290) (hu : Sm 281 u ∧ okN u = true) :
    ex pr (run pr defs (m + 10)) 1 (.ite (.nt (.call 34 (.cons (.cap (.lst (.cons (.call 10 (.cons (.v 1) .nil) .nil []) (.cons (.call 10 .nil (.cons (.v 1) .nil) [0]) (.cons (.call 10 (.cons (.v 2) .nil) .nil []) .nil))))) (.cons (.cap (.bin .add (.bin .mul (.lst (.cons (.call 39 (.cons (.v 1) .nil) .nil []) .nil)) (.lit (.int 2))) (.lst (.cons (.lit (.bool true)) .nil)))) .nil)) .nil [])) (.cons (.ret (.lit (.bool false))) .nil) .nil) (lrE l (.val (pr2 p)) (.val (pr2 u)) V .emp .emp .emp .emp) = .ok .next (lrE l (.val (pr2 p)) (.val (pr2 u)) V .emp .emp .emp .emp) := by
  have c1 := is_number_ok pr (m + 8) p hp.1 hp.2
  have c2 := is_number_ok pr (m + 8) u hu.1.1 hu.1.2.2
  rw [hu.2] at c2
  have c3 := is_ok pr (m + 8) hf p (Nat.lt_of_lt_of_le hp.2 (Nat.pow_le_pow_right (by decide) (by decide)))
  have c4 := same3 pr (m + 4) (.bool (okN p)) (.bool (okN p)) (.bool true) rfl rfl rfl (Nat.zero_le _) (Nat.zero_le _) (Nat.zero_le _)
  have m2 := mul2' (x := .bool (okN p))
  have m3 := cat21 (x := .bool (okN p)) (y := .bool (okN p)) (z := .bool true)
  generalize PyData.bool (okN p) = b at c1 c3 c4 m2 m3
  generalize pr2 p = x at c1 c3 ⊢
  generalize pr2 u = y at c2 ⊢
  obtain ⟨T, hT⟩ : ∃ T : FT, T = run pr defs (m + 10) := ⟨_, rfl⟩
  rw [← hT] at c1 c2 c3 c4 ⊢
  simp [lrE, c1, c2, c3, c4, m2, m3, exs, ex, ev, evs, items, startEnv, argSlot, Out.bind, Out.no, lift, view, viewAll, gt, capt, captAll, put, putAll, assignTg, isOwn, asB, boolOf, Ev.finish, fins, finOf, moveOut, callF, mkArgs, mkArg, lent, back, nodupB, permute, parPl, putQ, asgT, setAt]
theorem st3 (pr : EProg) (m : Nat) (hf : 2 ^ 4000 ≤ pr.fuel) (l : List D) (p : Q2) (U V : Plc) (hp : p.1.natAbs < 2 ^ 290 ∧ p.2.natAbs < 2 ^ 290) :
    ∃ d, ex pr (run pr defs (m + 10)) 1 (.ite (.cmp .ne (.ix (.v 1) (.lit (.int 1))) (.lit (.int 0))) (.cons (.asg 4 (.call 30 (.cons (.cap (.ix (.v 1) (.lit (.int 0)))) (.cons (.cap (.ix (.v 1) (.lit (.int 1)))) .nil)) .nil [])) (.cons (.ite (.nt (.call 34 (.cons (.cap (.lst (.cons (.call 13 (.cons (.cap (.ix (.v 1) (.lit (.int 0)))) (.cons (.cap (.ix (.v 1) (.lit (.int 1)))) .nil)) .nil []) (.cons (.call 13 .nil (.cons (.cap (.ix (.v 1) (.lit (.int 1)))) (.cons (.cap (.ix (.v 1) (.lit (.int 0)))) .nil)) [1, 0]) .nil)))) (.cons (.cap (.lst (.cons (.v 4) (.cons (.v 4) .nil)))) .nil)) .nil [])) (.cons (.ret (.lit (.bool false))) .nil) .nil) .nil)) .nil) (lrE l (.val (pr2 p)) U V .emp .emp .emp .emp) = .ok .next (lrE l (.val (pr2 p)) U V d .emp .emp .emp) := by
  have x0 : ixD (pr2 p) (.int 0) = some (.int p.1) := rfl
  have x1 : ixD (pr2 p) (.int 1) = some (.int p.2) := rfl
  have n0 := ne_int (i := p.2) (j := 0)
  by_cases z : p.2 = 0
  · rw [decide_eq_true z] at n0
    refine ⟨.emp, ?_⟩
    generalize pr2 p = x at x1 ⊢
    generalize run pr defs (m + 10) = T
    simp [lrE, x1, n0, exs, ex, ev, evs, items, startEnv, argSlot, Out.bind, Out.no, lift, view, viewAll, gt, capt, captAll, put, putAll, assignTg, isOwn, asB, boolOf, Ev.finish, fins, finOf, moveOut, callF, mkArgs, mkArg, lent, back, nodupB, permute, parPl, putQ, asgT, setAt]
  · rw [decide_eq_false z] at n0
    have c1 := lpairS_ok pr (m + 8) p.1 p.2 z (Nat.lt_of_lt_of_le hp.2 (Nat.pow_le_pow_right (by decide) (by decide))) hf
    have c2 := number_ok pr (m + 8) p.1 p.2 z hp.2 (by decide)
    have c3 := sameq pr (m + 4) (nrmS p.1 p.2) (nrmS p.1 p.2)
    refine ⟨.val (pr2 (nrmS p.1 p.2)), ?_⟩
    generalize pr2 (nrmS p.1 p.2) = q at c1 c2 c3 ⊢
    generalize pr2 p = x at x0 x1 ⊢
    obtain ⟨T, hT⟩ : ∃ T : FT, T = run pr defs (m + 10) := ⟨_, rfl⟩
    rw [← hT] at c1 c2 c3 ⊢
    simp [lrE, c1, c2, c3, x0, x1, n0, exs, ex, ev, evs, items, startEnv, argSlot, Out.bind, Out.no, lift, view, viewAll, gt, capt, captAll, put, putAll, assignTg, isOwn, asB, boolOf, Ev.finish, fins, finOf, moveOut, callF, mkArgs, mkArg, lent, back, nodupB, permute, parPl, putQ, asgT, setAt]
theorem st4 (pr : EProg) (m : Nat) (l : List D) (hl : DeckOk l) (P U V d : Plc) :
    ∃ (nm : Bool) (l' : List D), DeckOk l' ∧ ex pr (run pr defs (m + 10)) 1 (.asg 5 (.cmp .eq (.call 28 (.cons (.v 0) (.cons (.lit (.int 2)) .nil)) .nil []) (.lit (.int 1)))) (lrE l P U V d .emp .emp .emp) = .ok .next (lrE l' P U V d (.val (.bool nm)) .emp .emp) := by
  obtain ⟨t, l1, t0, t1, k1, c1⟩ := take_ok pr (m + 9) l 2 hl (by decide) (by decide)
  have e0 := eq_int (i := t) (j := 1)
  refine ⟨decide (t = 1), l1, k1, ?_⟩
  generalize decide (t = 1) = b at e0 ⊢
  obtain ⟨T, hT⟩ : ∃ T : FT, T = run pr defs (m + 10) := ⟨_, rfl⟩
  rw [← hT] at c1 ⊢
  simp [lrE, c1, e0, exs, ex, ev, evs, items, startEnv, argSlot, Out.bind, Out.no, lift, view, viewAll, gt, capt, captAll, put, putAll, assignTg, isOwn, asB, boolOf, Ev.finish, fins, finOf, moveOut, callF, mkArgs, mkArg, lent, back, nodupB, permute, parPl, putQ, asgT, setAt]
theorem st5 (pr : EProg) (m : Nat) (hp : pr.globs = globs) (hsub : pr.sub = subF) (l : List D) (u : Q2) (P V d : Plc) (nm : Bool) (hu : Sm 281 u ∧ okN u = true) :
    ex pr (run pr defs (m + 10)) 1 (.ite (.nt (.call 34 (.cons (.cap (.lst (.cons (.call 40 (.cons (.lit (.int 0)) (.cons (.v 2) (.cons (.v 5) .nil))) .nil []) (.cons (.call 40 (.cons (.lit (.int 1)) (.cons (.v 2) (.cons (.v 5) .nil))) .nil []) .nil)))) (.cons (.cap (.lst (.cons (.lst (.cons (.lit (.str "zero")) (.cons (.ix (.v 2) (.lit (.int 0))) .nil))) (.cons (.lst (.cons (.lit (.str "zero")) (.cons (.v 2) .nil))) .nil)))) .nil)) .nil [])) (.cons (.ret (.lit (.bool false))) .nil) .nil) (lrE l P (.val (pr2 u)) V d (.val (.bool nm)) .emp .emp) = .ok .next (lrE l P (.val (pr2 u)) V d (.val (.bool nm)) .emp .emp) := by
  have c1 : run pr defs (m + 10) 40 [.d (.int 0), .d (pr2 u), .d (.bool nm)] = .ok (.d (.list [.str "zero", .int u.1])) [none, none, none] := divided_ok pr (m + 5) hp hsub 0 (.inl rfl) u nm hu.1 (by decide) (by decide) hu.2
  have c2 : run pr defs (m + 10) 40 [.d (.int 1), .d (pr2 u), .d (.bool nm)] = .ok (.d (.list [.str "zero", pr2 u])) [none, none, none] := divided_ok pr (m + 5) hp hsub 1 (.inr rfl) u nm hu.1 (by decide) (by decide) hu.2
  have hz : okS (.str "zero") = true := sok_of "zero"
  have c3 := same2 pr (m + 4) (.list [.str "zero", .int u.1]) (.list [.str "zero", pr2 u]) (by
    show ((okS (.str "zero") && (okS (.int u.1) && true)) && decide (2 ≤ 1000)) = true
    rw [hz]
    rfl) (by
    show ((okS (.str "zero") && (okS (pr2 u) && true)) && decide (2 ≤ 1000)) = true
    rw [okS_pq, hz]
    rfl) (show 1 ≤ 4 by decide) (show 2 ≤ 4 by decide)
  have x0 : ixD (pr2 u) (.int 0) = some (.int u.1) := rfl
  generalize pr2 u = x at c1 c2 c3 x0 ⊢
  generalize u.1 = y at c1 c3 x0
  generalize PyData.bool nm = nb at c1 c2 ⊢
  obtain ⟨T, hT⟩ : ∃ T : FT, T = run pr defs (m + 10) := ⟨_, rfl⟩
  rw [← hT] at c1 c2 c3 ⊢
  simp [lrE, c1, c2, c3, x0, exs, ex, ev, evs, items, startEnv, argSlot, Out.bind, Out.no, lift, view, viewAll, gt, capt, captAll, put, putAll, assignTg, isOwn, asB, boolOf, Ev.finish, fins, finOf, moveOut, callF, mkArgs, mkArg, lent, back, nodupB, permute, parPl, putQ, asgT, setAt]
theorem st6 (pr : EProg) (m : Nat) (hp : pr.globs = globs) (hf : 2 ^ 4000 ≤ pr.fuel) (l : List D) (hl : DeckOk l) (w : Q2) (P U d nm : Plc) (hw : Sm 565 w ∧ okN w = true) :
    ∃ l', DeckOk l' ∧ ex pr (run pr defs (m + 10)) 1 (.ite (.or (.nt (.call 42 (.cons (.cap (.call 38 (.cons (.v 0) .nil) .nil [])) (.cons (.cap (.call 28 (.cons (.v 0) (.cons (.lit (.int 41)) .nil)) .nil [])) .nil)) .nil [])) (.nt (.call 42 (.cons (.v 3) (.cons (.cap (.call 28 (.cons (.v 0) (.cons (.lit (.int 4)) .nil)) .nil [])) .nil)) .nil []))) (.cons (.ret (.lit (.bool false))) .nil) .nil) (lrE l P U (.val (pr2 w)) d nm .emp .emp) = .ok .next (lrE l' P U (.val (pr2 w)) d nm .emp .emp) := by
  obtain ⟨a, l1, sa, oa, k1, c1⟩ := small_ok pr (m + 7) hf l hl
  obtain ⟨t, l2, t0, t1, k2, c2⟩ := take_ok pr (m + 9) l1 41 k1 (by decide) (by decide)
  obtain ⟨s, l3, s0, s1, k3, c3⟩ := take_ok pr (m + 9) l2 4 k2 (by decide) (by decide)
  obtain ⟨n1, rfl⟩ : ∃ n : Nat, t = n := ⟨t.toNat, by omega⟩
  obtain ⟨n2, rfl⟩ : ∃ n : Nat, s = n := ⟨s.toNat, by omega⟩
  have c4 := powr_ok pr m hp hf a n1 sa oa (by omega) (by decide) (by omega)
  have c5 := powr_ok pr m hp hf w n2 hw.1 hw.2 (by omega) (by decide) (by omega)
  refine ⟨l3, k3, ?_⟩
  generalize pr2 a = x at c1 c4
  generalize pr2 w = y at c5 ⊢
  generalize (n1 : Int) = i1 at c2 c4
  generalize (n2 : Int) = i2 at c3 c5
  obtain ⟨T, hT⟩ : ∃ T : FT, T = run pr defs (m + 10) := ⟨_, rfl⟩
  rw [← hT] at c1 c2 c3 c4 c5 ⊢
  simp [lrE, c1, c2, c3, c4, c5, exs, ex, ev, evs, items, startEnv, argSlot, Out.bind, Out.no, lift, view, viewAll, gt, capt, captAll, put, putAll, assignTg, isOwn, asB, boolOf, Ev.finish, fins, finOf, moveOut, callF, mkArgs, mkArg, lent, back, nodupB, permute, parPl, putQ, asgT, setAt]
theorem right_ok (pr : EProg) (m : Nat) (hp : pr.globs = globs) (hsub : pr.sub = subF) (hf : 2 ^ 4000 ≤ pr.fuel) (l : List D) (hl : DeckOk l) : ∃ l', run pr defs (m + 11) 44 [.own (.lst l)] = .ok (.d (.bool true)) [some (.lst l')] := by
  rw [run_at (d := d__law_right) rfl ⟨rfl, by decide⟩]
  obtain ⟨p, u, v, l0, hpp, hu, hv, k0, S0⟩ := st0 pr m hf l hl
  obtain ⟨w, l1, hw, k1, S1⟩ := st1 pr m hf l0 k0 (.val (pr2 p)) u v hu hv
  have S2 := st2 pr m hf l1 p u (.val (pr2 w)) hpp hu
  obtain ⟨d, S3⟩ := st3 pr m hf l1 p (.val (pr2 u)) (.val (pr2 w)) hpp
  obtain ⟨nm, l2, k2, S4⟩ := st4 pr m l1 k1 (.val (pr2 p)) (.val (pr2 u)) (.val (pr2 w)) d
  have S5 := st5 pr m hp hsub l2 u (.val (pr2 p)) (.val (pr2 w)) d nm hu
  obtain ⟨l3, k3, S6⟩ := st6 pr m hp hf l2 k2 w (.val (pr2 p)) (.val (pr2 u)) d (.val (.bool nm)) hw
  obtain ⟨cs, l4, hcs, ln, k4, S7⟩ := row_drawn pr m hf l3 k3 (.val (pr2 p)) (.val (pr2 u)) (.val (pr2 w)) d (.val (.bool nm))
  obtain ⟨qs, l5, hqs, lq, k5, S8⟩ := row_more pr m l4 k4 (.val (pr2 p)) (.val (pr2 u)) (.val (pr2 w)) d (.val (.bool nm)) cs hcs ln
  obtain ⟨l6, k6, c3⟩ := rowr_ok pr m hf l5 k5 qs (fun c hc => (hqs c hc).1) (fun c hc => (hqs c hc).2) (by omega) (by decide)
  have c1 := two_ok pr m hp hf u w (hu.1.mono (by decide)) hw.1 hu.2 hw.2 (by decide)
  have c2 := two_ok pr m hp hf w u hw.1 (hu.1.mono (by decide)) hw.2 hu.2 (by decide)
  refine ⟨l6, ?_⟩
  have S9 : ∃ e, ev pr (run pr defs (m + 10)) 1 (.and (.call 41 (.cons (.v 2) (.cons (.v 3) .nil)) .nil []) (.and (.call 41 (.cons (.v 3) (.cons (.v 2) .nil)) .nil []) (.call 43 (.cons (.v 0) (.cons (.cap (.v 6)) .nil)) .nil []))) (lrE l5 (.val (pr2 p)) (.val (pr2 u)) (.val (pr2 w)) d (.val (.bool nm)) (.own (.lst (qs.map pr2))) .emp) = .ok (.d (.bool true)) (.own (.lst l6) :: e) := by
    generalize pr2 u = x at c1 c2 ⊢
    generalize pr2 w = y at c1 c2 ⊢
    generalize pr2 p = z
    generalize qs.map pr2 = zs at c3 ⊢
    refine ⟨[.val z, .val x, .val y, d, .val (.bool nm), .val (.list zs), .emp], ?_⟩
    obtain ⟨T, hT⟩ : ∃ T : FT, T = run pr defs (m + 10) := ⟨_, rfl⟩
    rw [← hT] at c1 c2 c3 ⊢
    simp [lrE, c1, c2, c3, exs, ex, ev, evs, items, startEnv, argSlot, Out.bind, Out.no, lift, view, viewAll, gt, capt, captAll, put, putAll, assignTg, isOwn, asB, boolOf, Ev.finish, fins, finOf, moveOut, callF, mkArgs, mkArg, lent, back, nodupB, permute, parPl, putQ, asgT, setAt]
  obtain ⟨e9, S9⟩ := S9
  show Ev.finish _ (exs pr (run pr defs (m + 10)) 1 (.cons (.par [1, 2, 3] [false, false, false] (.cons (.call 36 (.cons (.v 0) .nil) .nil []) (.cons (.call 37 (.cons (.v 0) .nil) .nil []) (.cons (.call 37 (.cons (.v 0) .nil) .nil []) .nil)))) (.cons (.ite (.cmp .eq (.call 28 (.cons (.v 0) (.cons (.lit (.int 4)) .nil)) .nil []) (.lit (.int 0))) (.cons (.asg 3 (.call 31 (.cons (.v 2) (.cons (.cap (.call 30 (.cons (.cap (.bin .sub (.call 28 (.cons (.v 0) (.cons (.lit (.int 3)) .nil)) .nil []) (.lit (.int 1)))) (.cons (.cap (.bin .mul (.ix (.v 2) (.lit (.int 1))) (.bin .add (.lit (.int 1)) (.call 28 (.cons (.v 0) (.cons (.lit (.int 3)) .nil)) .nil [])))) .nil)) .nil [])) .nil)) .nil [])) .nil) .nil) (.cons (.ite (.nt (.call 34 (.cons (.cap (.lst (.cons (.call 10 (.cons (.v 1) .nil) .nil []) (.cons (.call 10 .nil (.cons (.v 1) .nil) [0]) (.cons (.call 10 (.cons (.v 2) .nil) .nil []) .nil))))) (.cons (.cap (.bin .add (.bin .mul (.lst (.cons (.call 39 (.cons (.v 1) .nil) .nil []) .nil)) (.lit (.int 2))) (.lst (.cons (.lit (.bool true)) .nil)))) .nil)) .nil [])) (.cons (.ret (.lit (.bool false))) .nil) .nil) (.cons (.ite (.cmp .ne (.ix (.v 1) (.lit (.int 1))) (.lit (.int 0))) (.cons (.asg 4 (.call 30 (.cons (.cap (.ix (.v 1) (.lit (.int 0)))) (.cons (.cap (.ix (.v 1) (.lit (.int 1)))) .nil)) .nil [])) (.cons (.ite (.nt (.call 34 (.cons (.cap (.lst (.cons (.call 13 (.cons (.cap (.ix (.v 1) (.lit (.int 0)))) (.cons (.cap (.ix (.v 1) (.lit (.int 1)))) .nil)) .nil []) (.cons (.call 13 .nil (.cons (.cap (.ix (.v 1) (.lit (.int 1)))) (.cons (.cap (.ix (.v 1) (.lit (.int 0)))) .nil)) [1, 0]) .nil)))) (.cons (.cap (.lst (.cons (.v 4) (.cons (.v 4) .nil)))) .nil)) .nil [])) (.cons (.ret (.lit (.bool false))) .nil) .nil) .nil)) .nil) (.cons (.asg 5 (.cmp .eq (.call 28 (.cons (.v 0) (.cons (.lit (.int 2)) .nil)) .nil []) (.lit (.int 1)))) (.cons (.ite (.nt (.call 34 (.cons (.cap (.lst (.cons (.call 40 (.cons (.lit (.int 0)) (.cons (.v 2) (.cons (.v 5) .nil))) .nil []) (.cons (.call 40 (.cons (.lit (.int 1)) (.cons (.v 2) (.cons (.v 5) .nil))) .nil []) .nil)))) (.cons (.cap (.lst (.cons (.lst (.cons (.lit (.str "zero")) (.cons (.ix (.v 2) (.lit (.int 0))) .nil))) (.cons (.lst (.cons (.lit (.str "zero")) (.cons (.v 2) .nil))) .nil)))) .nil)) .nil [])) (.cons (.ret (.lit (.bool false))) .nil) .nil) (.cons (.ite (.or (.nt (.call 42 (.cons (.cap (.call 38 (.cons (.v 0) .nil) .nil [])) (.cons (.cap (.call 28 (.cons (.v 0) (.cons (.lit (.int 41)) .nil)) .nil [])) .nil)) .nil [])) (.nt (.call 42 (.cons (.v 3) (.cons (.cap (.call 28 (.cons (.v 0) (.cons (.lit (.int 4)) .nil)) .nil [])) .nil)) .nil []))) (.cons (.ret (.lit (.bool false))) .nil) .nil) (.cons (.own 6 (.comp (.ix (.lst (.cons (.call 38 (.cons (.v 0) .nil) .nil []) (.cons (.call 37 (.cons (.v 0) .nil) .nil []) .nil))) (.bin .fdiv (.call 28 (.cons (.v 0) (.cons (.lit (.int 5)) .nil)) .nil []) (.lit (.int 4)))) (.v 7) (.r1 (.call 28 (.cons (.v 0) (.cons (.lit (.int 12)) .nil)) .nil [])) (.lit (.bool true)) [7])) (.cons (.ite (.and (.cmp .ne (.v 6) (.lst .nil)) (.cmp .eq (.call 28 (.cons (.v 0) (.cons (.lit (.int 3)) .nil)) .nil []) (.lit (.int 0)))) (.cons (.app 6 (.ix (.v 6) (.call 28 (.cons (.v 0) (.cons (.cap (.blt .len (.cons (.v 6) .nil))) .nil)) .nil []))) .nil) .nil) (.cons (.ret (.and (.call 41 (.cons (.v 2) (.cons (.v 3) .nil)) .nil []) (.and (.call 41 (.cons (.v 3) (.cons (.v 2) .nil)) .nil []) (.call 43 (.cons (.v 0) (.cons (.cap (.v 6)) .nil)) .nil [])))) .nil)))))))))) (lrE l .emp .emp .emp .emp .emp .emp .emp)) = _
  rw [exs_ok S0, exs_ok S1, exs_ok S2, exs_ok S3, exs_ok S4, exs_ok S5, exs_ok S6, exs_ok S7, exs_ok S8, exs_ret S9 rfl]
  rfl
def tenP : List Q2 := [(0, 1), (0, 2), (0, -1), (0, 0), (1, 0), (-1, 1), (1, -1), (2, 4), (3, 9), (4, 9)]
theorem law_ok (pr : EProg) (m : Nat) (hp : pr.globs = globs) (hsub : pr.sub = subF) (hf : 2 ^ 4000 ≤ pr.fuel) (ns : List Int) (hn : ns.length ≤ 63) : run pr defs (m + 12) 45 [.d (.list (ns.map PyData.int))] = .ok (.d (.bool true)) [none] := by
  rw [run_at (d := d_law) rfl ⟨rfl, by decide⟩]
  have ln : bltD .len [.list (ns.map PyData.int)] = some (.d (.int ns.length)) := by
    show some (Rs.d (.int ((ns.map PyData.int).length : Nat))) = _
    rw [List.length_map]
  obtain ⟨N, hN, ⟨y, mi, mx⟩⟩ : ∃ N : Nat, N ≤ 30 ∧ (∃ y : Int, bltD .min2 [.int ns.length, .int 30] = some (.d (.int y)) ∧ bltD .max2 [.int 3, .int y] = some (.d (.int N))) := by
    refine ⟨(if (if (30 : Int) < (ns.length : Int) then 30 else (ns.length : Int)) > 3 then (if (30 : Int) < (ns.length : Int) then 30 else (ns.length : Int)) else 3).toNat, ?_, ⟨_, rfl, ?_⟩⟩
    · split <;> (try split) <;> omega
    · show some (Rs.d (.int (if (if (30 : Int) < (ns.length : Int) then 30 else (ns.length : Int)) > 3 then (if (30 : Int) < (ns.length : Int) then 30 else (ns.length : Int)) else 3))) = _
      rw [Int.toNat_of_nonneg (by split <;> (try split) <;> omega)]
  have hit : items pr (run pr defs (m + 11)) 1 (.r1 (.blt .max2 (.cons (.lit (.int 3)) (.cons (.blt .min2 (.cons (.blt .len (.cons (.v 0) .nil)) (.cons (.lit (.int 30)) .nil))) .nil)))) [.val (.list (ns.map PyData.int)), .emp, .emp] = .ok ((List.range N).map fun (k : Nat) => PyData.int k) [.val (.list (ns.map PyData.int)), .emp, .emp] := by
    refine r1_ev (by omega) ?_
    generalize PyData.list (ns.map PyData.int) = S0 at ln ⊢
    generalize (ns.length : Int) = lx at ln mi
    generalize run pr defs (m + 11) = T
    simp [ln, mi, mx, exs, ex, ev, evs, items, startEnv, argSlot, Out.bind, Out.no, lift, view, viewAll, gt, capt, captAll, put, putAll, assignTg, isOwn, asB, boolOf, Ev.finish, fins, finOf, moveOut, callF, mkArgs, mkArg, lent, back, nodupB, permute, parPl, putQ, asgT, setAt]
  obtain ⟨e', h1, x1, rfl⟩ := for_inv (np := 1) (tg := .v 1) (body := fun e => exs pr (run pr defs (m + 11)) 1 (.cons (.ite (.nt (.call 44 (.cons (.call 27 (.cons (.v 0) (.cons (.v 1) .nil)) .nil []) .nil) .nil [])) (.cons (.ret (.lit (.bool false))) .nil) .nil) .nil) e) (xs := (List.range N).map fun (j : Nat) => PyData.int j) (e := [.val (.list (ns.map PyData.int)), .emp, .emp])
    (fun _ e => ∃ x1, e = [.val (.list (ns.map PyData.int)), x1, .emp]) ⟨_, rfl⟩ (fun j e x hx ⟨x1, he⟩ => by
      subst he
      have hj : j < N := by
        have := (List.getElem?_eq_some_iff.mp hx).1
        simpa using this
      have ex : x = .int (j : Nat) := by
        rw [List.getElem?_map, List.getElem?_range hj] at hx
        exact (Option.some.inj hx).symm
      subst ex
      obtain ⟨l, hl, c1⟩ := deck_ok pr (m + 10) ns j (by omega) hn
      obtain ⟨l', c2⟩ := right_ok pr m hp hsub hf l hl
      refine ⟨[.val (.list (ns.map PyData.int)), .val (.int (j : Nat)), .emp], [.val (.list (ns.map PyData.int)), .val (.int (j : Nat)), .emp], put_loc (i := 1) rfl rfl, ?_, _, rfl⟩
      generalize PyData.list (ns.map PyData.int) = S0 at c1 ⊢
      generalize ((j : Nat) : Int) = ji at c1 ⊢
      obtain ⟨T, hT⟩ : ∃ T : FT, T = run pr defs (m + 11) := ⟨_, rfl⟩
      rw [← hT] at c1 c2 ⊢
      simp [c1, c2, exs, ex, ev, evs, items, startEnv, argSlot, Out.bind, Out.no, lift, view, viewAll, gt, capt, captAll, put, putAll, assignTg, isOwn, asB, boolOf, Ev.finish, fins, finOf, moveOut, callF, mkArgs, mkArg, lent, back, nodupB, permute, parPl, putQ, asgT, setAt])
  have S0 := ex_for (tg := .v 1) hit h1
  obtain ⟨e2, h2, x2, rfl⟩ := forL_fold (np := 1) (tg := .v 2) (body := fun e => exs pr (run pr defs (m + 11)) 1 (.cons (.ite (.nt (.call 34 (.cons (.cap (.call 10 (.cons (.v 2) .nil) .nil [])) (.cons (.cap (.call 39 (.cons (.v 2) .nil) .nil [])) .nil)) .nil [])) (.cons (.ret (.lit (.bool false))) .nil) .nil) .nil) e) pr2 (fun (b : Unit) _ => b) (fun _ e => ∃ x2, e = [.val (.list (ns.map PyData.int)), x1, x2]) () tenP [] (fun pre a post hpp e ⟨x2, he⟩ => by
    subst he
    have ha : a ∈ tenP := by rw [show tenP = pre ++ a :: post from hpp]; simp
    have bd : a.1.natAbs < 2 ^ 10 ∧ a.2.natAbs < 2 ^ 10 := by
      have : ∀ c ∈ tenP, c.1.natAbs < 2 ^ 10 ∧ c.2.natAbs < 2 ^ 10 := by decide
      exact this a ha
    have c1 := is_number_ok pr (m + 9) a bd.1 bd.2
    have c2 := is_ok pr (m + 9) hf a (Nat.lt_of_lt_of_le bd.2 (Nat.pow_le_pow_right (by decide) (by decide)))
    have c3 := same_ok pr (m + 10) (.bool (okN a)) (Nat.zero_le _) rfl
    refine ⟨[.val (.list (ns.map PyData.int)), x1, .val (pr2 a)], [.val (.list (ns.map PyData.int)), x1, .val (pr2 a)], put_loc (i := 2) rfl rfl, ?_, _, rfl⟩
    generalize PyData.bool (okN a) = b at c1 c2 c3
    generalize pr2 a = q at c1 c2 ⊢
    generalize PyData.list (ns.map PyData.int) = S0
    obtain ⟨T, hT⟩ : ∃ T : FT, T = run pr defs (m + 11) := ⟨_, rfl⟩
    rw [← hT] at c1 c2 c3 ⊢
    simp [c1, c2, c3, exs, ex, ev, evs, items, startEnv, argSlot, Out.bind, Out.no, lift, view, viewAll, gt, capt, captAll, put, putAll, assignTg, isOwn, asB, boolOf, Ev.finish, fins, finOf, moveOut, callF, mkArgs, mkArg, lent, back, nodupB, permute, parPl, putQ, asgT, setAt]) [.val (.list (ns.map PyData.int)), x1, .emp] ⟨_, rfl⟩
  have S1 := ex_for (pr := pr) (T := run pr defs (m + 11)) (np := 1) (e := [.val (.list (ns.map PyData.int)), x1, .emp]) (it := (.seq (.lst (.cons (.tup (.cons (.lit (.int 0)) (.cons (.lit (.int 1)) .nil))) (.cons (.tup (.cons (.lit (.int 0)) (.cons (.lit (.int 2)) .nil))) (.cons (.tup (.cons (.lit (.int 0)) (.cons (.neg (.lit (.int 1))) .nil))) (.cons (.tup (.cons (.lit (.int 0)) (.cons (.lit (.int 0)) .nil))) (.cons (.tup (.cons (.lit (.int 1)) (.cons (.lit (.int 0)) .nil))) (.cons (.tup (.cons (.neg (.lit (.int 1))) (.cons (.lit (.int 1)) .nil))) (.cons (.tup (.cons (.lit (.int 1)) (.cons (.neg (.lit (.int 1))) .nil))) (.cons (.tup (.cons (.lit (.int 2)) (.cons (.lit (.int 4)) .nil))) (.cons (.tup (.cons (.lit (.int 3)) (.cons (.lit (.int 9)) .nil))) (.cons (.tup (.cons (.lit (.int 4)) (.cons (.lit (.int 9)) .nil))) .nil))))))))))))) (tg := .v 2) (e1 := [.val (.list (ns.map PyData.int)), x1, .emp]) rfl h2
  obtain ⟨l9, k9, c9⟩ := rowr_ok pr (m + 1) hf [.int 0, .int 7] ⟨0, 7, rfl, by decide, by decide, by decide⟩ [] (K := 290) (fun _ z => nomatch z) (fun _ z => nomatch z) (by decide) (by decide)
  have S2 : ev pr (run pr defs (m + 11)) 1 (.call 43 (.cons (.lst (.cons (.lit (.int 0)) (.cons (.lit (.int 7)) .nil))) (.cons (.cap (.lst .nil)) .nil)) .nil []) [.val (.list (ns.map PyData.int)), x1, x2] = .ok (.d (.bool true)) [.val (.list (ns.map PyData.int)), x1, x2] := ev_call (rs := [.fresh (.lst [.int 0, .int 7]), .d (.list [])]) rfl rfl rfl rfl rfl c9 rfl
  show Ev.finish _ (exs pr (run pr defs (m + 11)) 1 (.cons (.for_ (.v 1) (.r1 (.blt .max2 (.cons (.lit (.int 3)) (.cons (.blt .min2 (.cons (.blt .len (.cons (.v 0) .nil)) (.cons (.lit (.int 30)) .nil))) .nil)))) (.cons (.ite (.nt (.call 44 (.cons (.call 27 (.cons (.v 0) (.cons (.v 1) .nil)) .nil []) .nil) .nil [])) (.cons (.ret (.lit (.bool false))) .nil) .nil) .nil)) (.cons (.for_ (.v 2) (.seq (.lst (.cons (.tup (.cons (.lit (.int 0)) (.cons (.lit (.int 1)) .nil))) (.cons (.tup (.cons (.lit (.int 0)) (.cons (.lit (.int 2)) .nil))) (.cons (.tup (.cons (.lit (.int 0)) (.cons (.neg (.lit (.int 1))) .nil))) (.cons (.tup (.cons (.lit (.int 0)) (.cons (.lit (.int 0)) .nil))) (.cons (.tup (.cons (.lit (.int 1)) (.cons (.lit (.int 0)) .nil))) (.cons (.tup (.cons (.neg (.lit (.int 1))) (.cons (.lit (.int 1)) .nil))) (.cons (.tup (.cons (.lit (.int 1)) (.cons (.neg (.lit (.int 1))) .nil))) (.cons (.tup (.cons (.lit (.int 2)) (.cons (.lit (.int 4)) .nil))) (.cons (.tup (.cons (.lit (.int 3)) (.cons (.lit (.int 9)) .nil))) (.cons (.tup (.cons (.lit (.int 4)) (.cons (.lit (.int 9)) .nil))) .nil)))))))))))) (.cons (.ite (.nt (.call 34 (.cons (.cap (.call 10 (.cons (.v 2) .nil) .nil [])) (.cons (.cap (.call 39 (.cons (.v 2) .nil) .nil [])) .nil)) .nil [])) (.cons (.ret (.lit (.bool false))) .nil) .nil) .nil)) (.cons (.ret (.call 43 (.cons (.lst (.cons (.lit (.int 0)) (.cons (.lit (.int 7)) .nil))) (.cons (.cap (.lst .nil)) .nil)) .nil [])) .nil))) [.val (.list (ns.map PyData.int)), .emp, .emp]) = _
  rw [exs_ok S0, exs_ok S1, exs_ret S2 rfl]
  rfl
theorem kept : Kept := fun ns hn => ⟨2 ^ 4000, [none], law_ok ⟨globs, 2 ^ 4000, subF⟩ 48 rfl rfl (Nat.le_refl _) ns hn⟩
end K01
end
theorem PySem.Challenge.cw_oneservesall_k01_whole_numbers_holds : PySem.Challenge.rw_oneservesall_k01_whole_numbers.Holds :=
  K01.holds K01.kept
