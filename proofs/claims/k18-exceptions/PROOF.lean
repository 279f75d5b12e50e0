import PyProof.Rows.All
import Wide.All
import OpenK.AllK
import Wide.FinOn
import HandS.ForMost
import HandS.ForExc
import HandS.TryMany
import HandS.ExcIs
import HandS.IsInst
import HandS.Flow
import HandS.Deep
import HandS.SetFor
import HandS.Style
import HandS.TupAny
import HandS.SortInts
import HandS.Zip
import HandS.More
import HandS.RaiseMore
import HandS.SetBool
import HandS.ExcInit
import HandS.ExcField
import HandS.Conv
import HandS.Strs
import HandS.SortKw
import KE.GoesMore
import PySem.Challenge.RW_downhillcubes_k18_exceptions
set_option maxHeartbeats 4000000
set_option Elab.async false
set_option linter.all false
set_option maxRecDepth 100000
/-! DH, part A: the data, the pure operations, the small language and its evaluator. No program in sight. -/
namespace DH
open PySem

abbrev D := PyData

structure Exn where
  c : Nat
  a : Option D

inductive Res (α : Type) where
  | ok (a : α)
  | exc (x : Exn)
  | stuck

def Res.bind {α β : Type} (r : Res α) (f : α → Res β) : Res β := match r with
  | .ok a => f a
  | .exc x => .exc x
  | .stuck => .stuck
@[simp] theorem bind_ok {α β : Type} (a : α) (f : α → Res β) : Res.bind (.ok a) f = f a := id rfl
@[simp] theorem bind_exc {α β : Type} (x : Exn) (f : α → Res β) : Res.bind (.exc x : Res α) f = .exc x := id rfl
@[simp] theorem bind_stuck {α β : Type} (f : α → Res β) : Res.bind (.stuck : Res α) f = .stuck := id rfl
def ofO {α : Type} (o : Option α) : Res α := match o with
  | some a => .ok a
  | none => .stuck
@[simp] theorem ofO_some {α : Type} (a : α) : ofO (some a) = .ok a := id rfl
@[simp] theorem ofO_none {α : Type} : ofO (none : Option α) = .stuck := id rfl

/-- how many items a list may have here -/
abbrev LIM : Nat := 100000

/-! ### pure operations -/
def intsD : List D → Option (List Int)
  | [] => some []
  | .int i :: r => match intsD r with
    | some ns => some (i :: ns)
    | none => none
  | _ => none

def insI (x : Int) : List Int → List Int
  | [] => [x]
  | y :: r => if x ≤ y then x :: y :: r else y :: insI x r
def sortI : List Int → List Int
  | [] => []
  | x :: r => insI x (sortI r)

inductive Ty where
  | int | bool | tuple | list | str
  deriving DecidableEq
def isiD : Ty → D → Bool
  | .int, .int _ => true
  | .int, .bool _ => true
  | .bool, .bool _ => true
  | .tuple, .tuple _ => true
  | .list, .list _ => true
  | .str, .str _ => true
  | _, _ => false

def isi1 (t : Ty) : D → Option D
  | .dict _ => none
  | d => some (.bool (isiD t d))
def isNoneD : D → Bool
  | .none => true
  | _ => false

def truth : D → Option Bool
  | .none => some false
  | .bool b => some b
  | .int i => some (i != 0)
  | .list xs => some (!xs.isEmpty)
  | .tuple xs => some (!xs.isEmpty)
  | _ => none

def flatD : D → Bool
  | .none => true
  | .bool _ => true
  | .int _ => true
  | .str _ => true
  | _ => false

/-- no dict within -/
abbrev shp (d : D) : Bool := SeqAt.shaped d

inductive P1 where
  | len | sum | sorted | tuple | list | lenset | sortset | max | min | int | bool | str | rev | isN | notN | neg | rng
  | dget (j : Nat) | dnotin (j : Nat) | isi (t : Ty) | maxd | mid (i j : Int) | joinsp | splitsp | fld (j : Nat)
  deriving DecidableEq
inductive P2 where
  | add | sub | mul | fdiv | mod | pow | eq | ne | lt | le | gt | ge | isin | notin | idx | max2 | min2 | index | count | frm | upto
  deriving DecidableEq

structure Gd where
  cs : List D
  ds : List (List (Int × Int))

def maxI : Int → List Int → Int
  | m, [] => m
  | m, x :: r => maxI (if m < x then x else m) r
def minI : Int → List Int → Int
  | m, [] => m
  | m, x :: r => minI (if x < m then x else m) r

/-- the intsD without repetition -/
def dedI : List Int → List Int
  | [] => []
  | x :: r => if r.contains x then dedI r else x :: dedI r
/-- bools as intsD, for sets -/
def bools : List D → Option (List Bool)
  | [] => some []
  | .bool b :: r => match bools r with
    | some bs => some (b :: bs)
    | none => none
  | _ => none

/-- how many truth values there are -/
def dedB (bs : List Bool) : Nat := (if bs.contains true then 1 else 0) + (if bs.contains false then 1 else 0)
def strsD : List D → Option (List Str)
  | [] => some []
  | .str i :: r => match strsD r with
    | some ns => some (i :: ns)
    | none => none
  | _ => none
def cut {α : Type} (xs : List α) (lo hi : Option Int) : List α := (xs.drop (HT.sIx xs.length 0 lo)).take (HT.sIx xs.length xs.length hi - HT.sIx xs.length 0 lo)
abbrev spc : Str := " "

def lookI (k : Int) : List (Int × Int) → Option Int
  | [] => none
  | (a, b) :: r => if k == a then some b else lookI k r

def rngL (n : Nat) : List D := (List.range n).map fun (i : Nat) => .int (i : Int)

/-- an object of the class Walker: cube, steps, kept -/
def obD (c : D) (ds : List D) (k : D) : D := .dict [(.str "@", .tuple [c, .list ds, k])]
def keysI (xs : List (D × D)) : Bool := xs.all fun p => match p.1 with | .int _ => true | _ => false
def fldN : Nat → Str
  | 0 => "cube"
  | 1 => "steps"
  | _ => "kept"
def prim1 (G : Gd) : P1 → D → Option D
  | .len, .list xs => some (.int xs.length)
  | .len, .tuple xs => some (.int xs.length)
  | .len, .dict xs => if keysI xs then some (.int xs.length) else none
  | .fld j, .dict [(.str _, .tuple l)] => l[j]?
  | .len, .str x => if x.length ≤ LIM then some (.int x.length) else none
  | .sum, .list xs => (intsD xs).map fun ns => .int ns.sum
  | .sorted, .list xs => (intsD xs).map fun ns => .list ((sortI ns).map .int)
  | .sorted, .tuple xs => (intsD xs).map fun ns => .list ((sortI ns).map .int)
  | .tuple, .list xs => some (.tuple xs)
  | .tuple, .tuple xs => some (.tuple xs)
  | .list, .list xs => some (.list xs)
  | .list, .tuple xs => some (.list xs)
  | .lenset, .list xs => match intsD xs with
    | some ns => if ns.length ≤ 4000 then some (.int (dedI ns).length) else none
    | none => match bools xs with
      | some bs => if bs.length ≤ 4000 then some (.int (dedB bs : Nat)) else none
      | none => none
  | .sortset, .list xs => match intsD xs with
    | some ns => if ns.length ≤ 4000 ∧ (dedI ns).length < 64 then some (.list ((sortI (dedI ns)).map .int)) else none
    | none => none
  | .max, .list xs => match intsD xs with
    | some (x :: r) => some (.int (maxI x r))
    | _ => none
  | .maxd, .list xs => match intsD xs with
    | some (x :: r) => some (.int (maxI x r))
    | some [] => some (.int (-1))
    | none => none
  | .min, .list xs => match intsD xs with
    | some (x :: r) => some (.int (minI x r))
    | _ => none
  | .int, .int i => some (.int i)
  | .int, .bool b => some (.int (if b then 1 else 0))
  | .bool, .int i => some (.bool (i != 0))
  | .bool, .bool b => some (.bool b)
  | .str, .int i => if i.natAbs < 1000000 then some (.str (toString i)) else none
  | .rev, .list xs => some (.list xs.reverse)
  | .rev, .tuple xs => some (.tuple xs.reverse)
  | .mid i j, .list xs => some (.list (cut xs (some i) (some j)))
  | .mid i j, .tuple xs => some (.tuple (cut xs (some i) (some j)))
  | .str, .str a => some (.str a)
  | .int, .str a => if a.length ≤ 640 then (PySem.intText? a).map .int else none
  | .joinsp, .list xs => match strsD xs with
    | some ys => if (ys.map (·.length)).sum + ys.length ≤ LIM then some (.str (Txt.join spc ys)) else none
    | none => none
  | .splitsp, .str a => if a.length ≤ LIM then some (.list ((Txt.split a spc).map .str)) else none
  | .isN, d => some (.bool (isNoneD d))
  | .notN, d => some (.bool (!isNoneD d))
  | .neg, .int i => some (.int (-i))
  | .rng, .int i => if i ≤ 10000 ∧ 0 ≤ i then some (.list (rngL i.toNat)) else none
  | .dget j, .int i => match G.ds[j]? with
    | some t => (lookI i t).map .int
    | none => none
  | .dnotin j, .int i => match G.ds[j]? with
    | some t => some (.bool (lookI i t).isNone)
    | none => none
  | .isi t, d => isi1 t d
  | _, _ => none

def firstIx (p : D → Bool) : List D → Nat → Option Nat
  | [], _ => none
  | x :: r, k => if p x then some k else firstIx p r (k + 1)

def prim2 : P2 → D → D → Option D
  | .add, .int i, .int j => some (.int (i + j))
  | .add, .list xs, .list ys => if xs.length + ys.length ≤ LIM then some (.list (xs ++ ys)) else none
  | .add, .tuple xs, .tuple ys => if xs.length + ys.length ≤ LIM then some (.tuple (xs ++ ys)) else none
  | .add, .str i, .str j => if i.length + j.length ≤ LIM then some (.str (i ++ j)) else none
  | .sub, .int i, .int j => some (.int (i - j))
  | .mul, .int i, .int j => if (-(2 ^ 64) < i ∧ i < 2 ^ 64) ∨ (-(2 ^ 64) < j ∧ j < 2 ^ 64) then some (.int (i * j)) else none
  | .mul, .list xs, .int k => if 0 ≤ k ∧ k ≤ 1000 ∧ xs.length ≤ 100 then some (.list (List.replicate k.toNat xs).flatten) else none
  | .fdiv, .int i, .int j => if 0 < j ∧ j < 1073741824 then some (.int (i / j)) else none
  | .mod, .int i, .int j => if 0 < j then some (.int (i % j)) else none
  | .pow, .int i, .int j => if 0 ≤ j ∧ j ≤ 1000 ∧ i.natAbs < 2 ^ 64 then some (.int (i ^ j.toNat)) else none
  | .eq, d, e => if shp d && shp e then some (.bool (PyData.eqv d e)) else none
  | .ne, d, e => if shp d && shp e then some (.bool (!PyData.eqv d e)) else none
  | .lt, .int i, .int j => some (.bool (decide (i < j)))
  | .le, .int i, .int j => some (.bool (decide (i ≤ j)))
  | .gt, .int i, .int j => some (.bool (decide (j < i)))
  | .ge, .int i, .int j => some (.bool (decide (j ≤ i)))
  | .isin, d, .list xs => if shp d && shp (.list xs) then some (.bool (xs.any fun z => PyData.eqv z d)) else none
  | .isin, d, .tuple xs => if flatD d && xs.all flatD then some (.bool (xs.any fun z => PyData.eqv z d)) else if shp d && shp (.tuple xs) then some (.bool (xs.any fun z => PyData.eqv z d)) else none
  | .isin, .str x, .str z => match x.cps.toList with
    | [c] => some (.bool (decide (c ∈ z.cps.toList)))
    | _ => none
  | .notin, d, .list xs => if shp d && shp (.list xs) then some (.bool (!xs.any fun z => PyData.eqv z d)) else none
  | .notin, d, .tuple xs => if flatD d && xs.all flatD then some (.bool (!xs.any fun z => PyData.eqv z d)) else if shp d && shp (.tuple xs) then some (.bool (!xs.any fun z => PyData.eqv z d)) else none
  | .notin, .str x, .str z => match x.cps.toList with
    | [c] => some (.bool (!decide (c ∈ z.cps.toList)))
    | _ => none
  | .idx, .list xs, .int i => L2.atI xs i
  | .idx, .tuple xs, .int i => L2.atI xs i
  | .idx, .dict xs, .int i => if keysI xs then (L2.atI xs i).map (·.1) else none
  | .max2, .int i, .int j => some (.int (if j > i then j else i))
  | .min2, .int i, .int j => some (.int (if j < i then j else i))
  | .index, .list xs, d => if shp d && shp (.list xs) then (firstIx (fun z => PyData.eqv z d) xs 0).map fun (k : Nat) => .int (k : Int) else none
  | .index, .tuple xs, d => if flatD d && xs.all flatD then (firstIx (fun z => PyData.eqv z d) xs 0).map fun (k : Nat) => .int (k : Int) else none
  | .count, .list xs, d => if flatD d && xs.all flatD then some (.int (xs.countP (fun z => PyData.eqv z d) : Nat)) else none
  | .frm, .list xs, .int i => some (.list (cut xs (some i) none))
  | .frm, .tuple xs, .int i => some (.tuple (cut xs (some i) none))
  | .frm, .str z, .int i => if z.length ≤ LIM then some (.str (L2.cutS z (some i) none)) else none
  | .upto, .str z, .int i => if z.length ≤ LIM then some (.str (L2.cutS z none (some i))) else none
  | .upto, .list xs, .int i => some (.list (cut xs none (some i)))
  | .upto, .tuple xs, .int i => some (.tuple (cut xs none (some i)))
  | _, _, _ => none

/-! ### the language -/
inductive Tg where
  | one (i : Nat)
  | two (i j : Nat)
  deriving DecidableEq

mutual
inductive Ex where
  | var (i : Nat)
  | cst (d : D)
  | glb (g : Nat)
  | op1 (p : P1) (a : Ex)
  | op2 (p : P2) (a b : Ex)
  | chain (p q : P2) (a b c : Ex)
  | and (a b : Ex)
  | or (a b : Ex)
  | not (a : Ex)
  | ite (c a b : Ex)
  | call (f : Nat) (as : Exs)
  | tup (as : Exs)
  | lst (as : Exs)
  | comp (elt : Ex) (t : Tg) (it : Ir) (cs : Exs) (own : List (Str × Nat))
inductive Exs where
  | nil
  | cons (a : Ex) (as : Exs)
inductive Ir where
  | seq (a : Ex)
  | rng (a : Ex)
  | rng2 (a b : Ex)
  | enum (a : Ex)
  | zip (a b : Ex)
end

abbrev Env := List (Option D)
def get (env : Env) (i : Nat) : Res D := match env[i]? with
  | some (some d) => .ok d
  | _ => .stuck
def put (env : Env) (i : Nat) (d : D) : Env := env.set i (some d)
def bindT (t : Tg) (d : D) (env : Env) : Option Env := match t, d with
  | .one i, d => some (put env i d)
  | .two i j, .tuple [x, y] => some (put (put env i x) j y)
  | _, _ => none
def wipeD (env : Env) : List Nat → Env
  | [] => env
  | v :: vs => (wipeD env vs).set v none

/-- the items of what is walked -/
def seqL : D → Option (List D)
  | .list xs => some xs
  | .tuple xs => some xs
  | _ => none
/-- .. and the signs of a text -/
def seqS : D → Option (List D)
  | .str z => some (z.cps.toList.map fun (c : Nat) => .str ⟨#[c]⟩)
  | d => seqL d
def enumL : List D → Nat → List D
  | [], _ => []
  | x :: r, k => .tuple [.int (k : Int), x] :: enumL r (k + 1)
def zipL : List D → List D → List D
  | x :: r, y :: s => .tuple [x, y] :: zipL r s
  | _, _ => []
def rngI (lo : Int) (n : Nat) : List D := (List.range n).map fun (i : Nat) => .int (lo + (i : Int))

/-- the loop of a comprehension -/
def compL (f : D → Res (Option D)) : List D → List D → Res (List D)
  | [], acc => .ok acc
  | x :: r, acc => (f x).bind fun o => match o with
    | some y => if acc.length < LIM then compL f r (acc ++ [y]) else .stuck
    | none => compL f r acc

/-- no exception leaves -/
def noX {α : Type} (r : Res α) : Res α := match r with
  | .ok a => .ok a
  | _ => .stuck

abbrev Orc := Nat → List D → Res D
mutual
def ev (c : Orc) (G : Gd) : Ex → Env → Res D
  | .var i, env => get env i
  | .cst d, _ => .ok d
  | .glb g, _ => if g < 1000 then ofO G.cs[g]? else .stuck
  | .op1 p a, env => (ev c G a env).bind fun x => ofO (prim1 G p x)
  | .op2 p a b, env => (ev c G a env).bind fun x => (ev c G b env).bind fun y => ofO (prim2 p x y)
  | .chain p q a b d, env => (ev c G a env).bind fun x => (ev c G b env).bind fun y => (ofO (prim2 p x y)).bind fun r => match r with
    | .bool true => (ev c G d env).bind fun z => ofO (prim2 q y z)
    | .bool false => .ok (.bool false)
    | _ => .stuck
  | .and a b, env => (ev c G a env).bind fun x => match x with
    | .bool true => ev c G b env
    | .bool false => .ok (.bool false)
    | _ => .stuck
  | .or a b, env => (ev c G a env).bind fun x => match x with
    | .bool true => .ok (.bool true)
    | .bool false => ev c G b env
    | _ => .stuck
  | .not a, env => (ev c G a env).bind fun x => match truth x with
    | some b => .ok (.bool (!b))
    | none => .stuck
  | .ite t a b, env => (evT c G t env).bind fun k => if k then ev c G a env else ev c G b env
  | .call f as, env => (evs c G as env).bind fun xs => c f xs
  | .tup as, env => (evs c G as env).bind fun xs => .ok (.tuple xs)
  | .lst as, env => (evs c G as env).bind fun xs => .ok (.list xs)
  | .comp elt t it cs own, env => (evI c G it env).bind fun xs =>
      (noX (compL (fun x => match bindT t x (wipeD env (own.map (·.2))) with
        | none => .stuck
        | some env' => (evTs c G cs env').bind fun k => if k then (ev c G elt env').bind fun y => .ok (some y) else .ok none) xs [])).bind fun ys => .ok (.list ys)
def evT (c : Orc) (G : Gd) : Ex → Env → Res Bool
  | .and a b, env => (evT c G a env).bind fun k => if k then evT c G b env else .ok false
  | .or a b, env => (evT c G a env).bind fun k => if k then .ok true else evT c G b env
  | .not a, env => (evT c G a env).bind fun k => .ok (!k)
  | .ite t a b, env => (evT c G t env).bind fun k => if k then evT c G a env else evT c G b env
  | .var i, env => (get env i).bind fun x => ofO (truth x)
  | .cst d, _ => ofO (truth d)
  | .glb g, _ => if g < 1000 then (ofO G.cs[g]?).bind fun x => ofO (truth x) else .stuck
  | .op1 p a, env => ((ev c G a env).bind fun x => ofO (prim1 G p x)).bind fun x => ofO (truth x)
  | .op2 p a b, env => ((ev c G a env).bind fun x => (ev c G b env).bind fun y => ofO (prim2 p x y)).bind fun x => ofO (truth x)
  | .chain p q a b d, env => ((ev c G a env).bind fun x => (ev c G b env).bind fun y => (ofO (prim2 p x y)).bind fun r => match r with
    | .bool true => (ev c G d env).bind fun z => ofO (prim2 q y z)
    | .bool false => .ok (.bool false)
    | _ => .stuck).bind fun x => ofO (truth x)
  | .call f as, env => ((evs c G as env).bind fun xs => c f xs).bind fun x => ofO (truth x)
  | .tup as, env => (evs c G as env).bind fun xs => .ok (!xs.isEmpty)
  | .lst as, env => (evs c G as env).bind fun xs => .ok (!xs.isEmpty)
  | .comp elt t it cs own, env => (evI c G it env).bind fun xs =>
      (noX (compL (fun x => match bindT t x (wipeD env (own.map (·.2))) with
        | none => .stuck
        | some env' => (evTs c G cs env').bind fun k => if k then (ev c G elt env').bind fun y => .ok (some y) else .ok none) xs [])).bind fun ys => .ok (!ys.isEmpty)
def evs (c : Orc) (G : Gd) : Exs → Env → Res (List D)
  | .nil, _ => .ok []
  | .cons a as, env => (ev c G a env).bind fun x => (evs c G as env).bind fun xs => .ok (x :: xs)
def evTs (c : Orc) (G : Gd) : Exs → Env → Res Bool
  | .nil, _ => .ok true
  | .cons a .nil, env => evT c G a env
  | .cons _ (.cons _ _), _ => .stuck
def evI (c : Orc) (G : Gd) : Ir → Env → Res (List D)
  | .seq a, env => (ev c G a env).bind fun x => ofO (seqS x)
  | .rng a, env => (ev c G a env).bind fun x => match x with
    | .int n => if n ≤ 100000 ∧ -100000 ≤ n then .ok (rngI 0 n.toNat) else .stuck
    | _ => .stuck
  | .rng2 a b, env => (ev c G a env).bind fun x => (ev c G b env).bind fun y => match x, y with
    | .int m, .int n => if m ≤ 100000 ∧ -100000 ≤ m ∧ n ≤ 100000 ∧ -100000 ≤ n then .ok (rngI m (n - m).toNat) else .stuck
    | _, _ => .stuck
  | .enum a, env => (ev c G a env).bind fun x => (ofO (seqL x)).bind fun xs => .ok (enumL xs 0)
  | .zip a b, env => (ev c G a env).bind fun x => (ev c G b env).bind fun y => match x, y with
    | .list xs, .list ys => .ok (zipL xs ys)
    | .tuple xs, .tuple ys => .ok (zipL xs ys)
    | _, _ => .stuck
end
end DH
set_option Elab.async false
set_option linter.all false
set_option maxRecDepth 100000
/-! DH, part B: data in the heap; readings by the evaluator. -/
namespace DH
open PySem L2
open PySem.Spec PyProof.Rows

/-- a tuple whose object is known to have no dict: locked, or written -/
def SqD (K : PySem.W.Frag) (H : Hp) (a : Addr) (xs : List V) : Prop :=
  (∃ o, H a = some (.frz o (.tup xs)) ∧ o.dict = none) ∨
    ∃ (o : Obj) (its : Array Value) (n : Nat), K.lookup a = some o ∧ o.cls = .type "tuple" ∧ o.dict = none ∧ o.data = .seq its n ∧ its.size ≤ sizeLine ∧ Vals xs its.toList
theorem SqD.sq {K : PySem.W.Frag} {H : Hp} {a : Addr} {xs : List V} (h : SqD K H a xs) : SqT K H a xs := by
  rcases h with ⟨o, h, _⟩ | ⟨o, its, n, h1, h2, _, h3, h4, h5⟩
  · exact .inl (.inr ⟨o, h⟩)
  · exact .inr ⟨o, its, n, h1, h2, h3, h4, h5⟩
theorem SqD.mono {K : PySem.W.Frag} {H H' : Hp} {a : Addr} {xs : List V} (e : Same H H') (h : SqD K H a xs) : SqD K H' a xs := by
  rcases h with ⟨o, h, q⟩ | h
  · exact .inl ⟨o, e _ _ h, q⟩
  · exact .inr h

/-- the class of the objects -/
def WkC (K : PySem.W.Frag) (A : Addr) : Prop := PySem.W.nsIn K mainGlobals "Walker" = some (some (.ref A))
mutual
inductive Dq (K : PySem.W.Frag) (H : Hp) : V → D → Prop
  | non : Dq K H .non .none
  | bl (b : Bool) : Dq K H (.bl b) (.bool b)
  | int (i : Int) : Dq K H (.int i) (.int i)
  | str (x : Str) : Dq K H (.str x) (.str x)
  | lst {a : Addr} {xs : List V} {ds : List D} : H a = some (.lst xs) → DqAll K H xs ds → Dq K H (.ref a) (.list ds)
  | tup {a : Addr} {xs : List V} {ds : List D} : SqD K H a xs → DqAll K H xs ds → Dq K H (.ref a) (.tuple ds)
  | scr {a : Addr} {ns : List Int} : SqL K H a (ns.map V.int) → Dq K H (.ref a) (.dict (ns.map fun i => (PyData.int i, PyData.none)))
  | obj {a A dx p : Addr} {cv kv : V} {vs : List V} {c k : D} {ds : List D} : WkC K A → H a = some (.ins A dx [("cube", cv), ("steps", .ref p), ("kept", kv)]) → H p = some (.lst vs) → Dq K H cv c → DqAll K H vs ds → Dq K H kv k → Dq K H (.ref a) (obD c ds k)
inductive DqAll (K : PySem.W.Frag) (H : Hp) : List V → List D → Prop
  | nil : DqAll K H [] []
  | cons {v : V} {vs : List V} {d : D} {ds : List D} : Dq K H v d → DqAll K H vs ds → DqAll K H (v :: vs) (d :: ds)
end

mutual
theorem Dq.mono {K : PySem.W.Frag} {H H' : Hp} (e : Same H H') : ∀ {v : V} {d : D}, Dq K H v d → Dq K H' v d
  | _, _, .non => .non
  | _, _, .bl b => .bl b
  | _, _, .int i => .int i
  | _, _, .str x => .str x
  | _, _, .lst h r => .lst (e _ _ h) (DqAll.mono e r)
  | _, _, .tup h r => .tup (h.mono e) (DqAll.mono e r)
  | _, _, .scr h => .scr (e.seq h)
  | _, _, .obj w h1 h2 q1 q2 q3 => .obj w (e _ _ h1) (e _ _ h2) (Dq.mono e q1) (DqAll.mono e q2) (Dq.mono e q3)
theorem DqAll.mono {K : PySem.W.Frag} {H H' : Hp} (e : Same H H') : ∀ {vs : List V} {ds : List D}, DqAll K H vs ds → DqAll K H' vs ds
  | _, _, .nil => .nil
  | _, _, .cons h r => .cons (Dq.mono e h) (DqAll.mono e r)
end
theorem DqAll.length {K : PySem.W.Frag} {H : Hp} : ∀ {vs : List V} {ds : List D}, DqAll K H vs ds → vs.length = ds.length
  | _, _, .nil => rfl
  | _, _, .cons _ r => by simp [DqAll.length r]
theorem DqAll.get {K : PySem.W.Frag} {H : Hp} : ∀ {vs : List V} {ds : List D} {i : Nat} {d : D}, DqAll K H vs ds → ds[i]? = some d → ∃ v, vs[i]? = some v ∧ Dq K H v d
  | _, _, _, _, .nil, e => by simp at e
  | _, _, 0, _, .cons h _, e => by simp at e; subst e; exact ⟨_, rfl, h⟩
  | _, _, i + 1, d, .cons _ r, e => by
    obtain ⟨v, h1, h2⟩ := DqAll.get (i := i) (d := d) r (by simpa using e)
    exact ⟨v, by simpa using h1, h2⟩
theorem DqAll.append {K : PySem.W.Frag} {H : Hp} : ∀ {vs ws : List V} {ds es : List D}, DqAll K H vs ds → DqAll K H ws es → DqAll K H (vs ++ ws) (ds ++ es)
  | _, _, _, _, .nil, r => r
  | _, _, _, _, .cons h t, r => .cons h (DqAll.append t r)
theorem DqAll.set {K : PySem.W.Frag} {H : Hp} {v : V} {d : D} (q : Dq K H v d) : ∀ {vs : List V} {ds : List D} (i : Nat), DqAll K H vs ds → DqAll K H (vs.set i v) (ds.set i d)
  | _, _, _, .nil => .nil
  | _, _, 0, .cons _ t => .cons q t
  | _, _, i + 1, .cons h t => .cons h (DqAll.set q i t)
theorem DqAll.drop {K : PySem.W.Frag} {H : Hp} : ∀ {vs : List V} {ds : List D} (n : Nat), DqAll K H vs ds → DqAll K H (vs.drop n) (ds.drop n)
  | _, _, 0, r => r
  | _, _, _ + 1, .nil => .nil
  | _, _, n + 1, .cons _ t => DqAll.drop n t
theorem DqAll.take {K : PySem.W.Frag} {H : Hp} : ∀ {vs : List V} {ds : List D} (n : Nat), DqAll K H vs ds → DqAll K H (vs.take n) (ds.take n)
  | _, _, 0, _ => .nil
  | _, _, _ + 1, .nil => .nil
  | _, _, n + 1, .cons h t => .cons h (DqAll.take n t)
theorem DqAll.reverse {K : PySem.W.Frag} {H : Hp} {vs : List V} {ds : List D} (r : DqAll K H vs ds) : DqAll K H vs.reverse ds.reverse := by
  induction vs generalizing ds with
  | nil => cases r; exact .nil
  | cons v vs ih =>
    cases r with
    | cons h t =>
      rw [List.reverse_cons, List.reverse_cons]
      exact (ih t).append (.cons h .nil)
theorem DqAll.dropLast {K : PySem.W.Frag} {H : Hp} {vs : List V} {ds : List D} (r : DqAll K H vs ds) : DqAll K H vs.dropLast ds.dropLast := by
  rw [List.dropLast_eq_take, List.dropLast_eq_take, r.length]
  exact r.take _
theorem DqAll.eraseIdx {K : PySem.W.Frag} {H : Hp} : ∀ {vs : List V} {ds : List D} (i : Nat), DqAll K H vs ds → DqAll K H (vs.eraseIdx i) (ds.eraseIdx i)
  | _, _, _, .nil => .nil
  | _, _, 0, .cons _ t => t
  | _, _, i + 1, .cons h t => .cons h (DqAll.eraseIdx i t)
theorem DqAll.rep {K : PySem.W.Frag} {H : Hp} {vs : List V} {ds : List D} (r : DqAll K H vs ds) : ∀ k : Nat, DqAll K H (List.replicate k vs).flatten (List.replicate k ds).flatten
  | 0 => .nil
  | k + 1 => by
    rw [List.replicate_succ, List.replicate_succ, List.flatten_cons, List.flatten_cons]
    exact r.append (r.rep k)

/-- ints in the heap -/
theorem DqAll.intsD {K : PySem.W.Frag} {H : Hp} : ∀ {vs : List V} {ds : List D} {ns : List Int}, DqAll K H vs ds → intsD ds = some ns → vs = ns.map V.int
  | _, _, _, .nil, e => by simp [DH.intsD] at e; subst e; rfl
  | _, d :: ds, ns, .cons h t, e => by
    cases d with
    | int i =>
      cases h
      unfold DH.intsD at e
      cases q : DH.intsD ds with
      | none => rw [q] at e; cases e
      | some ms =>
        rw [q] at e
        have e' : i :: ms = ns := Option.some.inj e
        subst e'
        rw [t.intsD q]; rfl
    | _ => simp [DH.intsD] at e
theorem DqAll.boolsD {K : PySem.W.Frag} {H : Hp} : ∀ {vs : List V} {ds : List D} {ns : List Bool}, DqAll K H vs ds → bools ds = some ns → vs = ns.map V.bl
  | _, _, _, .nil, e => by simp [DH.bools] at e; subst e; rfl
  | _, d :: ds, ns, .cons h t, e => by
    cases d with
    | bool i =>
      cases h
      unfold DH.bools at e
      cases q : DH.bools ds with
      | none => rw [q] at e; cases e
      | some ms =>
        rw [q] at e
        have e' : i :: ms = ns := Option.some.inj e
        subst e'
        rw [t.boolsD q]; rfl
    | _ => simp [DH.bools] at e
theorem dqAll_ints {K : PySem.W.Frag} {H : Hp} : ∀ ns : List Int, DqAll K H (ns.map V.int) (ns.map PyData.int)
  | [] => .nil
  | i :: r => .cons (.int i) (dqAll_ints r)

-- without dicts: the library's own relation
mutual
theorem Dq.dp {K : PySem.W.Frag} {H : Hp} : ∀ {v : V} {d : D}, Dq K H v d → d.canLay0 = true → Dp K H v d
  | _, _, .non, _ => .non
  | _, _, .bl b, _ => .bl b
  | _, _, .int i, _ => .int i
  | _, _, .str x, _ => .str x
  | _, _, .lst h r, q => .lst (SqL.of h) (DqAll.dp r (by simpa [PyData.canLay0] using q))
  | _, _, .tup h r, q => .tup h.sq (DqAll.dp r (by simpa [PyData.canLay0] using q))
  | _, _, .scr h, q => by simp [PyData.canLay0] at q
  | _, _, .obj w h1 h2 q1 q2 q3, q => by simp [obD, PyData.canLay0] at q
theorem DqAll.dp {K : PySem.W.Frag} {H : Hp} : ∀ {vs : List V} {ds : List D}, DqAll K H vs ds → PyData.canLayAll0 ds = true → DpAll K H vs ds
  | _, _, .nil, _ => .nil
  | _, _, .cons h r, q => by
    simp only [PyData.canLayAll0, Bool.and_eq_true] at q
    exact .cons (Dq.dp h q.1) (DqAll.dp r q.2)
end

/-! ### modes -/
inductive Md where
  | O | V | R
  deriving DecidableEq

/-- a list that is read, owned or not -/
def Mtb (K : PySem.W.Frag) (F H : Hp) (v : V) (d : D) : Prop := ∃ a vs ds, v = .ref a ∧ d = .list ds ∧ H a = some (.lst vs) ∧ DqAll K F vs ds
/-- a list that is new since H and not in F'; or another thing -/
def Own (K : PySem.W.Frag) (H F' H' : Hp) (v : V) (d : D) : Prop :=
  (∃ a vs ds, v = .ref a ∧ d = .list ds ∧ H' a = some (.lst vs) ∧ F' a = none ∧ H a = none ∧ DqAll K F' vs ds) ∨ ((∀ ds, d ≠ .list ds) ∧ Dq K F' v d)
def Post (K : PySem.W.Frag) (m : Md) (F' H H' : Hp) (v : V) (d : D) : Prop := match m with
  | .O => Own K H F' H' v d
  | .V => Dq K F' v d
  | .R => Dq K F' v d ∨ Mtb K F' H' v d

structure Ext (F H F' H' : Hp) : Prop where
  hh : Same H H'
  ff : Same F F'
  fh : Same F' H'
  nw : ∀ b o, F' b = some o → (∃ u, F b = some u) ∨ H b = none

theorem Ext.refl {F H : Hp} (h : Same F H) : Ext F H F H := ⟨Same.refl _, Same.refl _, h, fun _ o q => .inl ⟨o, q⟩⟩
theorem Ext.trans {F H F1 H1 F2 H2 : Hp} (a : Ext F H F1 H1) (b : Ext F1 H1 F2 H2) : Ext F H F2 H2 :=
  ⟨a.hh.trans b.hh, a.ff.trans b.ff, b.fh, fun c o q => by
    rcases b.nw c o q with ⟨u, e⟩ | e
    · exact a.nw c u e
    · exact .inr (a.hh.free e)⟩
theorem same_upd {H : Hp} {a : Addr} {o : HO} (n : H a = none) : Same H (upd H a o) := fun b u e => by
  rw [upd_ne (ne_of_none e n)]
  exact e
/-- a new object, not frozen -/
theorem Ext.new {F H : Hp} {a : Addr} {o : HO} (h : Same F H) (n : H a = none) : Ext F H F (upd H a o) :=
  ⟨same_upd n, Same.refl _, h.trans (same_upd n), fun _ o q => .inl ⟨o, q⟩⟩
/-- a new object, frozen -/
theorem Ext.frz {F H : Hp} {a : Addr} {o : HO} (h : Same F H) (n : H a = none) : Ext F H (upd F a o) (upd H a o) := by
  have nF : F a = none := h.free n
  refine ⟨same_upd n, same_upd nF, fun b u e => ?_, fun b u e => ?_⟩
  · by_cases hb : b = a
    · subst hb; rw [upd_same] at e ⊢; exact e
    · rw [upd_ne hb] at e ⊢; exact h _ _ e
  · by_cases hb : b = a
    · subst hb; exact .inr n
    · rw [upd_ne hb] at e; exact .inl ⟨u, e⟩
/-- an owned object is frozen -/
theorem Ext.freeze {F H F' H' : Hp} {a : Addr} {o : HO} (x : Ext F H F' H') (n : H a = none) (nF : F' a = none) (e : H' a = some o) : Ext F H (upd F' a o) H' :=
  ⟨x.hh, x.ff.trans (same_upd nF), fun b u q => by
    by_cases hb : b = a
    · subst hb; rw [upd_same] at q; cases q; exact e
    · rw [upd_ne hb] at q; exact x.fh _ _ q, fun b u q => by
    by_cases hb : b = a
    · subst hb; exact .inr n
    · rw [upd_ne hb] at q; exact x.nw _ _ q⟩

theorem Own.step {K : PySem.W.Frag} {H0 F H F' H' : Hp} {v : V} {d : D} (o : Own K H0 F H v d) (x : Ext F H F' H') : Own K H0 F' H' v d := by
  rcases o with ⟨a, vs, ds, rfl, rfl, h1, h2, h3, h4⟩ | ⟨h1, h2⟩
  · refine .inl ⟨a, vs, ds, rfl, rfl, x.hh _ _ h1, ?_, h3, h4.mono x.ff⟩
    cases q : F' a with
    | none => rfl
    | some u =>
      rcases x.nw _ _ q with ⟨u', e⟩ | e
      · rw [h2] at e; cases e
      · rw [h1] at e; cases e
  · exact .inr ⟨h1, h2.mono x.ff⟩
/-- what is read stands on -/
theorem Post.stepR {K : PySem.W.Frag} {H0 F H F' H' : Hp} {v : V} {d : D} (o : Post K .R F H0 H v d) (x : Ext F H F' H') : Post K .R F' H H' v d := by
  rcases o with h | ⟨a, vs, ds, rfl, rfl, h1, h2⟩
  · exact .inl (h.mono x.ff)
  · exact .inr ⟨a, vs, ds, rfl, rfl, x.hh _ _ h1, h2.mono x.ff⟩
theorem Own.toR {K : PySem.W.Frag} {H0 F H : Hp} {v : V} {d : D} (o : Own K H0 F H v d) (Hx : Hp) : Post K .R F Hx H v d := by
  rcases o with ⟨a, vs, ds, rfl, rfl, h1, h2, h3, h4⟩ | ⟨h1, h2⟩
  · exact .inr ⟨a, vs, ds, rfl, rfl, h1, h4⟩
  · exact .inl h2

/-! ### the state -/
structure Rel (K : PySem.W.Frag) (M : Nat → Bool) (F0 H0 F : Hp) (env : Env) (σ : L2.St) (H : Hp) : Prop where
  ext : Ext F0 H0 F H
  len : env.length = σ.length
  sl : ∀ i d, env[i]? = some (some d) → ∃ v, σ[i]? = some (some v) ∧ (if M i = true then Own K H0 F H v d else Dq K F v d)
  ds : ∀ i j a di dj, M i = true → M j = true → env[i]? = some (some (.list di)) → env[j]? = some (some (.list dj)) → σ[i]? = some (some (.ref a)) → σ[j]? = some (some (.ref a)) → i = j

theorem Rel.fh {K : PySem.W.Frag} {M : Nat → Bool} {F0 H0 F H : Hp} {env : Env} {σ : L2.St} (r : Rel K M F0 H0 F env σ H) : Same F H := r.ext.fh
theorem Rel.step {K : PySem.W.Frag} {M : Nat → Bool} {F0 H0 F H F' H' : Hp} {env : Env} {σ : L2.St} (r : Rel K M F0 H0 F env σ H) (x : Ext F H F' H') : Rel K M F0 H0 F' env σ H' :=
  ⟨r.ext.trans x, r.len, fun i d e => by
    obtain ⟨v, h1, h2⟩ := r.sl i d e
    refine ⟨v, h1, ?_⟩
    split at h2
    · rename_i h; rw [if_pos h]; exact h2.step x
    · rename_i h; rw [if_neg h]; exact h2.mono x.ff, r.ds⟩
/-- forgetting a slot -/
theorem Rel.forget {K : PySem.W.Frag} {M : Nat → Bool} {F0 H0 F H : Hp} {env : Env} {σ : L2.St} (r : Rel K M F0 H0 F env σ H) (j : Nat) (u : Option V) : Rel K M F0 H0 F (env.set j none) (σ.set j u) H := by
  have g : ∀ i d, (env.set j none)[i]? = some (some d) → env[i]? = some (some d) ∧ i ≠ j := fun i d e => by
    by_cases hj : j = i
    · subst hj
      by_cases hl : j < env.length
      · rw [List.getElem?_set_self hl] at e; cases e
      · rw [List.getElem?_eq_none (by simpa using hl)] at e; cases e
    · rw [List.getElem?_set_ne hj] at e; exact ⟨e, fun q => hj q.symm⟩
  refine ⟨r.ext, by simp [r.len], fun i d e => ?_, fun i k a di dk h1 h2 e1 e2 e3 e4 => ?_⟩
  · obtain ⟨e', ne⟩ := g i d e
    rw [List.getElem?_set_ne (Ne.symm ne)]
    exact r.sl i d e'
  · obtain ⟨e1', n1⟩ := g i _ e1
    obtain ⟨e2', n2⟩ := g k _ e2
    rw [List.getElem?_set_ne (Ne.symm n1)] at e3
    rw [List.getElem?_set_ne (Ne.symm n2)] at e4
    exact r.ds i k a di dk h1 h2 e1' e2' e3 e4
/-- a slot is stored -/
theorem Rel.store {K : PySem.W.Frag} {M : Nat → Bool} {F0 H0 F H : Hp} {env : Env} {σ : L2.St} (r : Rel K M F0 H0 F env σ H) {j : Nat} {v : V} {d : D}
    (hv : if M j = true then Own K H0 F H v d else Dq K F v d)
    (hd : M j = true → ∀ i a di dj, i ≠ j → M i = true → env[i]? = some (some (.list di)) → σ[i]? = some (some (.ref a)) → d = .list dj → v ≠ .ref a) :
    Rel K M F0 H0 F (put env j d) (σ.set j (some v)) H := by
  unfold put
  have g : ∀ i e, (env.set j (some d))[i]? = some (some e) → (i = j ∧ e = d ∧ j < env.length) ∨ (i ≠ j ∧ env[i]? = some (some e)) := fun i e q => by
    by_cases hj : j = i
    · subst hj
      by_cases hl : j < env.length
      · rw [List.getElem?_set_self hl] at q; cases q; exact .inl ⟨rfl, rfl, hl⟩
      · rw [List.getElem?_eq_none (by simpa using hl)] at q; cases q
    · rw [List.getElem?_set_ne hj] at q; exact .inr ⟨fun q => hj q.symm, q⟩
  refine ⟨r.ext, by simp [r.len], fun i e q => ?_, fun i k a di dk h1 h2 e1 e2 e3 e4 => ?_⟩
  · rcases g i e q with ⟨rfl, rfl, hl⟩ | ⟨ne, q'⟩
    · exact ⟨v, by rw [List.getElem?_set_self (by rw [← r.len]; exact hl)], hv⟩
    · rw [List.getElem?_set_ne (Ne.symm ne)]; exact r.sl i e q'
  · rcases g i _ e1 with ⟨rfl, rfl, hl⟩ | ⟨ni, q1⟩
    · rcases g k _ e2 with ⟨rfl, _, _⟩ | ⟨nk, q2⟩
      · rfl
      · rw [List.getElem?_set_self (by rw [← r.len]; exact hl)] at e3
        rw [List.getElem?_set_ne (Ne.symm nk)] at e4
        cases e3
        exact absurd rfl (hd h1 k a _ _ nk h2 q2 e4 rfl)
    · rcases g k _ e2 with ⟨rfl, rfl, hl⟩ | ⟨nk, q2⟩
      · rw [List.getElem?_set_self (by rw [← r.len]; exact hl)] at e4
        rw [List.getElem?_set_ne (Ne.symm ni)] at e3
        cases e4
        exact absurd rfl (hd h2 i a _ _ ni h1 q1 e3 rfl)
      · rw [List.getElem?_set_ne (Ne.symm ni)] at e3
        rw [List.getElem?_set_ne (Ne.symm nk)] at e4
        exact r.ds i k a di dk h1 h2 q1 q2 e3 e4
/-- a frozen value into a slot that is not owned -/
theorem Rel.storeV {K : PySem.W.Frag} {M : Nat → Bool} {F0 H0 F H : Hp} {env : Env} {σ : L2.St} (r : Rel K M F0 H0 F env σ H) {j : Nat} {v : V} {d : D} (hm : M j = false) (q : Dq K F v d) :
    Rel K M F0 H0 F (put env j d) (σ.set j (some v)) H :=
  r.store (by rw [if_neg (by rw [hm]; exact Bool.false_ne_true)]; exact q) (fun h => by rw [hm] at h; cases h)
/-- an address of an owned slot stands in the heap -/
theorem Rel.there {K : PySem.W.Frag} {M : Nat → Bool} {F0 H0 F H : Hp} {env : Env} {σ : L2.St} (r : Rel K M F0 H0 F env σ H) {i : Nat} {di : List D} {a : Addr} (hm : M i = true) (e : env[i]? = some (some (.list di))) (q : σ[i]? = some (some (.ref a))) :
    ∃ vs, H a = some (.lst vs) ∧ F a = none ∧ H0 a = none ∧ DqAll K F vs di := by
  obtain ⟨v, h1, h2⟩ := r.sl i _ e
  rw [q] at h1
  have h1 : V.ref a = v := Option.some.inj (Option.some.inj h1)
  subst h1
  rw [if_pos hm] at h2
  rcases h2 with ⟨b, vs, ds, e1, e2, e3, e4, e5, e6⟩ | ⟨h, _⟩
  · cases e1; cases e2; exact ⟨vs, e3, e4, e5, e6⟩
  · exact absurd rfl (h di)
end DH
set_option Elab.async false
set_option linter.all false
set_option maxRecDepth 100000
/-! DH, part C: expressions: one rule a construct. -/
namespace DH
open PySem L2
open PySem.Spec PyProof.Rows

structure Gh where
  M : Nat → Bool
  F0 : Hp
  H0 : Hp
  W : WX
  C : Nat → Option Value

def XR (K : PySem.W.Frag) (C : Nat → Option Value) (x : Exn) (cls : Value) (dd : Option Addr) (H : Hp) : Prop :=
  C x.c = some cls ∧ match x.a with
    | none => dd = none
    | some d => ∃ a v, dd = some a ∧ H a = some (.xd [("line", v)]) ∧ Dq K (fun _ => none) v d

def Done (K : PySem.W.Frag) (g : Gh) (m : Md) (r : Res D) (F H : Hp) (σ : L2.St) (Q : VK) : Prop := match r with
  | .ok d => ∀ v H' F', Ext F H F' H' → Post K m F' H H' v d → Q v H'
  | .exc x => ∀ H' F', Ext F H F' H' → ∀ cls dd, XR K g.C x cls dd H' → g.W cls dd σ H'
  | .stuck => False
def tE (K : PySem.W.Frag) (g : Gh) (m : Md) (f : Env → Res D) : TE := fun σ H Q => ∃ F env, Rel K g.M g.F0 g.H0 F env σ H ∧ Done K g m (f env) F H σ Q
def DoneT (K : PySem.W.Frag) (g : Gh) (r : Res Bool) (F H : Hp) (σ : L2.St) (Q : Bool → Hp → Prop) : Prop := match r with
  | .ok b => ∀ H' F', Ext F H F' H' → Q b H'
  | .exc x => ∀ H' F', Ext F H F' H' → ∀ cls dd, XR K g.C x cls dd H' → g.W cls dd σ H'
  | .stuck => False
def tT (K : PySem.W.Frag) (g : Gh) (f : Env → Res Bool) : TT := fun σ H Q => ∃ F env, Rel K g.M g.F0 g.H0 F env σ H ∧ DoneT K g (f env) F H σ Q
def DoneA (K : PySem.W.Frag) (g : Gh) (r : Res (List D)) (F H : Hp) (σ : L2.St) (Q : List V → Hp → Prop) : Prop := match r with
  | .ok ds => ∀ vs H' F', Ext F H F' H' → DqAll K F' vs ds → Q vs H'
  | .exc x => ∀ H' F', Ext F H F' H' → ∀ cls dd, XR K g.C x cls dd H' → g.W cls dd σ H'
  | .stuck => False
def tA (K : PySem.W.Frag) (g : Gh) (f : Env → Res (List D)) : TA := fun σ H Q => ∃ F env, Rel K g.M g.F0 g.H0 F env σ H ∧ DoneA K g (f env) F H σ Q

theorem PE.wk {X : Cx} {e : Expr} {t t' : TE} (h : PE X e t) (w : ∀ σ H Q, t' σ H Q → t σ H Q) : PE X e t' := ⟨fun pins s σ H Q I q => h.run pins s σ H Q I (w σ H Q q)⟩
theorem PT.wk {X : Cx} {e : Expr} {t t' : TT} (h : PT X e t) (w : ∀ σ H Q, t' σ H Q → t σ H Q) : PT X e t' := ⟨fun pins s σ H Q I q => h.run pins s σ H Q I (w σ H Q q)⟩
theorem PA.wk {X : Cx} {e : List Expr} {t t' : TA} (h : PA X e t) (w : ∀ σ H Q, t' σ H Q → t σ H Q) : PA X e t' := ⟨fun pos pins s σ H Q I q => h.run pos pins s σ H Q I (w σ H Q q)⟩
theorem PW.wk {X : Cx} {e : Expr} {t t' : TT} (h : PW X e t) (w : ∀ σ H Q, t' σ H Q → t σ H Q) : PW X e t' := ⟨fun wh pins s σ H Q I q => h.run wh pins s σ H Q I (w σ H Q q)⟩

section
variable {K : PySem.W.Frag} {g : Gh}

theorem Post.back {m : Md} {F H F1 H1 F2 H2 : Hp} {v : V} {d : D} (x : Ext F H F1 H1) (p : Post K m F2 H1 H2 v d) : Post K m F2 H H2 v d := by
  cases m with
  | O =>
    rcases p with ⟨a, vs, ds, rfl, rfl, h1, h2, h3, h4⟩ | p
    · exact .inl ⟨a, vs, ds, rfl, rfl, h1, h2, x.hh.free h3, h4⟩
    · exact .inr p
  | V => exact p
  | R => exact p
/-- owned: frozen -/
theorem tE_O_V {f : Env → Res D} {σ : L2.St} {H : Hp} {Q : VK} (h : tE K g .V f σ H Q) : tE K g .O f σ H Q := by
  obtain ⟨F, env, rel, hd⟩ := h
  refine ⟨F, env, rel, ?_⟩
  cases q : f env with
  | ok d =>
    rw [q] at hd
    intro v H' F' x p
    rcases p with ⟨a, vs, ds, rfl, rfl, h1, h2, h3, h4⟩ | ⟨_, p⟩
    · exact hd _ H' _ (x.freeze h3 h2 h1) (.lst upd_same (h4.mono (same_upd h2)))
    · exact hd v H' F' x p
  | exc x => rw [q] at hd; exact hd
  | stuck => rw [q] at hd; exact hd
theorem tE_V_R {f : Env → Res D} {σ : L2.St} {H : Hp} {Q : VK} (h : tE K g .R f σ H Q) : tE K g .V f σ H Q := by
  obtain ⟨F, env, rel, hd⟩ := h
  refine ⟨F, env, rel, ?_⟩
  cases q : f env with
  | ok d =>
    rw [q] at hd
    intro v H' F' x p
    exact hd v H' F' x (.inl p)
  | exc x => rw [q] at hd; exact hd
  | stuck => rw [q] at hd; exact hd
theorem tE_O_R {f : Env → Res D} {σ : L2.St} {H : Hp} {Q : VK} (h : tE K g .R f σ H Q) : tE K g .O f σ H Q := tE_O_V (tE_V_R h)

/-! reading data -/
section
variable {F H Hx : Hp} {v : V}
theorem R_int {i : Int} (p : Post K .R F Hx H v (.int i)) : v = .int i := by
  rcases p with p | ⟨_, _, _, _, e, _⟩
  · cases p; rfl
  · cases e
theorem R_bool {i : Bool} (p : Post K .R F Hx H v (.bool i)) : v = .bl i := by
  rcases p with p | ⟨_, _, _, _, e, _⟩
  · cases p; rfl
  · cases e
theorem R_none (p : Post K .R F Hx H v .none) : v = .non := by
  rcases p with p | ⟨_, _, _, _, e, _⟩
  · cases p; rfl
  · cases e
theorem R_str {i : Str} (p : Post K .R F Hx H v (.str i)) : v = .str i := by
  rcases p with p | ⟨_, _, _, _, e, _⟩
  · cases p; rfl
  · cases e
theorem R_list {ds : List D} (fh : Same F H) (p : Post K .R F Hx H v (.list ds)) : ∃ a vs, v = .ref a ∧ H a = some (.lst vs) ∧ DqAll K F vs ds := by
  rcases p with p | ⟨a, vs, _, e1, e, h1, h2⟩
  · cases p with
    | lst h r => exact ⟨_, _, rfl, fh _ _ h, r⟩
  · cases e; exact ⟨a, vs, e1, h1, h2⟩
theorem R_tuple {ds : List D} (fh : Same F H) (p : Post K .R F Hx H v (.tuple ds)) : ∃ a vs, v = .ref a ∧ SqD K F a vs ∧ SqT K H a vs ∧ DqAll K F vs ds := by
  rcases p with p | ⟨_, _, _, _, e, _⟩
  · cases p with
    | tup h r => exact ⟨_, _, rfl, h, (h.mono fh).sq, r⟩
  · cases e
theorem R_scr {ds : List (D × D)} (hk : keysI ds = true) (fh : Same F H) (p : Post K .R F Hx H v (.dict ds)) : ∃ (a : Addr) (ns : List Int), v = .ref a ∧ ds = (ns.map fun i => (PyData.int i, PyData.none)) ∧ SqL K H a (ns.map V.int) := by
  rcases p with p | ⟨_, _, _, _, e, _⟩
  · cases p with
    | scr h => exact ⟨_, _, rfl, rfl, fh.seq h⟩
    | obj w h1 h2 q1 q2 q3 => cases hk
  · cases e
theorem R_obj {x : Str} {l : List D} (p : Post K .R F Hx H v (.dict [(.str x, .tuple l)])) : ∃ a A dx p cv kv vs c k ds, v = .ref a ∧ l = [c, .list ds, k] ∧ WkC K A ∧ F a = some (.ins A dx [("cube", cv), ("steps", .ref p), ("kept", kv)]) ∧ F p = some (.lst vs) ∧ Dq K F cv c ∧ DqAll K F vs ds ∧ Dq K F kv k := by
  rcases p with p | ⟨_, _, _, _, e, _⟩
  · generalize hd : PyData.dict [(.str x, .tuple l)] = d at p
    cases p with
    | obj w h1 h2 q1 q2 q3 =>
      unfold obD at hd
      cases hd
      exact ⟨_, _, _, _, _, _, _, _, _, _, rfl, rfl, w, h1, h2, q1, q2, q3⟩
    | @scr a ns h =>
      cases ns with
      | nil => cases hd
      | cons n ns => cases hd
    | _ => cases hd
  · cases e
theorem R_dp {d : D} (fh : Same F H) (p : Post K .R F Hx H v d) (s : shp d = true) : Dp K H v d := by
  have c := SeqAt.canLay_of_shaped s
  rcases p with p | ⟨a, vs, ds, rfl, rfl, h1, h2⟩
  · exact (p.mono fh).dp c
  · exact .lst (SqL.of h1) ((h2.mono fh).dp (by simpa [PyData.canLay0] using c))
theorem R_flat {d : D} (p : Post K .R F Hx H v d) (s : flatD d = true) : flatV v = true ∧ Dq K F v d := by
  rcases p with p | ⟨a, vs, ds, rfl, rfl, h1, h2⟩
  · refine ⟨?_, p⟩
    cases p <;> first | rfl | (simp [flatD, obD] at s; done)
  · simp [flatD] at s
end

/-! results -/
section
variable {F H : Hp} {Q : VK}
theorem ko_flat {v : V} {d : D} (fh : Same F H) (k : ∀ v H' F', Ext F H F' H' → Post K .O F' H H' v d → Q v H') (q : Dq K F v d) (n : flatD d = true) : Q v H :=
  k v H F (.refl fh) (.inr ⟨fun ds e => by subst e; simp [flatD] at n, q⟩)
theorem ko_list {vs : List V} {ds : List D} (fh : Same F H) (k : ∀ v H' F', Ext F H F' H' → Post K .O F' H H' v (.list ds) → Q v H') (q : DqAll K F vs ds) : ∀ p, H p = none → Q (.ref p) (upd H p (.lst vs)) := fun p np =>
  k _ _ F (.new fh np) (.inl ⟨p, vs, ds, rfl, rfl, upd_same, fh.free np, np, q⟩)
theorem ko_tup {vs : List V} {ds : List D} (fh : Same F H) (k : ∀ v H' F', Ext F H F' H' → Post K .O F' H H' v (.tuple ds) → Q v H') (q : DqAll K F vs ds) : ∀ (p : Addr) (o : Obj), H p = none → o.dict = none → Q (.ref p) (upd H p (.frz o (.tup vs))) := fun p o np nd =>
  k _ _ _ (.frz fh np) (.inr ⟨fun ds e => (nomatch e), .tup (.inl ⟨o, upd_same, nd⟩) (q.mono (same_upd (fh.free np)))⟩)
theorem ko_same {v : V} {ds : List D} (fh : Same F H) (k : ∀ v H' F', Ext F H F' H' → Post K .O F' H H' v (.tuple ds) → Q v H') (q : Dq K F v (.tuple ds)) : Q v H :=
  k v H F (.refl fh) (.inr ⟨fun ds e => (nomatch e), q⟩)
end

/-! ### one and two operands -/
variable {X : Cx} {e : Expr}
theorem pe1 {r : V → Hp → VK → Prop} {fa : Env → Res D} {p : D → Option D} {m : Md} (rule : PE X e (tUn r (tE K g .R fa)))
    (hp : ∀ F H x d z Q, Same F H → Post K .R F H H x d → p d = some z → (∀ v H' F', Ext F H F' H' → Post K m F' H H' v z → Q v H') → r x H Q) :
    PE X e (tE K g m fun env => (fa env).bind fun d => ofO (p d)) := by
  refine PE.wk rule fun σ H Q ⟨F, env, rel, hd⟩ => ⟨F, env, rel, ?_⟩
  cases q : fa env with
  | ok d =>
    intro v H1 F1 x1 p1
    simp only [q, bind_ok] at hd
    cases h : p d with
    | none => simp only [h, ofO_none] at hd; exact hd.elim
    | some z =>
      simp only [h, ofO_some] at hd
      exact hp F1 H1 v d z Q x1.fh p1 h fun v2 H2 F2 x2 p2 => hd v2 H2 F2 (x1.trans x2) (p2.back x1)
  | exc x => simp only [q, bind_exc] at hd; exact hd
  | stuck => simp only [q, bind_stuck] at hd; exact hd
theorem pe2 {r : R2} {fa fb : Env → Res D} {p : D → D → Option D} {m : Md} (rule : PE X e (tOp r (tE K g .R fa) (tE K g .R fb)))
    (hp : ∀ F H x y d1 d2 z Q, Same F H → Post K .R F H H x d1 → Post K .R F H H y d2 → p d1 d2 = some z → (∀ v H' F', Ext F H F' H' → Post K m F' H H' v z → Q v H') → r x y H Q) :
    PE X e (tE K g m fun env => (fa env).bind fun d1 => (fb env).bind fun d2 => ofO (p d1 d2)) := by
  refine PE.wk rule fun σ H Q ⟨F, env, rel, hd⟩ => ⟨F, env, rel, ?_⟩
  cases q : fa env with
  | ok d =>
    intro v H1 F1 x1 p1
    simp only [q, bind_ok] at hd
    refine ⟨F1, env, rel.step x1, ?_⟩
    cases q2 : fb env with
    | ok d2 =>
      intro v2 H2 F2 x2 p2
      simp only [q2, bind_ok] at hd
      cases h : p d d2 with
      | none => simp only [h, ofO_none] at hd; exact hd.elim
      | some z =>
        simp only [h, ofO_some] at hd
        exact hp F2 H2 v v2 d d2 z Q x2.fh (p1.stepR x2) p2 h fun v3 H3 F3 x3 p3 => hd v3 H3 F3 ((x1.trans x2).trans x3) ((p3.back x2).back x1)
    | exc x => 
      simp only [q2, bind_exc] at hd
      exact fun H' F' x2 => hd H' F' (x1.trans x2)
    | stuck => simp only [q2, bind_stuck] at hd; exact hd
  | exc x => simp only [q, bind_exc] at hd; exact hd
  | stuck => simp only [q, bind_stuck] at hd; exact hd
/-- as a test -/
theorem pt_of {f : Env → Res D} {tx : TT} (rule : PT X e tx)
    (hp : ∀ σ H (Q : Bool → Hp → Prop), tE K g .R f σ H (fun x H1 => ∃ k, TruV K x H1 k ∧ Q k H1) → tx σ H Q) :
    PT X e (tT K g fun env => (f env).bind fun x => ofO (truth x)) := by
  refine PT.wk rule fun σ H Q ⟨F, env, rel, hd⟩ => hp σ H Q ⟨F, env, rel, ?_⟩
  cases q : f env with
  | ok d =>
    intro v H1 F1 x1 p1
    simp only [q, bind_ok] at hd
    cases h : truth d with
    | none => simp only [h, ofO_none] at hd; exact hd.elim
    | some b =>
      simp only [h, ofO_some] at hd
      refine ⟨b, ?_, hd H1 F1 x1⟩
      cases d with
      | none => cases R_none p1; cases h; rfl
      | bool c => cases R_bool p1; cases h; rfl
      | int i => cases R_int p1; cases h; rfl
      | str x => cases h
      | list ds =>
        obtain ⟨a, vs, rfl, h1, h2⟩ := R_list x1.fh p1
        cases h
        refine .inl ⟨vs, SqL.of h1, ?_⟩
        have l := h2.length
        cases vs <;> cases ds <;> first | rfl | simp at l
      | tuple ds =>
        obtain ⟨a, vs, rfl, h0, h1, h2⟩ := R_tuple x1.fh p1
        cases h
        refine .inr (.inl ⟨vs, h1, ?_⟩)
        have l := h2.length
        cases vs <;> cases ds <;> first | rfl | simp at l
      | dict ds => cases h
  | exc x => simp only [q, bind_exc] at hd; exact hd
  | stuck => simp only [q, bind_stuck] at hd; exact hd
end
end DH
set_option Elab.async false
set_option linter.all false
set_option maxRecDepth 100000
/-! DH, part D: the operators, comparisons, built-in calls, displays. -/
namespace DH
open PySem L2
open PySem.Spec PyProof.Rows

theorem line_lim {n : Nat} (h : n ≤ LIM) : n ≤ sizeLine := Nat.le_trans h (by decide)
theorem line_lt {n : Nat} (h : n < LIM) : n < sizeLine := Nat.lt_of_lt_of_le h (by decide)

/-! ### what the pure operations say -/
section
variable {d1 d2 z : D}
theorem inv_sub (h : prim2 .sub d1 d2 = some z) : ∃ i j, d1 = .int i ∧ d2 = .int j ∧ z = .int (i - j) := by
  cases d1 <;> cases d2 <;> simp_all [prim2]
theorem inv_fdiv (h : prim2 .fdiv d1 d2 = some z) : ∃ i j, d1 = .int i ∧ d2 = .int j ∧ (0 < j ∧ j < 1073741824) ∧ z = .int (i / j) := by
  cases d1 <;> cases d2 <;> simp_all [prim2]
theorem inv_mod (h : prim2 .mod d1 d2 = some z) : ∃ i j, d1 = .int i ∧ d2 = .int j ∧ 0 < j ∧ z = .int (i % j) := by
  cases d1 <;> cases d2 <;> simp_all [prim2]
theorem inv_pow (h : prim2 .pow d1 d2 = some z) : ∃ i j, d1 = .int i ∧ d2 = .int j ∧ (0 ≤ j ∧ j ≤ 1000 ∧ i.natAbs < 2 ^ 64) ∧ z = .int (i ^ j.toNat) := by
  cases d1 <;> cases d2 <;> simp_all [prim2]
theorem inv_lt (h : prim2 .lt d1 d2 = some z) : ∃ i j, d1 = .int i ∧ d2 = .int j ∧ z = .bool (decide (i < j)) := by
  cases d1 <;> cases d2 <;> simp_all [prim2]
theorem inv_le (h : prim2 .le d1 d2 = some z) : ∃ i j, d1 = .int i ∧ d2 = .int j ∧ z = .bool (decide (i ≤ j)) := by
  cases d1 <;> cases d2 <;> simp_all [prim2]
theorem inv_gt (h : prim2 .gt d1 d2 = some z) : ∃ i j, d1 = .int i ∧ d2 = .int j ∧ z = .bool (decide (j < i)) := by
  cases d1 <;> cases d2 <;> simp_all [prim2]
theorem inv_ge (h : prim2 .ge d1 d2 = some z) : ∃ i j, d1 = .int i ∧ d2 = .int j ∧ z = .bool (decide (j ≤ i)) := by
  cases d1 <;> cases d2 <;> simp_all [prim2]
theorem inv_max2 (h : prim2 .max2 d1 d2 = some z) : ∃ i j, d1 = .int i ∧ d2 = .int j ∧ z = .int (if j > i then j else i) := by
  cases d1 <;> cases d2 <;> simp_all [prim2]
theorem inv_min2 (h : prim2 .min2 d1 d2 = some z) : ∃ i j, d1 = .int i ∧ d2 = .int j ∧ z = .int (if j < i then j else i) := by
  cases d1 <;> cases d2 <;> simp_all [prim2]
theorem inv_eq (h : prim2 .eq d1 d2 = some z) : shp d1 = true ∧ shp d2 = true ∧ z = .bool (PyData.eqv d1 d2) := by
  simp only [prim2] at h
  split at h
  · rename_i q
    simp only [Bool.and_eq_true] at q
    exact ⟨q.1, q.2, (Option.some.inj h).symm⟩
  · cases h
theorem inv_ne (h : prim2 .ne d1 d2 = some z) : shp d1 = true ∧ shp d2 = true ∧ z = .bool (!PyData.eqv d1 d2) := by
  simp only [prim2] at h
  split at h
  · rename_i q
    simp only [Bool.and_eq_true] at q
    exact ⟨q.1, q.2, (Option.some.inj h).symm⟩
  · cases h
theorem inv_add (h : prim2 .add d1 d2 = some z) : (∃ i j, d1 = .int i ∧ d2 = .int j ∧ z = .int (i + j)) ∨ (∃ xs ys, d1 = .list xs ∧ d2 = .list ys ∧ xs.length + ys.length ≤ LIM ∧ z = .list (xs ++ ys)) ∨
    (∃ xs ys, d1 = .tuple xs ∧ d2 = .tuple ys ∧ xs.length + ys.length ≤ LIM ∧ z = .tuple (xs ++ ys)) ∨ (∃ i j, d1 = .str i ∧ d2 = .str j ∧ i.length + j.length ≤ LIM ∧ z = .str (i ++ j)) := by
  cases d1 <;> cases d2 <;> simp_all [prim2]
theorem inv_mul (h : prim2 .mul d1 d2 = some z) : (∃ i j, d1 = .int i ∧ d2 = .int j ∧ ((-(2 ^ 64) < i ∧ i < 2 ^ 64) ∨ (-(2 ^ 64) < j ∧ j < 2 ^ 64)) ∧ z = .int (i * j)) ∨
    (∃ xs k, d1 = .list xs ∧ d2 = .int k ∧ (0 ≤ k ∧ k ≤ 1000 ∧ xs.length ≤ 100) ∧ z = .list (List.replicate k.toNat xs).flatten) := by
  cases d1 <;> cases d2 <;> simp_all [prim2]
theorem inv_idx (h : prim2 .idx d1 d2 = some z) : ∃ i, d2 = .int i ∧ ((∃ xs, d1 = .list xs ∧ atI xs i = some z) ∨ (∃ xs, d1 = .tuple xs ∧ atI xs i = some z) ∨ (∃ xs y, d1 = .dict xs ∧ keysI xs = true ∧ atI xs i = some y ∧ z = y.1)) := by
  cases d1 <;> cases d2 <;> simp_all [prim2] <;> grind
end

theorem DqAll.atI {K : PySem.W.Frag} {H : Hp} {vs : List V} {ds : List D} {i : Int} {d : D} (r : DqAll K H vs ds) (e : L2.atI ds i = some d) : ∃ v, L2.atI vs i = some v ∧ Dq K H v d := by
  unfold L2.atI at e ⊢
  rw [r.length]
  cases q : ixN ds.length i with
  | none => rw [q] at e; cases e
  | some j =>
    rw [q] at e
    exact r.get e

section
variable {g : Gh} {X : Cx} {e a b : Expr} {fa fb : Env → Res D} {pos : Pos}

theorem de_var {i : Nat} {x : Str} (hN : X.N[i]? = some x) (hv : Vis X.env.scope x) (hd : (x == ("__debug__" : Str)) = false) (hcd : (x == ("__classdict__" : Str)) = false) :
    PE X (.Name x pos) (tE X.K g (if g.M i then .R else .V) fun env => get env i) := by
  refine PE.wk (pe_var hN hv hd hcd) fun σ H Q ⟨F, env, rel, h⟩ => ?_
  replace h : Done X.K g _ (get env i) F H σ Q := h
  unfold get at h
  cases q : env[i]? with
  | none => rw [q] at h; exact h.elim
  | some o =>
    cases o with
    | none => rw [q] at h; exact h.elim
    | some d =>
      rw [q] at h
      obtain ⟨v, h1, h2⟩ := rel.sl i d q
      refine ⟨v, h1, h v H F (.refl rel.fh) ?_⟩
      split at h2
      · rename_i m
        rw [if_pos m]
        exact h2.toR H
      · rename_i m
        rw [if_neg m]
        exact h2
theorem de_cst {v : V} {d : D} (rule : PE X e (tC v)) (q : ∀ F, Dq X.K F v d) (n : flatD d = true) : PE X e (tE X.K g .O fun _ => .ok d) :=
  PE.wk rule fun σ H Q ⟨F, env, rel, h⟩ => ko_flat rel.fh h (q F) n
theorem de_opq {m : Md} : PE X e (tE X.K g m fun _ => .stuck) := ⟨fun pins s σ H Q I h => by obtain ⟨_, _, _, z⟩ := h; exact z.elim⟩
theorem de_glb {v : V} {d : D} {o : Option D} (ho : o = some d) (rule : PE X e (tC v)) (q : Dq X.K (fun _ => none) v d) : PE X e (tE X.K g .V fun _ => ofO o) := by
  subst ho
  exact PE.wk rule fun σ H Q ⟨F, env, rel, h⟩ => h v H F (.refl rel.fh) (q.mono fun _ _ z => by cases z)

/-! ### tuples that are made: locked, so that it is known that they have no dict -/
theorem laidT {pins : List (Addr × Obj)} {σ : L2.St} {H : Hp} {s : Shared} {vs : List V} {us : List Value} {Q : VK} (I : Inv X pins σ H s) (r : Vals vs us) (z : vs.length ≤ sizeLine)
    (q : ∀ (p : Addr) (o : Obj), H p = none → o.dict = none → Q (.ref p) (upd H p (.frz o (.tup vs)))) :
    EP X pins σ Q (.ref s.heap.objs.size) { s with heap := s.heap.push { cls := .type "tuple", data := .seq us.toArray } } :=
  ⟨.ref s.heap.objs.size, _, I.laid (t' := s.toks) (o := .frz { cls := .type "tuple", data := .seq us.toArray } (.tup vs)) (fun _ _ q => Heap.get?_push_of_some _ q) (Nat.le_refl _)
    ⟨Heap.get?_push_size _ rfl, z, us, r, IsTup.new _ _⟩, rfl, q _ _ (I.hok.fresh (Nat.le_refl _)) rfl⟩
def rCatF (K : PySem.W.Frag) : R2 := fun x y H Q => ∃ a b xs ys, x = .ref a ∧ y = .ref b ∧ SqT K H a xs ∧ SqT K H b ys ∧ xs.length + ys.length ≤ sizeLine ∧
  (xs = [] → Q (.ref b) H) ∧ (ys = [] → Q (.ref a) H) ∧ ∀ (p : Addr) (o : Obj), H p = none → o.dict = none → Q (.ref p) (upd H p (.frz o (.tup (xs ++ ys))))
theorem op_catF : OpR X (binaryOp .Add) (rCatF X.K) := by
  intro pins s σ H x y v u Q I rx ry h
  obtain ⟨p, q, xs, ys, rfl, rfl, hp, hq, hz, q0, q1, q2⟩ := h
  cases rx; cases ry
  obtain ⟨its, r1, p1, _⟩ := I.tuple hp
  obtain ⟨its2, r2, p2, _⟩ := I.tuple hq
  by_cases hx : xs = []
  · subst hx; cases r1
    exact cat_tup0 p1 p2 ⟨.ref q, H, I, rfl, q0 rfl⟩
  · exact HT.cat_tup p1 p2 (fun z => hx (r1.nil_iff.mp z)) (fun z => ⟨.ref p, H, I, rfl, q1 (r2.nil_iff.mp z)⟩) (fun _ => laidT I (r1.append r2) (by rw [List.length_append]; exact hz) q2)
      (by rw [← r1.length, ← r2.length]; exact hz)

/-! ### operators -/
theorem de_sub (ha : PE X a (tE X.K g .R fa)) (hb : PE X b (tE X.K g .R fb)) : PE X (.BinOp a .Sub b pos) (tE X.K g .O fun env => (fa env).bind fun x => (fb env).bind fun y => ofO (prim2 .sub x y)) :=
  pe2 (pe_op op_sub ha hb) fun F H x y d1 d2 z Q fh hx hy h k => by
    obtain ⟨i, j, rfl, rfl, rfl⟩ := inv_sub h
    exact ⟨i, j, R_int hx, R_int hy, ko_flat fh k (.int _) rfl⟩
theorem de_fdiv (ha : PE X a (tE X.K g .R fa)) (hb : PE X b (tE X.K g .R fb)) : PE X (.BinOp a .FloorDiv b pos) (tE X.K g .O fun env => (fa env).bind fun x => (fb env).bind fun y => ofO (prim2 .fdiv x y)) :=
  pe2 (pe_op op_fdiv ha hb) fun F H x y d1 d2 z Q fh hx hy h k => by
    obtain ⟨i, j, rfl, rfl, c, rfl⟩ := inv_fdiv h
    exact ⟨i, j, R_int hx, R_int hy, c, ko_flat fh k (.int _) rfl⟩
theorem de_mod (ha : PE X a (tE X.K g .R fa)) (hb : PE X b (tE X.K g .R fb)) : PE X (.BinOp a .Mod b pos) (tE X.K g .O fun env => (fa env).bind fun x => (fb env).bind fun y => ofO (prim2 .mod x y)) :=
  pe2 (pe_op op_mod ha hb) fun F H x y d1 d2 z Q fh hx hy h k => by
    obtain ⟨i, j, rfl, rfl, c, rfl⟩ := inv_mod h
    exact ⟨i, j, R_int hx, R_int hy, c, ko_flat fh k (.int _) rfl⟩
theorem de_pow (ha : PE X a (tE X.K g .R fa)) (hb : PE X b (tE X.K g .R fb)) : PE X (.BinOp a .Pow b pos) (tE X.K g .O fun env => (fa env).bind fun x => (fb env).bind fun y => ofO (prim2 .pow x y)) :=
  pe2 (pe_op op_pow ha hb) fun F H x y d1 d2 z Q fh hx hy h k => by
    obtain ⟨i, j, rfl, rfl, c, rfl⟩ := inv_pow h
    exact ⟨i, j, R_int hx, R_int hy, ⟨c.1, by omega, c.2.2⟩, ko_flat fh k (.int _) rfl⟩
theorem de_add (ha : PE X a (tE X.K g .R fa)) (hb : PE X b (tE X.K g .R fb)) : PE X (.BinOp a .Add b pos) (tE X.K g .O fun env => (fa env).bind fun x => (fb env).bind fun y => ofO (prim2 .add x y)) :=
  pe2 (pe_op (op_add.or (op_cat.or (op_catF.or op_add_str))) ha hb) fun F H x y d1 d2 z Q fh hx hy h k => by
    rcases inv_add h with ⟨i, j, rfl, rfl, rfl⟩ | ⟨xs, ys, rfl, rfl, l, rfl⟩ | ⟨xs, ys, rfl, rfl, l, rfl⟩ | ⟨i, j, rfl, rfl, l, rfl⟩
    · exact .inl ⟨i, j, R_int hx, R_int hy, ko_flat fh k (.int _) rfl⟩
    · obtain ⟨p, vs, rfl, h1, q1⟩ := R_list fh hx
      obtain ⟨q, ws, rfl, h2, q2⟩ := R_list fh hy
      exact .inr (.inl ⟨p, q, vs, ws, rfl, rfl, h1, h2, by rw [q1.length, q2.length]; exact line_lim l, ko_list fh k (q1.append q2)⟩)
    · obtain ⟨p, vs, rfl, g1, h1, q1⟩ := R_tuple fh hx
      obtain ⟨q, ws, rfl, g2, h2, q2⟩ := R_tuple fh hy
      refine .inr (.inr (.inl ⟨p, q, vs, ws, rfl, rfl, h1, h2, by rw [q1.length, q2.length]; exact line_lim l, fun e => ?_, fun e => ?_, ko_tup fh k (q1.append q2)⟩))
      · subst e
        have e : xs = [] := List.eq_nil_of_length_eq_zero (by rw [← q1.length]; rfl)
        subst e
        exact ko_same fh k (.tup g2 q2)
      · subst e
        have e : ys = [] := List.eq_nil_of_length_eq_zero (by rw [← q2.length]; rfl)
        subst e
        rw [List.append_nil] at k
        exact ko_same fh k (.tup g1 q1)
    · exact .inr (.inr (.inr ⟨i, j, R_str hx, R_str hy, line_lim l, ko_flat fh k (.str _) rfl⟩))
theorem de_mul (ha : PE X a (tE X.K g .R fa)) (hb : PE X b (tE X.K g .R fb)) : PE X (.BinOp a .Mult b pos) (tE X.K g .O fun env => (fa env).bind fun x => (fb env).bind fun y => ofO (prim2 .mul x y)) :=
  pe2 (pe_op (op_mul.or op_rep) ha hb) fun F H x y d1 d2 z Q fh hx hy h k => by
    rcases inv_mul h with ⟨i, j, rfl, rfl, c, rfl⟩ | ⟨xs, n, rfl, rfl, ⟨c1, c2, c3⟩, rfl⟩
    · exact .inl ⟨i, j, R_int hx, R_int hy, c, ko_flat fh k (.int _) rfl⟩
    · obtain ⟨p, vs, rfl, h1, q1⟩ := R_list fh hx
      refine .inr ⟨p, n, vs, rfl, R_int hy, h1, by omega, by omega, ?_, ko_list fh k (q1.rep _)⟩
      rw [q1.length]
      have e : xs.length * n.toNat ≤ 100 * 1000 := Nat.mul_le_mul c3 (by omega)
      exact line_lim e

/-! ### comparisons -/
theorem de_lt (ha : PE X a (tE X.K g .R fa)) (hb : PE X b (tE X.K g .R fb)) : PE X (.Compare a [.Lt] [b] pos) (tE X.K g .O fun env => (fa env).bind fun x => (fb env).bind fun y => ofO (prim2 .lt x y)) :=
  pe2 (pe_cmpR op_lt ha hb (nomark _)) fun F H x y d1 d2 z Q fh hx hy h k => by
    obtain ⟨i, j, rfl, rfl, rfl⟩ := inv_lt h
    exact ⟨i, j, R_int hx, R_int hy, ko_flat fh k (.bl _) rfl⟩
end

/-- the operators by values: what a comparison asks and gives -/
structure CmpOk (X : Cx) (op : CmpOp) (p : P2) (r : R2) : Prop where
  op : OpR X (compareOp op) r
  ok : ∀ F H x y d1 d2 z Q, Same F H → Post X.K .R F H H x d1 → Post X.K .R F H H y d2 → prim2 p d1 d2 = some z → (∃ b, z = .bool b ∧ (Q (.bl b) H → r x y H Q))
section
variable {X : Cx}
theorem ck_lt : CmpOk X .Lt .lt (rI0 fun i j => .bl (decide (i < j))) := ⟨op_lt, fun F H x y d1 d2 z Q fh hx hy h => by
  obtain ⟨i, j, rfl, rfl, rfl⟩ := inv_lt h
  exact ⟨_, rfl, fun k => ⟨i, j, R_int hx, R_int hy, k⟩⟩⟩
theorem ck_le : CmpOk X .LtE .le (rI0 fun i j => .bl (decide (i ≤ j))) := ⟨op_le, fun F H x y d1 d2 z Q fh hx hy h => by
  obtain ⟨i, j, rfl, rfl, rfl⟩ := inv_le h
  exact ⟨_, rfl, fun k => ⟨i, j, R_int hx, R_int hy, k⟩⟩⟩
theorem ck_gt : CmpOk X .Gt .gt (rI0 fun i j => .bl (decide (j < i))) := ⟨op_gt, fun F H x y d1 d2 z Q fh hx hy h => by
  obtain ⟨i, j, rfl, rfl, rfl⟩ := inv_gt h
  exact ⟨_, rfl, fun k => ⟨i, j, R_int hx, R_int hy, k⟩⟩⟩
theorem ck_ge : CmpOk X .GtE .ge (rI0 fun i j => .bl (decide (j ≤ i))) := ⟨op_ge, fun F H x y d1 d2 z Q fh hx hy h => by
  obtain ⟨i, j, rfl, rfl, rfl⟩ := inv_ge h
  exact ⟨_, rfl, fun k => ⟨i, j, R_int hx, R_int hy, k⟩⟩⟩
theorem ck_eq (hu : X.A.units + 64 < cLine) : CmpOk X .Eq .eq (rEqD X.K) := ⟨op_eqD hu, fun F H x y d1 d2 z Q fh hx hy h => by
  obtain ⟨s1, s2, rfl⟩ := inv_eq h
  exact ⟨_, rfl, fun k => ⟨d1, d2, R_dp fh hx s1, R_dp fh hy s2, s1, s2, k⟩⟩⟩
theorem ck_ne (hu : X.A.units + 64 < cLine) : CmpOk X .NotEq .ne (rNeD X.K) := ⟨op_neD hu, fun F H x y d1 d2 z Q fh hx hy h => by
  obtain ⟨s1, s2, rfl⟩ := inv_ne h
  exact ⟨_, rfl, fun k => ⟨d1, d2, R_dp fh hx s1, R_dp fh hy s2, s1, s2, k⟩⟩⟩

/-! in -/
theorem eqV_eqv {K : PySem.W.Frag} {F : Hp} {x y : V} {d e : D} (hx : Dq K F x d) (hy : Dq K F y e) (fd : flatD d = true) (fe : flatD e = true) : eqV x y = PyData.eqv d e := by
  cases hx <;> first | (simp [flatD] at fd; done) | (cases hy <;> first | (simp [flatD] at fe; done) | (simp [eqV, PyData.eqv]; done) | rfl)
theorem any_eqV {K : PySem.W.Frag} {F : Hp} {x : V} {d : D} (hx : Dq K F x d) (fd : flatD d = true) : ∀ {vs : List V} {ds : List D}, DqAll K F vs ds → ds.all flatD = true → inV x vs = (ds.any fun z => PyData.eqv z d) ∧ vs.all flatV = true
  | _, _, .nil, _ => ⟨rfl, rfl⟩
  | _, _, .cons h r, q => by
    simp only [List.all_cons, Bool.and_eq_true] at q
    obtain ⟨e1, e2⟩ := any_eqV hx fd r q.2
    refine ⟨?_, ?_⟩
    · unfold inV at e1 ⊢
      rw [List.any_cons, List.any_cons, e1, eqV_eqv h hx q.1 fd]
    · rw [List.all_cons, e2, Bool.and_true]
      exact (R_flat (Hx := F) (H := F) (.inl h) q.1).1
theorem inv_in {d1 d2 z : D} (h : prim2 .isin d1 d2 = some z) : (∃ xs, d2 = .list xs ∧ shp d1 = true ∧ shp (.list xs) = true ∧ z = .bool (xs.any fun z => PyData.eqv z d1)) ∨
    (∃ xs, d2 = .tuple xs ∧ flatD d1 = true ∧ xs.all flatD = true ∧ z = .bool (xs.any fun z => PyData.eqv z d1)) ∨ (∃ (c : Nat) (y : Str), d1 = .str ⟨#[c]⟩ ∧ d2 = .str y ∧ z = .bool (decide (c ∈ y.cps.toList))) ∨ (∃ xs, d2 = .tuple xs ∧ shp d1 = true ∧ shp (.tuple xs) = true ∧ z = .bool (xs.any fun z => PyData.eqv z d1)) := by
  cases d2 with
  | list xs =>
    simp only [prim2] at h
    split at h
    · rename_i q
      simp only [Bool.and_eq_true] at q
      exact .inl ⟨_, rfl, q.1, q.2, (Option.some.inj h).symm⟩
    · cases h
  | tuple xs =>
    simp only [prim2] at h
    split at h
    · rename_i q
      simp only [Bool.and_eq_true] at q
      exact .inr (.inl ⟨_, rfl, q.1, q.2, (Option.some.inj h).symm⟩)
    · split at h
      · rename_i q
        simp only [Bool.and_eq_true] at q
        exact .inr (.inr (.inr ⟨_, rfl, q.1, q.2, (Option.some.inj h).symm⟩))
      · cases h
  | str y =>
    cases d1 with
    | str x =>
      simp only [prim2] at h
      split at h
      · rename_i c q
        refine .inr (.inr (.inl ⟨c, y, ?_, rfl, (Option.some.inj h).symm⟩))
        obtain ⟨⟨l⟩⟩ := x
        have q : l = [c] := q
        subst q
        rfl
      · cases h
    | _ => simp [prim2] at h
  | _ => cases d1 <;> simp [prim2] at h
theorem inv_notin {d1 d2 z : D} (h : prim2 .notin d1 d2 = some z) : (∃ xs, d2 = .list xs ∧ shp d1 = true ∧ shp (.list xs) = true ∧ z = .bool (!xs.any fun z => PyData.eqv z d1)) ∨
    (∃ xs, d2 = .tuple xs ∧ flatD d1 = true ∧ xs.all flatD = true ∧ z = .bool (!xs.any fun z => PyData.eqv z d1)) ∨ (∃ (c : Nat) (y : Str), d1 = .str ⟨#[c]⟩ ∧ d2 = .str y ∧ z = .bool (!decide (c ∈ y.cps.toList))) ∨ (∃ xs, d2 = .tuple xs ∧ shp d1 = true ∧ shp (.tuple xs) = true ∧ z = .bool (!xs.any fun z => PyData.eqv z d1)) := by
  cases d2 with
  | list xs =>
    simp only [prim2] at h
    split at h
    · rename_i q
      simp only [Bool.and_eq_true] at q
      exact .inl ⟨_, rfl, q.1, q.2, (Option.some.inj h).symm⟩
    · cases h
  | tuple xs =>
    simp only [prim2] at h
    split at h
    · rename_i q
      simp only [Bool.and_eq_true] at q
      exact .inr (.inl ⟨_, rfl, q.1, q.2, (Option.some.inj h).symm⟩)
    · split at h
      · rename_i q
        simp only [Bool.and_eq_true] at q
        exact .inr (.inr (.inr ⟨_, rfl, q.1, q.2, (Option.some.inj h).symm⟩))
      · cases h
  | str y =>
    cases d1 with
    | str x =>
      simp only [prim2] at h
      split at h
      · rename_i c q
        refine .inr (.inr (.inl ⟨c, y, ?_, rfl, (Option.some.inj h).symm⟩))
        obtain ⟨⟨l⟩⟩ := x
        have q : l = [c] := q
        subst q
        rfl
      · cases h
    | _ => simp [prim2] at h
  | _ => cases d1 <;> simp [prim2] at h
def rInT (K : PySem.W.Frag) : R2 := fun x y H Q => ∃ d ds, Dp K H x d ∧ Dp K H y (.tuple ds) ∧ SeqAt.shaped d = true ∧ SeqAt.shaped (.tuple ds) = true ∧ Q (.bl (ds.any fun z => PyData.eqv z d)) H
def rNotInT (K : PySem.W.Frag) : R2 := fun x y H Q => ∃ d ds, Dp K H x d ∧ Dp K H y (.tuple ds) ∧ SeqAt.shaped d = true ∧ SeqAt.shaped (.tuple ds) = true ∧ Q (.bl (!ds.any fun z => PyData.eqv z d)) H
theorem op_inT (hu : X.A.units + 65 < cLine) : OpR X (compareOp .In) (rInT X.K) := by
  intro pins s σ H x y v u Q I rx ry h
  obtain ⟨d, ds, hd, he, sd, se, q⟩ := h
  obtain ⟨_, r1⟩ := Dp.reads I d x v hd rx
  obtain ⟨_, r2⟩ := Dp.reads I (.tuple ds) y u he ry
  refine SeqAt.in_tuple_reads r2 r1 (SeqAt.canLay_of_shaped se) (SeqAt.canLay_of_shaped sd) (room_in_shaped sd hu) ⟨.bl _, H, I, rfl, q⟩
theorem op_notInT (hu : X.A.units + 65 < cLine) : OpR X (compareOp .NotIn) (rNotInT X.K) := by
  intro pins s σ H x y v u Q I rx ry h
  obtain ⟨d, ds, hd, he, sd, se, q⟩ := h
  obtain ⟨_, r1⟩ := Dp.reads I d x v hd rx
  obtain ⟨_, r2⟩ := Dp.reads I (.tuple ds) y u he ry
  refine SeqAt.notIn_tuple_reads r2 r1 (SeqAt.canLay_of_shaped se) (SeqAt.canLay_of_shaped sd) (room_in_shaped sd hu) ⟨.bl _, H, I, rfl, q⟩
theorem ck_in (hu : X.A.units + 65 < cLine) : CmpOk X .In .isin (fun x y H Q => rInD X.K x y H Q ∨ (fun x y H Q => (fun x y H Q => rIn X.K false x y H Q ∨ (fun x y H Q => ∃ (c : Nat) (z : Str), x = .str ⟨#[c]⟩ ∧ y = .str z ∧ Q (.bl (decide (c ∈ z.cps.toList))) H) x y H Q) x y H Q ∨ rInT X.K x y H Q) x y H Q) := ⟨((op_inD hu).or ((op_in_seq.or op_in_sign).or (op_inT hu))), fun F H x y d1 d2 z Q fh hx hy h => by
  rcases inv_in h with ⟨xs, rfl, s1, s2, rfl⟩ | ⟨xs, rfl, s1, s2, rfl⟩ | ⟨c, y', rfl, rfl, rfl⟩ | ⟨xs, rfl, s1, s2, rfl⟩
  · exact ⟨_, rfl, fun k => .inl ⟨d1, xs, R_dp fh hx s1, R_dp fh hy s2, s1, s2, k⟩⟩
  · obtain ⟨p, vs, rfl, g1, h1, q1⟩ := R_tuple fh hy
    obtain ⟨f1, dx⟩ := R_flat hx s1
    obtain ⟨e1, e2⟩ := any_eqV dx s1 q1 s2
    refine ⟨_, rfl, fun k => .inr (.inl (.inl ⟨p, vs, rfl, .inr h1, f1, e2, ?_⟩))⟩
    rw [← e1] at k
    exact k
  · exact ⟨_, rfl, fun k => .inr (.inl (.inr ⟨c, y', R_str hx, R_str hy, k⟩))⟩
  · exact ⟨_, rfl, fun k => .inr (.inr ⟨d1, xs, R_dp fh hx s1, R_dp fh hy s2, s1, s2, k⟩)⟩⟩
theorem ck_notin (hu : X.A.units + 65 < cLine) : CmpOk X .NotIn .notin (fun x y H Q => rNotInD X.K x y H Q ∨ (fun x y H Q => (fun x y H Q => rIn X.K true x y H Q ∨ (fun x y H Q => ∃ (c : Nat) (z : Str), x = .str ⟨#[c]⟩ ∧ y = .str z ∧ Q (.bl (!decide (c ∈ z.cps.toList))) H) x y H Q) x y H Q ∨ rNotInT X.K x y H Q) x y H Q) := ⟨((op_notInD hu).or ((op_notIn_seq.or op_notIn_sign).or (op_notInT hu))), fun F H x y d1 d2 z Q fh hx hy h => by
  rcases inv_notin h with ⟨xs, rfl, s1, s2, rfl⟩ | ⟨xs, rfl, s1, s2, rfl⟩ | ⟨c, y', rfl, rfl, rfl⟩ | ⟨xs, rfl, s1, s2, rfl⟩
  · exact ⟨_, rfl, fun k => .inl ⟨d1, xs, R_dp fh hx s1, R_dp fh hy s2, s1, s2, k⟩⟩
  · obtain ⟨p, vs, rfl, g1, h1, q1⟩ := R_tuple fh hy
    obtain ⟨f1, dx⟩ := R_flat hx s1
    obtain ⟨e1, e2⟩ := any_eqV dx s1 q1 s2
    refine ⟨_, rfl, fun k => .inr (.inl (.inl ⟨p, vs, rfl, .inr h1, f1, e2, ?_⟩))⟩
    rw [← e1] at k
    exact k
  · exact ⟨_, rfl, fun k => .inr (.inl (.inr ⟨c, y', R_str hx, R_str hy, k⟩))⟩
  · exact ⟨_, rfl, fun k => .inr (.inr ⟨d1, xs, R_dp fh hx s1, R_dp fh hy s2, s1, s2, k⟩)⟩⟩

variable {g : Gh} {e a b c : Expr} {fa fb fc : Env → Res D} {pos : Pos}
/-- a comparison as a value -/
theorem de_cmp {op : CmpOp} {p : P2} {r : R2} (C : CmpOk X op p r) (ha : PE X a (tE X.K g .R fa)) (hb : PE X b (tE X.K g .R fb)) (hm : behindInMarks op b = false) :
    PE X (.Compare a [op] [b] pos) (tE X.K g .O fun env => (fa env).bind fun x => (fb env).bind fun y => ofO (prim2 p x y)) :=
  pe2 (pe_cmpR C.op ha hb hm) fun F H x y d1 d2 z Q fh hx hy h k => by
    obtain ⟨b, rfl, w⟩ := C.ok F H x y d1 d2 z Q fh hx hy h
    exact w (ko_flat fh k (.bl _) rfl)
/-- as a test -/
theorem dt_cmp {op : CmpOp} {p : P2} {r : R2} (C : CmpOk X op p r) (ha : PE X a (tE X.K g .R fa)) (hb : PE X b (tE X.K g .R fb)) (hm : behindInMarks op b = false) :
    PT X (.Compare a [op] [b] pos) (tT X.K g fun env => ((fa env).bind fun x => (fb env).bind fun y => ofO (prim2 p x y)).bind fun x => ofO (truth x)) := by
  refine PT.wk (pt_cmpR C.op ha hb hm) fun σ H Q ⟨F, env, rel, hd⟩ => ⟨F, env, rel, ?_⟩
  cases q : fa env with
  | ok d =>
    intro v H1 F1 x1 p1
    simp only [q, bind_ok] at hd
    refine ⟨F1, env, rel.step x1, ?_⟩
    cases q2 : fb env with
    | ok d2 =>
      intro v2 H2 F2 x2 p2
      simp only [q2, bind_ok] at hd
      cases h : prim2 p d d2 with
      | none => simp only [h, ofO_none, bind_stuck] at hd; exact hd.elim
      | some z =>
        simp only [h, ofO_some, bind_ok] at hd
        obtain ⟨b, rfl, w⟩ := C.ok F2 H2 v v2 d d2 z (fun x H' => ∃ k, x = .bl k ∧ Q k H') x2.fh (p1.stepR x2) p2 h
        refine w ⟨b, rfl, ?_⟩
        exact hd H2 F2 (x1.trans x2)
    | exc x =>
      simp only [q2, bind_exc] at hd
      exact fun H' F' x2 => hd H' F' (x1.trans x2)
    | stuck => simp only [q2, bind_stuck] at hd; exact hd
  | exc x => simp only [q, bind_exc] at hd; exact hd
  | stuck => simp only [q, bind_stuck] at hd; exact hd
end
end DH
set_option Elab.async false
set_option linter.all false
set_option maxRecDepth 100000
/-! DH, part E: tests, chains, items, built-in calls, displays. -/
namespace DH
open PySem L2
open PySem.Spec PyProof.Rows

section
variable {g : Gh} {X : Cx} {e a b c : Expr} {fa fb fc : Env → Res D} {ta tb tc : Env → Res Bool} {pos : Pos} {rest : List Expr}

/-! ### truth -/
theorem truV_of {K : PySem.W.Frag} {F H : Hp} {v : V} {d : D} {k : Bool} (fh : Same F H) (p : Post K .R F H H v d) (h : truth d = some k) : TruV K v H k := by
  cases d with
  | none => cases R_none p; cases h; rfl
  | bool c => cases R_bool p; cases h; rfl
  | int i => cases R_int p; cases h; rfl
  | str x => cases h
  | list ds =>
    obtain ⟨a, vs, rfl, h1, h2⟩ := R_list fh p
    cases h
    refine .inl ⟨vs, SqL.of h1, ?_⟩
    have l := h2.length
    cases vs <;> cases ds <;> first | rfl | simp at l
  | tuple ds =>
    obtain ⟨a, vs, rfl, h0, h1, h2⟩ := R_tuple fh p
    cases h
    refine .inr (.inl ⟨vs, h1, ?_⟩)
    have l := h2.length
    cases vs <;> cases ds <;> first | rfl | simp at l
  | dict ds => cases h
theorem dt_truth (ha : PE X a (tE X.K g .R fa)) (he : ∀ whole, isTrue a X.env whole = (do let v ← whole; standAt a.pos; holding [v] (truthy v))) :
    PT X a (tT X.K g fun env => (fa env).bind fun x => ofO (truth x)) :=
  pt_of (pt_truth ha he) fun _ _ _ h => h
theorem de_not (ha : PE X a (tE X.K g .R fa)) : PE X (.UnaryOp .Not a pos) (tE X.K g .O fun env => (fa env).bind fun x => match truth x with | some b => .ok (.bool (!b)) | none => .stuck) := by
  have h := pe1 (m := .O) (p := fun x => (truth x).map fun b => .bool (!b)) (r := fun x H Q => ∃ k, TruV X.K x H k ∧ Q (.bl (!k)) H) (pe_notT (pos := pos) ha) fun F H x d z Q fh hx h k => by
    cases q : truth d with
    | none => rw [q] at h; cases h
    | some b =>
      rw [q] at h
      cases h
      exact ⟨b, truV_of fh hx q, ko_flat fh k (.bl _) rfl⟩
  have e : (fun env => (fa env).bind fun x => match truth x with | some b => Res.ok (PyData.bool (!b)) | none => Res.stuck) = (fun env => (fa env).bind fun d => ofO ((truth d).map fun b => PyData.bool (!b))) := by
    funext env
    congr 1
    funext x
    cases truth x <;> rfl
  rw [e]
  exact h
theorem dt_not (ha : PT X a (tT X.K g ta)) : PT X (.UnaryOp .Not a pos) (tT X.K g fun env => (ta env).bind fun k => .ok (!k)) := by
  refine PT.wk (pt_not ha) fun σ H Q ⟨F, env, rel, hd⟩ => ⟨F, env, rel, ?_⟩
  cases q : ta env with
  | ok k => simp only [q, bind_ok] at hd; exact hd
  | exc x => simp only [q, bind_exc] at hd; exact hd
  | stuck => simp only [q, bind_stuck] at hd; exact hd
theorem dw_and (ha : PT X a (tT X.K g ta)) (hb : PW X (.BoolOp .And (b :: rest) pos) (tT X.K g tb)) : PW X (.BoolOp .And (a :: b :: rest) pos) (tT X.K g fun env => (ta env).bind fun k => if k then tb env else .ok false) := by
  refine PW.wk (pw_and ha hb) fun σ H Q ⟨F, env, rel, hd⟩ => ⟨F, env, rel, ?_⟩
  cases q : ta env with
  | ok k =>
    simp only [q, bind_ok] at hd
    intro H1 F1 x1
    cases k with
    | true =>
      rw [if_pos rfl] at hd ⊢
      refine ⟨F1, env, rel.step x1, ?_⟩
      cases q2 : tb env with
      | ok k2 => rw [q2] at hd; exact fun H2 F2 x2 => hd H2 F2 (x1.trans x2)
      | exc x => rw [q2] at hd; exact fun H2 F2 x2 => hd H2 F2 (x1.trans x2)
      | stuck => rw [q2] at hd; exact hd
    | false =>
      rw [if_neg Bool.false_ne_true] at hd ⊢
      exact hd H1 F1 x1
  | exc x => simp only [q, bind_exc] at hd; exact hd
  | stuck => simp only [q, bind_stuck] at hd; exact hd
theorem dw_or (ha : PT X a (tT X.K g ta)) (hb : PW X (.BoolOp .Or (b :: rest) pos) (tT X.K g tb)) : PW X (.BoolOp .Or (a :: b :: rest) pos) (tT X.K g fun env => (ta env).bind fun k => if k then .ok true else tb env) := by
  refine PW.wk (pw_or ha hb) fun σ H Q ⟨F, env, rel, hd⟩ => ⟨F, env, rel, ?_⟩
  cases q : ta env with
  | ok k =>
    simp only [q, bind_ok] at hd
    intro H1 F1 x1
    cases k with
    | false =>
      rw [if_neg Bool.false_ne_true] at hd ⊢
      refine ⟨F1, env, rel.step x1, ?_⟩
      cases q2 : tb env with
      | ok k2 => rw [q2] at hd; exact fun H2 F2 x2 => hd H2 F2 (x1.trans x2)
      | exc x => rw [q2] at hd; exact fun H2 F2 x2 => hd H2 F2 (x1.trans x2)
      | stuck => rw [q2] at hd; exact hd
    | true =>
      rw [if_pos rfl] at hd ⊢
      exact hd H1 F1 x1
  | exc x => simp only [q, bind_exc] at hd; exact hd
  | stuck => simp only [q, bind_stuck] at hd; exact hd
/-- and, or as values -/
theorem post_bool {K : PySem.W.Frag} {m : Md} {F H H' : Hp} (k : Bool) : Post K m F H H' (.bl k) (.bool k) := by
  cases m with
  | O => exact .inr ⟨fun _ z => (nomatch z), .bl k⟩
  | V => exact .bl k
  | R => exact .inl (.bl k)
theorem de_and {m : Md} (ha : PE X a (tE X.K g .R fa)) (hb : PE X (.BoolOp .And (b :: rest) pos) (tE X.K g m fb)) : PE X (.BoolOp .And (a :: b :: rest) pos) (tE X.K g m fun env => (fa env).bind fun x => match x with
    | .bool true => fb env | .bool false => .ok (.bool false) | _ => .stuck) := by
  refine PE.wk (pe_and ha hb) fun σ H Q ⟨F, env, rel, hd⟩ => ⟨F, env, rel, ?_⟩
  cases q : fa env with
  | ok d =>
    simp only [q, bind_ok] at hd
    intro v H1 F1 x1 p1
    cases d with
    | bool k =>
      have ev := R_bool p1
      subst ev
      refine ⟨k, rfl, ?_⟩
      cases k with
      | true =>
        rw [if_pos rfl]
        refine ⟨F1, env, rel.step x1, ?_⟩
        cases q2 : fb env with
        | ok k2 => simp only [q2] at hd; exact fun v2 H2 F2 x2 p2 => hd v2 H2 F2 (x1.trans x2) (p2.back x1)
        | exc x => simp only [q2] at hd; exact fun H2 F2 x2 => hd H2 F2 (x1.trans x2)
        | stuck => simp only [q2] at hd; exact hd
      | false =>
        rw [if_neg Bool.false_ne_true]
        exact hd _ H1 F1 x1 (post_bool _)
    | _ => exact hd.elim
  | exc x => simp only [q, bind_exc] at hd; exact hd
  | stuck => simp only [q, bind_stuck] at hd; exact hd
theorem de_or {m : Md} (ha : PE X a (tE X.K g .R fa)) (hb : PE X (.BoolOp .Or (b :: rest) pos) (tE X.K g m fb)) : PE X (.BoolOp .Or (a :: b :: rest) pos) (tE X.K g m fun env => (fa env).bind fun x => match x with
    | .bool true => .ok (.bool true) | .bool false => fb env | _ => .stuck) := by
  refine PE.wk (pe_or ha hb) fun σ H Q ⟨F, env, rel, hd⟩ => ⟨F, env, rel, ?_⟩
  cases q : fa env with
  | ok d =>
    simp only [q, bind_ok] at hd
    intro v H1 F1 x1 p1
    cases d with
    | bool k =>
      have ev := R_bool p1
      subst ev
      refine ⟨k, rfl, ?_⟩
      cases k with
      | false =>
        rw [if_neg Bool.false_ne_true]
        refine ⟨F1, env, rel.step x1, ?_⟩
        cases q2 : fb env with
        | ok k2 => simp only [q2] at hd; exact fun v2 H2 F2 x2 p2 => hd v2 H2 F2 (x1.trans x2) (p2.back x1)
        | exc x => simp only [q2] at hd; exact fun H2 F2 x2 => hd H2 F2 (x1.trans x2)
        | stuck => simp only [q2] at hd; exact hd
      | true =>
        rw [if_pos rfl]
        exact hd _ H1 F1 x1 (post_bool _)
    | _ => exact hd.elim
  | exc x => simp only [q, bind_exc] at hd; exact hd
  | stuck => simp only [q, bind_stuck] at hd; exact hd
theorem de_ite {m : Md} (hc : PT X c (tT X.K g tc)) (ha : PE X a (tE X.K g m fa)) (hb : PE X b (tE X.K g m fb)) : PE X (.IfExp c a b pos) (tE X.K g m fun env => (tc env).bind fun k => if k then fa env else fb env) := by
  refine PE.wk (pe_ifExp hc ha hb) fun σ H Q ⟨F, env, rel, hd⟩ => ⟨F, env, rel, ?_⟩
  cases q : tc env with
  | ok k =>
    simp only [q, bind_ok] at hd
    intro H1 F1 x1
    have go : ∀ f : Env → Res D, Done X.K g m (f env) F H σ Q → tE X.K g m f σ H1 Q := fun f hd => by
      refine ⟨F1, env, rel.step x1, ?_⟩
      cases q2 : f env with
      | ok d => rw [q2] at hd; exact fun v2 H2 F2 x2 p2 => hd v2 H2 F2 (x1.trans x2) (p2.back x1)
      | exc x => rw [q2] at hd; exact fun H2 F2 x2 => hd H2 F2 (x1.trans x2)
      | stuck => rw [q2] at hd; exact hd
    cases k with
    | true => rw [if_pos rfl] at hd ⊢; exact go fa hd
    | false => rw [if_neg Bool.false_ne_true] at hd ⊢; exact go fb hd
  | exc x => simp only [q, bind_exc] at hd; exact hd
  | stuck => simp only [q, bind_stuck] at hd; exact hd

/-! ### a < b < c -/
theorem de_chain {op op' : CmpOp} {p p' : P2} {r r' : R2} (C : CmpOk X op p r) (C' : CmpOk X op' p' r') (ha : PE X a (tE X.K g .R fa)) (hb : PE X b (tE X.K g .R fb)) (hc : PE X c (tE X.K g .R fc))
    (rule : PE X e (tChain r r' (tE X.K g .R fa) (tE X.K g .R fb) (tE X.K g .R fc))) :
    PE X e (tE X.K g .O fun env => (fa env).bind fun x => (fb env).bind fun y => (ofO (prim2 p x y)).bind fun r => match r with
      | .bool true => (fc env).bind fun z => ofO (prim2 p' y z) | .bool false => .ok (.bool false) | _ => .stuck) := by
  refine PE.wk rule fun σ H Q ⟨F, env, rel, hd⟩ => ⟨F, env, rel, ?_⟩
  cases q : fa env with
  | ok d =>
    intro v H1 F1 x1 p1
    simp only [q, bind_ok] at hd
    refine ⟨F1, env, rel.step x1, ?_⟩
    cases q2 : fb env with
    | ok d2 =>
      intro v2 H2 F2 x2 p2
      simp only [q2, bind_ok] at hd
      cases h : prim2 p d d2 with
      | none => simp only [h, ofO_none, bind_stuck] at hd; exact hd.elim
      | some z =>
        simp only [h, ofO_some, bind_ok] at hd
        have x12 := x1.trans x2
        obtain ⟨k, rfl, w⟩ := C.ok F2 H2 v v2 d d2 z _ x2.fh (p1.stepR x2) p2 h
        refine w ⟨k, rfl, ?_⟩
        cases k with
        | true =>
          rw [if_pos rfl]
          refine ⟨F2, env, rel.step x12, ?_⟩
          cases q3 : fc env with
          | ok d3 =>
            intro v3 H3 F3 x3 p3
            simp only [q3, bind_ok] at hd
            cases h' : prim2 p' d2 d3 with
            | none => simp only [h', ofO_none] at hd; exact hd.elim
            | some z' =>
              simp only [h', ofO_some] at hd
              obtain ⟨k', rfl, w'⟩ := C'.ok F3 H3 v2 v3 d2 d3 z' Q x3.fh (p2.stepR x3) p3 h'
              exact w' (ko_flat x3.fh (fun v4 H4 F4 x4 p4 => hd v4 H4 F4 ((x12.trans x3).trans x4) (p4.back (x12.trans x3))) (.bl _) rfl)
          | exc x => simp only [q3, bind_exc] at hd; exact fun H' F' x3 => hd H' F' (x12.trans x3)
          | stuck => simp only [q3, bind_stuck] at hd; exact hd
        | false =>
          rw [if_neg Bool.false_ne_true]
          exact ko_flat x2.fh (fun v4 H4 F4 x4 p4 => hd v4 H4 F4 (x12.trans x4) (p4.back x12)) (.bl _) rfl
    | exc x => simp only [q2, bind_exc] at hd; exact fun H' F' x2 => hd H' F' (x1.trans x2)
    | stuck => simp only [q2, bind_stuck] at hd; exact hd
  | exc x => simp only [q, bind_exc] at hd; exact hd
  | stuck => simp only [q, bind_stuck] at hd; exact hd

/-! ### items and slices -/
theorem de_idx (ha : PE X a (tE X.K g .R fa)) (hb : PE X b (tE X.K g .R fb)) (hs : PlainIx b) : PE X (.Subscript a b pos) (tE X.K g .V fun env => (fa env).bind fun x => (fb env).bind fun y => ofO (prim2 .idx x y)) :=
  pe2 (pe_ix ix_seq ha hb hs) fun F H x y d1 d2 z Q fh hx hy h k => by
    obtain ⟨i, rfl, ⟨xs, rfl, e1⟩ | ⟨xs, rfl, e1⟩ | ⟨xs, w, rfl, hk, e1, rfl⟩⟩ := inv_idx h
    · obtain ⟨p, vs, rfl, h1, q1⟩ := R_list fh hx
      obtain ⟨v, e2, dv⟩ := q1.atI e1
      exact .inl ⟨p, vs, i, v, rfl, R_int hy, SqL.of h1, e2, k v H F (.refl fh) dv⟩
    · obtain ⟨p, vs, rfl, h0, h1, q1⟩ := R_tuple fh hx
      obtain ⟨v, e2, dv⟩ := q1.atI e1
      exact .inr (.inl ⟨p, vs, i, v, rfl, R_int hy, h1, e2, k v H F (.refl fh) dv⟩)
    · obtain ⟨p, ns, rfl, rfl, h1⟩ := R_scr hk fh hx
      unfold L2.atI at e1
      rw [List.length_map] at e1
      cases q : ixN ns.length i with
      | none => rw [q] at e1; cases e1
      | some j =>
        rw [q] at e1
        have e3 : (ns.map fun i => (PyData.int i, PyData.none))[j]? = some w := e1
        rw [List.getElem?_map] at e3
        cases q2 : ns[j]? with
        | none => rw [q2] at e3; cases e3
        | some n =>
          rw [q2] at e3
          have e4 : (PyData.int n, PyData.none) = w := Option.some.inj e3
          subst e4
          refine .inl ⟨p, ns.map V.int, i, .int n, rfl, R_int hy, h1, ?_, k (.int n) H F (.refl fh) (.int n)⟩
          unfold L2.atI
          rw [List.length_map, q]
          show (ns.map V.int)[j]? = _
          rw [List.getElem?_map, q2]
          rfl
def rSlF (K : PySem.W.Frag) : V → Option Int → Option Int → Hp → VK → Prop := fun x lo hi H Q => ∃ a xs, x = .ref a ∧ SqT K H a xs ∧
  (cutV xs lo hi = xs → Q (.ref a) H) ∧ ∀ (p : Addr) (o : Obj), H p = none → o.dict = none → Q (.ref p) (upd H p (.frz o (.tup (cutV xs lo hi))))
theorem sl_tupF : SlR X (rSlF X.K) := by
  intro pins s σ H x v vl vu lo hi sl Q I rx hs pl pu h
  obtain ⟨p, xs, rfl, hx, q1, q2⟩ := h
  cases rx
  obtain ⟨its, r, ht, hz⟩ := I.tuple hx
  have hlen : its.toArray.size = xs.length := by rw [List.size_toArray]; exact r.length.symm
  refine ⟨"tuple", _, PyProof.Rows.slot_tuple_getitem.lookup, ht.typeIs, ?_⟩
  by_cases hw : HT.sIx xs.length 0 lo = 0 ∧ HT.sIx xs.length xs.length hi = xs.length
  · refine getItem_tuple_whole ht hs pl pu (by rw [hlen]; exact hw) ⟨.ref p, H, I, rfl, q1 ?_⟩
    unfold cutV
    rw [hw.1, hw.2]
    simp
  · refine HT.getItem_tuple_cut ht hs pl pu (by rw [hlen]; exact hw) ?_ (by rw [hlen]; exact hz)
    rw [hlen]
    exact laidT I ((r.drop (HT.sIx xs.length 0 lo)).take (HT.sIx xs.length xs.length hi - HT.sIx xs.length 0 lo)) (Nat.le_trans (cutV_length xs lo hi) hz) q2
theorem DqAll.cut {K : PySem.W.Frag} {H : Hp} {vs : List V} {ds : List D} (r : DqAll K H vs ds) (lo hi : Option Int) : DqAll K H (cutV vs lo hi) (DH.cut ds lo hi) := by
  unfold cutV DH.cut
  rw [r.length]
  exact (r.drop _).take _
/-- a slice by its bounds -/
theorem slice_ok {K : PySem.W.Frag} {F H : Hp} {x : V} {d z : D} {Q : VK} {lo hi : Option Int} (fh : Same F H) (hx : Post K .R F H H x d)
    (h : (∃ xs, d = .list xs ∧ z = .list (DH.cut xs lo hi)) ∨ (∃ xs, d = .tuple xs ∧ z = .tuple (DH.cut xs lo hi)) ∨ (∃ y, d = .str y ∧ y.length ≤ LIM ∧ z = .str (cutS y lo hi))) (k : ∀ v H' F', Ext F H F' H' → Post K .O F' H H' v z → Q v H') :
    rSlL K x lo hi H Q ∨ (rSlF K x lo hi H Q ∨ rSlS x lo hi H Q) := by
  rcases h with ⟨xs, rfl, rfl⟩ | ⟨xs, rfl, rfl⟩ | ⟨y, rfl, l, rfl⟩
  · obtain ⟨p, vs, rfl, h1, q1⟩ := R_list fh hx
    exact .inl ⟨p, vs, rfl, SqL.of h1, ko_list fh k (q1.cut lo hi)⟩
  · obtain ⟨p, vs, rfl, h0, h1, q1⟩ := R_tuple fh hx
    refine .inr (.inl ⟨p, vs, rfl, h1, fun e => ?_, ko_tup fh k (q1.cut lo hi)⟩)
    have q2 := q1.cut lo hi
    rw [e] at q2
    exact ko_same fh k (.tup h0 q2)
  · exact .inr (.inr ⟨y, R_str hx, line_lim l, ko_flat fh k (.str _) rfl⟩)
theorem inv_frm {d1 d2 z : D} (h : prim2 .frm d1 d2 = some z) : ∃ i, d2 = .int i ∧ ((∃ xs, d1 = .list xs ∧ z = .list (DH.cut xs (some i) none)) ∨ (∃ xs, d1 = .tuple xs ∧ z = .tuple (DH.cut xs (some i) none)) ∨ (∃ y, d1 = .str y ∧ y.length ≤ LIM ∧ z = .str (cutS y (some i) none))) := by
  cases d1 <;> cases d2 <;> simp_all [prim2]
theorem inv_upto {d1 d2 z : D} (h : prim2 .upto d1 d2 = some z) : ∃ i, d2 = .int i ∧ ((∃ xs, d1 = .list xs ∧ z = .list (DH.cut xs none (some i))) ∨ (∃ xs, d1 = .tuple xs ∧ z = .tuple (DH.cut xs none (some i))) ∨ (∃ y, d1 = .str y ∧ y.length ≤ LIM ∧ z = .str (cutS y none (some i)))) := by
  cases d1 <;> cases d2 <;> simp_all [prim2]
theorem de_frm {p2 : Pos} (ha : PE X a (tE X.K g .R fa)) (hb : PE X b (tE X.K g .R fb)) : PE X (.Subscript a (.Slice (some b) none none p2) pos) (tE X.K g .O fun env => (fa env).bind fun x => (fb env).bind fun y => ofO (prim2 .frm x y)) :=
  pe2 (r := fun x y H Q => ∃ i, y = .int i ∧ (rSlL X.K x (some i) none H Q ∨ (rSlF X.K x (some i) none H Q ∨ rSlS x (some i) none H Q))) (pe_slice (sl_list.or (sl_tupF.or sl_str)) ha (po_some hb) po_none) fun F H x y d1 d2 z Q fh hx hy h k => by
    obtain ⟨i, rfl, h2⟩ := inv_frm h
    exact ⟨i, R_int hy, slice_ok fh hx h2 k⟩
theorem de_upto {p2 : Pos} (ha : PE X a (tE X.K g .R fa)) (hb : PE X b (tE X.K g .R fb)) : PE X (.Subscript a (.Slice none (some b) none p2) pos) (tE X.K g .O fun env => (fa env).bind fun x => (fb env).bind fun y => ofO (prim2 .upto x y)) :=
  pe2 (r := fun x y H Q => ∃ i, y = .int i ∧ (rSlL X.K x none (some i) H Q ∨ (rSlF X.K x none (some i) H Q ∨ rSlS x none (some i) H Q))) (pe_slice (sl_list.or (sl_tupF.or sl_str)) ha po_none (po_some hb)) fun F H x y d1 d2 z Q fh hx hy h k => by
    obtain ⟨i, rfl, h2⟩ := inv_upto h
    exact ⟨i, R_int hy, slice_ok fh hx h2 k⟩
/-- a[i:j], i and j written -/
theorem de_mid {G : Gd} {i j : Int} {k1 k2 : Nat} {p1 p2 p3 : Pos} (ha : PE X a (tE X.K g .R fa)) : PE X (.Subscript a (.Slice (some (.Constant (.int i) k1 p1)) (some (.Constant (.int j) k2 p2)) none p3) pos) (tE X.K g .O fun env => (fa env).bind fun d => ofO (prim1 G (.mid i j) d)) :=
  pe1 (r := fun x H Q => rSlL X.K x (some i) (some j) H Q ∨ (rSlF X.K x (some i) (some j) H Q ∨ rSlS x (some i) (some j) H Q)) (PE.wk (pe_slice (sl_list.or (sl_tupF.or sl_str)) ha (po_some pe_int) (po_some pe_int)) fun σ H Q h => by
    obtain ⟨F, env, rel, hd⟩ := h
    refine ⟨F, env, rel, ?_⟩
    cases q : fa env with
    | ok d =>
      rw [q] at hd
      exact fun v H1 F1 x1 p1 => ⟨i, rfl, j, rfl, hd v H1 F1 x1 p1⟩
    | exc x => rw [q] at hd; exact hd
    | stuck => rw [q] at hd; exact hd) fun F H x d z Q fh hx h k => by
    cases d with
    | list xs => cases h; exact slice_ok fh hx (.inl ⟨xs, rfl, rfl⟩) k
    | tuple xs => cases h; exact slice_ok fh hx (.inr (.inl ⟨xs, rfl, rfl⟩)) k
    | _ => cases h
end
end DH
set_option Elab.async false
set_option linter.all false
set_option maxRecDepth 100000
set_option maxHeartbeats 2000000
/-! DH: sorted of a tuple -/
namespace DH
open PySem L2
open PySem.Spec PyProof.Rows
section
variable {prog : Program} {w : World} {A : Around} {E : Value → Shared → Prop} {s : Shared}
/-- the items of a tuple, in a new list -/
theorem colT {t : Addr} {us : List Value} {Q : List Value → Shared → Prop} (ht : IsTup s.heap t us.toArray) (hz : us.length ≤ sizeLine)
    (k : Q us { s with heap := (s.heap.push (seqObj "list" #[] 0)).update s.heap.objs.size (Obj.mapSeq (· ++ us.toArray)) }) : wpAny (model prog w) A (collect (.ref t)) Q E s := by
  obtain ⟨ob, g1, g2, m, g3⟩ := ht
  have g1' : (s.heap.push (seqObj "list" #[] 0)).get? t = some ob := Heap.get?_push_of_some _ g1
  have n0 : (s.heap.push (seqObj "list" #[] 0)).get? s.heap.objs.size = some (seqObj "list" #[] 0) := Heap.get?_push_size _ rfl
  have tt : (Value.type "tuple" == Value.type "tuple") = true := rfl
  unfold collect
  refine wpAny_bind (wpAny_runValue (codeAny_builtin entry_proto_collect' ?c))
  case c =>
    show wpAny _ _ (do again (.builtin "list.__iadd__" ⟨[← newList [], .ref t], []⟩)) _ _ s
    refine wpAny_bind (wpAny_newList (wpAny_pure ⟨Code.quiet_builtin _ (by decide +kernel), codeAny_builtin entry_list_iadd' ?d⟩))
    case d =>
      show wpAny _ _ (Builtin.List.listExtendWith (.ref s.heap.objs.size) (.ref t) (.ref s.heap.objs.size)) _ _ { s with heap := s.heap.push (seqObj "list" #[] 0) }
      unfold Builtin.List.listExtendWith
      refine wpAny_bind (wpAny_typeOf (T := "tuple") ⟨ob, g1', g2⟩ ?e)
      case e =>
        rw [if_pos (by rw [tt, Bool.or_true])]
        refine wpAny_bind (listItems_at g1' g3 (wpAny_bind (listItems_at (xs := #[]) (n := 0) n0 rfl ?f)))
        case f =>
          rw [if_neg (by simp)]
          refine wpAny_bind (listUpdate_at (xs := #[]) (n := 0) n0 rfl ?g (Nat.zero_le _) (by show (#[] ++ us.toArray).size ≤ sizeLine + 1; rw [Array.size_append]; simp; omega))
          case g =>
            refine wpAny_pure ?_
            refine wpAny_bind (wpAny_load (get?_update_seq n0 _) ?_)
            show wpAny _ _ (pure ((#[] : Array Value) ++ us.toArray).toList) Q E _
            have el : ((#[] : Array Value) ++ us.toArray).toList = us := by simp
            rw [el]
            exact wpAny_pure k
/-- sorted(t), t a tuple of whole numbers -/
theorem sortT {t : Addr} {us : List Value} {ns : List Int} {Q : Value → Shared → Prop} (ht : IsTup s.heap t us.toArray) (hI : IntsAre us ns) (hz : us.length ≤ sizeLine)
    (k : ∀ out : List Value, SrtO.Srtd SrtO.ltIv out → SrtO.Stb SrtO.ltIv out us → Q (.ref (s.heap.objs.size + 1)) { s with heap := sortedAll s.heap us out.toArray }) : wpAny (model prog w) A (call (.builtin "sorted") [.ref t]) Q E s := by
  let h1 := (s.heap.push (seqObj "list" #[] 0)).update s.heap.objs.size (Obj.mapSeq (· ++ us.toArray))
  have e1 : h1.objs.size = s.heap.objs.size + 1 := by show ((s.heap.push _).update _ _).objs.size = _; rw [Heap.size_update, size_push']
  have g1 : (h1.push (seqObj "list" us.toArray 0)).get? (s.heap.objs.size + 1) = some (seqObj "list" us.toArray 0) := by rw [← e1]; exact Heap.get?_push_size h1 rfl
  refine Calls.call_function_entry kind_sorted plain_sorted entry_sorted (args_sorted1 _) ?_
  unfold Builtin.«sorted»
  refine wpAny_bind (m := checkCount "sorted" 1 1 _) (wpAny_pure (wpAny_bind (colT ht hz (wpAny_bind (wpAny_newList ?n hz)))))
  case n =>
    show wpAny _ _ _ _ _ { s with heap := h1.push (seqObj "list" us.toArray 0) }
    rw [show ((s.heap.push (seqObj "list" #[] 0)).update s.heap.objs.size (Obj.mapSeq (· ++ us.toArray))).objs.size = s.heap.objs.size + 1 from e1]
    refine wpAny_bind (wpAny_holding (wpAny_call_entry slot_list_sort ⟨_, g1, rfl⟩ entry_list_sort (SrtO.list_sort_ord SrtO.swo_int g1 hz (fun h2 => SrtO.ints_sortable hI h2) fun out o1 o2 => ⟨_, rfl, ?r⟩) (args_list_sort _)))
    case r => exact wpAny_pure ⟨_, rfl, k out o1 o2⟩
end
def rSrtF (K : PySem.W.Frag) : List V → Hp → VK → Prop := fun vs H Q => ∃ (a : Addr) (ns : List Int), vs = [V.ref a] ∧ (SqL K H a (ns.map V.int) ∨ SqT K H a (ns.map V.int)) ∧
  ∀ (ms : List Int) (p : Addr), ms.Perm ns → ms.Pairwise (· ≤ ·) → H p = none → Q (.ref p) (upd H p (.lst (ms.map V.int)))
theorem cr_srtF {X : Cx} : CallR X (.builtin "sorted") (rSrtF X.K) := by
  intro pins s σ H vs us Q I r h
  obtain ⟨a, ns, rfl, hs | hs, q⟩ := h
  · exact cr_sortedI pins s σ H _ us Q I r ⟨a, ns, rfl, hs, q⟩
  · obtain ⟨its, rv, ht, hz⟩ := I.tuple hs
    rw [Vals.ref1 r]
    have ii := rv.ints
    have zz : its.length ≤ sizeLine := by rw [← rv.length]; exact hz
    refine sortT ht ii zz fun out o1 o2 => ?_
    obtain ⟨k1, k2, k3⟩ := SrtO.ints_out ii o1 o2
    obtain ⟨ep, e'⟩ := sortedAll_at s.heap its out.toArray
    have ll : ((out.map SrtO.iv).map V.int).length ≤ sizeLine := by
      have z := hz
      rw [List.length_map] at z ⊢
      rw [k2.length_eq]
      exact z
    have J := I.laid (t' := s.toks) (fun _ _ => sortedAll_old) (Nat.le_succ _) (show ObjOk _ _ _ _ _ (.lst ((out.map SrtO.iv).map V.int)) from ⟨ll, out, ep, vals_of_ints k1, e'⟩)
    exact ⟨.ref _, _, J, rfl, q _ _ k2 k3 (I.hok.fresh (Nat.le_succ _))⟩
end DH
set_option Elab.async false
set_option linter.all false
set_option maxRecDepth 100000
set_option maxHeartbeats 3200000
/-! DH: sets of whole numbers, made of a list -/
namespace DH
open PySem L2
open PySem.Spec PyProof.Rows
/-- a new set -/
abbrev nwS (w : World) : Obj := { cls := .type "set", dict := none, data := .set #[] 0 (.fresh 0 0 (!w.params.followText "set-order")) }
section
variable {P : Program} {w : World} {A : Around} {E : Value → Shared → Prop} {s : Shared}
theorem setOfL {l : Addr} {its : Array Value} (ms : List Int) {Q : Value → Shared → Prop} (h0 : A.handled = none) (lst : s.heap.IsList l its) (ii : IntsAre its.toList ms) (fit : ms.length + 1 < scanBound)
    (k : ∀ (hp : Heap) (tk c : Nat), SetR w hp s.heap.objs.size (fun j => decide (j ∈ ms)) c → c ≤ ms.length → (∀ b o, s.heap.get? b = some o → hp.get? b = some o) → Q (.ref s.heap.objs.size) { s with heap := hp, toks := tk }) :
    wpAny (model P w) A (call (.type "set") [.ref l]) Q E s := by
  have sz : its.size = ms.length := (Array.length_toList ..).symm.trans (IntsAre.length ii)
  obtain ⟨cc, rest, mro⟩ := F.called_set.mro
  have i1 := F.called_set.made
  have i2 := F.called_set.sub
  have i3 := F.called_set.notType
  have i4 := F.called_set.canCreate
  have i5 := F.typeCall_set_1 (.ref l)
  refine wpAny_call (codeAny_of_tree (wpAny_pure ⟨Code.quiet_builtin _ (by decide +kernel), codeAny_builtin F.entry_type_call ?body⟩))
  rw [Around.under_plain (weight_type_call_type "set" [.ref l] []) rfl]
  repeat (any_goals (first | assumption | wp_step))
  refine codeAny_mono (code_set_led1 (.ref l) (E := E) (Q₁ := fun ob s1 => ob = .ref s.heap.objs.size ∧ s1 = { s with heap := s.heap.push (nwS w) }) ⟨rfl, rfl⟩) fun r1 s1 g1 => ?_
  cases r1 with
  | error e => exact g1
  | ok f1 =>
    cases f1 with
    | ret ob =>
      obtain ⟨rfl, rfl⟩ := g1
      have at0' : (s.heap.push (nwS w)).get? s.heap.objs.size = some (nwS w) := Heap.get?_push_size _ rfl
      have ty : Shared.TypeIs { s with heap := s.heap.push (nwS w) } (.ref s.heap.objs.size) "set" := ⟨_, at0', rfl⟩
      have i6 := F.called_set.init.lookup
      have i7 := F.called_set.init.bind (.ref s.heap.objs.size)
      repeat (any_goals (first | assumption | wp_step))
      refine codeAny_mono (codeAny_call_builtin (R := wants (fun r2 s2 => r2 = .none ∧ ∃ hp tk c, s2 = { s with heap := hp, toks := tk } ∧ SetR w hp s.heap.objs.size (fun j => decide (j ∈ ms)) c ∧ c ≤ ms.length ∧ ∀ b o, s.heap.get? b = some o → hp.get? b = some o) E) F.called_set.init.plain F.entry_set_init (check_set_init_1 ty ?ini)) fun r2 s2 g2 => ?fin
      case ini =>
        obtain ⟨⟨oc, od, oa, os⟩, ol, c1, nl, c2⟩ := lst
        simp only at c1 c2
        subst c1; subst c2
        have ol' : (s.heap.push (nwS w)).get? l = some { cls := .type "list", dict := od, data := .seq its nl, slots := os } := Heap.get?_push_of_some _ ol
        have j1 := F.sub_list_set
        have j2 := F.sub_list_frozenset
        have j3 : (Value.type "list" == Value.type "dict") = false := by decide
        have lst1 : (s.heap.push (nwS w)).IsList l its := ⟨_, ol', rfl, nl, rfl⟩
        unfold Builtin.«set.__init__» noKeywords Builtin.Frozenset.updateFrom
        generalize hI : pyIter = PI
        wp_walk
        subst hI
        refine wpAny_pyIter_list lst1 (wpAny_bind (wpAny_runValue ?run))
        have lS : l < s.heap.objs.size := Heap.lt_size ol
        have h3 : A.in1.in1.in1.handled = none := by simp [h0]
        have pz : (s.heap.push (nwS w)).objs.size = s.heap.objs.size + 1 := Heap.size_push ..
        have neI : l ≠ (s.heap.push (nwS w)).objs.size := fun e => Nat.lt_irrefl _ (Nat.lt_trans (Nat.lt_succ_self _) (by rw [e, pz] at lS; exact lS))
        have nf : s.heap.objs.size ∉ [(s.heap.push (nwS w)).objs.size, l] := by
          rw [pz]
          intro m
          rcases List.mem_cons.mp m with e | m
          · exact Nat.ne_of_lt (Nat.lt_succ_self _) e
          · rw [List.mem_singleton.mp m] at lS
            exact Nat.lt_irrefl _ lS
        have va : ∀ (i : Nat) (v : Value), its[i]? = some v → ∃ n t, ms[i]? = some n ∧ v = .int n t := fun i v hv => by
          have hi : i < ms.length := by rw [← sz]; exact (Array.getElem?_eq_some_iff.mp hv).1
          obtain ⟨t, e⟩ := IntsAre.int_at ii i v (by rw [Array.getElem?_toList]; exact hv)
          refine ⟨ms[i], t, List.getElem?_eq_getElem hi, e.trans ?_⟩
          rw [List.getD_eq_getElem?_getD, List.getElem?_eq_getElem hi]
          rfl
        refine set_update_ints ((Walks.list h3 _ l neI its).toS) s.heap.objs.size nf ms sz fit va (its.size - 0) 0 _ (by omega) (Nat.zero_le _) ⟨⟨_, Heap.get?_push_size _ rfl, rfl, rfl⟩, lst1.push _⟩ ⟨0, Nat.le_refl 0, setR_new_at (Heap.get?_push_of_some _ at0')⟩ ?R
        intro s3 c3 mv le3 R3
        obtain ⟨hp, gg, dd, tt, oo⟩ := s3
        have eg : gg = s.gens := mv.gens
        have ed : dd = s.drawn := mv.drawn
        have eo : oo = s.os := mv.os
        subst eg; subst ed; subst eo
        refine wpAny_pure ?_
        show wpAny _ _ (ret Value.none) _ _ _
        rw [sz] at le3
        refine wpAny_pure ⟨rfl, hp, tt, c3, rfl, R3, le3, fun b o e => mv.heap b o ?_ (Heap.get?_push_of_some _ (Heap.get?_push_of_some _ e))⟩
        have bl : b < s.heap.objs.size := Heap.lt_size e
        intro m
        rcases List.mem_cons.mp m with q | m
        · rw [q] at bl
          exact Nat.lt_irrefl _ bl
        · rw [List.mem_singleton.mp m, pz] at bl
          exact Nat.lt_irrefl _ (Nat.lt_trans (Nat.lt_succ_self _) bl)
      case fin =>
        cases r2 with
        | error e => exact g2
        | ok f2 =>
          cases f2 with
          | ret r =>
            obtain ⟨rfl, hp, tk, c3, rfl, R3, le3, kp⟩ := g2
            repeat (any_goals (first | assumption | wp_step))
            exact k _ _ _ R3 le3 kp
          | _ => exact g2.elim
    | _ => exact g1.elim
end
/-! ### the numbers of a list, each once -/
theorem ded_mem {x : Int} : ∀ {l : List Int}, x ∈ dedI l ↔ x ∈ l
  | [] => Iff.rfl
  | y :: r => by
    unfold dedI
    split
    · rename_i q
      rw [ded_mem, List.mem_cons]
      constructor
      · exact fun h => .inr h
      · rintro (rfl | h)
        · exact List.contains_iff_mem.mp q
        · exact h
    · rw [List.mem_cons, List.mem_cons, ded_mem]
theorem ded_nodup : ∀ {l : List Int}, (dedI l).Nodup
  | [] => List.nodup_nil
  | y :: r => by
    unfold dedI
    split
    · exact ded_nodup
    · rename_i q
      rw [List.nodup_cons]
      exact ⟨fun h => q (List.contains_iff_mem.mpr (ded_mem.mp h)), ded_nodup⟩
theorem setR_n {w : World} {h : Heap} {a : Addr} {ms : List Int} {n : Nat} (R : SetR w h a (fun j => decide (j ∈ ms)) n) : n = (dedI ms).length := by
  obtain ⟨o, es, ep, t, ho, hx, hd, hg, nd, mem, _, hf, hn, _, _⟩ := R
  have pm : (es.toList.map keyOf).Perm (dedI ms) := by
    rw [List.perm_ext_iff_of_nodup nd ded_nodup]
    intro k
    rw [← mem k, ded_mem, decide_eq_true_eq]
  have := pm.length_eq
  rw [List.length_map, Array.length_toList] at this
  omega
section
variable {X : Cx}
def rSetI (K : PySem.W.Frag) (w : World) : List V → Hp → VK → Prop := fun xs H Q => ∃ (l : Addr) (ms : List Int), xs = [V.ref l] ∧ SqL K H l (ms.map V.int) ∧ ms.length ≤ 4000 ∧ ∀ p, H p = none → Q (.ref p) (upd H p (SetO w p (fun j => decide (j ∈ ms)) (dedI ms).length))
theorem cr_setI (hc : X.calm = true) : CallR X (.type "set") (rSetI X.K X.w) := by
  intro pins s σ H xs us Q I r h
  obtain ⟨l, ms, rfl, hs, fit, q⟩ := h
  rw [Vals.ref1 r]
  obtain ⟨its, rv, pl, hz⟩ := I.list hs
  refine setOfL ms (I.ok.hd hc) pl.isList (by simpa using rv.ints) (by unfold scanBound; omega) fun hp tk c R _ kp => ?_
  have e := setR_n R
  subst e
  exact ⟨.ref s.heap.objs.size, _, I.laid (t' := tk) kp (Nat.le_refl _) (setO_new R), rfl, q _ (I.hok.fresh (Nat.le_refl _))⟩
def rLenS (w : World) : List V → Hp → VK → Prop := fun xs H Q => ∃ (a : Addr) (S : Int → Bool) (n : Nat), xs = [V.ref a] ∧ H a = some (SetO w a S n) ∧ Q (.int (n : Nat)) H
theorem cr_lenS : CallR X (.builtin "len") (rLenS X.w) := by
  intro pins s σ H xs us Q I r h
  obtain ⟨a, S, n, rfl, ha, q⟩ := h
  rw [Vals.ref1 r]
  obtain ⟨o, es, ep, t, ho, hx, hd, _, _, _, lt, hf, hn, _⟩ := setO_get I ha
  refine call_len_set ho hx hd hf (by unfold scanBound at lt; omega) ⟨.int (n : Nat), H, I.tok _, ⟨_, by rw [hn]⟩, q⟩
end
end DH
set_option Elab.async false
set_option linter.all false
set_option maxRecDepth 100000
set_option maxHeartbeats 3200000
/-! DH: sets of truth values, made of a list -/
namespace DH
open PySem L2 PpSet
open PySem.Spec PyProof.Rows
section
variable {P : Program} {w : World} {A : Around} {E : Value → Shared → Prop} {s : Shared}
theorem updB {J : Addr} {fp wr : List Addr} {G : Array GenState → Array GenState → Prop} {m : Nat} {Pv : Nat → Value → Prop} {St : Nat → Shared → Prop} {R : Result → Shared → Prop}
    (W : WalksS P w A.in1 J fp wr G m Pv St) (a : Addr) (af : a ∉ fp) (bs : List Bool) (hm : m = bs.length) (fit : bs.length + 1 < scanBound) (va : ∀ i v, Pv i v → ∃ b, bs[i]? = some b ∧ v = .bool b) :
    ∀ (k i : Nat) (s : Shared), m - i = k → i ≤ m → St i s → (∃ c, c ≤ i ∧ SetB w s.heap a (fun j => decide (j ∈ bs.take i)) c) →
      (∀ s' c, Moved (a :: wr) G s s' → SetB w s'.heap a (fun j => decide (j ∈ bs)) c → R (.ok (.ret .none)) s') →
      codeAny (model P w) A (.builtin "set.update.loop" ⟨[.ref a, .ref J], []⟩) R s := by
  have aw : a ∉ wr := fun z => af (W.sub _ z)
  have sub : ∀ b ∈ wr, b ∈ a :: wr := fun b z => List.mem_cons_of_mem _ z
  intro k
  induction k with
  | zero =>
    intro i s e0 le st ⟨c, cl, hB⟩ ret0
    obtain rfl : i = m := by omega
    refine codeAny_builtin F.entry_set_update_loop ?_
    rw [Around.under_plainId F.plain_set_update_loop _]
    refine wpAny_bind (W.done s _ _ st fun s' mv => ?_)
    show wpAny _ A.in1 (ret Value.none) _ _ s'
    rw [List.take_of_length_le (show bs.length ≤ i by omega)] at hB
    exact wpAny_pure (ret0 s' c (mv.mono sub) (hB.at fun o e => mv.heap a o aw e))
  | succ k ih =>
    intro i s e0 le st ⟨c, cl, hB⟩ ret0
    have lt : i < m := by omega
    refine codeAny_builtin F.entry_set_update_loop ?_
    rw [Around.under_plainId F.plain_set_update_loop _]
    refine wpAny_bind (W.item i s _ _ lt st fun v s' pv st' mv => ?_)
    obtain ⟨b, hb, rfl⟩ := va i v pv
    have hB' := hB.at (h' := s'.heap) fun o e => mv.heap a o aw e
    show wpAny _ A.in1 (holding [Value.bool b] (setAdd a (.bool b)) >>= _) _ _ s'
    refine wpAny_bind (wpAny_holding ?_)
    unfold setAdd
    refine wpAny_holding (wpAny_bind ((boolK P w).pyHash (k := b) (boolK_is _ _ _) ?_))
    refine setB_add_hashed (s := { s' with toks := s'.toks + 1 }) hB' (by omega) fun hp sb hB2 => ?_
    have hB3 := hB2.congr (S' := fun j => decide (j ∈ bs.take (i + 1))) fun j => by
      rw [List.take_add_one, hb]
      simp [List.mem_append]
    refine wpAny_pure ⟨plainId_quiet F.plain_set_update_loop _, ih (i + 1) _ (by omega) lt (W.frame _ s' _ _ st' (Nat.le_succ _) fun x hx o e => ?_) ⟨_, ?_, hB3⟩ fun s2 c2 mv2 hB4 => ?_⟩
    · rw [sb.2 x (fun z : x = a => af (z ▸ hx))]; exact e
    · split <;> omega
    · refine ret0 s2 c2 (Moved.trans W.gtrans ((mv.mono sub).then_heap (Nat.le_succ _) fun x o hx e => ?_) mv2) hB4
      rw [sb.2 x (fun z : x = a => hx (z ▸ List.mem_cons_self))]; exact e
theorem setOfB {l : Addr} {its : Array Value} (ms : List Bool) {Q : Value → Shared → Prop} (h0 : A.handled = none) (lst : s.heap.IsList l its) (ii : its.toList = ms.map Value.bool) (fit : ms.length + 1 < scanBound)
    (k : ∀ (hp : Heap) (tk c : Nat), SetB w hp s.heap.objs.size (fun j => decide (j ∈ ms)) c → (∀ b o, s.heap.get? b = some o → hp.get? b = some o) → Q (.ref s.heap.objs.size) { s with heap := hp, toks := tk }) :
    wpAny (model P w) A (call (.type "set") [.ref l]) Q E s := by
  have sz : its.size = ms.length := by rw [← Array.length_toList, ii, List.length_map]
  obtain ⟨cc, rest, mro⟩ := F.called_set.mro
  have i1 := F.called_set.made
  have i2 := F.called_set.sub
  have i3 := F.called_set.notType
  have i4 := F.called_set.canCreate
  have i5 := F.typeCall_set_1 (.ref l)
  refine wpAny_call (codeAny_of_tree (wpAny_pure ⟨Code.quiet_builtin _ (by decide +kernel), codeAny_builtin F.entry_type_call ?body⟩))
  rw [Around.under_plain (weight_type_call_type "set" [.ref l] []) rfl]
  repeat (any_goals (first | assumption | wp_step))
  refine codeAny_mono (code_set_led1 (.ref l) (E := E) (Q₁ := fun ob s1 => ob = .ref s.heap.objs.size ∧ s1 = { s with heap := s.heap.push (nwS w) }) ⟨rfl, rfl⟩) fun r1 s1 g1 => ?_
  cases r1 with
  | error e => exact g1
  | ok f1 =>
    cases f1 with
    | ret ob =>
      obtain ⟨rfl, rfl⟩ := g1
      have at0' : (s.heap.push (nwS w)).get? s.heap.objs.size = some (nwS w) := Heap.get?_push_size _ rfl
      have ty : Shared.TypeIs { s with heap := s.heap.push (nwS w) } (.ref s.heap.objs.size) "set" := ⟨_, at0', rfl⟩
      have i6 := F.called_set.init.lookup
      have i7 := F.called_set.init.bind (.ref s.heap.objs.size)
      repeat (any_goals (first | assumption | wp_step))
      refine codeAny_mono (codeAny_call_builtin (R := wants (fun r2 s2 => r2 = .none ∧ ∃ hp tk c, s2 = { s with heap := hp, toks := tk } ∧ SetB w hp s.heap.objs.size (fun j => decide (j ∈ ms)) c ∧ ∀ b o, s.heap.get? b = some o → hp.get? b = some o) E) F.called_set.init.plain F.entry_set_init (check_set_init_1 ty ?ini)) fun r2 s2 g2 => ?fin
      case ini =>
        obtain ⟨⟨oc, od, oa, os⟩, ol, c1, nl, c2⟩ := lst
        simp only at c1 c2
        subst c1; subst c2
        have ol' : (s.heap.push (nwS w)).get? l = some { cls := .type "list", dict := od, data := .seq its nl, slots := os } := Heap.get?_push_of_some _ ol
        have j1 := F.sub_list_set
        have j2 := F.sub_list_frozenset
        have j3 : (Value.type "list" == Value.type "dict") = false := by decide
        have lst1 : (s.heap.push (nwS w)).IsList l its := ⟨_, ol', rfl, nl, rfl⟩
        unfold Builtin.«set.__init__» noKeywords Builtin.Frozenset.updateFrom
        generalize hI : pyIter = PI
        wp_walk
        subst hI
        refine wpAny_pyIter_list lst1 (wpAny_bind (wpAny_runValue ?run))
        have lS : l < s.heap.objs.size := Heap.lt_size ol
        have h3 : A.in1.in1.in1.handled = none := by simp [h0]
        have pz : (s.heap.push (nwS w)).objs.size = s.heap.objs.size + 1 := Heap.size_push ..
        have neI : l ≠ (s.heap.push (nwS w)).objs.size := fun e => Nat.lt_irrefl _ (Nat.lt_trans (Nat.lt_succ_self _) (by rw [e, pz] at lS; exact lS))
        have nf : s.heap.objs.size ∉ [(s.heap.push (nwS w)).objs.size, l] := by
          rw [pz]
          intro m
          rcases List.mem_cons.mp m with e | m
          · exact Nat.ne_of_lt (Nat.lt_succ_self _) e
          · rw [List.mem_singleton.mp m] at lS
            exact Nat.lt_irrefl _ lS
        have va : ∀ (i : Nat) (v : Value), its[i]? = some v → ∃ b, ms[i]? = some b ∧ v = .bool b := fun i v hv => by
          have hi : i < ms.length := by rw [← sz]; exact (Array.getElem?_eq_some_iff.mp hv).1
          have e1 : its.toList[i]? = some v := by rw [Array.getElem?_toList]; exact hv
          rw [ii, List.getElem?_map, List.getElem?_eq_getElem hi] at e1
          exact ⟨ms[i], List.getElem?_eq_getElem hi, (Option.some.inj e1).symm⟩
        refine updB ((Walks.list h3 _ l neI its).toS) s.heap.objs.size nf ms sz fit va (its.size - 0) 0 _ (by omega) (Nat.zero_le _) ⟨⟨_, Heap.get?_push_size _ rfl, rfl, rfl⟩, lst1.push _⟩ ⟨0, Nat.le_refl 0, ((setB_fresh w (h := s.heap)).at fun o e => Heap.get?_push_of_some _ e).congr fun j => by simp⟩ ?R
        intro s3 c3 mv R3
        obtain ⟨hp, gg, dd, tt, oo⟩ := s3
        have eg : gg = s.gens := mv.gens
        have ed : dd = s.drawn := mv.drawn
        have eo : oo = s.os := mv.os
        subst eg; subst ed; subst eo
        refine wpAny_pure ?_
        show wpAny _ _ (ret Value.none) _ _ _
        refine wpAny_pure ⟨rfl, hp, tt, c3, rfl, R3, fun b o e => mv.heap b o ?_ (Heap.get?_push_of_some _ (Heap.get?_push_of_some _ e))⟩
        have bl : b < s.heap.objs.size := Heap.lt_size e
        intro m
        rcases List.mem_cons.mp m with q | m
        · rw [q] at bl
          exact Nat.lt_irrefl _ bl
        · rw [List.mem_singleton.mp m, pz] at bl
          exact Nat.lt_irrefl _ (Nat.lt_trans (Nat.lt_succ_self _) bl)
      case fin =>
        cases r2 with
        | error e => exact g2
        | ok f2 =>
          cases f2 with
          | ret r =>
            obtain ⟨rfl, hp, tk, c3, rfl, R3, kp⟩ := g2
            repeat (any_goals (first | assumption | wp_step))
            exact k _ _ _ R3 kp
          | _ => exact g2.elim
    | _ => exact g1.elim
end
theorem setB_n {w : World} {h : Heap} {a : Addr} {ms : List Bool} {n : Nat} (R : SetB w h a (fun j => decide (j ∈ ms)) n) : n = dedB ms := by
  obtain ⟨o, es, ep, t, ho, hx, hd, hg, nd, mem, _, hf, hn, _, _⟩ := R
  have ht := mem true
  have hf := mem false
  rw [decide_eq_true_eq] at ht hf
  have hl : (es.toList.map keyB).length = n := by rw [List.length_map, Array.length_toList]; exact hn
  generalize es.toList.map keyB = l at nd ht hf hl
  have e1 : ms.contains true = l.contains true := by
    rw [Bool.eq_iff_iff, List.contains_iff_mem, List.contains_iff_mem]; exact ht
  have e2 : ms.contains false = l.contains false := by
    rw [Bool.eq_iff_iff, List.contains_iff_mem, List.contains_iff_mem]; exact hf
  unfold dedB
  rw [e1, e2, ← hl]
  match l, nd with
  | [], _ => rfl
  | [true], _ => rfl
  | [false], _ => rfl
  | [true, false], _ => rfl
  | [false, true], _ => rfl
  | true :: true :: r, nd => simp at nd
  | false :: false :: r, nd => simp at nd
  | true :: false :: true :: r, nd => simp at nd
  | true :: false :: false :: r, nd => simp at nd
  | false :: true :: true :: r, nd => simp at nd
  | false :: true :: false :: r, nd => simp at nd
section
variable {X : Cx}
def rSetB (K : PySem.W.Frag) (w : World) : List V → Hp → VK → Prop := fun xs H Q => ∃ (l : Addr) (ms : List Bool), xs = [V.ref l] ∧ SqL K H l (ms.map V.bl) ∧ ms.length ≤ 4000 ∧ ∀ p, H p = none → Q (.ref p) (upd H p (SetBO w p (fun j => decide (j ∈ ms)) (dedB ms)))
theorem vals_bl : ∀ {ms : List Bool} {us : List Value}, Vals (ms.map V.bl) us → us = ms.map Value.bool
  | [], _, .nil => rfl
  | _ :: r, _, .cons h t => by
    cases h
    rw [vals_bl t]
    rfl
theorem cr_setB (hc : X.calm = true) : CallR X (.type "set") (rSetB X.K X.w) := by
  intro pins s σ H xs us Q I r h
  obtain ⟨l, ms, rfl, hs, fit, q⟩ := h
  rw [Vals.ref1 r]
  obtain ⟨its, rv, pl, hz⟩ := I.list hs
  refine setOfB ms (I.ok.hd hc) pl.isList (by simpa using vals_bl rv) (by unfold scanBound; omega) fun hp tk c R kp => ?_
  have e := setB_n R
  subst e
  exact ⟨.ref s.heap.objs.size, _, I.laid (t' := tk) kp (Nat.le_refl _) (setBO_new R), rfl, q _ (I.hok.fresh (Nat.le_refl _))⟩
def rLenB (w : World) : List V → Hp → VK → Prop := fun xs H Q => ∃ (a : Addr) (S : Bool → Bool) (n : Nat), xs = [V.ref a] ∧ H a = some (SetBO w a S n) ∧ Q (.int (n : Nat)) H
theorem cr_lenB : CallR X (.builtin "len") (rLenB X.w) := by
  intro pins s σ H xs us Q I r h
  obtain ⟨a, S, n, rfl, ha, q⟩ := h
  rw [Vals.ref1 r]
  obtain ⟨o, es, ep, t, ho, hx, hd, _, _, _, lt, hf, hn, _⟩ := setBO_get I ha
  refine call_len_set ho hx hd hf (by unfold scanBound at lt; omega) ⟨.int (n : Nat), H, I.tok _, ⟨_, by rw [hn]⟩, q⟩
theorem CallR.or {f : Value} {r r' : List V → Hp → VK → Prop} (h : CallR X f r) (h' : CallR X f r') : CallR X f (fun xs H Q => r xs H Q ∨ r' xs H Q) :=
  fun pins s σ H xs us Q I v q => q.elim (h pins s σ H xs us Q I v) (h' pins s σ H xs us Q I v)
end
end DH
set_option Elab.async false
set_option linter.all false
set_option maxRecDepth 100000
/-! DH: max(list of ints, default=d) -/
namespace DH
open PySem L2
open PySem.Spec PyProof.Rows
section
variable {prog : Program} {w : World} {A : Around} {R : Result → Shared → Prop} {I : Addr} {fp wr : List Addr} {n : Nat} {P : Nat → Value → Prop} {St : Nat → Heap → Prop} {kw : List (Str × Value)}
/-- the cell in which max keeps its best -/
abbrev celM (l : Array Value) (c : Nat) : Obj := { cls := .type "list", dict := none, data := .seq l c, slots := #[] }
theorem mx_name : (toString "max" ++ toString ".loop" : String) = "max.loop" := by decide
theorem mx_turns (W : Walks prog w A.in1 I fp wr n P St) {bt : Nat → Nat → Bool} (cmp : CmpOf prog w A.in1 .Gt P bt) {S : Addr} (nS : S ∉ fp) (m : Nat) : ∀ {i : Nat} {s : Shared} {b : Value} {c : Nat}, i + 1 + m = n → St (i + 1) s.heap → P (argBest bt i) b → s.heap.get? S = some (celM #[b, b] c) →
    (∀ v g t, P (argBest bt (n - 1)) v → (∀ x o, x ∉ wr → x ≠ S → s.heap.get? x = some o → g.get? x = some o) → R (.ok (.ret v)) { s with heap := g, toks := t }) →
    codeAny (model prog w) A (.builtin "max.loop" ⟨[.ref I, .none, .ref S], kw⟩) R s := by
  have nW : S ∉ wr := fun z => nS (W.sub _ z)
  induction m with
  | zero =>
    intro i s b c en st pb at_ out
    refine codeAny_builtin F.entry_max_loop ?_
    rw [Around.under_plainId F.plain_max_loop _]
    show wpAny _ A.in1 (seqItems? (.ref S) >>= _) _ _ s
    refine wpAny_bind (wpAny_seqItems at_ rfl ?_)
    show wpAny _ A.in1 (tryCatch (pyNext (.ref I)) _ >>= _) _ _ s
    have st' : St n s.heap := by rw [← en]; exact st
    refine wpAny_bind (wpAny_tryCatch (W.done s _ _ st' fun g t kp => ?_))
    show wpAny _ A.in1 (updateSeq S (fun _ => #[]) >>= _) _ _ _
    refine wpAny_bind (wpAny_updateSeq (kp S _ nW at_) rfl (wpAny_bind (wpAny_letGo (wpAny_pure ?_))))
    exact out b _ t (by rw [← en]; exact pb) fun x o xw xS e => (Heap.get?_update_other _ _ (Ne.symm xS)).trans (kp x o xw e)
  | succ m ih =>
    intro i s b c en st pb at_ out
    refine codeAny_builtin F.entry_max_loop ?_
    rw [Around.under_plainId F.plain_max_loop _]
    show wpAny _ A.in1 (seqItems? (.ref S) >>= _) _ _ s
    refine wpAny_bind (wpAny_seqItems at_ rfl ?_)
    show wpAny _ A.in1 (tryCatch (pyNext (.ref I)) _ >>= _) _ _ s
    refine wpAny_bind (wpAny_tryCatch (W.item (i + 1) s _ _ (by omega) st fun v g t pv st2 kp => ?_))
    have at2 := kp S _ nW at_
    show wpAny _ A.in1 (tryCatch (holding [v, v] (richCompare .Gt v b >>= _)) _ >>= _) _ _ _
    refine wpAny_bind (wpAny_tryCatch (wpAny_holding (wpAny_bind (cmp (i + 1) (argBest bt i) v b _ _ _ pv pb (wpAny_bind (wpAny_holding (wpAny_truthy_bool (wpAny_bind (wpAny_letGo (wpAny_pure ?_))))))))))
    by_cases hb : bt (i + 1) (argBest bt i) = true
    · have eb : argBest bt (i + 1) = i + 1 := if_pos hb
      rw [hb]
      simp only [if_true]
      refine wpAny_bind (wpAny_updateSeq at2 rfl (wpAny_bind (wpAny_letGo ?_)))
      rw [mx_name]
      refine wpAny_pure ⟨plainId_quiet F.plain_max_loop _, ih (i := i + 1) (b := v) (by omega) (W.frame _ _ _ st2 fun x xf o e => ?_) (by rw [eb]; exact pv) (Heap.get?_update_self _ at2 rfl) fun v' g' t' pv' kp' => ?_⟩
      · exact (Heap.get?_update_other _ _ (fun z : S = x => nS (z ▸ xf))).trans e
      · exact out v' g' t' pv' fun x o xw xS e => kp' x o xw xS ((Heap.get?_update_other _ _ (Ne.symm xS)).trans (kp x o xw e))
    · have eb : argBest bt (i + 1) = argBest bt i := if_neg hb
      have hb' : bt (i + 1) (argBest bt i) = false := by simpa using hb
      rw [hb']
      simp only [Bool.false_eq_true, if_false]
      refine wpAny_bind (wpAny_letGo ?_)
      rw [mx_name]
      refine wpAny_pure ⟨plainId_quiet F.plain_max_loop _, ih (i := i + 1) (b := b) (by omega) st2 (by rw [eb]; exact pb) at2 fun v' g' t' pv' kp' => ?_⟩
      exact out v' g' t' pv' fun x o xw xS e => kp' x o xw xS (kp x o xw e)
theorem mx_start (W : Walks prog w A.in1 I fp wr n P St) {bt : Nat → Nat → Bool} (cmp : CmpOf prog w A.in1 .Gt P bt) {S : Addr} (nS : S ∉ fp) (pos : 0 < n) {s : Shared} {c : Nat} (st : St 0 s.heap) (at_ : s.heap.get? S = some (celM #[] c))
    (out : ∀ v g t, P (argBest bt (n - 1)) v → (∀ x o, x ∉ wr → x ≠ S → s.heap.get? x = some o → g.get? x = some o) → R (.ok (.ret v)) { s with heap := g, toks := t }) :
    codeAny (model prog w) A (.builtin "max.loop" ⟨[.ref I, .none, .ref S], kw⟩) R s := by
  have nW : S ∉ wr := fun z => nS (W.sub _ z)
  refine codeAny_builtin F.entry_max_loop ?_
  rw [Around.under_plainId F.plain_max_loop _]
  show wpAny _ A.in1 (seqItems? (.ref S) >>= _) _ _ s
  refine wpAny_bind (wpAny_seqItems at_ rfl ?_)
  show wpAny _ A.in1 (tryCatch (pyNext (.ref I)) _ >>= _) _ _ s
  refine wpAny_bind (wpAny_tryCatch (W.item 0 s _ _ pos st fun v g t pv st2 kp => ?_))
  have at2 := kp S _ nW at_
  show wpAny _ A.in1 (updateSeq S (fun _ => #[v, v]) >>= _) _ _ _
  refine wpAny_bind (wpAny_updateSeq at2 rfl ?_)
  rw [mx_name]
  refine wpAny_pure ⟨plainId_quiet F.plain_max_loop _, mx_turns W cmp nS (n - 1) (i := 0) (by omega) (W.frame _ _ _ st2 fun x xf o e => ?_) pv (Heap.get?_update_self _ at2 rfl) fun v' g' t' pv' kp' => ?_⟩
  · exact (Heap.get?_update_other _ _ (fun z : S = x => nS (z ▸ xf))).trans e
  · exact out v' g' t' pv' fun x o xw xS e => kp' x o xw xS ((Heap.get?_update_other _ _ (Ne.symm xS)).trans (kp x o xw e))
theorem max_noneK {d : Value} (W : Walks prog w A.in1 I fp wr 0 P St) (S : Addr) (hSf : S ∉ fp) {s : Shared} {c : Nat} (hst : St 0 s.heap)
    (hS : s.heap.get? S = some (celM #[] c))
    (hR : ∀ h' tk, (∀ b o, b ∉ wr → b ≠ S → s.heap.get? b = some o → h'.get? b = some o) → R (.ok (.ret d)) { s with heap := h', toks := tk }) :
    codeAny (model prog w) A (.builtin "max.loop" ⟨[.ref I, .none, .ref S], [("default", d)]⟩) R s := by
  refine codeAny_builtin F.entry_max_loop ?_
  rw [Around.under_plainId F.plain_max_loop _]
  show wpAny _ A.in1 (seqItems? (.ref S) >>= _) _ _ s
  refine wpAny_bind (wpAny_seqItems hS rfl ?_)
  show wpAny _ A.in1 (tryCatch (pyNext (.ref I)) _ >>= _) _ _ s
  refine wpAny_bind (wpAny_tryCatch (W.done s _ _ hst fun h' tk hk' => ?_))
  refine wpAny_bind (wpAny_rule (wpAny_pure ?_))
  exact hR h' tk fun b o hb _ e => hk' b o hb e
end
section
variable {prog : Program} {w : World} {A : Around} {E : Value → Shared → Prop} {s : Shared}
theorem args_maxK (a d : Value) : argsOk "max" ⟨[a], [("default", d)]⟩ := by unfold argsOk; kernel_rfl
theorem call_max_walkK {x d : Value} {Q : Value → Shared → Prop}
    (h : wpAny (model prog w) A.in1 (pyIter x) (fun it s₂ => ∃ I fp wr n P St bt, it = .ref I ∧ Walks prog w A.in1 I fp wr n P St ∧ St 0 s₂.heap ∧ (∀ b ∈ fp, b < s₂.heap.objs.size) ∧ CmpOf prog w A.in1 .Gt P bt ∧
      (n = 0 → ∀ h' tk, (∀ b o, b ∉ wr → s₂.heap.get? b = some o → h'.get? b = some o) → Q d { s₂ with heap := h', toks := tk }) ∧
      (0 < n → ∀ v h' tk, P (argBest bt (n - 1)) v → (∀ b o, b ∉ wr → s₂.heap.get? b = some o → h'.get? b = some o) → Q v { s₂ with heap := h', toks := tk })) E s) :
    wpAny (model prog w) A (call (.builtin "max") [x] [("default", d)]) Q E s := by
  have hname : (toString "max" ++ toString ".loop" : String) = "max.loop" := by decide
  refine wpAny_call (codeAny_call_builtin F.plain_max F.entry_max ?_)
  simp only [checkBuiltinCall, F.kind_max]
  have tree : wpAny (model prog w) A.in1 (Builtin.«max» ⟨[x], [("default", d)]⟩) (fun fin s' => match fin with
      | .done f => (match (Except.ok f : Result) with | .ok (.ret v) => Q v s' | .ok _ => False | .error e => E e s')
      | .again c' => c'.quiet = true ∧ codeAny (model prog w) A c' (fun r s' => match r with | .ok (.ret v) => Q v s' | .ok _ => False | .error e => E e s') s') E s := by
    show wpAny _ A.in1 (Builtin.Builtins.bindParams "max" ["key", "default"] 0 ⟨[], [("default", d)]⟩ >>= _) _ _ s
    refine wpAny_bind (wpAny_of_eq (show Builtin.Builtins.bindParams "max" ["key", "default"] 0 ⟨[], [("default", d)]⟩ = pure [none, some d] from rfl) ?_)
    refine wpAny_bind (wpAny_pure ?_)
    refine wpAny_bind (wpAny_mono h (fun it s₂ h₂ => ?_) fun _ _ e => e)
    obtain ⟨I, fp, wr, n, P, St, bt, rfl, W, hst, hfp, hcmp, hQ0, hQ⟩ := h₂
    refine wpAny_bind (wpAny_newObj_type ?_)
    have hSf : s₂.heap.objs.size ∉ fp := fun hm => Nat.lt_irrefl _ (hfp _ hm)
    rw [hname]
    have st0 := W.frame _ _ (s₂.heap.push { cls := .type "list", data := .seq #[] }) hst fun b _ o e => Heap.get?_push_of_some _ e
    cases n with
    | zero =>
      refine wpAny_pure ⟨plainId_quiet F.plain_max_loop _, max_noneK W _ hSf st0 (Heap.get?_push_size _ rfl) fun h' tk hk => ?_⟩
      exact hQ0 rfl h' tk fun b o hbw e => hk b o hbw (Nat.ne_of_lt (Heap.lt_size e)) (Heap.get?_push_of_some _ e)
    | succ n =>
      refine wpAny_pure ⟨plainId_quiet F.plain_max_loop _, mx_start W hcmp hSf (Nat.succ_pos _) st0 (Heap.get?_push_size _ rfl) fun v h' tk hP hk => ?_⟩
      exact hQ (Nat.succ_pos _) v h' tk hP fun b o hbw e => hk b o hbw (Nat.ne_of_lt (Heap.lt_size e)) (Heap.get?_push_of_some _ e)
  cases hsig : Manifest.signature? "max" with
  | none => exact wpAny_pure tree
  | some sig =>
    have ha := args_maxK x d
    simp only [argsOk, hsig] at ha
    have h2 : Bind.checkArgs "max" sig ⟨[x], [("default", d)]⟩ = pure () := ha
    show wpAny _ A.in1 (Bind.checkArgs "max" sig ⟨[x], [("default", d)]⟩) _ _ s
    rw [h2]; exact wpAny_pure tree
theorem maxd_raw {l : Addr} {its : List Value} {ns : List Int} {d : Value} {Q : Value → Shared → Prop} (hh : A.handled = none) (hl : s.heap.IsList l its.toArray) (hi : IntsAre its ns)
    (h0 : ns = [] → ∀ h' tk, (∀ b o, s.heap.get? b = some o → h'.get? b = some o) → Q d { s with heap := h', toks := tk })
    (h : ∀ h' tk M t', (∀ b o, s.heap.get? b = some o → h'.get? b = some o) → M ∈ ns → (∀ a, a ∈ ns → a ≤ M) → Q (.int M t') { s with heap := h', toks := tk }) : wpAny (model prog w) A (call (.builtin "max") [.ref l] [("default", d)]) Q E s := by
  obtain ⟨xs, e⟩ := hi.allInts.items
  have hn : numsOf (intItems xs).toList = ns := by rw [← e]; exact hi.numsOf
  rw [nums_intItems] at hn
  subst hn
  rw [e] at hl
  refine call_max_walkK (iter_intList hl fun s₂ e st hfp hlI => ?_)
  subst e
  have sz : (intItems xs).size = xs.size := by simp [intItems]
  refine ⟨_, _, _, _, _, _, _, rfl, Walks.list (A := A.in1) hh _ l hlI (intItems xs), st, hfp, CmpOf.ints_gt (numAt xs) (fun _ _ => intItems_at), fun z h' tk hk => ?_, fun z v h' tk hv hk => ?_⟩
  · refine h0 ?_ h' tk (old_kept hk)
    rw [sz] at z
    have : xs = #[] := Array.eq_empty_of_size_eq_zero z
    subst this
    rfl
  · rw [sz] at z hv
    obtain ⟨t, rfl⟩ := intItems_at hv
    obtain ⟨h1, h2⟩ := argBest_gt (numAt xs) (xs.size - 1)
    refine h h' tk _ t (old_kept hk) ?_ fun a ha => ?_
    · rw [numAt_eq]; exact PySem.getD_mem (by rw [List.length_map, Array.length_toList]; omega)
    · obtain ⟨j, hj, rfl⟩ := mem_getD ha
      rw [List.length_map, Array.length_toList] at hj
      rw [← numAt_eq]; exact h2 j (by omega)
end
section
variable {X : Cx}
def rMaxd (K : PySem.W.Frag) : List V → List V → Hp → VK → Prop := fun vs zs H Q => ∃ (a : Addr) (ns : List Int) (d : Int), vs = [V.ref a] ∧ zs = [.int d] ∧ SqL K H a (ns.map V.int) ∧ (ns = [] → Q (.int d) H) ∧ ∀ m, m ∈ ns → (∀ b, b ∈ ns → b ≤ m) → Q (.int m) H
theorem cr_maxd (hc : X.calm = true) : CallRK X (.builtin "max") ["default"] (rMaxd X.K) := by
  intro pins s σ H vs zs us ws Q I r r2 h
  obtain ⟨a, ns, d, rfl, rfl, hs, q0, q⟩ := h
  obtain ⟨its, rv, hl, _⟩ := I.list hs
  rw [Vals.ref1 r]
  obtain ⟨u, rfl, ru⟩ := vals1 r2
  obtain ⟨tk, rfl⟩ := ru
  exact maxd_raw (I.ok.hd hc) hl.isList rv.ints (fun z h' tk hk => ⟨.int _, H, I.kept hk, ⟨_, rfl⟩, q0 z⟩) fun h' tk m t' hk h1 h2 => ⟨.int _, H, I.kept hk, ⟨_, rfl⟩, q m h1 h2⟩
end
end DH
set_option Elab.async false
set_option linter.all false
set_option maxRecDepth 100000
/-! DH, part F: built-in calls, methods, displays, calls of defs. -/
namespace DH
open PySem L2
open PySem.Spec PyProof.Rows

/-! ### facts about the pure functions -/
theorem insI_perm (x : Int) : ∀ l : List Int, (insI x l).Perm (x :: l)
  | [] => .refl _
  | y :: r => by
    unfold insI
    split
    · exact .refl _
    · exact ((insI_perm x r).cons y).trans (.swap _ _ _)
theorem sortI_perm : ∀ l : List Int, (sortI l).Perm l
  | [] => .refl _
  | x :: r => (insI_perm x _).trans ((sortI_perm r).cons x)
theorem insI_sorted (x : Int) : ∀ l : List Int, l.Pairwise (· ≤ ·) → (insI x l).Pairwise (· ≤ ·)
  | [], _ => by simp [insI]
  | y :: r, h => by
    rw [List.pairwise_cons] at h
    unfold insI
    split
    · rename_i q
      rw [List.pairwise_cons]
      refine ⟨fun z hz => ?_, by rw [List.pairwise_cons]; exact h⟩
      rcases List.mem_cons.mp hz with rfl | hz
      · exact q
      · exact Int.le_trans q (h.1 z hz)
    · rename_i q
      rw [List.pairwise_cons]
      refine ⟨fun z hz => ?_, insI_sorted x r h.2⟩
      rcases List.mem_cons.mp ((insI_perm x r).mem_iff.mp hz) with rfl | hz
      · omega
      · exact h.1 z hz
theorem sortI_sorted : ∀ l : List Int, (sortI l).Pairwise (· ≤ ·)
  | [] => by simp [sortI]
  | x :: r => insI_sorted x _ (sortI_sorted r)
theorem sorted_unique : ∀ {l m : List Int}, l.Perm m → l.Pairwise (· ≤ ·) → m.Pairwise (· ≤ ·) → l = m := fun {l m} p h1 h2 =>
  List.Perm.eq_of_pairwise (le := (· ≤ ·)) (fun a b _ _ h h' => Int.le_antisymm h h') h1 h2 p
theorem maxI_ge : ∀ (r : List Int) (m : Int), m ≤ maxI m r ∧ (∀ y ∈ r, y ≤ maxI m r) ∧ (maxI m r = m ∨ maxI m r ∈ r)
  | [], m => ⟨Int.le_refl _, fun _ h => by simp at h, .inl rfl⟩
  | x :: r, m => by
    unfold maxI
    obtain ⟨h1, h2, h3⟩ := maxI_ge r (if m < x then x else m)
    have hm : m ≤ (if m < x then x else m) ∧ x ≤ (if m < x then x else m) := by split <;> omega
    refine ⟨Int.le_trans hm.1 h1, fun y hy => ?_, ?_⟩
    · rcases List.mem_cons.mp hy with rfl | hy
      · exact Int.le_trans hm.2 h1
      · exact h2 y hy
    · rcases h3 with h3 | h3
      · rw [h3]
        split
        · exact .inr (List.mem_cons_self ..)
        · exact .inl rfl
      · exact .inr (List.mem_cons_of_mem _ h3)
theorem minI_le : ∀ (r : List Int) (m : Int), minI m r ≤ m ∧ (∀ y ∈ r, minI m r ≤ y) ∧ (minI m r = m ∨ minI m r ∈ r)
  | [], m => ⟨Int.le_refl _, fun _ h => by simp at h, .inl rfl⟩
  | x :: r, m => by
    unfold minI
    obtain ⟨h1, h2, h3⟩ := minI_le r (if x < m then x else m)
    have hm : (if x < m then x else m) ≤ m ∧ (if x < m then x else m) ≤ x := by split <;> omega
    refine ⟨Int.le_trans h1 hm.1, fun y hy => ?_, ?_⟩
    · rcases List.mem_cons.mp hy with rfl | hy
      · exact Int.le_trans h1 hm.2
      · exact h2 y hy
    · rcases h3 with h3 | h3
      · rw [h3]
        split
        · exact .inr (List.mem_cons_self ..)
        · exact .inl rfl
      · exact .inr (List.mem_cons_of_mem _ h3)

/-- e is no star, no slice, no walrus: an expression like any other -/
def plainE : Expr → Bool
  | .Starred _ _ => false
  | .Slice _ _ _ _ => false
  | .NamedExpr _ _ _ => false
  | .Set _ _ _ => false
  | _ => true
theorem star_plain {e : Expr} (h : plainE e = true) (es : List Expr) (env : PySem.Env) : starEach (e :: es) env = (false, eval e env) :: starEach es env := by
  cases e <;> first | rfl | (simp [plainE] at h; done)
theorem ix_plain {e : Expr} (h : plainE e = true) : PlainIx e := by
  intro o i
  cases e <;> first | rfl | (simp [plainE] at h; done)

theorem mark_plain {e : Expr} (h : plainE e = true) (op : CmpOp) : behindInMarks op e = false := by
  cases e <;> first | rfl | (simp [plainE] at h; done)
theorem fold_plain {e : Expr} (h : plainE e = true) (env : PySem.Env) (x : Value) : foldedSetIterable e env x = pure x := by
  cases e <;> first | rfl | (simp [plainE] at h; done)

section
variable {g : Gh} {X : Cx} {e a b c : Expr} {fa fb fc : Env → Res D} {pos p0 : Pos} {x : Str} {id T : String} {r : List V → Hp → VK → Prop}

/-- what a built-in's name stands for -/
structure Blt (X : Cx) (x : Str) (v : Value) : Prop where
  gl : Gl X x
  mg : X.mg x = none
  bo : bootBuiltins x = some v
  nn : x ≠ "__name__"
  nd : (x == ("__debug__" : Str)) = false

theorem de_b1 {p : D → Option D} {m : Md} (B : Blt X x (.builtin id)) (hc : CallR X (.builtin id) r) (ha : PE X a (tE X.K g .R fa)) (pa : plainE a = true)
    (ok : ∀ F H x d z Q, Same F H → Post X.K .R F H H x d → p d = some z → (∀ v H' F', Ext F H F' H' → Post X.K m F' H H' v z → Q v H') → r [x] H Q) :
    PE X (.Call (.Name x p0) [a] [] pos) (tE X.K g m fun env => (fa env).bind fun d => ofO (p d)) :=
  pe1 (r := fun x H Q => r [x] H Q) (pe_callB hc B.gl B.mg B.bo (pa_cons ha pa_nil (star_plain pa _ _)) B.nn B.nd (star_plain pa _ _)) ok
theorem de_t1 {p : D → Option D} {m : Md} (B : Blt X x (.type T)) (hc : CallR X (.type T) r) (ha : PE X a (tE X.K g .R fa)) (pa : plainE a = true)
    (ok : ∀ F H x d z Q, Same F H → Post X.K .R F H H x d → p d = some z → (∀ v H' F', Ext F H F' H' → Post X.K m F' H H' v z → Q v H') → r [x] H Q) :
    PE X (.Call (.Name x p0) [a] [] pos) (tE X.K g m fun env => (fa env).bind fun d => ofO (p d)) :=
  pe1 (r := fun x H Q => r [x] H Q) (pe_callTy hc B.gl B.mg B.bo (pa_cons ha pa_nil (star_plain pa _ _)) B.nn B.nd (star_plain pa _ _)) ok
theorem any_plain {b : Expr} (h : plainE b = true) (pos : Pos) (env : PySem.Env) : (backTo pos (starEach [b] env)).any (·.1) = false := by
  rw [star_plain h]
  rfl
theorem de_b2 {p : D → D → Option D} {m : Md} (B : Blt X x (.builtin id)) (hc : CallR X (.builtin id) r) (ha : PE X a (tE X.K g .R fa)) (hb : PE X b (tE X.K g .R fb)) (pa : plainE a = true) (pb : plainE b = true)
    (ok : ∀ F H x y d1 d2 z Q, Same F H → Post X.K .R F H H x d1 → Post X.K .R F H H y d2 → p d1 d2 = some z → (∀ v H' F', Ext F H F' H' → Post X.K m F' H H' v z → Q v H') → r [x, y] H Q) :
    PE X (.Call (.Name x p0) [a, b] [] pos) (tE X.K g m fun env => (fa env).bind fun d1 => (fb env).bind fun d2 => ofO (p d1 d2)) :=
  pe2 (r := fun x y H Q => r [x, y] H Q) (pe_callB hc B.gl B.mg B.bo (pa_cons ha (pa_cons hb pa_nil (star_plain pb _ _)) (star_plain pa _ _)) B.nn B.nd (star_plain pa _ _) (any_plain pb _ _)) ok

variable {G : Gd}
theorem de_len (B : Blt X x (.builtin "len")) (ha : PE X a (tE X.K g .R fa)) (pa : plainE a = true) : PE X (.Call (.Name x p0) [a] [] pos) (tE X.K g .O fun env => (fa env).bind fun d => ofO (prim1 G .len d)) :=
  de_b1 B call_len ha pa fun F H x d z Q fh hx h k => by
    cases d with
    | list xs =>
      obtain ⟨p, vs, rfl, h1, q1⟩ := R_list fh hx
      cases h
      exact ⟨_, xs.length, rfl, .inl ⟨vs, SqL.of h1, q1.length.symm⟩, ko_flat fh k (.int _) rfl⟩
    | tuple xs =>
      obtain ⟨p, vs, rfl, h0, h1, q1⟩ := R_tuple fh hx
      cases h
      exact ⟨_, xs.length, rfl, .inr ⟨vs, h1, q1.length.symm⟩, ko_flat fh k (.int _) rfl⟩
    | dict xs =>
      have hk : keysI xs = true ∧ z = .int xs.length := by
        simp only [prim1] at h
        split at h
        · rename_i q; cases h; exact ⟨q, rfl⟩
        · cases h
      obtain ⟨hk, rfl⟩ := hk
      obtain ⟨p, ns, rfl, rfl, h1⟩ := R_scr hk fh hx
      exact ⟨_, _, rfl, .inl ⟨_, h1, by rw [List.length_map, List.length_map]⟩, ko_flat fh k (.int _) rfl⟩
    | str y =>
      have e := R_str hx
      subst e
      simp only [prim1] at h
      split at h
      · rename_i q
        cases h
        exact ⟨_, y.length, rfl, ⟨line_lim q, rfl⟩, ko_flat fh k (.int _) rfl⟩
      · cases h
    | _ => cases h
theorem lk_0 {cv sv kv : V} : List.lookup (fldN 0) [("cube", cv), ("steps", sv), ("kept", kv)] = some cv := by
  have h : (("cube" : Str) == ("cube" : Str)) = true := by decide +kernel
  simp only [fldN, List.lookup, h]
theorem lk_1 {cv sv kv : V} : List.lookup (fldN 1) [("cube", cv), ("steps", sv), ("kept", kv)] = some sv := by
  have h : (("steps" : Str) == ("cube" : Str)) = false := by decide +kernel
  have h2 : (("steps" : Str) == ("steps" : Str)) = true := by decide +kernel
  simp only [fldN, List.lookup, h, h2]
theorem lk_2 {cv sv kv : V} : List.lookup (fldN 2) [("cube", cv), ("steps", sv), ("kept", kv)] = some kv := by
  have h : (("kept" : Str) == ("cube" : Str)) = false := by decide +kernel
  have h2 : (("kept" : Str) == ("steps" : Str)) = false := by decide +kernel
  have h3 : (("kept" : Str) == ("kept" : Str)) = true := by decide +kernel
  simp only [fldN, List.lookup, h, h2, h3]
/-- x.f -/
theorem de_fld {j : Nat} {f : Str} (hf : fldN j = f) (hw : ∀ A, WkC X.K A → Cls X.K A ∧ ∀ i, NoAttr X.K A (fldN i)) (ha : PE X a (tE X.K g .R fa)) (hb : attributeBase a f X.env (eval a X.env) = eval a X.env) : PE X (.Attribute a f pos) (tE X.K g .V fun env => (fa env).bind fun d => ofO (prim1 G (.fld j) d)) :=
  pe1 (r := fun x H Q => ∃ a C dx fs v, x = .ref a ∧ H a = some (.ins C dx fs) ∧ Cls X.K C ∧ NoAttr X.K C f ∧ fs.lookup f = some v ∧ Q v H) (pe_fld ha hb) fun F H x d z Q fh hx h k => by
    subst hf
    cases d with
    | dict ds =>
      match ds, h with
      | [(.str y, .tuple l)], h =>
        obtain ⟨a, A, dx, p, cv, kv, vs, c, k', ds, rfl, rfl, w, h1, h2, q1, q2, q3⟩ := R_obj hx
        obtain ⟨cl, na⟩ := hw A w
        have h : [c, PyData.list ds, k'][j]? = some z := h
        match j, h with
        | 0, h => cases h; exact ⟨a, A, dx, _, cv, rfl, fh _ _ h1, cl, na 0, lk_0, k _ _ _ (.refl fh) q1⟩
        | 1, h => cases h; exact ⟨a, A, dx, _, .ref p, rfl, fh _ _ h1, cl, na 1, lk_1, k _ _ _ (.refl fh) (.lst h2 q2)⟩
        | 2, h => cases h; exact ⟨a, A, dx, _, kv, rfl, fh _ _ h1, cl, na 2, lk_2, k _ _ _ (.refl fh) q3⟩
        | n + 3, h => cases h
    | _ => cases h
theorem map_some {α β : Type} {o : Option α} {f : α → β} {z : β} (h : o.map f = some z) : ∃ y, o = some y ∧ f y = z := by
  cases o with
  | none => cases h
  | some y => exact ⟨y, rfl, Option.some.inj h⟩
theorem de_sum (hc : X.calm = true) (B : Blt X x (.builtin "sum")) (ha : PE X a (tE X.K g .R fa)) (pa : plainE a = true) : PE X (.Call (.Name x p0) [a] [] pos) (tE X.K g .O fun env => (fa env).bind fun d => ofO (prim1 G .sum d)) :=
  de_b1 B (cr_sum hc) ha pa fun F H x d z Q fh hx h k => by
    cases d with
    | list xs =>
      obtain ⟨p, vs, rfl, h1, q1⟩ := R_list fh hx
      obtain ⟨ns, e1, e2⟩ := map_some h
      have e3 := q1.intsD e1
      subst e2 e3
      exact ⟨p, ns, rfl, SqL.of h1, ko_flat fh k (.int _) rfl⟩
    | _ => cases h
theorem de_sorted (B : Blt X x (.builtin "sorted")) (ha : PE X a (tE X.K g .R fa)) (pa : plainE a = true) : PE X (.Call (.Name x p0) [a] [] pos) (tE X.K g .O fun env => (fa env).bind fun d => ofO (prim1 G .sorted d)) :=
  de_b1 B cr_srtF ha pa fun F H x d z Q fh hx h k => by
    cases d with
    | tuple xs =>
      obtain ⟨p, vs, rfl, h0, h1, q1⟩ := R_tuple fh hx
      obtain ⟨ns, e1, e2⟩ := map_some h
      have e3 := q1.intsD e1
      subst e2 e3
      refine ⟨p, ns, rfl, .inr h1, fun ns' q hp hs nq => ?_⟩
      have e : ns' = sortI ns := sorted_unique (hp.trans (sortI_perm ns).symm) hs (sortI_sorted ns)
      subst e
      exact ko_list fh k (dqAll_ints _) q nq
    | list xs =>
      obtain ⟨p, vs, rfl, h1, q1⟩ := R_list fh hx
      obtain ⟨ns, e1, e2⟩ := map_some h
      have e3 := q1.intsD e1
      subst e2 e3
      refine ⟨p, ns, rfl, .inl (SqL.of h1), fun ns' q hp hs nq => ?_⟩
      have e : ns' = sortI ns := sorted_unique (hp.trans (sortI_perm ns).symm) hs (sortI_sorted ns)
      subst e
      exact ko_list fh k (dqAll_ints _) q nq
    | _ => cases h
theorem ko_flat2 {X : Cx} {F H : Hp} {Q : VK} {v : V} {d : D} {q : Addr} {o : HO} (fh : Same F H) (nq : H q = none) (k : ∀ v H' F', Ext F H F' H' → Post X.K .O F' H H' v d → Q v H') (z : Dq X.K F v d) (n : flatD d = true) : Q v (upd H q o) :=
  k v _ F (.new fh nq) (.inr ⟨fun ds e => by subst e; simp [flatD] at n, z⟩)
theorem ko_list2 {X : Cx} {F H : Hp} {Q : VK} {vs : List V} {ds : List D} {q p : Addr} {o : HO} (fh : Same F H) (nq : H q = none) (np : upd H q o p = none) (k : ∀ v H' F', Ext F H F' H' → Post X.K .O F' H H' v (.list ds) → Q v H') (z : DqAll X.K F vs ds) : Q (.ref p) (upd (upd H q o) p (.lst vs)) :=
  have s1 : Same H (upd H q o) := same_upd nq
  have hp : H p = none := s1.free np
  k _ _ F (Ext.trans (.new fh nq) (.new (fh.trans s1) np)) (.inl ⟨p, vs, ds, rfl, rfl, upd_same, fh.free hp, hp, z⟩)
theorem de_lenset {x2 : Str} {p2 pos2 : Pos} (hc : X.calm = true) (B : Blt X x (.builtin "len")) (B2 : Blt X x2 (.type "set")) (ha : PE X a (tE X.K g .R fa)) (pa : plainE a = true) : PE X (.Call (.Name x p0) [.Call (.Name x2 p2) [a] [] pos2] [] pos) (tE X.K g .O fun env => (fa env).bind fun d => ofO (prim1 G .lenset d)) :=
  pe1 (r := fun x H Q => (rSetI X.K X.w [x] H fun y H1 => rLenS X.w [y] H1 Q ∨ rLenB X.w [y] H1 Q) ∨ (rSetB X.K X.w [x] H fun y H1 => rLenS X.w [y] H1 Q ∨ rLenB X.w [y] H1 Q)) (pe_callB (cr_lenS.or cr_lenB) B.gl B.mg B.bo (pa_cons (pe_callTy ((cr_setI hc).or (cr_setB hc)) B2.gl B2.mg B2.bo (pa_cons ha pa_nil (star_plain pa _ _)) B2.nn B2.nd (star_plain pa _ _)) pa_nil rfl) B.nn B.nd rfl) fun F H x d z Q fh hx h k => by
    cases d with
    | list xs =>
      obtain ⟨p, vs, rfl, h1, q1⟩ := R_list fh hx
      simp only [prim1] at h
      split at h
      · rename_i ns e1
        split at h
        · rename_i l1
          cases h
          have e3 := q1.intsD e1
          subst e3
          exact .inl ⟨p, ns, rfl, SqL.of h1, l1, fun q nq => .inl ⟨q, _, _, rfl, upd_same, ko_flat2 fh nq k (.int _) rfl⟩⟩
        · cases h
      · split at h
        · rename_i bs e1
          split at h
          · rename_i l1
            cases h
            have e3 := q1.boolsD e1
            subst e3
            exact .inr ⟨p, bs, rfl, SqL.of h1, l1, fun q nq => .inr ⟨q, _, _, rfl, upd_same, ko_flat2 fh nq k (.int _) rfl⟩⟩
          · cases h
        · cases h
    | _ => cases h
theorem de_sortset {x2 : Str} {p2 pos2 : Pos} (hc : X.calm = true) (B : Blt X x (.builtin "sorted")) (B2 : Blt X x2 (.type "set")) (ha : PE X a (tE X.K g .R fa)) (pa : plainE a = true) : PE X (.Call (.Name x p0) [.Call (.Name x2 p2) [a] [] pos2] [] pos) (tE X.K g .O fun env => (fa env).bind fun d => ofO (prim1 G .sortset d)) :=
  pe1 (r := fun x H Q => rSetI X.K X.w [x] H fun y H1 => rSortedSet X.w [y] H1 Q) (pe_callB (cr_sortedSet hc) B.gl B.mg B.bo (pa_cons (pe_callTy (cr_setI hc) B2.gl B2.mg B2.bo (pa_cons ha pa_nil (star_plain pa _ _)) B2.nn B2.nd (star_plain pa _ _)) pa_nil rfl) B.nn B.nd rfl) fun F H x d z Q fh hx h k => by
    cases d with
    | list xs =>
      obtain ⟨p, vs, rfl, h1, q1⟩ := R_list fh hx
      simp only [prim1] at h
      split at h
      · rename_i ns e1
        split at h
        · rename_i l1
          cases h
          have e3 := q1.intsD e1
          subst e3
          refine ⟨p, ns, rfl, SqL.of h1, l1.1, fun q nq => ⟨q, _, _, rfl, upd_same, l1.2, fun ms t hs hm hl nt => ?_⟩⟩
          have e : ms = sortI (dedI ns) := by
            refine sorted_unique ?_ (hs.imp fun h => Int.le_of_lt h) (sortI_sorted _)
            refine List.Perm.trans ?_ (sortI_perm _).symm
            rw [List.perm_ext_iff_of_nodup (hs.imp fun h => Int.ne_of_lt h) ded_nodup]
            intro j
            rw [hm j, decide_eq_true_eq, ded_mem]
          subst e
          exact ko_list2 fh nq nt k (dqAll_ints _)
        · cases h
      · cases h
    | _ => cases h
def rTupF (K : PySem.W.Frag) : List V → Hp → VK → Prop := fun xs H Q => ∃ p ys, xs = [.ref p] ∧ ((SqL K H p ys ∧ ∀ (l : Addr) (o : Obj), H l = none → o.dict = none → Q (.ref l) (upd H l (.frz o (.tup ys)))) ∨ (SqT K H p ys ∧ Q (.ref p) H))
theorem call_tupF : CallR X (.type "tuple") (rTupF X.K) := by
  intro pins s σ H xs us Q I r h
  obtain ⟨p, ys, rfl, h⟩ := h
  obtain ⟨u, rfl, rx⟩ := vals1 r
  cases rx
  rcases h with ⟨hq, q⟩ | ⟨hq, q⟩
  · obtain ⟨its, r2, pl, hz⟩ := I.list hq
    have hlen := r2.length
    refine call_tuple_list pl.isList (fun h' kp => ?_) (by simp only [List.size_toArray]; omega)
    exact laidT (s := { s with heap := h' }) (I.kept (t' := s.toks) kp) r2 hz q
  · obtain ⟨its, r2, pl, hz⟩ := I.tuple hq
    exact call_tuple_same pl ⟨.ref p, H, I, rfl, q⟩
theorem de_tuple (B : Blt X x (.type "tuple")) (ha : PE X a (tE X.K g .R fa)) (pa : plainE a = true) : PE X (.Call (.Name x p0) [a] [] pos) (tE X.K g .O fun env => (fa env).bind fun d => ofO (prim1 G .tuple d)) :=
  de_t1 B call_tupF ha pa fun F H x d z Q fh hx h k => by
    cases d with
    | list xs =>
      obtain ⟨p, vs, rfl, h1, q1⟩ := R_list fh hx
      cases h
      exact ⟨p, vs, rfl, .inl ⟨SqL.of h1, ko_tup fh k q1⟩⟩
    | tuple xs =>
      obtain ⟨p, vs, rfl, h0, h1, q1⟩ := R_tuple fh hx
      cases h
      exact ⟨p, vs, rfl, .inr ⟨h1, ko_same fh k (.tup h0 q1)⟩⟩
    | _ => cases h
theorem de_list (B : Blt X x (.type "list")) (ha : PE X a (tE X.K g .R fa)) (pa : plainE a = true) : PE X (.Call (.Name x p0) [a] [] pos) (tE X.K g .O fun env => (fa env).bind fun d => ofO (prim1 G .list d)) :=
  de_t1 B call_list_of ha pa fun F H x d z Q fh hx h k => by
    cases d with
    | list xs =>
      obtain ⟨p, vs, rfl, h1, q1⟩ := R_list fh hx
      cases h
      exact ⟨p, vs, rfl, .inl (SqL.of h1), ko_list fh k q1⟩
    | tuple xs =>
      obtain ⟨p, vs, rfl, h0, h1, q1⟩ := R_tuple fh hx
      cases h
      exact ⟨p, vs, rfl, .inr h1, ko_list fh k q1⟩
    | _ => cases h
theorem de_max (hc : X.calm = true) (B : Blt X x (.builtin "max")) (ha : PE X a (tE X.K g .R fa)) (pa : plainE a = true) : PE X (.Call (.Name x p0) [a] [] pos) (tE X.K g .O fun env => (fa env).bind fun d => ofO (prim1 G .max d)) :=
  de_b1 B (cr_max hc) ha pa fun F H x d z Q fh hx h k => by
    cases d with
    | list xs =>
      obtain ⟨p, vs, rfl, h1, q1⟩ := R_list fh hx
      simp only [prim1] at h
      cases q : intsD xs with
      | none => rw [q] at h; cases h
      | some ns =>
        rw [q] at h
        cases ns with
        | nil => cases h
        | cons n ns =>
          cases h
          have e3 := q1.intsD q
          subst e3
          obtain ⟨a1, a2, a3⟩ := maxI_ge ns n
          refine ⟨p, n :: ns, rfl, SqL.of h1, Nat.succ_pos _, fun m hm hy => ?_⟩
          have e : m = maxI n ns := by
            have l1 : maxI n ns ≤ m := by
              rcases a3 with a3 | a3
              · rw [a3]; exact hy n (List.mem_cons_self ..)
              · exact hy _ (List.mem_cons_of_mem _ a3)
            have l2 : m ≤ maxI n ns := by
              rcases List.mem_cons.mp hm with rfl | hm
              · exact a1
              · exact a2 m hm
            omega
          subst e
          exact ko_flat fh k (.int _) rfl
    | _ => cases h
theorem de_min (hc : X.calm = true) (B : Blt X x (.builtin "min")) (ha : PE X a (tE X.K g .R fa)) (pa : plainE a = true) : PE X (.Call (.Name x p0) [a] [] pos) (tE X.K g .O fun env => (fa env).bind fun d => ofO (prim1 G .min d)) :=
  de_b1 B (cr_min hc) ha pa fun F H x d z Q fh hx h k => by
    cases d with
    | list xs =>
      obtain ⟨p, vs, rfl, h1, q1⟩ := R_list fh hx
      simp only [prim1] at h
      cases q : intsD xs with
      | none => rw [q] at h; cases h
      | some ns =>
        rw [q] at h
        cases ns with
        | nil => cases h
        | cons n ns =>
          cases h
          have e3 := q1.intsD q
          subst e3
          obtain ⟨a1, a2, a3⟩ := minI_le ns n
          refine ⟨p, n :: ns, rfl, SqL.of h1, Nat.succ_pos _, fun m hm hy => ?_⟩
          have e : m = minI n ns := by
            have l1 : m ≤ minI n ns := by
              rcases a3 with a3 | a3
              · rw [a3]; exact hy n (List.mem_cons_self ..)
              · exact hy _ (List.mem_cons_of_mem _ a3)
            have l2 : minI n ns ≤ m := by
              rcases List.mem_cons.mp hm with rfl | hm
              · exact a1
              · exact a2 m hm
            omega
          subst e
          exact ko_flat fh k (.int _) rfl
    | _ => cases h
theorem de_int (B : Blt X x (.type "int")) (ha : PE X a (tE X.K g .R fa)) (pa : plainE a = true) : PE X (.Call (.Name x p0) [a] [] pos) (tE X.K g .O fun env => (fa env).bind fun d => ofO (prim1 G .int d)) :=
  de_t1 B (call_int1.or call_int_str) ha pa fun F H x d z Q fh hx h k => by
    cases d with
    | int i => cases h; exact .inl (.inl ⟨i, by rw [R_int hx], ko_flat fh k (.int _) rfl⟩)
    | bool i => cases h; exact .inl (.inr ⟨i, by rw [R_bool hx], ko_flat fh k (.int _) rfl⟩)
    | str a =>
      simp only [prim1] at h
      split at h
      · rename_i l
        obtain ⟨n, e1, e2⟩ := map_some h
        subst e2
        exact .inr ⟨a, n, by rw [R_str hx], e1, l, ko_flat fh k (.int _) rfl⟩
      · cases h
    | _ => cases h
theorem de_bool (B : Blt X x (.type "bool")) (ha : PE X a (tE X.K g .R fa)) (pa : plainE a = true) : PE X (.Call (.Name x p0) [a] [] pos) (tE X.K g .O fun env => (fa env).bind fun d => ofO (prim1 G .bool d)) :=
  de_t1 B call_bool1 ha pa fun F H x d z Q fh hx h k => by
    cases d with
    | int i => cases h; exact .inl ⟨i, by rw [R_int hx], ko_flat fh k (.bl _) rfl⟩
    | bool i => cases h; exact .inr ⟨i, by rw [R_bool hx], ko_flat fh k (.bl _) rfl⟩
    | _ => cases h
theorem de_str (B : Blt X x (.type "str")) (ha : PE X a (tE X.K g .R fa)) (pa : plainE a = true) : PE X (.Call (.Name x p0) [a] [] pos) (tE X.K g .O fun env => (fa env).bind fun d => ofO (prim1 G .str d)) :=
  de_t1 B (call_str_int.or SkE.call_str_str) ha pa fun F H x d z Q fh hx h k => by
    cases d with
    | str a => cases h; exact .inr ⟨a, by rw [R_str hx], ko_flat fh k (.str _) rfl⟩
    | int i =>
      simp only [prim1] at h
      split at h
      · rename_i q
        cases h
        refine .inl ⟨i, by rw [R_int hx], ?_, ko_flat fh k (.str _) rfl⟩
        by_cases h0 : i.natAbs = 0
        · rw [h0]; decide
        · refine (Nat.log2_lt h0).mpr (Nat.lt_of_lt_of_le q ?_)
          exact Nat.le_trans (show 1000000 ≤ 2 ^ 20 by decide) (Nat.pow_le_pow_right (by decide) (show 20 ≤ 1920 by decide))
      · cases h
    | _ => cases h
theorem de_max2 (hc : X.calm = true) (B : Blt X x (.builtin "max")) (ha : PE X a (tE X.K g .R fa)) (hb : PE X b (tE X.K g .R fb)) (pa : plainE a = true) (pb : plainE b = true) :
    PE X (.Call (.Name x p0) [a, b] [] pos) (tE X.K g .O fun env => (fa env).bind fun d1 => (fb env).bind fun d2 => ofO (prim2 .max2 d1 d2)) :=
  de_b2 B (call_max2 hc) ha hb pa pb fun F H x y d1 d2 z Q fh hx hy h k => by
    obtain ⟨i, j, rfl, rfl, rfl⟩ := inv_max2 h
    exact ⟨i, j, by rw [R_int hx, R_int hy], ko_flat fh k (.int _) rfl⟩
theorem de_min2 (hc : X.calm = true) (B : Blt X x (.builtin "min")) (ha : PE X a (tE X.K g .R fa)) (hb : PE X b (tE X.K g .R fb)) (pa : plainE a = true) (pb : plainE b = true) :
    PE X (.Call (.Name x p0) [a, b] [] pos) (tE X.K g .O fun env => (fa env).bind fun d1 => (fb env).bind fun d2 => ofO (prim2 .min2 d1 d2)) :=
  de_b2 B (call_min2 hc) ha hb pa pb fun F H x y d1 d2 z Q fh hx hy h k => by
    obtain ⟨i, j, rfl, rfl, rfl⟩ := inv_min2 h
    exact ⟨i, j, by rw [R_int hx, R_int hy], ko_flat fh k (.int _) rfl⟩

theorem pe_maxd {p1 p2 p3 : Pos} {kk : Nat} (hc : X.calm = true) (B : Blt X x (.builtin "max")) (ha : PE X a (tE X.K g .R fa)) (pa : plainE a = true) :
    PE X (.Call (.Name x p0) [a] [⟨some "default", .UnaryOp .USub (.Constant (.int 1) kk p1) p2, p3⟩] pos) (tUn (fun y H1 Q => ∃ (b : Addr) (ns : List Int), y = V.ref b ∧ SqL X.K H1 b (ns.map V.int) ∧ (ns = [] → Q (.int (-1)) H1) ∧ ∀ m, m ∈ ns → (∀ b, b ∈ ns → b ≤ m) → Q (.int m) H1) (tE X.K g .R fa)) := by
  refine PE.wk (pe_callBK (ks := ["default"]) (r := rMaxd X.K) (cr_maxd hc) B.gl B.mg B.bo (pa_cons ha pa_nil (star_plain pa _ _)) (pk_cons (pe_un un_neg pe_int) pk_nil) B.nn B.nd (by rw [star_plain pa]; rfl) (by rw [star_plain pa]; rfl)) fun σ H Q h => ?_
  obtain ⟨F, env, rel, hd⟩ := h
  refine ⟨F, env, rel, ?_⟩
  cases q : fa env with
  | ok d =>
    rw [q] at hd
    intro v H1 F1 x1 p1
    obtain ⟨b, ns, rfl, h1, h2, h3⟩ := hd v H1 F1 x1 p1
    exact ⟨1, rfl, b, ns, -1, rfl, rfl, h1, h2, h3⟩
  | exc x => rw [q] at hd; exact hd
  | stuck => rw [q] at hd; exact hd
theorem de_maxd {p1 p2 p3 : Pos} {kk : Nat} (hc : X.calm = true) (B : Blt X x (.builtin "max")) (ha : PE X a (tE X.K g .R fa)) (pa : plainE a = true) :
    PE X (.Call (.Name x p0) [a] [⟨some "default", .UnaryOp .USub (.Constant (.int 1) kk p1) p2, p3⟩] pos) (tE X.K g .O fun env => (fa env).bind fun d => ofO (prim1 G .maxd d)) :=
  pe1 (r := fun y H Q => ∃ (b : Addr) (ns : List Int), y = V.ref b ∧ SqL X.K H b (ns.map V.int) ∧ (ns = [] → Q (.int (-1)) H) ∧ ∀ m, m ∈ ns → (∀ b, b ∈ ns → b ≤ m) → Q (.int m) H) (pe_maxd hc B ha pa) fun F H x d z Q fh hx h k => by
    cases d with
    | list xs =>
      obtain ⟨p, vs, rfl, h1, q1⟩ := R_list fh hx
      simp only [prim1] at h
      cases q : intsD xs with
      | none => rw [q] at h; cases h
      | some ns =>
        rw [q] at h
        have e3 := q1.intsD q
        subst e3
        refine ⟨p, ns, rfl, SqL.of h1, fun e => ?_, fun m hm hy => ?_⟩
        · subst e; cases h; exact ko_flat fh k (.int _) rfl
        · cases ns with
          | nil => cases hm
          | cons n ns =>
            cases h
            obtain ⟨a1, a2, a3⟩ := maxI_ge ns n
            have e : m = maxI n ns := by
              have l1 : maxI n ns ≤ m := by
                rcases a3 with a3 | a3
                · rw [a3]; exact hy n (List.mem_cons_self ..)
                · exact hy _ (List.mem_cons_of_mem _ a3)
              have l2 : m ≤ maxI n ns := by
                rcases List.mem_cons.mp hm with rfl | hm
                · exact a1
                · exact a2 m hm
              omega
            subst e
            exact ko_flat fh k (.int _) rfl
    | _ => cases h
/-! ### None, minus -/
theorem R_isN {K : PySem.W.Frag} {F H Hx : Hp} {v : V} {d : D} (p : Post K .R F Hx H v d) : decide (v = .non) = isNoneD d := by
  rcases p with p | ⟨a, vs, ds, rfl, rfl, h1, h2⟩
  · cases p <;> rfl
  · rfl
theorem de_isN {j : Nat} {p2 : Pos} (ha : PE X a (tE X.K g .R fa)) : PE X (.Compare a [.Is] [.Constant .none j p2] pos) (tE X.K g .O fun env => (fa env).bind fun d => ofO (prim1 G .isN d)) :=
  pe1 (r := fun x H Q => Q (.bl (decide (x = .non))) H) (pe_cmp (pc_isN ha)) fun F H x d z Q fh hx h k => by
    cases h
    have e := R_isN hx
    show Q (.bl (decide (x = .non))) H
    rw [e]
    exact ko_flat fh k (.bl _) rfl
theorem de_notN {j : Nat} {p2 : Pos} (ha : PE X a (tE X.K g .R fa)) : PE X (.Compare a [.IsNot] [.Constant .none j p2] pos) (tE X.K g .O fun env => (fa env).bind fun d => ofO (prim1 G .notN d)) :=
  pe1 (r := fun x H Q => Q (.bl (!decide (x = .non))) H) (pe_cmp (pc_notN ha)) fun F H x d z Q fh hx h k => by
    cases h
    have e := R_isN hx
    show Q (.bl (!decide (x = .non))) H
    rw [e]
    exact ko_flat fh k (.bl _) rfl
theorem de_neg (ha : PE X a (tE X.K g .R fa)) : PE X (.UnaryOp .USub a pos) (tE X.K g .O fun env => (fa env).bind fun d => ofO (prim1 G .neg d)) :=
  pe1 (pe_un un_neg ha) fun F H x d z Q fh hx h k => by
    cases d with
    | int i => cases h; exact ⟨i, R_int hx, ko_flat fh k (.int _) rfl⟩
    | _ => cases h

/-! ### isinstance -/
def tyN : Ty → String
  | .int => "int"
  | .bool => "bool"
  | .tuple => "tuple"
  | .list => "list"
  | .str => "str"
/-- the type of data in the heap -/
theorem tyX_of {K : PySem.W.Frag} {F H : Hp} {v : V} {d : D} (fh : Same F H) (p : Post K .R F H H v d) (nd : ∀ ds, d ≠ .dict ds) (ty : Ty) : ∃ t, TyX K H v t ∧ PySem.W.kitOne K t (.type (tyN ty)) = some (isiD ty d) := by
  cases d with
  | none => cases R_none p; exact ⟨_, .base .non, by cases ty <;> rfl⟩
  | bool c => cases R_bool p; exact ⟨_, .base (.bl c), by cases ty <;> rfl⟩
  | int c => cases R_int p; exact ⟨_, .base (.int c), by cases ty <;> rfl⟩
  | str c => cases R_str p; exact ⟨_, .base (.str c), by cases ty <;> rfl⟩
  | list ds =>
    obtain ⟨a, vs, rfl, h1, h2⟩ := R_list fh p
    exact ⟨_, .base (.lst h1), by cases ty <;> rfl⟩
  | tuple ds =>
    obtain ⟨a, vs, rfl, h0, h1, h2⟩ := R_tuple fh p
    rcases h0.mono fh with ⟨o, h, _⟩ | ⟨o, its, n, h, hc, _⟩
    · exact ⟨_, .fTuple h, by cases ty <;> rfl⟩
    · exact ⟨_, .kTuple h hc, by cases ty <;> rfl⟩
  | dict ds => exact absurd rfl (nd ds)
theorem de_isi {y : Str} {p1 : Pos} {t : Ty} (B : Blt X x (.builtin "isinstance")) (B2 : Blt X y (.type (tyN t))) (ha : PE X a (tE X.K g .R fa)) (pa : plainE a = true) :
    PE X (.Call (.Name x p0) [a, .Name y p1] [] pos) (tE X.K g .O fun env => (fa env).bind fun d => ofO (isi1 t d)) :=
  pe1 (r := fun x H Q => rIsi X.K [x, .ty (tyN t)] H Q) (pe_callB call_isi B.gl B.mg B.bo (pa_cons ha (pa_cons (pe_bltn (v := .ty (tyN t)) B2.gl B2.mg B2.bo rfl B2.nn B2.nd) pa_nil) (star_plain pa _ _)) B.nn B.nd (star_plain pa _ _)) fun F H x d z Q fh hx h k => by
    have nd : ∀ ds, d ≠ .dict ds := fun ds e => by subst e; cases h
    have e : z = .bool (isiD t d) := by
      cases d <;> first | exact (Option.some.inj h).symm | cases h
    subst e
    obtain ⟨tv, h1, h2⟩ := tyX_of fh hx nd t
    exact ⟨x, .ty (tyN t), tv, _, _, rfl, .ty _, h1, h2, ko_flat fh k (.bl _) rfl⟩
end
end DH
set_option Elab.async false
set_option linter.all false
set_option maxRecDepth 100000
/-! DH, part G: enumerate over a tuple; what is walked; displays; calls. -/
namespace DH
open PySem L2
open PySem.Spec PyProof.Rows

set_option maxHeartbeats 1000000 in
theorem meets_enumT (l : Addr) (items : Array Value) :
    Meets (Builtin.«enumerate.__new__» ⟨[.type "enumerate", .ref l], []⟩) (fun _ R s => s.heap.IsTuple l items ∧
      R (.ok (.ret (.ref (s.heap.push { cls := .type "tuple_iterator", data := .fields #[.ref l, .int 0 0] }).objs.size)))
        { s with heap := (s.heap.push { cls := .type "tuple_iterator", data := .fields #[.ref l, .int 0 0] }).push { cls := .type "enumerate", data := .fields #[.none, .bool false, .ref s.heap.objs.size, rawInt 0, .none, .none] } }) :=
  .of_wp fun prog w A R s h => by
    obtain ⟨hp, g, d, tk, os⟩ := s; obtain ⟨hl, h⟩ := h
    have hsub := sub_enumerate
    wp_walk using wpAny_pyIter_tuple hl
    refine wpAny_stack_any fun st => wpAny_pure ?_
    split
    · rename_i c _ _ _ _ _
      cases (c == Value.type "enumerate") <;> (wp_walk using wpAny_pyIter_tuple hl; exact ⟨_, rfl, h⟩)
    · wp_walk using wpAny_pyIter_tuple hl
      exact ⟨_, rfl, h⟩

theorem call_enumT {prog : Program} {w : World} {A : Around} {E : Value → Shared → Prop} {s : Shared} {l : Addr} {items : Array Value} {Q : Value → Shared → Prop} (hL : s.heap.IsTuple l items)
    (h : ∀ h', IsEnum h' (s.heap.objs.size + 1) s.heap.objs.size 0 .none → h'.IsTupleIter s.heap.objs.size l 0 →
      (∀ b o, s.heap.get? b = some o → h'.get? b = some o) → Q (.ref (s.heap.objs.size + 1)) { s with heap := h' }) :
    wpAny (model prog w) A (call (.type "enumerate") [.ref l]) Q E s := by
  refine callType_new F.called_enumerate (by decide) (F.typeCall_enumerate_1 _) (F.newCall_enumerate_1 _) (fun obj => F.args_object_init_2 obj _) F.entry_enumerate_new (meets_enumT l items) ⟨hL, ?_⟩
  generalize ho : ({ cls := .type "tuple_iterator", data := .fields #[.ref l, .int 0 0] } : Obj) = o
  have hfree : o.isFreed = false := by rw [← ho]; rfl
  have hz : (s.heap.push o).objs.size = s.heap.objs.size + 1 := Heap.size_push ..
  show _ ∧ _
  rw [hz]
  have he := Heap.get?_push_size (s.heap.push o) (o := { cls := .type "enumerate", data := .fields #[.none, .bool false, .ref s.heap.objs.size, rawInt 0, .none, .none] }) rfl
  rw [hz] at he
  refine ⟨⟨_, he, rfl⟩, h _ he ⟨o, Heap.get?_push_of_some _ (Heap.get?_push_size _ hfree), by rw [← ho], by rw [← ho]; rfl⟩ fun b u q => Heap.get?_push_of_some _ (Heap.get?_push_of_some _ q)⟩

/-- the tuple at a, each item in a new pair with its place -/
def IteT (K : PySem.W.Frag) (a : Addr) : It :=
  ⟨fun i H => ∃ (xs : List V) (x : V), SqT K H a xs ∧ xs[i]? = some x, fun i H v H' => ∃ T x, v = .ref T ∧ H T = none ∧ H' = upd H T (.tup [.int (i : Nat), x]) ∧ ∀ xs, SqT K H a xs → xs[i]? = some x, fun i H => ∃ xs : List V, SqT K H a xs ∧ xs.length = i⟩
theorem turn_enumT {P : Program} {w : World} {K : PySem.W.Frag} {elts : List Expr} {kk : Nat} {tpos : Pos} (a e it : Addr) (hea : e ≠ a) (hia : a ≠ it) (hne : e ≠ it) :
    Turn P w K (.Tuple elts kk tpos) (IteT K a) [e, it] e (fun i h => (∃ old, IsEnum h e it ((i : Nat) : Int) old) ∧ h.IsTupleIter it a i) where
  mem := by simp
  obj := fun i h st b hb => by
    obtain ⟨⟨old, he⟩, ⟨o, ho, hc, hd⟩⟩ := st
    rcases (by simpa using hb : b = e ∨ b = it) with z | z
    · rw [z]; exact ⟨_, he, fun v q => nomatch q⟩
    · rw [z]; exact ⟨o, ho, fun v q => by rw [hd] at q; cases q⟩
  keep := fun i h h' st k => let ⟨⟨old, he⟩, hi⟩ := st; ⟨⟨old, k e (by simp) _ he⟩, hi.at fun o q => k it (by simp) o q⟩
  item := by
    intro X hP hw hK hc i pins s σ H E I hf st hg
    subst hP hw hK
    obtain ⟨⟨old, he⟩, hit⟩ := st
    obtain ⟨xs, x, hq, hx⟩ := hg
    obtain ⟨its, rv, p, hz⟩ := I.tuple hq
    have hel : e < s.heap.objs.size := Heap.lt_size he
    have hil : it < s.heap.objs.size := by obtain ⟨_, q, _⟩ := hit; exact Heap.lt_size q
    have hlt : i < its.toArray.size := by
      have l1 := rv.length
      have l2 := (List.getElem?_eq_some_iff.mp hx).1
      rw [List.size_toArray]; omega
    have Dr := Draws.tuple (prog := X.prog) (w := X.w) (A := X.A.in1) (I.ok.hd hc) it a hia its.toArray
    refine wpAny_pyNext_enum_itemD Dr he ⟨hit, p⟩ hlt hne (by simp [hne, hea]) fun y h' tk hy ho hst hT hsz hk => ?_
    obtain ⟨u, hu, ru⟩ := rv.get hx
    have eu : y = u := by
      rw [← Array.getElem?_toList] at hy
      exact Option.some.inj (hy.symm.trans hu)
    subst eu
    refine ⟨_, rfl, wpAny_letOwnedTupleGo_enum (s := { s with heap := h', toks := tk + 1 }) ho fun h2 he2 sb => ?_⟩
    have hT2 := (sb.2 _ (Nat.ne_of_gt hel)).trans hT
    have new : ObjOk X.prog X.w (upd H s.heap.objs.size (.tup [.int (i : Nat), x])) h2 s.heap.objs.size (.tup [.int (i : Nat), x]) :=
      ⟨by show 2 ≤ sizeLine; decide, [.int i tk, y], .cons ⟨_, rfl⟩ (.cons ru .nil), ⟨_, hT2, rfl, _, rfl⟩⟩
    have I1 := I.turnedNew (t' := tk + 1) (ch := [e, it]) (fun b ob hb q => (sb.2 b (fun z => hb (by simp [z]))).trans (hk b ob (fun z => hb (by simp [z])) (fun z => hb (by simp [z])) q)) hf (Nat.le_refl _) new
    refine ⟨.ref s.heap.objs.size, _, I1, rfl, ⟨_, x, rfl, I.hok.fresh (Nat.le_refl _), rfl, fun ys hy => by rw [I.tuple_inj hy hq]; exact hx⟩, ⟨⟨y, ?_⟩, hst.1.at fun o q => (sb.2 it (Ne.symm hne)).trans q⟩, fun b hb => ?_⟩
    · have e1 : ((i + 1 : Nat) : Int) = (i : Int) + 1 := by omega
      rw [e1]; exact he2
    · have hb2 : b < s.heap.objs.size := by
        rcases (by simpa using hb : b = e ∨ b = it) with z | z
        · rw [z]; exact hel
        · rw [z]; exact hil
      rw [upd_ne (Nat.ne_of_lt hb2)]
      exact (hf b hb).1
  done := by
    intro X hP hw hK hc i pins s σ H E I hf st hg
    subst hP hw hK
    obtain ⟨⟨old, he⟩, hit⟩ := st
    obtain ⟨xs, hq, hx⟩ := hg
    obtain ⟨its, rv, p, hz⟩ := I.tuple hq
    obtain ⟨f0, f1, f2, f3, f4, f5⟩ := hf it (by simp)
    have hl := rv.length
    have Dr := Draws.tuple (prog := X.prog) (w := X.w) (A := X.A.in1) (I.ok.hd hc) it a hia its.toArray
    have ei : i = its.toArray.size := by rw [List.size_toArray]; omega
    subst ei
    exact wpAny_pyNext_enum_endD Dr he ⟨hit, p⟩ fun h' eb => ⟨rfl, I.turned (t' := s.toks) (fun b o hb q => eb b o hb q) f0 f1 f3 f4 f5⟩
  self := fun A i s Q E st h => let ⟨⟨_, he⟩, _⟩ := st; wpAny_pyIter_enum he h

def iEnumA (K : PySem.W.Frag) (te : TE) : TI := fun σ H R => te σ H fun x H1 => ∃ a xs, [x] = [V.ref a] ∧ ((SqL K H1 a xs ∧ R (Ite K a) H1) ∨ (SqT K H1 a xs ∧ R (IteT K a) H1))
theorem pi_enumA {X : Cx} {e : Expr} {te : TE} {p pos tpos : Pos} {elts : List Expr} {kk : Nat} (hg : Gl X "enumerate") (hm : X.mg "enumerate" = none) (he : PE X e te) (pe : plainE e = true) :
    PI X (.Tuple elts kk tpos) (.Call (.Name "enumerate" p) [e] [] pos) (iEnumA X.K te) := by
  have ha := pa_cons he pa_nil (star_plain pe [] X.env)
  have hs : starEach [e] X.env = [(false, eval e X.env)] := star_plain pe [] X.env
  refine ⟨fun pins s σ H R I h => ?_⟩
  refine Call_ (ld_blt I hg hm boot_enumerate (PyProof.Rows.callWith_type1 (thn (ha.run pos pins s σ H (fun vs H1 => ∃ a xs, vs = [.ref a] ∧ ((SqL X.K H1 a xs ∧ R (Ite X.K a) H1) ∨ (SqT X.K H1 a xs ∧ R (IteT X.K a) H1))) I ?_) fun us s1 ⟨vs, H1, I1, r1, q1⟩ => ?_) hs rfl))
  · exact h
  obtain ⟨a, xs, ex, q1⟩ := q1
  subst ex
  cases r1 with
  | cons r rr =>
    cases rr
    cases r
    have fresh2 : ∀ b ∈ [s1.heap.objs.size + 1, s1.heap.objs.size], FpOk X pins H1 b := fun b hb => by
      have hle : s1.heap.objs.size ≤ b := by
        rcases (by simpa using hb : b = s1.heap.objs.size + 1 ∨ b = s1.heap.objs.size) with z | z
        · rw [z]; exact Nat.le_add_right _ _
        · rw [z]; exact Nat.le_refl _
      exact I1.fpOk hle (I1.hok.fresh hle)
    rcases q1 with ⟨hq, q⟩ | ⟨hq, q⟩
    · obtain ⟨its, rv, p', hz⟩ := I1.list hq
      refine call_enumerate_list p'.isList fun h' he' hit hsz hk => wpAny_pyIter_enum he' ?_
      exact ⟨_, _, _, _, H1, rfl, I1.kept (t' := s1.toks) hk, turn_enum a (s1.heap.objs.size + 1) s1.heap.objs.size, ⟨⟨.none, he'⟩, hit, Nat.succ_ne_self _⟩, fresh2, q⟩
    · obtain ⟨its, rv, p', hz⟩ := I1.tuple hq
      have hal : a < s1.heap.objs.size := p'.lt
      refine call_enumT p' fun h' he' hit hk => wpAny_pyIter_enum he' ?_
      exact ⟨_, _, _, _, H1, rfl, I1.kept (t' := s1.toks) hk, turn_enumT a (s1.heap.objs.size + 1) s1.heap.objs.size (Nat.ne_of_gt (Nat.lt_succ_of_lt hal)) (Nat.ne_of_lt hal) (Nat.succ_ne_self _), ⟨⟨.none, he'⟩, hit⟩, fresh2, q⟩
end DH
set_option Elab.async false
set_option linter.all false
set_option maxRecDepth 100000
/-! DH, part H: what is walked. -/
namespace DH
open PySem L2
open PySem.Spec PyProof.Rows

def ItemR (K : PySem.W.Frag) (two : Bool) (F H : Hp) (x : V) (d : D) : Prop :=
  Dq K F x d ∨ (two = true ∧ ∃ a v1 v2 d1 d2, x = .ref a ∧ d = .tuple [d1, d2] ∧ SqT K H a [v1, v2] ∧ Dq K F v1 d1 ∧ Dq K F v2 d2)
/-- the iterator hands out xs, as long as S stands -/
def IterOk (K : PySem.W.Frag) (two : Bool) (J : It) (S F : Hp) (xs : List D) : Prop :=
  ∀ F' H', Same S H' → Same F F' → Same F' H' →
    (∀ i d, xs[i]? = some d → J.go i H' ∧ ∀ x H'', J.yld i H' x H'' → ∃ F'', Ext F' H' F'' H'' ∧ ItemR K two F'' H'' x d) ∧ J.stop xs.length H'
def DoneI (K : PySem.W.Frag) (g : Gh) (two fz : Bool) (r : Res (List D)) (F H : Hp) (σ : L2.St) (R : It → Hp → Prop) : Prop := match r with
  | .ok xs => ∀ J H' F', Ext F H F' H' → IterOk K two J (if fz then F' else H') F' xs → R J H'
  | .exc x => ∀ H' F', Ext F H F' H' → ∀ cls dd, XR K g.C x cls dd H' → g.W cls dd σ H'
  | .stuck => False
def tI (K : PySem.W.Frag) (g : Gh) (two fz : Bool) (f : Env → Res (List D)) : TI := fun σ H R => ∃ F env, Rel K g.M g.F0 g.H0 F env σ H ∧ DoneI K g two fz (f env) F H σ R
theorem PI.wk {X : Cx} {tg e : Expr} {t t' : TI} (h : PI X tg e t) (w : ∀ σ H R, t' σ H R → t σ H R) : PI X tg e t' := ⟨fun pins s σ H R I q => h.run pins s σ H R I (w σ H R q)⟩
theorem PI.or {X : Cx} {tg e : Expr} {t t' : TI} (h : PI X tg e t) (h' : PI X tg e t') : PI X tg e (fun σ H R => t σ H R ∨ t' σ H R) := ⟨fun pins s σ H R I q => q.elim (h.run pins s σ H R I) (h'.run pins s σ H R I)⟩

section
variable {K : PySem.W.Frag} {S F : Hp}
theorem it_list {two : Bool} {a : Addr} {vs : List V} {ds : List D} (h : S a = some (.lst vs)) (q : DqAll K F vs ds) : IterOk K two (Itl K a) S F ds := by
  intro F' H' s1 s2 s3
  have hl : SqL K H' a vs := SqL.of (s1 _ _ h)
  refine ⟨fun i d e => ?_, vs, hl, Nat.le_of_eq q.length⟩
  obtain ⟨v, e1, dv⟩ := q.get e
  refine ⟨⟨vs, v, hl, e1⟩, fun x H'' y => ?_⟩
  obtain ⟨rfl, y⟩ := y
  have e2 := y vs hl
  rw [e1] at e2
  cases e2
  exact ⟨F', .refl s3, .inl (dv.mono s2)⟩
theorem it_tup {two : Bool} {a : Addr} {vs : List V} {ds : List D} (h : SqT K S a vs) (q : DqAll K F vs ds) : IterOk K two (Itt K a) S F ds := by
  intro F' H' s1 s2 s3
  have hl : SqT K H' a vs := by
    rcases h with (h | ⟨o, h⟩) | h
    · exact .inl (.inl (s1 _ _ h))
    · exact .inl (.inr ⟨o, s1 _ _ h⟩)
    · exact .inr h
  refine ⟨fun i d e => ?_, vs, hl, Nat.le_of_eq q.length⟩
  obtain ⟨v, e1, dv⟩ := q.get e
  refine ⟨⟨vs, v, hl, e1⟩, fun x H'' y => ?_⟩
  obtain ⟨rfl, y⟩ := y
  have e2 := y vs hl
  rw [e1] at e2
  cases e2
  exact ⟨F', .refl s3, .inl (dv.mono s2)⟩
theorem it_rng {two : Bool} {lo : Int} {n : Nat} : IterOk K two (Itr lo n) S F (rngI lo n) := by
  intro F' H' s1 s2 s3
  have hl : (rngI lo n).length = n := by simp [rngI]
  refine ⟨fun i d e => ?_, Nat.le_of_eq hl.symm⟩
  have hi : i < n := by rw [← hl]; exact (List.getElem?_eq_some_iff.mp e).1
  refine ⟨hi, fun x H'' y => ?_⟩
  obtain ⟨rfl, rfl⟩ := y
  have e2 : d = .int (lo + (i : Int)) := by
    unfold rngI at e
    rw [List.getElem?_map, List.getElem?_range hi] at e
    exact (Option.some.inj e).symm
  subst e2
  exact ⟨F', .refl s3, .inl (.int _)⟩
theorem enumL_get : ∀ {ds : List D} {k i : Nat} {d : D}, (enumL ds k)[i]? = some d → ∃ x, ds[i]? = some x ∧ d = .tuple [.int ((k + i : Nat) : Int), x]
  | [], _, _, _, e => by simp [enumL] at e
  | x :: r, k, 0, d, e => by
    simp [enumL] at e
    exact ⟨x, rfl, e.symm⟩
  | x :: r, k, i + 1, d, e => by
    simp only [enumL, List.getElem?_cons_succ] at e
    obtain ⟨y, h1, h2⟩ := enumL_get e
    exact ⟨y, by simpa using h1, by rw [h2]; congr 4; omega⟩
theorem enumL_length : ∀ (ds : List D) (k : Nat), (enumL ds k).length = ds.length
  | [], _ => rfl
  | _ :: r, k => by simp [enumL, enumL_length r]
theorem zipL_get : ∀ {ds es : List D} {i : Nat} {d : D}, (zipL ds es)[i]? = some d → ∃ x y, ds[i]? = some x ∧ es[i]? = some y ∧ d = .tuple [x, y]
  | [], _, _, _, e => by simp [zipL] at e
  | _ :: _, [], _, _, e => by simp [zipL] at e
  | x :: r, y :: s, 0, d, e => by
    simp [zipL] at e
    exact ⟨x, y, rfl, rfl, e.symm⟩
  | x :: r, y :: s, i + 1, d, e => by
    simp only [zipL, List.getElem?_cons_succ] at e
    obtain ⟨a, b, h1, h2, h3⟩ := zipL_get e
    exact ⟨a, b, by simpa using h1, by simpa using h2, h3⟩
theorem zipL_length : ∀ (ds es : List D), (zipL ds es).length = min ds.length es.length
  | [], _ => by simp [zipL]
  | _ :: _, [] => by simp [zipL]
  | _ :: r, _ :: s => by simp [zipL, zipL_length r s]
theorem pair_new {F' H' : Hp} {T : Addr} {v1 v2 : V} {d1 d2 : D} (s3 : Same F' H') (n : H' T = none) (q1 : Dq K F' v1 d1) (q2 : Dq K F' v2 d2) :
    ∃ F'', Ext F' H' F'' (upd H' T (.tup [v1, v2])) ∧ ItemR K true F'' (upd H' T (.tup [v1, v2])) (.ref T) (.tuple [d1, d2]) :=
  ⟨F', .new s3 n, .inr ⟨rfl, T, v1, v2, d1, d2, rfl, rfl, .inl (.inl upd_same), q1, q2⟩⟩
theorem it_enumL {a : Addr} {vs : List V} {ds : List D} (h : S a = some (.lst vs)) (q : DqAll K F vs ds) : IterOk K true (Ite K a) S F (enumL ds 0) := by
  intro F' H' s1 s2 s3
  have hl : SqL K H' a vs := SqL.of (s1 _ _ h)
  refine ⟨fun i d e => ?_, vs, hl, by rw [enumL_length]; exact Nat.le_of_eq q.length⟩
  obtain ⟨d, e0, rfl⟩ := enumL_get e
  obtain ⟨v, e1, dv⟩ := q.get e0
  refine ⟨⟨vs, v, hl, e1⟩, fun x H'' y => ?_⟩
  obtain ⟨T, x', rfl, n, rfl, y⟩ := y
  have e2 := y vs hl
  rw [e1] at e2
  cases e2
  rw [Nat.zero_add]
  exact pair_new s3 n (.int _) (dv.mono s2)
theorem it_enumT {a : Addr} {vs : List V} {ds : List D} (h : SqD K S a vs) (q : DqAll K F vs ds) : IterOk K true (IteT K a) S F (enumL ds 0) := by
  intro F' H' s1 s2 s3
  have hl : SqT K H' a vs := (h.mono s1).sq
  refine ⟨fun i d e => ?_, vs, hl, by rw [enumL_length]; exact q.length⟩
  obtain ⟨d, e0, rfl⟩ := enumL_get e
  obtain ⟨v, e1, dv⟩ := q.get e0
  refine ⟨⟨vs, v, hl, e1⟩, fun x H'' y => ?_⟩
  obtain ⟨T, x', rfl, n, rfl, y⟩ := y
  have e2 := y vs hl
  rw [e1] at e2
  cases e2
  rw [Nat.zero_add]
  exact pair_new s3 n (.int _) (dv.mono s2)
theorem it_zipL {a b : Addr} {vs ws : List V} {ds es : List D} (h : S a = some (.lst vs)) (q : DqAll K F vs ds) (h2 : S b = some (.lst ws)) (q2 : DqAll K F ws es) : IterOk K true (Itz K a b) S F (zipL ds es) := by
  intro F' H' s1 s2 s3
  have hl : SqL K H' a vs := SqL.of (s1 _ _ h)
  have hl2 : SqL K H' b ws := SqL.of (s1 _ _ h2)
  refine ⟨fun i d e => ?_, vs, ws, hl, hl2, ?_⟩
  · obtain ⟨x, y, e1, e2, rfl⟩ := zipL_get e
    obtain ⟨v, e3, dv⟩ := q.get e1
    obtain ⟨w, e4, dw⟩ := q2.get e2
    refine ⟨⟨vs, ws, v, w, hl, hl2, e3, e4⟩, fun x H'' y => ?_⟩
    obtain ⟨T, x', y', rfl, n, rfl, z1, z2⟩ := y
    have e5 := z1 vs hl
    rw [e3] at e5
    cases e5
    have e6 := z2 ws hl2
    rw [e4] at e6
    cases e6
    exact pair_new s3 n (dv.mono s2) (dw.mono s2)
  · rw [zipL_length, q.length, q2.length]; omega
theorem it_zipT {a b : Addr} {vs ws : List V} {ds es : List D} (h : SqD K S a vs) (q : DqAll K F vs ds) (h2 : SqD K S b ws) (q2 : DqAll K F ws es) : IterOk K true (RZ.ItzT K a b) S F (zipL ds es) := by
  intro F' H' s1 s2 s3
  have hl : SqT K H' a vs := (h.mono s1).sq
  have hl2 : SqT K H' b ws := (h2.mono s1).sq
  refine ⟨fun i d e => ?_, vs, ws, hl, hl2, ?_⟩
  · obtain ⟨x, y, e1, e2, rfl⟩ := zipL_get e
    obtain ⟨v, e3, dv⟩ := q.get e1
    obtain ⟨w, e4, dw⟩ := q2.get e2
    refine ⟨⟨vs, ws, v, w, hl, hl2, e3, e4⟩, fun x H'' y => ?_⟩
    obtain ⟨T, x', y', rfl, n, rfl, z1, z2⟩ := y
    have e5 := z1 vs hl
    rw [e3] at e5
    cases e5
    have e6 := z2 ws hl2
    rw [e4] at e6
    cases e6
    exact pair_new s3 n (dv.mono s2) (dw.mono s2)
  · rw [zipL_length, q.length, q2.length]; omega
end

/-- the mode of what is walked -/
abbrev mI (fz : Bool) : Md := if fz then .V else .R
/-- read data at S: the frozen part, or the heap -/
theorem I_list {K : PySem.W.Frag} {fz : Bool} {F H : Hp} {v : V} {ds : List D} (fh : Same F H) (p : Post K (mI fz) F H H v (.list ds)) : ∃ a vs, v = .ref a ∧ (if fz then F else H) a = some (.lst vs) ∧ H a = some (.lst vs) ∧ DqAll K F vs ds := by
  cases fz with
  | true =>
    cases (show Dq K F v (.list ds) from p) with
    | lst h r => exact ⟨_, _, rfl, h, fh _ _ h, r⟩
  | false =>
    obtain ⟨a, vs, rfl, h1, h2⟩ := R_list fh (show Post K .R F H H v (.list ds) from p)
    exact ⟨a, vs, rfl, h1, h1, h2⟩
theorem I_tup {K : PySem.W.Frag} {fz : Bool} {F H : Hp} {v : V} {ds : List D} (fh : Same F H) (p : Post K (mI fz) F H H v (.tuple ds)) : ∃ a vs, v = .ref a ∧ SqD K (if fz then F else H) a vs ∧ SqT K H a vs ∧ DqAll K F vs ds := by
  cases fz with
  | true =>
    cases (show Dq K F v (.tuple ds) from p) with
    | tup h r => exact ⟨_, _, rfl, h, (h.mono fh).sq, r⟩
  | false =>
    obtain ⟨a, vs, rfl, h0, h1, h2⟩ := R_tuple fh (show Post K .R F H H v (.tuple ds) from p)
    exact ⟨a, vs, rfl, h0.mono fh, h1, h2⟩
theorem Post.at {K : PySem.W.Frag} {fz : Bool} {F H Hx : Hp} {v : V} {d : D} (p : Post K (mI fz) F Hx H v d) : Post K (mI fz) F H H v d := by
  cases fz <;> exact p
theorem Post.stepI {K : PySem.W.Frag} {fz : Bool} {F H Hx F' H' : Hp} {v : V} {d : D} (p : Post K (mI fz) F Hx H v d) (x : Ext F H F' H') : Post K (mI fz) F' H' H' v d := by
  cases fz with
  | true => exact (show Dq K F v d from p).mono x.ff
  | false =>
    have h : Post K .R F' H H' v d := Post.stepR (H0 := Hx) (show Post K .R F Hx H v d from p) x
    exact h

section
variable {g : Gh} {X : Cx} {tg e a b : Expr} {fa fb : Env → Res D} {pos p0 : Pos} {two fz : Bool}
theorem it_str {K : PySem.W.Frag} {S F : Hp} {two : Bool} {z : Str} : IterOk K two (Its z) S F (z.cps.toList.map fun (c : Nat) => PyData.str ⟨#[c]⟩) := by
  intro F' H' s1 s2 s3
  refine ⟨fun i d e => ?_, by show z.cps.size ≤ _; simp⟩
  rw [List.getElem?_map] at e
  obtain ⟨c, e1, rfl⟩ := map_some e
  have e2 : z.cps[i]? = some c := by rw [← Array.getElem?_toList]; exact e1
  refine ⟨(Array.getElem?_eq_some_iff.mp e2).1, fun x H'' y => ?_⟩
  obtain ⟨rfl, c', e3, rfl⟩ := y
  rw [e2] at e3
  cases e3
  exact ⟨F', .refl s3, .inl (.str _)⟩
theorem di_seq (ha : PE X a (tE X.K g (mI fz) fa)) : PI X tg a (tI X.K g two fz fun env => (fa env).bind fun x => ofO (seqS x)) := by
  refine PI.wk (PI.or (pi_list ha) (PI.or (pi_tup ha) (pi_str ha))) fun σ H R ⟨F, env, rel, hd⟩ => ?_
  cases q : fa env with
  | ok d =>
    simp only [q, bind_ok] at hd
    cases d with
    | list ds =>
      refine .inl ⟨F, env, rel, ?_⟩
      rw [q]
      intro v H1 F1 x1 p1
      obtain ⟨p, vs, rfl, h1, h2, q1⟩ := I_list x1.fh p1.at
      exact ⟨p, rfl, ⟨vs, SqL.of h2⟩, hd _ H1 F1 x1 (it_list h1 q1)⟩
    | tuple ds =>
      refine .inr (.inl ⟨F, env, rel, ?_⟩)
      rw [q]
      intro v H1 F1 x1 p1
      obtain ⟨p, vs, rfl, h1, h2, q1⟩ := I_tup x1.fh p1.at
      exact ⟨p, rfl, ⟨vs, h2⟩, hd _ H1 F1 x1 (it_tup h1.sq q1)⟩
    | str z =>
      refine .inr (.inr ⟨F, env, rel, ?_⟩)
      rw [q]
      intro v H1 F1 x1 p1
      have e : v = .str z := by
        cases fz with
        | true => cases (show Dq X.K F1 v (.str z) from p1); rfl
        | false => exact R_str (show Post X.K .R F1 H H1 v (.str z) from p1)
      exact ⟨z, e, hd _ H1 F1 x1 it_str⟩
    | _ => exact hd.elim
  | exc x => simp only [q, bind_exc] at hd; exact .inl ⟨F, env, rel, by rw [q]; exact hd⟩
  | stuck => simp only [q, bind_stuck] at hd; exact hd.elim
theorem di_rng (hg : Gl X "range") (hm : X.mg "range" = none) (ha : PE X a (tE X.K g .R fa)) (pa : plainE a = true) : PI X tg (.Call (.Name "range" p0) [a] [] pos) (tI X.K g two fz fun env => (fa env).bind fun x => match x with
    | .int n => if n ≤ 100000 ∧ -100000 ≤ n then .ok (rngI 0 n.toNat) else .stuck | _ => .stuck) := by
  refine PI.wk (pi_range1 hg hm (pa_cons ha pa_nil (star_plain pa _ _)) (star_plain pa _ _)) fun σ H R ⟨F, env, rel, hd⟩ => ⟨F, env, rel, ?_⟩
  cases q : fa env with
  | ok d =>
    simp only [q, bind_ok] at hd
    intro v H1 F1 x1 p1
    cases d with
    | int n =>
      simp only at hd
      split at hd
      · rename_i h
        exact ⟨n, by rw [R_int p1], by omega, by omega, hd _ H1 F1 x1 it_rng⟩
      · exact hd.elim
    | _ => exact hd.elim
  | exc x => simp only [q, bind_exc] at hd; exact hd
  | stuck => simp only [q, bind_stuck] at hd; exact hd.elim
theorem di_rng2 (hg : Gl X "range") (hm : X.mg "range" = none) (ha : PE X a (tE X.K g .R fa)) (hb : PE X b (tE X.K g .R fb)) (pa : plainE a = true) (pb : plainE b = true) :
    PI X tg (.Call (.Name "range" p0) [a, b] [] pos) (tI X.K g two fz fun env => (fa env).bind fun x => (fb env).bind fun y => match x, y with
    | .int m, .int n => if m ≤ 100000 ∧ -100000 ≤ m ∧ n ≤ 100000 ∧ -100000 ≤ n then .ok (rngI m (n - m).toNat) else .stuck | _, _ => .stuck) := by
  refine PI.wk (pi_range2 hg hm (pa_cons ha (pa_cons hb pa_nil (star_plain pb _ _)) (star_plain pa _ _)) (by rw [star_plain pa, star_plain pb]; rfl) (star_plain pb _ _)) fun σ H R ⟨F, env, rel, hd⟩ => ⟨F, env, rel, ?_⟩
  cases q : fa env with
  | ok d =>
    simp only [q, bind_ok] at hd
    intro v H1 F1 x1 p1
    refine ⟨F1, env, rel.step x1, ?_⟩
    cases q2 : fb env with
    | ok d2 =>
      simp only [q2, bind_ok] at hd
      intro v2 H2 F2 x2 p2
      cases d with
      | int m =>
        cases d2 with
        | int n =>
          simp only at hd
          split at hd
          · rename_i h
            exact ⟨m, n, by rw [R_int p1, R_int p2], ⟨by omega, by omega, by omega, by omega⟩, hd _ H2 F2 (x1.trans x2) it_rng⟩
          · exact hd.elim
        | _ => exact hd.elim
      | _ => exact hd.elim
    | exc x => simp only [q2, bind_exc] at hd; exact fun H' F' x2 => hd H' F' (x1.trans x2)
    | stuck => simp only [q2, bind_stuck] at hd; exact hd.elim
  | exc x => simp only [q, bind_exc] at hd; exact hd
  | stuck => simp only [q, bind_stuck] at hd; exact hd.elim
theorem di_enum {elts : List Expr} {kk : Nat} {tpos : Pos} (hg : Gl X "enumerate") (hm : X.mg "enumerate" = none) (ha : PE X a (tE X.K g (mI fz) fa)) (pa : plainE a = true) :
    PI X (.Tuple elts kk tpos) (.Call (.Name "enumerate" p0) [a] [] pos) (tI X.K g true fz fun env => (fa env).bind fun x => (ofO (seqL x)).bind fun xs => .ok (enumL xs 0)) := by
  refine PI.wk (pi_enumA hg hm ha pa) fun σ H R ⟨F, env, rel, hd⟩ => ⟨F, env, rel, ?_⟩
  cases q : fa env with
  | ok d =>
    simp only [q, bind_ok] at hd
    intro v H1 F1 x1 p1
    cases d with
    | list ds =>
      obtain ⟨p, vs, rfl, h1, h2, q1⟩ := I_list x1.fh p1.at
      exact ⟨p, vs, rfl, .inl ⟨SqL.of h2, hd _ H1 F1 x1 (it_enumL h1 q1)⟩⟩
    | tuple ds =>
      obtain ⟨p, vs, rfl, h1, h2, q1⟩ := I_tup x1.fh p1.at
      exact ⟨p, vs, rfl, .inr ⟨h2, hd _ H1 F1 x1 (it_enumT h1 q1)⟩⟩
    | _ => exact hd.elim
  | exc x => simp only [q, bind_exc] at hd; exact hd
  | stuck => simp only [q, bind_stuck] at hd; exact hd.elim
theorem di_zip {elts : List Expr} {kk : Nat} {tpos : Pos} (hg : Gl X "zip") (hm : X.mg "zip" = none) (ha : PE X a (tE X.K g (mI fz) fa)) (hb : PE X b (tE X.K g (mI fz) fb)) (pa : plainE a = true) (pb : plainE b = true) :
    PI X (.Tuple elts kk tpos) (.Call (.Name "zip" p0) [a, b] [] pos) (tI X.K g true fz fun env => (fa env).bind fun x => (fb env).bind fun y => match x, y with
    | .list xs, .list ys => .ok (zipL xs ys) | .tuple xs, .tuple ys => .ok (zipL xs ys) | _, _ => .stuck) := by
  refine PI.wk (RZ.pi_zipA hg hm (pa_cons ha (pa_cons hb pa_nil (star_plain pb _ _)) (star_plain pa _ _)) (star_plain pa _ _) (any_plain pb _ _)) fun σ H R ⟨F, env, rel, hd⟩ => ⟨F, env, rel, ?_⟩
  cases q : fa env with
  | ok d =>
    simp only [q, bind_ok] at hd
    intro v H1 F1 x1 p1
    refine ⟨F1, env, rel.step x1, ?_⟩
    cases q2 : fb env with
    | ok d2 =>
      simp only [q2, bind_ok] at hd
      intro v2 H2 F2 x2 p2
      have x12 := x1.trans x2
      cases d with
      | list ds =>
        cases d2 with
        | list es =>
          obtain ⟨p, vs, rfl, h1, h2, q1⟩ := I_list x2.fh (p1.stepI x2)
          obtain ⟨p', ws, rfl, h1', h2', q1'⟩ := I_list x2.fh p2.at
          exact ⟨p, p', vs, ws, rfl, .inl ⟨SqL.of h2, SqL.of h2', hd _ H2 F2 x12 (it_zipL h1 q1 h1' q1')⟩⟩
        | _ => exact hd.elim
      | tuple ds =>
        cases d2 with
        | tuple es =>
          obtain ⟨p, vs, rfl, h1, h2, q1⟩ := I_tup x2.fh (p1.stepI x2)
          obtain ⟨p', ws, rfl, h1', h2', q1'⟩ := I_tup x2.fh p2.at
          exact ⟨p, p', vs, ws, rfl, .inr ⟨h2, h2', hd _ H2 F2 x12 (it_zipT h1 q1 h1' q1')⟩⟩
        | _ => exact hd.elim
      | _ => exact hd.elim
    | exc x => simp only [q2, bind_exc] at hd; exact fun H' F' x2 => hd H' F' (x1.trans x2)
    | stuck => simp only [q2, bind_stuck] at hd; exact hd.elim
  | exc x => simp only [q, bind_exc] at hd; exact hd
  | stuck => simp only [q, bind_stuck] at hd; exact hd.elim
end
end DH
set_option Elab.async false
set_option linter.all false
set_option maxRecDepth 100000
/-! DH, part I: displays, calls of defs, comprehensions. -/
namespace DH
open PySem L2
open PySem.Spec PyProof.Rows

section
variable {g : Gh} {X : Cx} {tg e a b : Expr} {es : List Expr} {fa fb : Env → Res D} {fs : Env → Res (List D)} {pos p0 : Pos}
theorem da_nil : PA X [] (tA X.K g fun _ => .ok []) := PA.wk pa_nil fun σ H Q ⟨F, env, rel, hd⟩ => hd [] H F (.refl rel.fh) .nil
theorem da_cons (ha : PE X a (tE X.K g .V fa)) (hr : PA X es (tA X.K g fs)) (pa : plainE a = true) : PA X (a :: es) (tA X.K g fun env => (fa env).bind fun x => (fs env).bind fun xs => .ok (x :: xs)) := by
  refine PA.wk (pa_cons ha hr (star_plain pa _ _)) fun σ H Q ⟨F, env, rel, hd⟩ => ⟨F, env, rel, ?_⟩
  cases q : fa env with
  | ok d =>
    simp only [q, bind_ok] at hd
    intro v H1 F1 x1 p1
    refine ⟨F1, env, rel.step x1, ?_⟩
    cases q2 : fs env with
    | ok ds =>
      simp only [q2, bind_ok] at hd
      exact fun vs H2 F2 x2 p2 => hd (v :: vs) H2 F2 (x1.trans x2) (.cons (Dq.mono x2.ff p1) p2)
    | exc x => simp only [q2, bind_exc] at hd; exact fun H' F' x2 => hd H' F' (x1.trans x2)
    | stuck => simp only [q2, bind_stuck] at hd; exact hd.elim
  | exc x => simp only [q, bind_exc] at hd; exact hd
  | stuck => simp only [q, bind_stuck] at hd; exact hd.elim
theorem de_lst (h : PA X es (tA X.K g fs)) (hl : ∀ env xs, fs env = .ok xs → xs.length ≤ LIM) : PE X (.List es pos) (tE X.K g .O fun env => (fs env).bind fun xs => .ok (.list xs)) := by
  refine PE.wk (pe_lst h) fun σ H Q ⟨F, env, rel, hd⟩ => ⟨F, env, rel, ?_⟩
  cases q : fs env with
  | ok ds =>
    simp only [q, bind_ok] at hd
    intro vs H1 F1 x1 p1
    exact ⟨by rw [p1.length]; exact line_lim (hl _ _ q), ko_list x1.fh (fun v H2 F2 x2 p2 => hd v H2 F2 (x1.trans x2) (p2.back x1)) p1⟩
  | exc x => simp only [q, bind_exc] at hd; exact hd
  | stuck => simp only [q, bind_stuck] at hd; exact hd.elim
theorem pe_tupF {t : TA} {k : Nat} (h : PA X es t) : PE X (.Tuple es k pos) (fun σ H Q => t σ H fun xs H1 => xs.length ≤ sizeLine ∧ ∀ (p : Addr) (o : Obj), H1 p = none → o.dict = none → Q (.ref p) (upd H1 p (.frz o (.tup xs)))) := by
  refine ⟨fun pins s σ H Q I hq => ?_⟩
  exact wpAny_Tuple_spliced (thn (h.run pos pins s σ H _ I hq) fun us s1 ⟨xs, H1, I1, r, z, q⟩ => ⟨by rw [← r.length]; exact z, laidT I1 r z q⟩)
theorem de_tup {k : Nat} (h : PA X es (tA X.K g fs)) (hl : ∀ env xs, fs env = .ok xs → xs.length ≤ LIM) : PE X (.Tuple es k pos) (tE X.K g .O fun env => (fs env).bind fun xs => .ok (.tuple xs)) := by
  refine PE.wk (pe_tupF h) fun σ H Q ⟨F, env, rel, hd⟩ => ⟨F, env, rel, ?_⟩
  cases q : fs env with
  | ok ds =>
    simp only [q, bind_ok] at hd
    intro vs H1 F1 x1 p1
    exact ⟨by rw [p1.length]; exact line_lim (hl _ _ q), ko_tup x1.fh (fun v H2 F2 x2 p2 => hd v H2 F2 (x1.trans x2) (p2.back x1)) p1⟩
  | exc x => simp only [q, bind_exc] at hd; exact hd
  | stuck => simp only [q, bind_stuck] at hd; exact hd.elim
end

/-! ### a def's promise: data in, data out -/
def spF (K : PySem.W.Frag) (C : Nat → Option Value) (n : Nat) (c : List D → Res D) : Sp := fun vs H Q E => ∃ F ds, Same F H ∧ ds.length = n ∧ DqAll K F vs ds ∧ match c ds with
  | .ok d => ∀ v H' F', Ext F H F' H' → Dq K F' v d → Q v H'
  | .exc x => ∀ H' F', Ext F H F' H' → ∀ cls dd, XR K C x cls dd H' → E cls dd H'
  | .stuck => False
/-- only what is raised counts -/
def onlyX : Res D → Res D
  | .exc x => .exc x
  | _ => .stuck
/-- what __init__ promises -/
def spI (K : PySem.W.Frag) (C : Nat → Option Value) (n : Nat) (c : List D → Res D) : Sp := fun vs H Q E => ∃ a A dx vs' F ds, vs = .ref a :: vs' ∧ WkC K A ∧ H a = some (.ins A dx []) ∧ F a = none ∧ Same F H ∧ ds.length = n ∧ DqAll K F vs' ds ∧ match c ds with
  | .ok _ => ∃ v1 v2, vs' = [v1, v2] ∧ ∀ H1 F1 p, Ext F H F1 H1 → H1 p = none → Q .non (upd (upd H1 p (.lst [v2])) a (.ins A dx [("cube", v1), ("steps", .ref p), ("kept", .int 0)]))
  | .exc x => ∀ H' F', Ext F H F' H' → ∀ cls dd, XR K C x cls dd H' → E cls dd H'
  | .stuck => False
/-- what the class gives -/
def mkC (c : List D → Res D) (ds : List D) : Res D := match c ds with
  | .ok _ => (match ds with
    | [d1, d2] => .ok (obD d1 [d2] (.int 0))
    | _ => .stuck)
  | .exc x => .exc x
  | .stuck => .stuck
/-- a def as callers see it; or a class -/
structure DefOk (P : Program) (w : World) (K : PySem.W.Frag) (mg : Str → Option Value) (base : Heap) (C : Nat → Option Value) (k : Nat) (x : Str) (n : Nat) (c : List D → Res D) : Prop where
  ex : (∃ f fd ps, ps.length = n ∧ mg x = some (.ref f) ∧ PySem.W.keepIn K (.ref f) = true ∧ (∀ us : List Value, us.length = ps.length → bindArgs fd ⟨us, []⟩ = pure (ps.zip us)) ∧ FnOk P w K mg base (L2.CX P w) (k + 2) f fd ps (spF K C n c)) ∨
    ((∃ ci, c = mkC ci ∧ ∃ A f fd ps j, k = j + 1 ∧ ps.length = n + 1 ∧ mg x = some (.ref A) ∧ WkC K A ∧ Mk K A f ∧ (∀ us : List Value, us.length = ps.length → bindArgs fd ⟨us, []⟩ = pure (ps.zip us)) ∧ FnOk P w K mg base (L2.CX P w) (j + 2) f fd ps (spI K C n ci)) ∨ (∃ A f, mg x = some (.ref A) ∧ Mk K A f ∧ ∀ ds, c ds = .stuck))
/-- a method as callers see it -/
def isOb : D → Bool
  | .dict [(.str _, .tuple [_, .list _, _])] => true
  | _ => false
structure MthOk (P : Program) (w : World) (K : PySem.W.Frag) (mg : Str → Option Value) (base : Heap) (C : Nat → Option Value) (k : Nat) (x : Str) (n : Nat) (c : List D → Res D) : Prop where
  ob : ∀ d ds, isOb d = false → c (d :: ds) = .stuck
  fn : ∀ A, WkC K A → ∃ f fd ps, ps.length = n ∧ Meth K A x f ∧ (∀ us : List Value, us.length = ps.length → bindArgs fd ⟨us, []⟩ = pure (ps.zip us)) ∧ FnOk P w K mg base (L2.CX P w) (k + 2) f fd ps (spF K C n c)
section
variable {X : Cx} {CX : CXT} {k : Nat} {f A : Addr} {fd : FuncData} {ps : List Str} {sp : Sp} {E : L2.St → XK} {x : Str} {p pos : Pos} {e : Expr} {es : List Expr} {t : TA}
theorem run_makeS {pins : List (Addr × Obj)} {σ : L2.St} {H : Hp} {s : Shared} {Q : VK} {us : List Value} {vs : List V} (M : Mk X.K A f) (F : FnOk X.prog X.w X.K X.mg X.base CX k f fd ps sp) (hr : Room (k + 1) X.A) (hb : Binds X.K fd ps [])
    (hx : PassesAt CX X σ (E σ)) (I : Inv X pins σ H s) (r : Vals vs us) (h : ∀ x dx, H x = none → H dx = none → dx ≠ x → sp (.ref x :: vs) (upd (upd H dx (.own x)) x (.ins A dx [])) (fun v H2 => v = .non ∧ Q (.ref x) H2) (E σ)) :
    wpAny (model X.prog X.w) X.A (call (.ref A) us) (EP X pins σ Q) X.xe s := by
  have hq := h (s.heap.objs.size + 1) s.heap.objs.size (I.hok.fresh (Nat.le_succ _)) (I.hok.fresh (Nat.le_refl _)) (Nat.ne_of_lt (Nat.lt_succ_self _))
  have J := Inv.made (C := A) I
  have rr : Vals (V.ref (s.heap.objs.size + 1) :: vs) (Value.ref (s.heap.objs.size + 1) :: us) := .cons rfl r
  have ln : (Value.ref (s.heap.objs.size + 1) :: us ++ ([] : List Value)).length = ps.length := by
    rw [List.append_nil, ← rr.length]
    exact F.len _ _ _ _ hq
  have bd := hb _ (Value.ref (s.heap.objs.size + 1) :: us) J.kIn ln
  rw [List.append_nil] at bd
  refine wpAny_call (make_map (f := f) I.kIn M.makes M.init (beq_iff_eq.mp M.fn) (codeAny_mono (F.run _ X.stack _ _ ⟨Value.ref (s.heap.objs.size + 1) :: us, []⟩ _ _ _ (E σ) (hr.make A us []) (J.env0.make A us []) bd rr hq) fun res s' hq' => ?_))
  cases res with
  | error e => exact hx pins _ _ e s' J hq'
  | ok fl =>
    cases fl with
    | ret u =>
      obtain ⟨v, H', I3, rv, ev, q3⟩ := J.after hq'
      subst ev
      exact ⟨rv, V.ref (s.heap.objs.size + 1), H', I3, rfl, q3⟩
    | _ => exact hq'.elim
theorem pe_makeS (M : Mk X.K A f) (F : FnOk X.prog X.w X.K X.mg X.base CX k f fd ps sp) (hr : Room (k + 1) X.A) (hg : Gl X x) (hm : X.mg x = some (.ref A)) (hb : Binds X.K fd ps []) (hx : ∀ σ, PassesAt CX X σ (E σ))
    (ha : PA X (e :: es) t) (hdb : (x == ("__debug__" : Str)) = false) (he : starEach (e :: es) X.env = (false, eval e X.env) :: starEach es X.env) (hpl : (backTo pos (starEach es X.env)).any (·.1) = false) :
    PE X (.Call (.Name x p) (e :: es) [] pos) (fun σ H Q => t σ H fun vs H1 => ∀ x dx, H1 x = none → H1 dx = none → dx ≠ x → sp (.ref x :: vs) (upd (upd H1 dx (.own x)) x (.ins A dx [])) (fun v H2 => v = .non ∧ Q (.ref x) H2) (E σ)) := by
  refine ⟨fun pins s σ H Q I h => wpAny_Call_Name_kw (ld_glob I hg hm ?_ hdb)⟩
  exact PySem.W.callWith_K (h₀ := X.base) I.ok.mod.kin M.kp (thn (ha.run pos pins s σ H _ I h) fun us s1 ⟨vs, H1, I1, r, q⟩ => ⟨I1.kIn, run_makeS M F hr hb (hx σ) I1 r q⟩) he hpl
end
section
variable {g : Gh} {X : Cx} {e a b : Expr} {es : List Expr} {fs : Env → Res (List D)} {pos p0 : Pos} {x : Str} {n k : Nat} {c : List D → Res D}
theorem all_plain : ∀ {es : List Expr}, es.all plainE = true → ∀ (pos : Pos) (env : PySem.Env), (backTo pos (starEach es env)).any (·.1) = false
  | [], _, _, _ => rfl
  | e :: es, h, pos, env => by
    simp only [List.all_cons, Bool.and_eq_true] at h
    rw [star_plain h.1]
    show (false || (backTo pos (starEach es env)).any (·.1)) = false
    rw [all_plain h.2]
    rfl
theorem de_call (F : DefOk X.prog X.w X.K X.mg X.base g.C k x n c) (hr : Room (k + 2) X.A) (hg : Gl X x) (hdb : (x == ("__debug__" : Str)) = false) (tk : Takes X g.W) (ha : PA X (a :: es) (tA X.K g fs)) (pa : (a :: es).all plainE = true)
    (hn : ∀ env ds, fs env = .ok ds → ds.length = n) : PE X (.Call (.Name x p0) (a :: es) [] pos) (tE X.K g .V fun env => (fs env).bind c) := by
  simp only [List.all_cons, Bool.and_eq_true] at pa
  rcases F.ex with ⟨f, fd, ps, hl, hm, hk, hb, F⟩ | ⟨ci, rfl, A, f, fd, ps, j, rfl, hl, hm, wk, M, hb, F⟩ | ⟨A, f, hm, M, hst⟩
  rotate_left 2
  · have rule : PE X (.Call (.Name x p0) (a :: es) [] pos) (fun σ H Q => tA X.K g fs σ H fun _ _ => False) := by
      refine ⟨fun pins s σ H Q I h => wpAny_Call_Name_kw (ld_glob I hg hm ?_ hdb)⟩
      exact PySem.W.callWith_K (h₀ := X.base) I.ok.mod.kin M.kp (thn (ha.run pos pins s σ H _ I h) fun us s1 ⟨vs, H1, I1, r, q⟩ => q.elim) (star_plain pa.1 _ _) (all_plain pa.2 _ _)
    refine PE.wk rule fun σ H Q ⟨F0, env, rel, hd⟩ => ⟨F0, env, rel, ?_⟩
    cases q : fs env with
    | ok ds => simp only [q, bind_ok, hst] at hd; exact hd.elim
    | exc y => simp only [q, bind_exc] at hd; exact hd
    | stuck => simp only [q, bind_stuck] at hd; exact hd.elim
  · refine PE.wk (pe_callS (E := WE g.W) F hr hg hm hk (.all hb) (fun σ => passAt tk σ) ha hdb (star_plain pa.1 _ _) (all_plain pa.2 _ _)) fun σ H Q ⟨F0, env, rel, hd⟩ => ⟨F0, env, rel, ?_⟩
    cases q : fs env with
    | ok ds =>
      simp only [q, bind_ok] at hd
      intro vs H1 F1 x1 p1
      refine ⟨F1, ds, x1.fh, hn env ds q, p1, ?_⟩
      cases q2 : c ds with
      | ok d => rw [q2] at hd; exact fun v H2 F2 x2 p2 => hd v H2 F2 (x1.trans x2) p2
      | exc y => rw [q2] at hd; exact fun H2 F2 x2 => hd H2 F2 (x1.trans x2)
      | stuck => rw [q2] at hd; exact hd
    | exc y => simp only [q, bind_exc] at hd; exact hd
    | stuck => simp only [q, bind_stuck] at hd; exact hd.elim
  · refine PE.wk (pe_makeS (E := WE g.W) M F hr hg hm (.all hb) (fun σ => passAt tk σ) ha hdb (star_plain pa.1 _ _) (all_plain pa.2 _ _)) fun σ H Q ⟨F0, env, rel, hd⟩ => ⟨F0, env, rel, ?_⟩
    cases q : fs env with
    | ok ds =>
      simp only [q, bind_ok] at hd
      intro vs H1 F1 x1 p1 p dx np nd ne
      have x2 : Ext F1 H1 F1 (upd H1 dx (.own p)) := .new x1.fh nd
      have x3 : Ext F1 (upd H1 dx (.own p)) F1 (upd (upd H1 dx (.own p)) p (.ins A dx [])) := .new x2.fh (by rw [upd_ne (Ne.symm ne)]; exact np)
      have x4 := x2.trans x3
      refine ⟨p, A, dx, vs, F1, ds, rfl, wk, upd_same, x1.fh.free np, x4.fh, hn env ds q, p1, ?_⟩
      unfold mkC at hd
      cases q2 : ci ds with
      | stuck => simp only [q2] at hd; exact hd.elim
      | exc y => simp only [q2] at hd; exact fun H' F' x5 => hd H' F' ((x1.trans x4).trans x5)
      | ok e =>
        simp only [q2] at hd
        match ds, p1, hd with
        | [d1, d2], .cons (v := v1) r1 (.cons (v := v2) r2 .nil), hd =>
          refine ⟨v1, v2, rfl, fun H2 F2 b y2 nb => ⟨rfl, ?_⟩⟩
          have hp : H2 p = some (.ins A dx []) := y2.hh _ _ upd_same
          have bp : b ≠ p := fun z => by rw [z, hp] at nb; cases nb
          have old : ∀ a o, H1 a = some o → a ≠ p ∧ a ≠ b ∧ H2 a = some o := fun a o e => by
            have n1 := ne_of_none e np
            have n2 := ne_of_none e nd
            have h2 : H2 a = some o := y2.hh _ _ (by rw [upd_ne n1, upd_ne n2]; exact e)
            exact ⟨n1, ne_of_none h2 nb, h2⟩
          have fp : F1 p = none := x1.fh.free np
          refine hd _ _ (upd (upd F2 b (.lst [v2])) p (.ins A dx [("cube", v1), ("steps", .ref b), ("kept", .int 0)])) (x1.trans ⟨fun a o e => ?_, fun a o e => ?_, fun a o e => ?_, fun a o e => ?_⟩) ?_
          · obtain ⟨n1, n2, h2⟩ := old a o e
            rw [upd_ne n1, upd_ne n2]
            exact h2
          · have h2 := y2.ff _ _ e
            rw [upd_ne (ne_of_none e fp), upd_ne (ne_of_none (y2.fh _ _ h2) nb)]
            exact h2
          · by_cases n1 : a = p
            · rw [n1, upd_same] at e ⊢; exact e
            · rw [upd_ne n1] at e ⊢
              by_cases n2 : a = b
              · rw [n2, upd_same] at e ⊢; exact e
              · rw [upd_ne n2] at e ⊢; exact y2.fh _ _ e
          · by_cases n1 : a = p
            · exact .inr (by rw [n1]; exact np)
            · rw [upd_ne n1] at e
              by_cases n2 : a = b
              · refine .inr ?_
                cases qh : H1 a with
                | none => rfl
                | some o' => exact absurd n2 (old a o' qh).2.1
              · rw [upd_ne n2] at e
                rcases y2.nw a o e with z | z
                · exact .inl z
                · refine .inr ?_
                  cases qh : H1 a with
                  | none => rfl
                  | some o' =>
                    have n3 := ne_of_none qh nd
                    rw [upd_ne n1, upd_ne n3, qh] at z
                    cases z
          · refine .obj wk upd_same (by rw [upd_ne bp, upd_same]) (.mono ?_ r1) (.cons (.mono ?_ r2) .nil) (.int 0) <;>
            · intro a o e
              have h2 := y2.ff _ _ e
              rw [upd_ne (ne_of_none e fp), upd_ne (ne_of_none (y2.fh _ _ h2) nb)]
              exact h2
        | [], _, hd => exact hd.elim
        | [_], _, hd => exact hd.elim
        | _ :: _ :: _ :: _, _, hd => exact hd.elim
    | exc y => simp only [q, bind_exc] at hd; exact hd
    | stuck => simp only [q, bind_stuck] at hd; exact hd.elim
end

/-! ### methods -/
theorem mc_gen {prog : Program} {w : World} {A : Around} {E : Value → Shared → Prop} {s : Shared} {env : PySem.Env} {o : Expr} {name : Str} {apos pos : Pos} {args : List Expr} {Q : Value → Shared → Prop} (hbase : attributeBase o name env (eval o env) = eval o env)
    (hfew : ((backTo pos (starEach args env)).all (fun x => !x.1) && (backToKw pos (keywordEach [] env)).all (fun x => x.1.isSome) && decide (args.length + ([] : List Keyword).length + (if ([] : List Keyword).isEmpty then 0 else 1) < 30)) = true) (hline : (apos.endLine == pos.line) = true)
    (h : wpAny (model prog w) A (eval o env) (fun ov s₁ => ∀ pl, wpAny (model prog w) A (getMethod ov name pl) (fun fx s₂ => wpAny (model prog w) A (callWith pos fx.1 fx.2 (backTo pos (starEach args env)) (backToKw pos (keywordEach [] env))) Q E s₂) E s₁) E s) :
    wpAny (model prog w) A (eval (.Call (.Attribute o name apos) args [] pos) env) Q E s := by
  rw [arm_eval_Call, hbase]
  refine wpAny_bind (wpAny_mono h (fun ov s₁ h₁ => wpAny_bind (wpAny_standAt ?_)) fun _ _ e => e)
  have hform : methodCallForm (args.length + ([] : List Keyword).length) (backTo pos (starEach args env)) (backToKw pos (keywordEach [] env)) = true := hfew
  have hpos : methodCallPos true o env apos pos = pure pos := by unfold methodCallPos; simp [hline]
  unfold methodCall
  rw [hform]
  exact wpAny_bind (wpAny_holding (wpAny_mono (h₁ _) (fun fx s₂ h₂ => wpAny_bind (wpAny_of_eq hpos h₂)) fun _ _ e => e))
theorem few_all {es : List Expr} (h : es.all plainE = true) (hl : es.length < 25) (pos : Pos) (env : PySem.Env) : ((backTo pos (starEach es env)).all (fun x => !x.1) && (backToKw pos (keywordEach [] env)).all (fun x => x.1.isSome) && decide (es.length + ([] : List Keyword).length + (if ([] : List Keyword).isEmpty then 0 else 1) < 30)) = true := by
  have h1 := all_plain h pos env
  have h2 : (backTo pos (starEach es env)).all (fun x => !x.1) = true := by
    rw [List.all_eq_true]
    intro x hx
    have := List.any_eq_false.mp h1 x hx
    simpa using this
  rw [h2, decide_eq_true (by simp; omega)]
  rfl
def mnOk (m : Str) : Bool := !(m == ("cube" : Str)) && !(m == ("steps" : Str)) && !(m == ("kept" : Str))
theorem mn_look {m : Str} {cv sv kv : V} (h : mnOk m = true) : List.lookup m [(("cube" : Str), cv), (("steps" : Str), sv), (("kept" : Str), kv)] = none := by
  unfold mnOk at h
  simp only [Bool.and_eq_true, Bool.not_eq_true'] at h
  simp only [List.lookup, h.1.1, h.1.2, h.2]
section
variable {X : Cx} {CX : CXT} {k : Nat} {f A : Addr} {fd : FuncData} {ps : List Str} {sp : Sp} {E : L2.St → XK} {m : Str} {pos apos : Pos} {o e : Expr} {es : List Expr} {ta : TE} {t : TA}
theorem pe_methX (he : PE X o ta) (c : Cls X.K A) (hm : Meth X.K A m f) (F : FnOk X.prog X.w X.K X.mg X.base CX k f fd ps sp) (hr : Room k X.A) (hb : Binds X.K fd ps []) (hx : ∀ σ, PassesAt CX X σ (E σ)) (ha : PA X (e :: es) t)
    (hbase : attributeBase o m X.env (eval o X.env) = eval o X.env) (pa : (e :: es).all plainE = true) (hl : (e :: es).length < 25) (hline : (apos.endLine == pos.line) = true) :
    PE X (.Call (.Attribute o m apos) (e :: es) [] pos) (fun σ H Q => ta σ H fun x H1 => ∃ a dx fs, x = .ref a ∧ H1 a = some (.ins A dx fs) ∧ fs.lookup m = none ∧ t σ H1 fun vs H2 => sp (.ref a :: vs) H2 Q (E σ)) := by
  refine ⟨fun pins s σ H Q I h => mc_gen hbase (few_all pa hl _ _) hline (thn (he.run pins s σ H _ I h) fun u s1 ⟨x, H1, I1, rx, a, dx, fs, ex, ea, l, q⟩ => ?_)⟩
  subst ex
  obtain rfl : u = Value.ref a := rx
  intro pl
  refine getmeth_ok I1 ea c hm l ?_
  simp only [List.all_cons, Bool.and_eq_true] at pa
  refine PySem.W.callWith_K (first := [.ref a]) (h₀ := X.base) I.ok.mod.kin hm.kp (thn (ha.run pos pins s1 σ H1 _ I1 q) fun us s2 ⟨vs, H2, I2, r, q2⟩ => ⟨I2.kIn, ?_⟩) (star_plain pa.1 _ _) (all_plain pa.2 _ _)
  exact run_fnS (us := .ref a :: us) (vs := .ref a :: vs) F hr hb (hx σ) I2 (.cons rfl r) q2
theorem pe_methX0 (he : PE X o ta) (c : Cls X.K A) (hm : Meth X.K A m f) (F : FnOk X.prog X.w X.K X.mg X.base CX k f fd ps sp) (hr : Room k X.A) (hb : Binds X.K fd ps []) (hx : ∀ σ, PassesAt CX X σ (E σ))
    (hbase : attributeBase o m X.env (eval o X.env) = eval o X.env) (hline : (apos.endLine == pos.line) = true) :
    PE X (.Call (.Attribute o m apos) [] [] pos) (fun σ H Q => ta σ H fun x H1 => ∃ a dx fs, x = .ref a ∧ H1 a = some (.ins A dx fs) ∧ fs.lookup m = none ∧ sp [.ref a] H1 Q (E σ)) := by
  refine ⟨fun pins s σ H Q I h => mc_gen hbase rfl hline (thn (he.run pins s σ H _ I h) fun u s1 ⟨x, H1, I1, rx, a, dx, fs, ex, ea, l, q⟩ => ?_)⟩
  subst ex
  obtain rfl : u = Value.ref a := rx
  intro pl
  refine getmeth_ok I1 ea c hm l ?_
  exact PySem.W.callWith_K0 (first := [.ref a]) I1.kIn hm.kp (run_fnS (us := [.ref a]) (vs := [.ref a]) F hr hb (hx σ) I1 (.cons rfl .nil) q)
end
section
variable {g : Gh} {X : Cx} {o a : Expr} {es : List Expr} {fo : Env → Res D} {fs : Env → Res (List D)} {pos apos : Pos} {m : Str} {n k : Nat} {c : List D → Res D}
theorem isOb_inv {d : D} (h : isOb d = true) : ∃ x c ds k, d = .dict [(.str x, .tuple [c, .list ds, k])] := by
  unfold isOb at h
  split at h
  · exact ⟨_, _, _, _, rfl⟩
  · cases h
theorem de_meth {A : Addr} (wk : WkC X.K A) (M : MthOk X.prog X.w X.K X.mg X.base g.C k m n c) (hc : Cls X.K A) (hr : Room (k + 2) X.A) (tk : Takes X g.W) (ho : PE X o (tE X.K g .V fo)) (ha : PA X es (tA X.K g fs)) (hbase : attributeBase o m X.env (eval o X.env) = eval o X.env)
    (pa : es.all plainE = true) (hl : es.length < 25) (hline : (apos.endLine == pos.line) = true) (hmn : mnOk m = true) (hn : ∀ env ds, fs env = .ok ds → ds.length + 1 = n) (hnx : ∀ env y, fs env ≠ .exc y) (h0 : es = [] → ∀ env, fs env = .ok []) : PE X (.Call (.Attribute o m apos) es [] pos) (tE X.K g .V fun env => ((fo env).bind fun d => (fs env).bind fun ds => .ok (d :: ds)).bind c) := by
  obtain ⟨f, fd, ps, hpl, hm, hb, F⟩ := M.fn A wk
  have one : ∀ {F0 H H1 F1 : Hp} {env : Env} {v : V} {d : D} {Q : VK} {σ : L2.St}, Rel X.K g.M g.F0 g.H0 F0 env σ H → Ext F0 H F1 H1 → Dq X.K F1 v d → isOb d = true → ∃ a dx fs, v = .ref a ∧ H1 a = some (.ins A dx fs) ∧ fs.lookup m = none := fun {F0 H H1 F1 env v d Q σ} rel x1 q ob => by
    obtain ⟨x, cd, ds, kd, rfl⟩ := isOb_inv ob
    obtain ⟨a, A', dx, p, cv, kv, vs, c', k', ds', e1, e2, w', h1, h2, q1, q2, q3⟩ := R_obj (K := X.K) (F := F1) (H := H1) (Hx := H1) (v := v) (.inl q)
    unfold WkC at wk w'
    rw [wk] at w'
    cases w'
    exact ⟨a, dx, _, e1, x1.fh _ _ h1, mn_look hmn⟩
  cases es with
  | nil =>
    refine PE.wk (pe_methX0 (E := WE g.W) ho hc hm F hr (.all hb) (fun σ => passAt tk σ) hbase hline) fun σ H Q ⟨F0, env, rel, hd⟩ => ⟨F0, env, rel, ?_⟩
    have hz := h0 rfl env
    cases q : fo env with
    | exc y => simp only [q, bind_exc] at hd; exact hd
    | stuck => simp only [q, bind_stuck] at hd; exact hd.elim
    | ok d =>
      simp only [q, hz, bind_ok] at hd
      intro v H1 F1 x1 p1
      cases ob : isOb d with
      | false => rw [M.ob d [] ob] at hd; exact hd.elim
      | true =>
        obtain ⟨a, dx, fs', e1, e2, e3⟩ := one (Q := Q) rel x1 p1 ob
        refine ⟨a, dx, fs', e1, e2, e3, F1, [d], x1.fh, hn env [] hz, .cons (by rw [← e1]; exact p1) .nil, ?_⟩
        cases q2 : c [d] with
        | ok d => rw [q2] at hd; exact fun v H2 F2 x2 p2 => hd v H2 F2 (x1.trans x2) p2
        | exc y => rw [q2] at hd; exact fun H2 F2 x2 => hd H2 F2 (x1.trans x2)
        | stuck => rw [q2] at hd; exact hd
  | cons a es =>
    refine PE.wk (pe_methX (E := WE g.W) ho hc hm F hr (.all hb) (fun σ => passAt tk σ) ha hbase pa hl hline) fun σ H Q ⟨F0, env, rel, hd⟩ => ⟨F0, env, rel, ?_⟩
    cases q : fo env with
    | exc y => simp only [q, bind_exc] at hd; exact hd
    | stuck => simp only [q, bind_stuck] at hd; exact hd.elim
    | ok d =>
      simp only [q, bind_ok] at hd
      intro v H1 F1 x1 p1
      cases ob : isOb d with
      | false =>
        exfalso
        cases q3 : fs env with
        | ok ds => simp only [q3, bind_ok, M.ob d ds ob] at hd; exact hd
        | stuck => simp only [q3, bind_stuck] at hd; exact hd
        | exc y => exact hnx env y q3
      | true =>
        obtain ⟨a, dx, fs', e1, e2, e3⟩ := one (Q := Q) rel x1 p1 ob
        refine ⟨a, dx, fs', e1, e2, e3, F1, env, rel.step x1, ?_⟩
        cases q3 : fs env with
        | exc y => simp only [q3, bind_exc] at hd; exact fun H2 F2 x2 => hd H2 F2 (x1.trans x2)
        | stuck => simp only [q3, bind_stuck] at hd; exact hd.elim
        | ok ds =>
          simp only [q3, bind_ok] at hd
          intro vs H2 F2 x2 p2
          refine ⟨F2, d :: ds, x2.fh, hn env ds q3, .cons (by rw [← e1]; exact p1.mono x2.ff) p2, ?_⟩
          cases q2 : c (d :: ds) with
          | ok d => rw [q2] at hd; exact fun v H3 F3 x3 p3 => hd v H3 F3 ((x1.trans x2).trans x3) p3
          | exc y => rw [q2] at hd; exact fun H3 F3 x3 => hd H3 F3 ((x1.trans x2).trans x3)
          | stuck => rw [q2] at hd; exact hd
end

/-! ### the error with a line -/
/-- what its __init__ promises -/
def spPE (C : Addr) : Sp := fun vs H Q _ => ∃ a v, vs = [.ref a, v] ∧ H a = some (exo a C none) ∧ ∀ d, H d = none → d ≠ a → Q .non (upd (upd H d (exd d [("line", v)])) a (exo a C (some d)))
structure PErr (P : Program) (w : World) (K : PySem.W.Frag) (mg : Str → Option Value) (base : Heap) (v : Value) : Prop where
  ex : ∃ C fI fd, v = .ref C ∧ OexC K C ∧ PySem.W.findIn K (.ref C) "__init__" = some (some (.ref fI)) ∧ PySem.W.typeIn K (.ref fI) = some (.type "function") ∧ L2.Binds K fd ["self", "line"] [] ∧ FnOk P w K mg base (L2.CX P w) 1 fI fd ["self", "line"] (spPE C) ∧ XfC K C ∧ PySem.W.findIn K (.ref C) "line" = some none
/-! ### targets -/
def tgSlots : Tg → List Nat
  | .one i => [i]
  | .two i j => [i, j]
theorem Rel.wipe {K : PySem.W.Frag} {M : Nat → Bool} {F0 H0 F H : Hp} {env : Env} {σ : L2.St} (r : Rel K M F0 H0 F env σ H) : ∀ vs : List Nat, Rel K M F0 H0 F (wipeD env vs) (L2.wipe σ vs) H
  | [] => r
  | v :: vs => (r.wipe vs).forget v none
theorem wipe_set {σ : L2.St} {i : Nat} {u : Option V} : ∀ {vs : List Nat}, i ∈ vs → ∀ ρ, (∀ j, j ∉ vs → ρ[j]? = σ[j]?) → ρ.length = σ.length → L2.wipe ρ vs = L2.wipe σ vs := by
  intro vs _ ρ h hl
  have g : ∀ (τ : L2.St) (vs : List Nat) (j : Nat), (L2.wipe τ vs)[j]? = if j ∈ vs then (if j < τ.length then some none else none) else τ[j]? := by
    intro τ vs
    induction vs with
    | nil => intro j; simp [L2.wipe]
    | cons v vs ih =>
      intro j
      unfold L2.wipe
      by_cases hj : v = j
      · subst hj
        rw [if_pos (List.mem_cons_self ..)]
        by_cases hv : v < τ.length
        · rw [if_pos hv, List.getElem?_set_self (by rw [wipe_length]; exact hv)]
        · rw [if_neg hv, List.getElem?_eq_none (by rw [List.length_set, wipe_length]; omega)]
      · rw [List.getElem?_set_ne hj, ih j]
        have e : (j ∈ v :: vs) ↔ j ∈ vs := by
          rw [List.mem_cons]
          exact ⟨fun q => q.elim (fun z => absurd z.symm hj) id, .inr⟩
        simp only [e]
  apply List.ext_getElem?
  intro j
  rw [g, g, hl]
  by_cases hj : j ∈ vs
  · rw [if_pos hj, if_pos hj]
  · rw [if_neg hj, if_neg hj, h j hj]

/-- a target's reading -/
def gT (K : PySem.W.Frag) : Tg → TG
  | .one i => gName i
  | .two i j => gTup K 2 (gCons (gName i) (gCons (gName j) gNil))
theorem gT_ok {K : PySem.W.Frag} {M : Nat → Bool} {F0 H0 F H : Hp} {env env' : Env} {σ : L2.St} {t : Tg} {two : Bool} {x : V} {d : D} {Q : L2.St → Hp → Prop} (rel : Rel K M F0 H0 F env σ H) (ir : ItemR K two F H x d)
    (ht : two = true → ∃ i j, t = .two i j) (hm : ∀ i ∈ tgSlots t, M i = false) (hb : bindT t d env = some env')
    (k : ∀ σ', Rel K M F0 H0 F env' σ' H → (∀ j, j ∉ tgSlots t → σ'[j]? = σ[j]?) → σ'.length = σ.length → Q σ' H) : gT K t x σ H Q := by
  cases t with
  | one i =>
    have q : Dq K F x d := by
      rcases ir with q | ⟨e, _⟩
      · exact q
      · obtain ⟨_, _, z⟩ := ht e; cases z
    have e : put env i d = env' := Option.some.inj hb
    subst e
    exact k _ (rel.storeV (hm i (by simp [tgSlots])) q) (fun j hj => List.getElem?_set_ne (fun z => hj (by simp [tgSlots, z]))) (by simp)
  | two i j =>
    have hp : ∃ a v1 v2 d1 d2, x = .ref a ∧ d = .tuple [d1, d2] ∧ SqT K H a [v1, v2] ∧ Dq K F v1 d1 ∧ Dq K F v2 d2 := by
      rcases ir with q | ⟨_, q⟩
      · cases d with
        | tuple ds =>
          cases ds with
          | nil => cases hb
          | cons d1 ds =>
            cases ds with
            | nil => cases hb
            | cons d2 ds =>
              cases ds with
              | nil =>
                cases q with
                | tup h r =>
                  cases r with
                  | cons q1 r =>
                    cases r with
                    | cons q2 r =>
                      cases r
                      exact ⟨_, _, _, d1, d2, rfl, rfl, (h.mono rel.fh).sq, q1, q2⟩
              | cons _ _ => cases hb
        | _ => cases hb
      · exact q
    obtain ⟨a, v1, v2, d1, d2, rfl, rfl, h, q1, q2⟩ := hp
    have e : put (put env i d1) j d2 = env' := Option.some.inj hb
    subst e
    refine ⟨a, [v1, v2], rfl, h, rfl, v1, [v2], rfl, v2, [], rfl, rfl, ?_⟩
    refine k _ ((rel.storeV (hm i (by simp [tgSlots])) q1).storeV (hm j (by simp [tgSlots])) q2) (fun l hl => ?_) (by simp)
    have n1 : i ≠ l := fun z => hl (by simp [tgSlots, z])
    have n2 : j ≠ l := fun z => hl (by simp [tgSlots, z])
    rw [List.getElem?_set_ne n2, List.getElem?_set_ne n1]

/-! ### comprehensions -/
section
variable {g : Gh} {X : Cx} {elt tgx iter : Expr} {ifs : List Expr} {scope : Scope} {own : List (Str × Nat)} {pos : Pos} {t : Tg} {two : Bool} {fi : Env → Res (List D)} {fe : Env → Res D} {ft : Env → Res Bool}
abbrev gN (g : Gh) : Gh := { g with W := fun _ _ _ _ => False }
/-- one turn -/
def turnC (t : Tg) (own : List (Str × Nat)) (ft : Env → Res Bool) (fe : Env → Res D) (env : Env) (x : D) : Res (Option D) := match bindT t x (wipeD env (own.map (·.2))) with
  | none => .stuck
  | some env' => (ft env').bind fun k => if k then (fe env').bind fun y => .ok (some y) else .ok none
theorem compL_ok {f : D → Res (Option D)} : ∀ {xs acc ys : List D} {i : Nat} {d : D}, noX (compL f (xs.drop i) acc) = .ok ys → xs[i]? = some d →
    (∃ y, f d = .ok (some y) ∧ acc.length < LIM ∧ noX (compL f (xs.drop (i + 1)) (acc ++ [y])) = .ok ys) ∨ (f d = .ok none ∧ noX (compL f (xs.drop (i + 1)) acc) = .ok ys) := by
  intro xs acc ys i d h e
  obtain ⟨hl, e1⟩ := List.getElem?_eq_some_iff.mp e
  rw [List.drop_eq_getElem_cons hl, e1] at h
  unfold compL at h
  cases q : f d with
  | ok o =>
    rw [q] at h
    simp only [bind_ok] at h
    cases o with
    | none => exact .inr ⟨rfl, h⟩
    | some y =>
      simp only at h
      split at h
      · rename_i hlt
        exact .inl ⟨y, rfl, hlt, h⟩
      · cases h
  | exc x => rw [q] at h; cases h
  | stuck => rw [q] at h; cases h
theorem lc_read {σ : L2.St} {H : Hp} {Q : VK} (hi : (∀ σ H R, tI X.K g two false fi σ H R → (wi : TI) σ H R)) (hown : ∀ i ∈ tgSlots t, i ∈ own.map (·.2)) (hm : ∀ i ∈ tgSlots t, g.M i = false) (ht : two = true → ∃ i j, t = .two i j)
    (h : tE X.K g .O (fun env => (fi env).bind fun xs => (noX (compL (turnC t own ft fe env) xs [])).bind fun ys => .ok (.list ys)) σ H Q) :
    tLc wi (gT X.K t) (tT X.K (gN g) ft) (tE X.K (gN g) .V fe) (own.map (·.2)) σ H Q := by
  obtain ⟨F, env, rel, hd⟩ := h
  refine hi σ H _ ⟨F, env, rel, ?_⟩
  cases q : fi env with
  | ok xs =>
    simp only [q, bind_ok] at hd
    intro J H1 F1 x1 it D hD
    cases q2 : compL (turnC t own ft fe env) xs [] with
    | ok ys =>
      rw [q2] at hd
      have hd : Done X.K g .O (.ok (.list ys)) F H σ Q := hd
      have hF1 : F1 D = none := x1.fh.free hD
      refine ⟨fun i m H2 => i ≤ xs.length ∧ m = xs.length - i ∧ ∃ F2 acc vs, Ext F1 H1 F2 H2 ∧ H2 D = some (.lst vs) ∧ F2 D = none ∧ DqAll X.K F2 vs acc ∧ noX (compL (turnC t own ft fe env) (xs.drop i) acc) = .ok ys,
        ⟨xs.length, Nat.zero_le _, by omega, F1, [], [], .new x1.fh hD, upd_same, hF1, .nil, by rw [List.drop_zero, q2]; rfl⟩, ?_⟩
      rintro i m H2 ⟨hil, rfl, F2, acc, vs, x2, hDl, hF2, dq, hc⟩
      obtain ⟨its, stp⟩ := it F2 H2 x2.hh x2.ff x2.fh
      have x12 := x1.trans x2
      by_cases hlt : i < xs.length
      · right
        have e : xs[i]? = some xs[i] := List.getElem?_eq_getElem hlt
        obtain ⟨go, yl⟩ := its i xs[i] e
        refine ⟨go, fun H3 => ∃ F3 acc vs, Ext F1 H1 F3 H3 ∧ H3 D = some (.lst vs) ∧ F3 D = none ∧ DqAll X.K F3 vs acc ∧ noX (compL (turnC t own ft fe env) (xs.drop (i + 1)) acc) = .ok ys, fun H' w => ⟨xs.length - (i + 1), by omega, hlt, rfl, w⟩, fun x H3 hy => ?_⟩
        obtain ⟨F3, x3, ir⟩ := yl x H3 hy
        have keepD : ∀ {Fa Ha Fb Hb : Hp}, Ext Fa Ha Fb Hb → Ha D = some (.lst vs) → Fa D = none → Hb D = some (.lst vs) ∧ Fb D = none := fun {Fa Ha Fb Hb} x h1 h2 => by
          refine ⟨x.hh _ _ h1, ?_⟩
          cases z : Fb D with
          | none => rfl
          | some u =>
            rcases x.nw _ _ z with ⟨u', e'⟩ | e'
            · rw [h2] at e'; cases e'
            · rw [h1] at e'; cases e'
        obtain ⟨hD3, hF3⟩ := keepD x3 hDl hF2
        have rel3 := (rel.step (x12.trans x3)).wipe (own.map (·.2))
        have hturn := compL_ok hc e
        have hbt : ∃ env', bindT t xs[i] (wipeD env (own.map (·.2))) = some env' := by
          cases z : bindT t xs[i] (wipeD env (own.map (·.2))) with
          | some env' => exact ⟨env', rfl⟩
          | none =>
            have z2 : turnC t own ft fe env xs[i] = .stuck := by unfold turnC; rw [z]
            rw [z2] at hturn
            rcases hturn with ⟨_, z3, _⟩ | ⟨z3, _⟩ <;> cases z3
        obtain ⟨env', hbt⟩ := hbt
        have ef : turnC t own ft fe env xs[i] = (ft env').bind fun k => if k then (fe env').bind fun y => .ok (some y) else .ok none := by unfold turnC; rw [hbt]
        rw [ef] at hturn
        refine gT_ok rel3 ir ht hm hbt fun σ' rel4 hs hl => ⟨?_, ?_⟩
        · have wl : ∀ vs : List Nat, L2.wipe (L2.wipe σ vs) vs = L2.wipe σ vs := fun vs => by
            cases vs with
            | nil => rfl
            | cons v vs => exact wipe_set (u := none) (List.mem_cons_self ..) _ (fun j hj => by
                cases z : (L2.wipe σ (v :: vs))[j]? with
                | none =>
                  have : σ.length ≤ j := by rw [← wipe_length σ (v :: vs)]; exact List.getElem?_eq_none_iff.mp z
                  exact (List.getElem?_eq_none_iff.mpr this).symm
                | some o =>
                  rw [← wipe_out hj, z]) (wipe_length ..)
          by_cases hv : (own.map (·.2)) = []
          · have : tgSlots t = [] := by
              cases ts : tgSlots t with
              | nil => rfl
              | cons a r => 
                have := hown a (by rw [ts]; exact List.mem_cons_self ..)
                rw [hv] at this
                cases this
            cases t <;> cases this
          · obtain ⟨v, vs', ev⟩ := List.exists_cons_of_ne_nil hv
            rw [← wl (own.map (·.2))]
            exact wipe_set (u := none) (i := v) (by rw [ev]; exact List.mem_cons_self ..) σ' (fun j hj => hs j fun z => hj (hown j z)) hl
        · refine ⟨F3, env', rel4, ?_⟩
          cases q3 : ft env' with
          | ok k =>
            rw [q3] at hturn
            simp only [bind_ok] at hturn
            intro H4 F4 x4
            obtain ⟨hD4, hF4⟩ := keepD x4 hD3 hF3
            cases k with
            | false =>
              rw [if_neg Bool.false_ne_true]
              rcases hturn with ⟨y, z, _⟩ | ⟨_, hc'⟩
              · cases z
              · exact ⟨F4, acc, vs, (x2.trans x3).trans x4, hD4, hF4, dq.mono (x3.trans x4).ff, hc'⟩
            | true =>
              rw [if_pos rfl]
              simp only [if_true] at hturn
              refine ⟨F4, env', rel4.step x4, ?_⟩
              cases q4 : fe env' with
              | ok y =>
                rw [q4] at hturn
                simp only [bind_ok] at hturn
                intro v H5 F5 x5 p5
                obtain ⟨hD5, hF5⟩ := keepD x5 hD4 hF4
                rcases hturn with ⟨y', z, hlt', hc'⟩ | ⟨z, _⟩
                · cases z
                  have dq5 := dq.mono ((x3.trans x4).trans x5).ff
                  refine ⟨vs, hD5, by rw [dq.length]; exact line_lt hlt', F5, acc ++ [y], vs ++ [v], ?_, upd_same, hF5, dq5.append (.cons p5 .nil), hc'⟩
                  have x15 := ((x2.trans x3).trans x4).trans x5
                  refine ⟨fun b o eb => ?_, x15.ff, fun b o eb => ?_, x15.nw⟩
                  · rw [upd_ne (ne_of_none eb hD)]; exact x15.hh _ _ eb
                  · rw [upd_ne (fun z => by rw [z, hF5] at eb; cases eb)]; exact x15.fh _ _ eb
                · cases z
              | exc y => rw [q4] at hturn; rcases hturn with ⟨_, z, _⟩ | ⟨z, _⟩ <;> cases z
              | stuck => rw [q4] at hturn; rcases hturn with ⟨_, z, _⟩ | ⟨z, _⟩ <;> cases z
          | exc y => rw [q3] at hturn; rcases hturn with ⟨_, z, _⟩ | ⟨z, _⟩ <;> cases z
          | stuck => rw [q3] at hturn; rcases hturn with ⟨_, z, _⟩ | ⟨z, _⟩ <;> cases z
      · left
        have ei : i = xs.length := by omega
        subst ei
        refine ⟨stp, ?_⟩
        rw [List.drop_length] at hc
        have ea : acc = ys := by
          unfold compL at hc
          exact Res.ok.inj hc
        subst ea
        exact hd (.ref D) H2 F2 x12 (.inl ⟨D, vs, acc, rfl, rfl, hDl, hF2, x1.hh.free hD, dq⟩)
    | exc y => rw [q2] at hd; exact hd.elim
    | stuck => rw [q2] at hd; exact hd.elim
  | exc y => simp only [q, bind_exc] at hd; exact hd
  | stuck => simp only [q, bind_stuck] at hd; exact hd.elim
end
end DH
set_option Elab.async false
set_option linter.all false
set_option maxRecDepth 100000
/-! DH: t[::-1] of a tuple -/
namespace DH
open PySem L2
open PySem.Spec PyProof.Rows
theorem all_pick {α : Type} : ∀ l : List α, (List.range l.length).filterMap (fun k => l[k]?) = l
  | [] => rfl
  | x :: r => by
    rw [List.length_cons, List.range_succ_eq_map, List.filterMap_cons]
    show x :: _ = _
    rw [List.filterMap_map]
    have e : ((fun k => (x :: r)[k]?) ∘ Nat.succ) = fun k => r[k]? := by funext k; simp
    rw [e, all_pick r]
theorem fm_congr {α β : Type} {f g : α → Option β} : ∀ {l : List α}, (∀ x ∈ l, f x = g x) → l.filterMap f = l.filterMap g
  | [], _ => rfl
  | x :: r, h => by
    rw [List.filterMap_cons, List.filterMap_cons, h x (List.mem_cons_self ..), fm_congr fun y hy => h y (List.mem_cons_of_mem _ hy)]
theorem rev_pick (xs : Array Value) : ((List.range xs.size).filterMap fun (k : Nat) => xs[(((xs.size : Int) - 1) + (k : Int) * (-1)).toNat]?) = xs.toList.reverse := by
  have e : (List.range xs.size).filterMap (fun (k : Nat) => xs[(((xs.size : Int) - 1) + (k : Int) * (-1)).toNat]?) = (List.range xs.toList.reverse.length).filterMap fun k => xs.toList.reverse[k]? := by
    rw [List.length_reverse, Array.length_toList]
    refine fm_congr fun k hk => ?_
    have hk : k < xs.size := List.mem_range.mp hk
    rw [List.getElem?_reverse (by simpa using hk), Array.getElem?_toList, Array.length_toList]
    congr 1
    omega
  rw [e, all_pick]
section
variable {prog : Program} {w : World} {A : Around} {E : Value → Shared → Prop} {s : Shared}
theorem part_int {v : Value} {i : Int} {Q : Option Int → Shared → Prop} (p : IsPart v (some i)) (h : Q (some i) s) : wpAny (model prog w) A (Builtin.Slice.slicePartIndex v) Q E s := HT.slicePart_ p h
theorem applied_rev {sl : Addr} {vl vu vs : Value} {n : Nat} {Q : Int × Int × Nat → Shared → Prop} (hs : s.heap.IsSliceOf sl vl vu vs) (pl : IsPart vl none) (pu : IsPart vu none) (ps : IsPart vs (some (-1)))
    (h : Q ((n : Int) - 1, -1, n) s) : wpAny (model prog w) A (Builtin.Slice.sliceApplied (.ref sl) (pure (n : Int))) Q E s := by
  obtain ⟨os, hos, hcs, hds⟩ := id hs
  unfold Builtin.Slice.sliceApplied Builtin.Slice.sliceFields
  refine wpAny_bind (wpAny_bind (wpAny_field hos hds (x := vl) rfl (wpAny_bind (wpAny_field hos hds (x := vu) rfl (wpAny_bind (wpAny_field hos hds (x := vs) rfl (wpAny_pure ?_)))))))
  refine wpAny_bind (HT.slicePart_ ps ?_)
  show wpAny _ _ (if ((-1 : Int) == 0) = true then _ else _) _ _ s
  rw [if_neg (by decide)]
  refine wpAny_bind (HT.slicePart_ pl (wpAny_bind (HT.slicePart_ pu (wpAny_bind (wpAny_pure ?_)))))
  show wpAny _ _ (pure ((n : Int) - 1, (-1 : Int), Builtin.Slice.slicePlaces ((n : Int) - 1) (-1) (-1))) _ _ s
  have e : Builtin.Slice.slicePlaces ((n : Int) - 1) (-1) (-1) = n := by
    unfold Builtin.Slice.slicePlaces
    rw [if_neg (by decide)]
    split
    · simp
    · have : n = 0 := by omega
      subst this
      rfl
  rw [e]
  exact wpAny_pure h
theorem item_rev {t sl : Addr} {its : Array Value} {vl vu vs : Value} {Q : Value → Shared → Prop} (ht : s.heap.IsTuple t its) (hs : s.heap.IsSliceOf sl vl vu vs) (pl : IsPart vl none) (pu : IsPart vu none) (ps : IsPart vs (some (-1)))
    (h : Q (.ref s.heap.objs.size) { s with heap := s.heap.push { cls := .type "tuple", data := .seq its.toList.reverse.toArray } }) (hz : its.size ≤ sizeLine) : wpAny (model prog w) A (getItem (.ref t) (.ref sl)) Q E s := by
  have fit : sizeOk (.seq its.toList.reverse.toArray) := by
    show its.toList.reverse.toArray.size ≤ sizeLine
    rw [List.size_toArray, List.length_reverse, Array.length_toList]
    exact hz
  obtain ⟨os, hos, hcs, hds⟩ := id hs
  have ty : s.TypeIs (.ref sl) "slice" := ⟨os, hos, hcs⟩
  unfold getItem
  try with_reducible refine wpAny_holding ?_
  first | refine wpAny_bind (wpAny_pure ?_) | skip
  refine wpAny_bind (wpAny_sequenceKey ht.typeIs (by decide) ?_)
  refine wpAny_bind (wpAny_callSpecial?_slot (name := Str.ofString "__getitem__") ht.typeIs slot_tuple_getitem (wpAny_call_entry slot_tuple_getitem ht.typeIs entry_tuple_getitem ?_ (args_tuple_getitem _ _)))
  show wpAny _ _ (Builtin.Tuple.tupleItemsOf (.ref t) >>= _) _ _ s
  refine wpAny_bind (tupleItemsOf_ ht (wpAny_bind (wpAny_typeOf ty ?_)))
  rw [if_pos (by decide)]
  refine wpAny_bind (applied_rev hs pl pu ps ?_)
  show wpAny _ _ (if (((its.size : Int) - 1) == 0 && (-1 : Int) == 1 && its.size == its.size) = true then _ else _) _ _ s
  rw [if_neg (by simp), rev_pick]
  first
    | exact wpAny_bind (m := Builtin.Tuple.tupleExact _) (wpAny_newObj_type (wpAny_pure ⟨_, rfl, wpAny_pure h⟩) fit)
    | exact wpAny_bind (m := Builtin.Tuple.tupleExact _) (wpAny_newObj_type (wpAny_bind (wpAny_pure (wpAny_pure ⟨_, rfl, wpAny_pure h⟩))) fit)
    | exact wpAny_bind (wpAny_bind (m := Builtin.Tuple.tupleExact _) (wpAny_newObj_type (wpAny_pure (wpAny_pure ⟨_, rfl, wpAny_pure h⟩)) fit))
    | exact wpAny_bind (wpAny_bind (m := Builtin.Tuple.tupleExact _) (wpAny_newObj_type (wpAny_pure ⟨_, rfl, wpAny_pure h⟩) fit))
end
section
variable {X : Cx}
def tRevT (K : PySem.W.Frag) (te : TE) : TE := fun σ H Q => te σ H fun x H1 => ∃ a xs, x = .ref a ∧ SqT K H1 a xs ∧ ∀ (p : Addr) (o : Obj), H1 p = none → o.dict = none → Q (.ref p) (upd H1 p (.frz o (.tup xs.reverse)))
theorem pe_revT {e : Expr} {te : TE} {k : Nat} {p1 p2 p3 pos : Pos} (he : PE X e te) : PE X (.Subscript e (.Slice none none (some (.UnaryOp .USub (.Constant (.int 1) k p1) p2)) p3) pos) (tRevT X.K te) := by
  refine ⟨fun pins s σ H Q I h => ?_⟩
  refine Subscript_ (thn (he.run pins s σ H _ I h) fun v s1 ⟨x, H1, I1, r1, a, xs, ex, hx, q⟩ => ?_)
  subst ex
  cases r1
  have st : PO X (some (.UnaryOp .USub (.Constant (.int 1) k p1) p2)) (tPart (tUn (rU fun i => .int (-i)) (tC (.int 1)))) := po_some (pe_un un_neg pe_int)
  refine wpAny_Slice (thn (po_none.run pins s1 σ H1 (fun o H2 => o = none ∧ H2 = H1) I1 ⟨rfl, rfl⟩) fun vl s2 ⟨l, H2, I2, pl, el, e2⟩ => ?_)
  subst el e2
  refine thn (po_none.run pins s2 σ H2 (fun o H3 => o = none ∧ H3 = H2) I2 ⟨rfl, rfl⟩) fun vu s3 ⟨u, H3, I3, pu, eu, e3⟩ => ?_
  subst eu e3
  refine thn (st.run pins s3 σ H3 (fun o H4 => o = some (-1) ∧ H4 = H3) I3 ⟨1, rfl, -1, rfl, rfl, rfl⟩) fun vs s4 ⟨o, H4, I4, ps, eo, e4⟩ => ?_
  subst eo e4
  have I5 : Inv X pins σ H4 { s4 with heap := s4.heap.push { cls := .type "slice", data := .fields #[vl, vu, vs] } } := I4.kept (t' := s4.toks) fun b ob q => Heap.get?_push_of_some _ q
  obtain ⟨its, r, ht, hz⟩ := I5.tuple hx
  have hlen := r.length
  show wpAny (model X.prog X.w) X.A (subscriptTail e (.Slice none none (some (.UnaryOp .USub (.Constant (.int 1) k p1) p2)) p3) (.ref a) (.ref s4.heap.objs.size)) (EP X pins σ Q) X.xe { s4 with heap := s4.heap.push { cls := .type "slice", data := .fields #[vl, vu, vs] } }
  refine tail_any (ops := [.ref a, .ref s4.heap.objs.size]) ht.typeIs slot_tuple_getitem.lookup ?_ (by with_unfolding_all rfl)
  refine item_rev ht (Heap.IsSliceOf.new _ vl vu vs) pl pu ps ?_ (by rw [List.size_toArray]; omega)
  rw [List.toList_toArray]
  exact laidT I5 r.reverse (by rw [List.length_reverse]; exact hz) q
end
end DH
set_option Elab.async false
set_option linter.all false
set_option maxRecDepth 100000
/-! DH, part J: a written dict of ints; reversed lists; list(range); index; count. -/
namespace DH
open PySem L2
open PySem.Spec PyProof.Rows

/-- the entries of a written dict of ints -/
def entOk : List DictEntry → List (Int × Int) → Prop
  | [], [] => True
  | e :: es, (k, v) :: r => e.hash = hashInt k ∧ (∃ t, e.key = .int k t) ∧ (∃ t, e.val = .int v t) ∧ entOk es r
  | _, _ => False
structure IntDict (K : PySem.W.Frag) (a : Addr) (t : List (Int × Int)) : Prop where
  low : (a == sysModules) = false
  ex : ∃ o es ep, K.lookup a = some o ∧ o.ExactDict ∧ o.data = .dict es ep ∧ entOk es.toList t
theorem ent_keys {P : Program} {w : World} : ∀ {es : List DictEntry} {t : List (Int × Int)}, entOk es t → ∀ e ∈ es, ∃ k, (intKind P w).is k e.key = true ∧ e.hash = (intKind P w).hash k
  | [], _, _, e, h => by cases h
  | e0 :: es, [], h, _, _ => h.elim
  | e0 :: es, (k, v) :: r, h, e, he => by
    obtain ⟨h1, ⟨t, h2⟩, h3, h4⟩ := h
    rcases List.mem_cons.mp he with rfl | he
    · exact ⟨k, by rw [h2]; show Value.isInt k (.int k t) = true; simp [Value.isInt], h1⟩
    · exact ent_keys h4 e he
theorem ent_find {P : Program} {w : World} (k : Int) : ∀ {es : List DictEntry} {t : List (Int × Int)}, entOk es t →
    (match lookI k t with | some v => ∃ tk, (es.find? fun e => (intKind P w).is k e.key).map (·.val) = some (.int v tk) | none => (es.find? fun e => (intKind P w).is k e.key).map (·.val) = none)
  | [], [], _ => by simp [lookI]
  | [], _ :: _, h => h.elim
  | _ :: _, [], h => h.elim
  | e :: es, (a, b) :: r, h => by
    obtain ⟨h1, ⟨t, h2⟩, ⟨t3, h3⟩, h4⟩ := h
    have e1 : (intKind P w).is k e.key = (k == a) := by
      rw [h2]
      show Value.isInt k (.int a t) = _
      simp only [Value.isInt]
      cases q : (a == k) <;> cases q2 : (k == a) <;> simp_all
    rw [List.find?_cons, e1]
    unfold lookI
    cases q : (k == a) with
    | true => exact ⟨t3, by simp [h3]⟩
    | false => exact ent_find k h4
section
variable {X : Cx} {pins : List (Addr × Obj)} {σ : L2.St} {H : Hp} {s : Shared} {a : Addr} {t : List (Int × Int)}
theorem IntDict.map (I : Inv X pins σ H s) (d : IntDict X.K a t) : ∃ f, s.heap.MapOf (intKind X.prog X.w) a f ∧ ∀ k, match lookI k t with | some v => ∃ tk, f k = some (.int v tk) | none => f k = none := by
  obtain ⟨o, es, ep, h1, h2, h3, h4⟩ := d.ex
  refine ⟨_, ⟨o, es, ep, I.kIn a o h1, h2, h3, fun e he => ent_keys h4 e (by simpa using he), fun _ => rfl⟩, fun k => ?_⟩
  have q := ent_find (P := X.prog) (w := X.w) k h4
  have e : findBy (intKind X.prog X.w).is es k = (es.toList.find? fun e => (intKind X.prog X.w).is k e.key).map (·.val) := by
    obtain ⟨l⟩ := es
    simp [findBy]
  rw [e]
  exact q
end
section
variable {g : Gh} {X : Cx} {e a b : Expr} {fa fb : Env → Res D} {pos p0 : Pos} {x : Str} {G : Gd}
def tDk (K : PySem.W.Frag) (t : List (Int × Int)) (ta : TE) : TE := fun σ H Q => ta σ H fun y H1 => ∃ i v, y = .int i ∧ lookI i t = some v ∧ Q (.int v) H1
theorem pe_dk {A : Addr} {t : List (Int × Int)} {ta : TE} (d : IntDict X.K A t) (hg : Gl X x) (hm : X.mg x = some (.ref A)) (hd : (x == ("__debug__" : Str)) = false) (ha : PE X a ta) (pa : plainE a = true) :
    PE X (.Subscript (.Name x p0) a pos) (tDk X.K t ta) := by
  refine ⟨fun pins s σ H Q I h => ?_⟩
  refine Subscript_ (ld_glob I hg hm (thn (ha.run pins s σ H _ I h) fun u s1 ⟨y, H1, I1, r1, q1⟩ => ?_) hd)
  obtain ⟨i, v, rfl, hv, q⟩ := q1
  obtain ⟨tk, rfl⟩ := r1
  obtain ⟨f, hf, hk⟩ := d.map I1
  have hk := hk i
  rw [hv] at hk
  obtain ⟨tk2, hk⟩ := hk
  exact tail_any hf.typeIs slot_dict_getitem.lookup (wpAny_getItem_of (k := i) (show Value.isInt i (.int i tk) = true by simp [Value.isInt]) hf hk ⟨.int v, H1, I1.tok _, ⟨_, rfl⟩, q⟩) (ix_plain pa _ _)
theorem de_dget {A : Addr} {t : List (Int × Int)} {j : Nat} (hj : G.ds[j]? = some t) (d : IntDict X.K A t) (hg : Gl X x) (hm : X.mg x = some (.ref A)) (hd : (x == ("__debug__" : Str)) = false) (ha : PE X a (tE X.K g .R fa)) (pa : plainE a = true) :
    PE X (.Subscript (.Name x p0) a pos) (tE X.K g .O fun env => (fa env).bind fun d => ofO (prim1 G (.dget j) d)) :=
  pe1 (r := fun y H Q => ∃ i v, y = .int i ∧ lookI i t = some v ∧ Q (.int v) H) (pe_dk d hg hm hd ha pa) fun F H x d z Q fh hx h k => by
    cases d with
    | int i =>
      simp only [prim1, hj] at h
      obtain ⟨v, e1, e2⟩ := map_some h
      subst e2
      exact ⟨i, v, R_int hx, e1, ko_flat fh k (.int _) rfl⟩
    | _ => cases h
theorem pe_dkN {A : Addr} {t : List (Int × Int)} {ta : TE} (d : IntDict X.K A t) (hg : Gl X x) (hm : X.mg x = some (.ref A)) (hd : (x == ("__debug__" : Str)) = false) (ha : PE X a ta) :
    PE X (.Compare a [.NotIn] [.Name x p0] pos) (fun σ H Q => ta σ H fun y H1 => ∃ i, y = .int i ∧ Q (.bl (lookI i t).isNone) H1) := by
  refine ⟨fun pins s σ H Q I h => ?_⟩
  refine wpAny_Compare1 (thn (ha.run pins s σ H _ I h) fun u s1 ⟨y, H1, I1, r1, q1⟩ => ?_) rfl
  obtain ⟨i, rfl, q⟩ := q1
  obtain ⟨tk, rfl⟩ := r1
  refine ld_glob I1 hg hm ?_ hd
  obtain ⟨f, hf, hk⟩ := d.map I1
  refine wpAny_notIn_of (k := i) (show Value.isInt i (.int i tk) = true by simp [Value.isInt]) d.low hf ?_
  have hk := hk i
  have e : (!(f i).isSome) = (lookI i t).isNone := by
    cases z : lookI i t with
    | none => rw [z] at hk; rw [hk]; rfl
    | some v => rw [z] at hk; obtain ⟨_, hk⟩ := hk; rw [hk]; rfl
  rw [e]
  exact ⟨.bl _, H1, I1.tok _, rfl, q⟩
theorem de_dnotin {A : Addr} {t : List (Int × Int)} {j : Nat} (hj : G.ds[j]? = some t) (d : IntDict X.K A t) (hg : Gl X x) (hm : X.mg x = some (.ref A)) (hd : (x == ("__debug__" : Str)) = false) (ha : PE X a (tE X.K g .R fa)) :
    PE X (.Compare a [.NotIn] [.Name x p0] pos) (tE X.K g .O fun env => (fa env).bind fun d => ofO (prim1 G (.dnotin j) d)) :=
  pe1 (r := fun y H Q => ∃ i, y = .int i ∧ Q (.bl (lookI i t).isNone) H) (pe_dkN d hg hm hd ha) fun F H x d z Q fh hx h k => by
    cases d with
    | int i =>
      simp only [prim1, hj] at h
      cases h
      exact ⟨i, R_int hx, ko_flat fh k (.bl _) rfl⟩
    | _ => cases h
/-- as a test -/
theorem dt_dnotin {A : Addr} {t : List (Int × Int)} {j : Nat} (hj : G.ds[j]? = some t) (d : IntDict X.K A t) (hg : Gl X x) (hm : X.mg x = some (.ref A)) (hd : (x == ("__debug__" : Str)) = false) (ha : PE X a (tE X.K g .R fa)) :
    PT X (.Compare a [.NotIn] [.Name x p0] pos) (tT X.K g fun env => ((fa env).bind fun d => ofO (prim1 G (.dnotin j) d)).bind fun x => ofO (truth x)) := by
  have rule : PT X (.Compare a [.NotIn] [.Name x p0] pos) (fun σ H Q => tE X.K g .R fa σ H fun y H1 => ∃ i, y = .int i ∧ Q (lookI i t).isNone H1) := by
    refine ⟨fun pins s σ H Q I h => ?_⟩
    refine wpAny_isTrue_Compare1 (thn (ha.run pins s σ H _ I h) fun u s1 ⟨y, H1, I1, r1, q1⟩ => ?_) rfl
    obtain ⟨i, rfl, q⟩ := q1
    obtain ⟨tk, rfl⟩ := r1
    refine ld_glob I1 hg hm ?_ hd
    obtain ⟨f, hf, hk⟩ := d.map I1
    refine wpAny_notIn_of (k := i) (show Value.isInt i (.int i tk) = true by simp [Value.isInt]) d.low hf ?_
    have hk := hk i
    have e : (!(f i).isSome) = (lookI i t).isNone := by
      cases z : lookI i t with
      | none => rw [z] at hk; rw [hk]; rfl
      | some v => rw [z] at hk; obtain ⟨_, hk⟩ := hk; rw [hk]; rfl
    rw [e]
    exact wpAny_truthy_bool ⟨H1, I1.tok _, q⟩
  refine PT.wk rule fun σ H Q ⟨F, env, rel, hd⟩ => ⟨F, env, rel, ?_⟩
  cases q : fa env with
  | ok d =>
    simp only [q, bind_ok] at hd
    intro v H1 F1 x1 p1
    cases d with
    | int i =>
      simp only [prim1, hj, ofO_some, bind_ok, truth] at hd
      exact ⟨i, R_int p1, hd H1 F1 x1⟩
    | _ => exact hd.elim
  | exc x => simp only [q, bind_exc] at hd; exact hd
  | stuck => simp only [q, bind_stuck] at hd; exact hd.elim
theorem dt_isN {j : Nat} {p2 : Pos} (ha : PE X a (tE X.K g .R fa)) : PT X (.Compare a [.Is] [.Constant .none j p2] pos) (tT X.K g fun env => ((fa env).bind fun d => ofO (prim1 G .isN d)).bind fun x => ofO (truth x)) := by
  refine PT.wk (pt_cmp (pc_isN ha)) fun σ H Q ⟨F, env, rel, hd⟩ => ⟨F, env, rel, ?_⟩
  cases q : fa env with
  | ok d =>
    simp only [q, bind_ok, prim1, ofO_some, truth] at hd
    intro v H1 F1 x1 p1
    exact ⟨_, rfl, by rw [R_isN p1]; exact hd H1 F1 x1⟩
  | exc x => simp only [q, bind_exc] at hd; exact hd
  | stuck => simp only [q, bind_stuck] at hd; exact hd.elim
theorem dt_notN {j : Nat} {p2 : Pos} (ha : PE X a (tE X.K g .R fa)) : PT X (.Compare a [.IsNot] [.Constant .none j p2] pos) (tT X.K g fun env => ((fa env).bind fun d => ofO (prim1 G .notN d)).bind fun x => ofO (truth x)) := by
  refine PT.wk (pt_cmp (pc_notN ha)) fun σ H Q ⟨F, env, rel, hd⟩ => ⟨F, env, rel, ?_⟩
  cases q : fa env with
  | ok d =>
    simp only [q, bind_ok, prim1, ofO_some, truth] at hd
    intro v H1 F1 x1 p1
    exact ⟨_, rfl, by rw [R_isN p1]; exact hd H1 F1 x1⟩
  | exc x => simp only [q, bind_exc] at hd; exact hd
  | stuck => simp only [q, bind_stuck] at hd; exact hd.elim
theorem dt_chain {fc : Env → Res D} {op op' : CmpOp} {p p' : P2} {r r' : R2} (C : CmpOk X op p r) (C' : CmpOk X op' p' r')
    (rule : PT X e (tTest (tChain r r' (tE X.K g .R fa) (tE X.K g .R fb) (tE X.K g .R fc)))) :
    PT X e (tT X.K g fun env => ((fa env).bind fun x => (fb env).bind fun y => (ofO (prim2 p x y)).bind fun r => match r with
      | .bool true => (fc env).bind fun z => ofO (prim2 p' y z) | .bool false => .ok (.bool false) | _ => .stuck).bind fun x => ofO (truth x)) := by
  refine PT.wk rule fun σ H Q ⟨F, env, rel, hd⟩ => ⟨F, env, rel, ?_⟩
  cases q : fa env with
  | ok d =>
    intro v H1 F1 x1 p1
    simp only [q, bind_ok] at hd
    refine ⟨F1, env, rel.step x1, ?_⟩
    cases q2 : fb env with
    | ok d2 =>
      intro v2 H2 F2 x2 p2
      simp only [q2, bind_ok] at hd
      cases h : prim2 p d d2 with
      | none => simp only [h, ofO_none, bind_stuck] at hd; exact hd.elim
      | some z =>
        simp only [h, ofO_some, bind_ok] at hd
        have x12 := x1.trans x2
        obtain ⟨k, rfl, w⟩ := C.ok F2 H2 v v2 d d2 z _ x2.fh (p1.stepR x2) p2 h
        refine w ⟨k, rfl, ?_⟩
        cases k with
        | true =>
          rw [if_pos rfl]
          refine ⟨F2, env, rel.step x12, ?_⟩
          cases q3 : fc env with
          | ok d3 =>
            intro v3 H3 F3 x3 p3
            simp only [q3, bind_ok] at hd
            cases h' : prim2 p' d2 d3 with
            | none => simp only [h', ofO_none, bind_stuck] at hd; exact hd.elim
            | some z' =>
              simp only [h', ofO_some, bind_ok] at hd
              obtain ⟨k', rfl, w'⟩ := C'.ok F3 H3 v2 v3 d2 d3 z' (fun x H' => ∃ k, x = .bl k ∧ Q k H') x3.fh (p2.stepR x3) p3 h'
              exact w' ⟨k', rfl, hd H3 F3 (x12.trans x3)⟩
          | exc x => simp only [q3, bind_exc] at hd; exact fun H' F' x3 => hd H' F' (x12.trans x3)
          | stuck => simp only [q3, bind_stuck] at hd; exact hd
        | false =>
          rw [if_neg Bool.false_ne_true]
          exact ⟨false, rfl, hd H2 F2 x12⟩
    | exc x => simp only [q2, bind_exc] at hd; exact fun H' F' x2 => hd H' F' (x1.trans x2)
    | stuck => simp only [q2, bind_stuck] at hd; exact hd
  | exc x => simp only [q, bind_exc] at hd; exact hd
  | stuck => simp only [q, bind_stuck] at hd; exact hd

/-! ### list(range(n)) -/
theorem rng_dq {K : PySem.W.Frag} {F : Hp} (n : Int) : DqAll K F (rgV 0 n) (rngL n.toNat) := by
  unfold rgV rngL
  rw [Int.sub_zero]
  have h : ∀ l : List Nat, DqAll K F (l.map fun (i : Nat) => V.int (0 + (i : Int))) (l.map fun (i : Nat) => PyData.int (i : Int)) := fun l => by
    induction l with
    | nil => exact .nil
    | cons a r ih =>
      refine .cons ?_ ih
      show Dq K F (.int (0 + (a : Int))) (.int (a : Int))
      rw [Int.zero_add]
      exact .int _
  exact h _
theorem de_rng {p1 : Pos} {pos1 : Pos} (hc : X.calm = true) (hg : Gl X "list") (hm : X.mg "list" = none) (hg2 : Gl X "range") (hm2 : X.mg "range" = none) (ha : PE X a (tE X.K g .R fa)) (pa : plainE a = true) :
    PE X (.Call (.Name "list" p0) [.Call (.Name "range" p1) [a] [] pos1] [] pos) (tE X.K g .O fun env => (fa env).bind fun d => ofO (prim1 G .rng d)) :=
  pe1 (r := fun x H Q => ∃ n, x = .int n ∧ RgOk 0 n ∧ ∀ q, H q = none → Q (.ref q) (upd H q (.lst (rgV 0 n)))) (pe_listRg hc hg hm (prg_1 hg2 hm2 ha (star_plain pa _ _))) fun F H x d z Q fh hx h k => by
    cases d with
    | int i =>
      simp only [prim1] at h
      split at h
      · rename_i q
        cases h
        exact ⟨i, R_int hx, ⟨by omega, by omega, by omega, by omega, by omega⟩, ko_list fh k (rng_dq i)⟩
      · cases h
    | _ => cases h

/-! ### xs[::-1] -/
theorem PE.or {t t' : TE} (h : PE X e t) (h' : PE X e t') : PE X e (fun σ H Q => t σ H Q ∨ t' σ H Q) := ⟨fun pins s σ H Q I q => q.elim (h.run pins s σ H Q I) (h'.run pins s σ H Q I)⟩
theorem de_rev {k : Nat} {p1 p2 p3 : Pos} (ha : PE X a (tE X.K g .R fa)) : PE X (.Subscript a (.Slice none none (some (.UnaryOp .USub (.Constant (.int 1) k p1) p2)) p3) pos) (tE X.K g .O fun env => (fa env).bind fun d => ofO (prim1 G .rev d)) := by
  refine PE.wk (PE.or (pe_revL ha) (pe_revT ha)) fun σ H Q ⟨F, env, rel, hd⟩ => ?_
  cases q : fa env with
  | ok d =>
    simp only [q, bind_ok] at hd
    cases d with
    | list xs =>
      refine .inl ⟨F, env, rel, ?_⟩
      rw [q]
      intro v H1 F1 x1 p1
      obtain ⟨p, vs, rfl, h1, q1⟩ := R_list x1.fh p1
      exact ⟨p, vs, rfl, SqL.of h1, ko_list x1.fh (fun v H' F' x2 p2 => hd v H' F' (x1.trans x2) (p2.back x1)) q1.reverse⟩
    | tuple xs =>
      refine .inr ⟨F, env, rel, ?_⟩
      rw [q]
      intro v H1 F1 x1 p1
      obtain ⟨p, vs, rfl, h0, h1, q1⟩ := R_tuple x1.fh p1
      exact ⟨p, vs, rfl, h1, ko_tup x1.fh (fun v H' F' x2 p2 => hd v H' F' (x1.trans x2) (p2.back x1)) q1.reverse⟩
    | _ => exact hd.elim
  | exc x => simp only [q, bind_exc] at hd; exact .inl ⟨F, env, rel, by rw [q]; exact hd⟩
  | stuck => simp only [q, bind_stuck] at hd; exact hd.elim

/-! ### texts: join, split -/
theorem DqAll.strsD {K : PySem.W.Frag} {H : Hp} : ∀ {vs : List V} {ds : List D} {ns : List Str}, DqAll K H vs ds → DH.strsD ds = some ns → vs = ns.map V.str
  | _, _, _, .nil, e => by simp [DH.strsD] at e; subst e; rfl
  | _, d :: ds, ns, .cons h t, e => by
    cases d with
    | str i =>
      cases h
      unfold DH.strsD at e
      cases q : DH.strsD ds with
      | none => rw [q] at e; cases e
      | some ms =>
        rw [q] at e
        have e' : i :: ms = ns := Option.some.inj e
        subst e'
        rw [t.strsD q]; rfl
    | _ => simp [DH.strsD] at e
theorem dqAll_strs {K : PySem.W.Frag} {H : Hp} : ∀ ns : List Str, DqAll K H (ns.map V.str) (ns.map PyData.str)
  | [] => .nil
  | i :: r => .cons (.str i) (dqAll_strs r)
theorem de_join {apos cpos p1 : Pos} {k1 : Nat} (ha : PE X a (tE X.K g .R fa)) (pa : plainE a = true) (hline : (apos.endLine == cpos.line) = true) :
    PE X (.Call (.Attribute (.Constant (.str spc) k1 p1) "join" apos) [a] [] cpos) (tE X.K g .O fun env => (fa env).bind fun d => ofO (prim1 G .joinsp d)) :=
  pe1 (r := fun y H Q => ∃ p, ∃ ys : List Str, y = .ref p ∧ SqL X.K H p (ys.map V.str) ∧ (ys.map (·.length)).sum + ys.length ≤ LIM ∧ Q (.str (Txt.join spc ys)) H) (PE.wk (pe_join (pe_str (j := k1) (pos := p1)) ha (by rw [star_plain pa]; rfl) rfl hline) fun σ H Q h => by
    obtain ⟨F, env, rel, hd⟩ := h
    refine ⟨⟨spc, rfl⟩, F, env, rel, ?_⟩
    cases q : fa env with
    | ok d =>
      rw [q] at hd
      intro v H1 F1 x1 p1
      obtain ⟨p, ys, rfl, h1, h2, h3⟩ := hd v H1 F1 x1 p1
      refine ⟨spc, p, ys, rfl, rfl, .inl h1, ?_, h3⟩
      have e : spc.length = 1 := rfl
      rw [e, Nat.mul_one]
      exact Nat.le_trans h2 (by decide)
    | exc x => rw [q] at hd; exact hd
    | stuck => rw [q] at hd; exact hd) fun F H x d z Q fh hx h k => by
    cases d with
    | list xs =>
      obtain ⟨p, vs, rfl, h1, q1⟩ := R_list fh hx
      simp only [prim1] at h
      split at h
      · rename_i ys e1
        split at h
        · rename_i l
          cases h
          have e3 := q1.strsD e1
          subst e3
          exact ⟨p, ys, rfl, SqL.of h1, l, ko_flat fh k (.str _) rfl⟩
        · cases h
      · cases h
    | _ => cases h
theorem base_nm {x : Str} {p : Pos} (name : Str) (env : PySem.Env) (w : Sem Value) : attributeBase (.Name x p) name env w = w := rfl
theorem de_split {x : Str} {apos cpos p1 p2 : Pos} {k1 : Nat} (ha : PE X (.Name x p2) (tE X.K g .R fa)) (hline : (apos.endLine == cpos.line) = true) :
    PE X (.Call (.Attribute (.Name x p2) "split" apos) [.Constant (.str spc) k1 p1] [] cpos) (tE X.K g .O fun env => (fa env).bind fun d => ofO (prim1 G .splitsp d)) :=
  pe1 (r := fun y H Q => ∃ b : Str, y = .str b ∧ b.length ≤ LIM ∧ rNewStrs (Txt.split b spc) H Q) (PE.wk (pe_split ha (pe_str (j := k1) (pos := p1)) rfl rfl hline) fun σ H Q h => by
    obtain ⟨F, env, rel, hd⟩ := h
    refine ⟨F, env, rel, ?_⟩
    cases q : fa env with
    | ok d =>
      rw [q] at hd
      intro v H1 F1 x1 p1
      obtain ⟨b, rfl, h1, h2⟩ := hd v H1 F1 x1 p1
      exact ⟨⟨b, rfl⟩, b, spc, rfl, rfl, rfl, Nat.le_trans (Nat.add_le_add_right h1 2) (by decide), h2⟩
    | exc x => rw [q] at hd; exact hd
    | stuck => rw [q] at hd; exact hd) fun F H x d z Q fh hx h k => by
    cases d with
    | str b =>
      simp only [prim1] at h
      split at h
      · rename_i l
        cases h
        exact ⟨b, R_str hx, l, ko_list fh k (dqAll_strs _)⟩
      · cases h
    | _ => cases h

/-! ### methods: index, count -/
def recvE : Expr → Bool
  | .Name _ _ => true
  | .List _ _ => true
  | .Constant _ _ _ => true
  | .Call _ (_ :: _) _ _ => true
  | _ => false
theorem base_recv {o : Expr} (h : recvE o = true) (name : Str) (env : PySem.Env) (w : Sem Value) : attributeBase o name env w = w := by
  cases o with
  | Call fn args kws pos =>
    cases args with
    | nil => cases h
    | cons a as => cases fn <;> rfl
  | _ => first | rfl | (simp [recvE] at h; done)
theorem few1 (pa : plainE a = true) (cpos : Pos) (env : PySem.Env) : ((backTo cpos (starEach [a] env)).all (fun x => !x.1) && (backToKw cpos (keywordEach [] env)).all (fun x => x.1.isSome)
      && decide ([a].length + ([] : List Keyword).length + (if ([] : List Keyword).isEmpty then 0 else 1) < 30)) = true := by
  rw [star_plain pa]
  rfl
theorem firstIx_some {p : D → Bool} : ∀ {xs : List D} {k j : Nat}, firstIx p xs k = some j → k ≤ j ∧ ∃ z, xs[j - k]? = some z ∧ p z = true ∧ ∀ m z', m < j - k → xs[m]? = some z' → p z' = false
  | [], _, _, h => by cases h
  | x :: r, k, j, h => by
    unfold firstIx at h
    split at h
    · rename_i q
      cases h
      exact ⟨Nat.le_refl _, x, by simp, q, fun m z' hm => by omega⟩
    · rename_i q
      obtain ⟨h1, z, h2, h3, h4⟩ := firstIx_some h
      have e : j - k = (j - (k + 1)) + 1 := by omega
      refine ⟨by omega, z, by rw [e]; simpa using h2, h3, fun m z' hm hz => ?_⟩
      cases m with
      | zero =>
        have : x = z' := by simpa using hz
        subst this
        simpa using q
      | succ m => exact h4 m z' (by omega) (by simpa using hz)
def rIxF (K : PySem.W.Frag) : V → List V → Hp → VK → Prop := fun x xs H Q => ∃ (p : Addr) (ys : List V) (y : V) (j : Nat) (z : V), x = .ref p ∧ xs = [y] ∧ SqT K H p ys ∧ flatV y = true ∧ ys.all flatV = true ∧ ys[j]? = some z ∧ eqV z y = true ∧
  (∀ (m : Nat) (z' : V), m < j → ys[m]? = some z' → eqV z' y = false) ∧ Q (.int (j : Nat)) H
theorem mt_tupix : MtR X "tuple.index" (rIxF X.K) := by
  intro pins s σ H x xs v us Q I rx rs h
  obtain ⟨p, ys, y, j, z, rfl, rfl, hq, fy, fys, hz, hzj, hno, q⟩ := h
  cases rx
  obtain ⟨u, rfl, ru⟩ := vals1 rs
  obtain ⟨its, r, pl, hln⟩ := I.tuple hq
  obtain ⟨⟨cls, dd, dt, sl⟩, ho, hc, n, hd⟩ := pl
  simp only at hc hd
  subst hc hd
  have hl : its.toArray.size = ys.length := by rw [List.size_toArray, r.length]
  have hj : j < its.toArray.size := by rw [hl]; exact (List.getElem?_eq_some_iff.mp hz).1
  have at1 : ∀ (m : Nat) (hm : m < its.toArray.size), ∃ z', ys[m]? = some z' ∧ eqU y its.toArray[m] = eqV z' y := fun m hm => by
    have hm2 : m < ys.length := by rw [← hl]; exact hm
    obtain ⟨w, hw, rw2⟩ := r.get (i := m) (List.getElem?_eq_getElem hm2)
    refine ⟨ys[m], List.getElem?_eq_getElem hm2, ?_⟩
    have e := (List.getElem?_eq_some_iff.mp hw).2
    have e2 : its.toArray[m] = w := by rw [← e]; simp
    rw [e2]
    exact eqU_of rw2 (flat_at fys (List.getElem?_eq_getElem hm2))
  refine call_meets PySem.F.slot_tuple_index ⟨_, ho, rfl⟩ PySem.F.entry_tuple_index (PySem.F.args_tuple_index_2 _ _) (TI.tuple_indexAt p its.toArray n dd sl u (eqU y) j hj ?_ ?_)
    ⟨ho, fun w hw => mem_eqAt ru fy r fys w (by simpa using hw), ⟨.int (j : Nat), H, I.tok _, ⟨_, rfl⟩, q⟩⟩
  · obtain ⟨z', h1, h2⟩ := at1 j hj
    rw [hz] at h1
    cases h1
    rw [h2]; exact hzj
  · intro m hm hmj
    obtain ⟨z', h1, h2⟩ := at1 m hm
    rw [h2]
    exact hno m z' hmj h1
/-- a method of a tuple whose object has no dict -/
theorem pe_bmT {o : Expr} {to : TE} {t : TA} {name : Str} {apos cpos : Pos} {id : String} {r : V → List V → Hp → VK → Prop} (slot : Slot "tuple" name id) (hty : typeOf (.builtin id) = pure (.type "method_descriptor")) (hm : MtR X id r) (ho : PE X o to) (ha : PA X [a] t)
    (hr : recvE o = true) (pa : plainE a = true) (hline : (apos.endLine == cpos.line) = true) :
    PE X (.Call (.Attribute o name apos) [a] [] cpos) (fun σ H Q => to σ H fun x H1 => (∃ p xs, x = .ref p ∧ SqD X.K H1 p xs) ∧ t σ H1 fun xs H2 => r x xs H2 Q) := by
  refine ⟨fun pins s σ H Q I h => ?_⟩
  refine wpAny_Call_method_late (base_recv hr _ _ _) (few1 pa _ _) hline rfl (thn (ho.run pins s σ H _ I h) fun v s1 ⟨x, H1, I1, r1, ty, q1⟩ => ?_)
  obtain ⟨p, xs, rfl, hp⟩ := ty
  obtain rfl : v = Value.ref p := r1
  have h2 : ∃ ob, s1.heap.get? p = some ob ∧ ob.cls = .type "tuple" ∧ ob.dict = none := by
    rcases hp with ⟨ob, h, hd⟩ | ⟨ob, its, n, h, hc, hd, _⟩
    · obtain ⟨h1, _, its, _, ob2, h3, hc, _⟩ := I1.hok p _ h
      rw [h1] at h3
      cases h3
      exact ⟨ob, h1, hc, hd⟩
    · exact ⟨ob, I1.kIn p ob h, hc, hd⟩
  obtain ⟨ob, h3, h4, h5⟩ := h2
  refine ⟨"tuple", id, PySem.F.plainAttrs_tuple, slot, hty, ⟨ob, h3, h4⟩, fun b e => ?_, ?_⟩
  · cases e; exact ⟨ob, h3, h5⟩
  have hA := ha.run cpos pins s1 σ H1 _ I1 q1
  rw [star_plain pa] at hA ⊢
  refine Calls.callWith_builtin rfl (Calls.evalArgs_plain ?_)
  exact thn hA fun us s2 ⟨vs, H2, I2, r2, q2⟩ => hm pins s2 σ H2 (.ref p) vs _ us Q I2 rfl r2 q2
theorem de_index {o : Expr} {apos cpos : Pos} (hu : X.A.units + 65 < cLine) (ho : PE X o (tE X.K g .R fa)) (ha : PE X a (tE X.K g .R fb)) (hr : recvE o = true) (pa : plainE a = true) (hline : (apos.endLine == cpos.line) = true) (hx : ∀ env x, fb env ≠ .exc x) :
    PE X (.Call (.Attribute o "index" apos) [a] [] cpos) (tE X.K g .O fun env => (fa env).bind fun x => (fb env).bind fun y => ofO (prim2 .index x y)) := by
  have r1 := pe_bm PySem.F.plainAttrs_list PySem.F.slot_list_index PySem.F.type_list_index (mt_indexD hu) ho (pa_cons ha pa_nil (star_plain pa _ _)) (base_recv hr _ _ _) (few1 pa cpos X.env) hline (star_plain pa _ _)
  have r2 := pe_bmT (cpos := cpos) PySem.F.slot_tuple_index PySem.F.type_tuple_index mt_tupix ho (pa_cons ha pa_nil (star_plain pa _ _)) hr pa hline
  refine PE.wk (PE.or r1 r2) fun σ H Q ⟨F, env, rel, hd⟩ => ?_
  cases q : fa env with
  | ok d =>
    simp only [q, bind_ok] at hd
    have go : ∀ {H1 F1 : Hp} {S : V → Hp → Prop}, Ext F H F1 H1 → (∀ d2 z, fb env = .ok d2 → prim2 .index d d2 = some z → ∀ v2 H2 F2, Ext F1 H1 F2 H2 → Post X.K .R F2 H2 H2 v2 d2 → (∀ v H' F', Ext F2 H2 F' H' → Post X.K .O F' H2 H' v z → Q v H') → S v2 H2) → tE X.K g .R fb σ H1 S := fun {H1 F1 S} x1 k => by
      refine ⟨F1, env, rel.step x1, ?_⟩
      cases q2 : fb env with
      | ok d2 =>
        simp only [q2, bind_ok] at hd
        intro v2 H2 F2 x2 p2
        cases h : prim2 .index d d2 with
        | none => simp only [h, ofO_none] at hd; exact hd.elim
        | some z =>
          simp only [h, ofO_some] at hd
          exact k d2 z q2 h v2 H2 F2 x2 p2 fun v H' F' x3 p3 => hd v H' F' ((x1.trans x2).trans x3) (p3.back (x1.trans x2))
      | exc x => simp only [q2, bind_exc] at hd; exact fun H' F' x2 => hd H' F' (x1.trans x2)
      | stuck => simp only [q2, bind_stuck] at hd; exact hd.elim
    cases d with
    | list ds =>
      refine .inl ⟨F, env, rel, ?_⟩
      rw [q]
      intro v H1 F1 x1 p1
      obtain ⟨p, vs, rfl, h1, q1⟩ := R_list x1.fh p1
      refine ⟨.inl ⟨rfl, vs, SqL.of h1⟩, go x1 fun d2 z _ h v2 H2 F2 x2 p2 k => ?_⟩
      simp only [prim2] at h
      split at h
      · rename_i sh
        simp only [Bool.and_eq_true] at sh
        obtain ⟨j, e1, e2⟩ := map_some h
        subst e2
        obtain ⟨_, z, e3, e4, e5⟩ := firstIx_some e1
        rw [Nat.sub_zero] at e3 e5
        refine ⟨p, v2, d2, ds, j, z, rfl, rfl, R_dp x2.fh (p1.stepR x2) sh.2, R_dp x2.fh p2 sh.1, sh.2, sh.1, e3, e4, e5, ko_flat x2.fh k (.int _) rfl⟩
      · cases h
    | tuple ds =>
      refine .inr ⟨F, env, rel, ?_⟩
      rw [q]
      intro v H1 F1 x1 p1
      obtain ⟨p, vs, rfl, h0, h1, q1⟩ := R_tuple x1.fh p1
      refine ⟨⟨p, vs, rfl, h0.mono x1.fh⟩, go x1 fun d2 z _ h v2 H2 F2 x2 p2 k => ?_⟩
      simp only [prim2] at h
      split at h
      · rename_i sh
        simp only [Bool.and_eq_true] at sh
        obtain ⟨j, e1, e2⟩ := map_some h
        subst e2
        obtain ⟨_, z, e3, e4, e5⟩ := firstIx_some e1
        rw [Nat.sub_zero] at e3 e5
        have q2 := q1.mono x2.ff
        obtain ⟨f2, dq2⟩ := R_flat p2 sh.1
        have fl := (any_eqV dq2 sh.1 q2 sh.2).2
        obtain ⟨w, e6, dw⟩ := q2.get e3
        have fd : ∀ m z', ds[m]? = some z' → flatD z' = true := fun m z' hz => List.all_eq_true.mp sh.2 z' (List.mem_of_getElem? hz)
        refine ⟨p, vs, v2, j, w, rfl, rfl, ((h0.mono x2.ff).mono x2.fh).sq, f2, fl, e6, by rw [eqV_eqv dw dq2 (fd _ _ e3) sh.1]; exact e4, fun m z' hm hz' => ?_, ko_flat x2.fh k (.int _) rfl⟩
        have hml : m < ds.length := by
          rw [← q2.length]; exact (List.getElem?_eq_some_iff.mp hz').1
        obtain ⟨w', e7, dw'⟩ := q2.get (List.getElem?_eq_getElem hml)
        rw [hz'] at e7
        cases e7
        rw [eqV_eqv dw' dq2 (fd _ _ (List.getElem?_eq_getElem hml)) sh.1]
        exact e5 m _ hm (List.getElem?_eq_getElem hml)
      · cases h
    | _ => exact .inl ⟨F, env, rel, by
        rw [q]
        intro v H1 F1 x1 p1
        exfalso
        cases q2 : fb env with
        | ok d2 => simp [q2, prim2] at hd; exact hd
        | exc x => exact hx _ _ q2
        | stuck => simp [q2] at hd; exact hd⟩
  | exc x => simp only [q, bind_exc] at hd; exact .inl ⟨F, env, rel, by rw [q]; exact hd⟩
  | stuck => simp only [q, bind_stuck] at hd; exact hd.elim
/-! count -/
def rCntF (K : PySem.W.Frag) : V → List V → Hp → VK → Prop := fun x xs H Q => ∃ (p : Addr) (ys : List V) (y : V), x = .ref p ∧ xs = [y] ∧ SqL K H p ys ∧ flatV y = true ∧ ys.all flatV = true ∧ Q (.int (ys.countP fun z => eqV z y : Nat)) H
theorem count_eqU {y : V} : ∀ {ys : List V} {us : List Value}, Vals ys us → ys.all flatV = true → us.countP (eqU y) = ys.countP fun z => eqV z y
  | _, _, .nil, _ => rfl
  | _, _, .cons r t, f => by
    simp only [List.all_cons, Bool.and_eq_true] at f
    rw [List.countP_cons, List.countP_cons, count_eqU t f.2, eqU_of r f.1]
theorem mt_cntF : MtR X "list.count" (rCntF X.K) := by
  intro pins s σ H x xs v us Q I rx rxs h
  obtain ⟨p, ys, y, rfl, rfl, hs, fy, fys, q⟩ := h
  cases rx
  obtain ⟨u, rfl, ru⟩ := rxs.one
  obtain ⟨its, rv, ⟨⟨cls, dd, data, sl⟩, n, ho, hc, hdn, hd⟩, hlen⟩ := I.list hs
  simp only at hc hd
  subst hc hd
  refine call_meets PySem.F.slot_list_count ⟨_, ho, rfl⟩ PySem.F.entry_list_count (PySem.F.args_list_count_2 _ _) (SeqAt.list_countAt p its.toArray n dd sl u (eqU y)) ⟨ho, fun w hw => mem_eqAt ru fy rv fys w (by simpa using hw), ?_⟩
  have ec : its.toArray.toList.countP (eqU y) = ys.countP fun z => eqV z y := count_eqU rv fys
  exact ⟨.int (ys.countP fun z => eqV z y : Nat), H, I.tok _, ⟨s.toks, by rw [ec]⟩, q⟩
theorem count_eqv {K : PySem.W.Frag} {F : Hp} {x : V} {d : D} (hx : Dq K F x d) (fd : flatD d = true) : ∀ {vs : List V} {ds : List D}, DqAll K F vs ds → ds.all flatD = true → (vs.countP fun z => eqV z x) = ds.countP fun z => PyData.eqv z d
  | _, _, .nil, _ => rfl
  | _, _, .cons h r, q => by
    simp only [List.all_cons, Bool.and_eq_true] at q
    rw [List.countP_cons, List.countP_cons, count_eqv hx fd r q.2, eqV_eqv h hx q.1 fd]
theorem de_count {o : Expr} {apos cpos : Pos} (ho : PE X o (tE X.K g .R fa)) (ha : PE X a (tE X.K g .R fb)) (hr : recvE o = true) (pa : plainE a = true) (hline : (apos.endLine == cpos.line) = true) (hx : ∀ env x, fb env ≠ .exc x) :
    PE X (.Call (.Attribute o "count" apos) [a] [] cpos) (tE X.K g .O fun env => (fa env).bind fun x => (fb env).bind fun y => ofO (prim2 .count x y)) := by
  refine PE.wk (pe_bm PySem.F.plainAttrs_list PySem.F.slot_list_count PySem.F.type_list_count mt_cntF ho (pa_cons ha pa_nil (star_plain pa _ _)) (base_recv hr _ _ _) (few1 pa cpos X.env) hline (star_plain pa _ _)) fun σ H Q ⟨F, env, rel, hd⟩ => ⟨F, env, rel, ?_⟩
  cases q : fa env with
  | ok d =>
    simp only [q, bind_ok] at hd
    intro v H1 F1 x1 p1
    cases q2 : fb env with
    | ok d2 =>
      simp only [q2, bind_ok] at hd
      cases d with
      | list ds =>
        obtain ⟨p, vs, rfl, h1, q1⟩ := R_list x1.fh p1
        refine ⟨.inl ⟨rfl, vs, SqL.of h1⟩, F1, env, rel.step x1, ?_⟩
        rw [q2]
        intro v2 H2 F2 x2 p2
        simp only [prim2] at hd
        split at hd
        · rename_i sh
          simp only [Bool.and_eq_true] at sh
          have q3 := q1.mono x2.ff
          obtain ⟨f2, dq2⟩ := R_flat p2 sh.1
          refine ⟨p, vs, v2, rfl, rfl, SqL.of (x2.hh _ _ h1), f2, (any_eqV dq2 sh.1 q3 sh.2).2, ?_⟩
          rw [count_eqv dq2 sh.1 q3 sh.2]
          exact ko_flat x2.fh (fun v H' F' x3 p3 => hd v H' F' ((x1.trans x2).trans x3) (p3.back (x1.trans x2))) (.int _) rfl
        · exact hd.elim
      | _ => exact hd.elim
    | exc x => exact absurd q2 (hx _ _)
    | stuck => simp only [q2, bind_stuck] at hd; exact hd.elim
  | exc x => simp only [q, bind_exc] at hd; exact hd
  | stuck => simp only [q, bind_stuck] at hd; exact hd.elim
end
end DH
set_option Elab.async false
set_option linter.all false
set_option maxRecDepth 100000
/-! DH, part K: when is a text of the language a text of Python; expressions. -/
namespace DH
open PySem L2
open PySem.Spec PyProof.Rows

structure Sx where
  N : List Str
  mu : List Nat
  fns : List (Str × Nat)
  cs : List Str
  dn : List Str
  bl : List Str
  xs : List Str := []
  mths : List (Str × Nat) := []
def Sx.M (S : Sx) (i : Nat) : Bool := S.mu.contains i

def vis (sc : Scope) (x : Str) : Bool := match sc.names.lookup x with
  | some .local => true
  | some .cell => true
  | some .free => true
  | _ => false
def locB (sc : Scope) (x : Str) : Bool := match sc.names.lookup x with
  | some .local => true
  | some .cell => true
  | _ => false
def glo (sc : Scope) (x : Str) : Bool := match sc.names.lookup x with
  | some .globalImplicit => true
  | _ => false
def nmOk (x : Str) : Bool := !(x == ("__debug__" : Str)) && !(x == ("__classdict__" : Str)) && !(x == ("__name__" : Str)) && !(x == ("" : Str))
def cstOk : D → Const → Bool
  | .none, .none => true
  | .bool a, .bool b => a == b
  | .int a, .int b => a == b
  | .str a, .str b => a == b
  | _, _ => false

/-! ### forms -/
def asCall1 (S : Sx) (sc : Scope) (n : Str) : Expr → Option Expr
  | .Call (.Name x _) [a] [] _ => if x == n && S.bl.contains n && glo sc n && nmOk n then some a else none
  | _ => none
def asCall2 (S : Sx) (sc : Scope) (n : Str) : Expr → Option (Expr × Expr)
  | .Call (.Name x _) [a, b] [] _ => if x == n && S.bl.contains n && glo sc n && nmOk n then some (a, b) else none
  | _ => none
def asBin (op : Operator) : Expr → Option (Expr × Expr)
  | .BinOp a o b _ => if o = op then some (a, b) else none
  | _ => none
def asCmp (op : CmpOp) : Expr → Option (Expr × Expr)
  | .Compare a [o] [b] _ => if o = op then some (a, b) else none
  | _ => none
def asMeth1 (n : Str) : Expr → Option (Expr × Expr)
  | .Call (.Attribute o m ap) [a] [] cp => if m == n && ap.endLine == cp.line && recvE o then some (o, a) else none
  | _ => none
def asIsN (op : CmpOp) : Expr → Option Expr
  | .Compare a [o] [.Constant .none _ _] _ => if o = op then some a else none
  | _ => none
def asNeg : Expr → Option Expr
  | .UnaryOp .USub a _ => some a
  | _ => none
def asRev : Expr → Option Expr
  | .Subscript a (.Slice none none (some (.UnaryOp .USub (.Constant (.int 1) _ _) _)) _) _ => some a
  | _ => none
def asMid (i j : Int) : Expr → Option Expr
  | .Subscript a (.Slice (some (.Constant (.int x) _ _)) (some (.Constant (.int y) _ _)) none _) _ => if x == i && y == j then some a else none
  | _ => none
def asMaxd (S : Sx) (sc : Scope) : Expr → Option Expr
  | .Call (.Name x _) [a] [⟨some k, .UnaryOp .USub (.Constant (.int z) _ _) _, _⟩] _ => if x == ("max" : Str) && k == ("default" : Str) && z == 1 && S.bl.contains "max" && glo sc "max" then some a else none
  | _ => none
def asJoin : Expr → Option Expr
  | .Call (.Attribute (.Constant (.str y) _ _) m ap) [a] [] cp => if m == ("join" : Str) && y == spc && ap.endLine == cp.line then some a else none
  | _ => none
def isNm : Expr → Bool
  | .Name _ _ => true
  | _ => false
def asSplit : Expr → Option Expr
  | .Call (.Attribute o m ap) [.Constant (.str y) _ _] [] cp => if m == ("split" : Str) && y == spc && ap.endLine == cp.line && isNm o then some o else none
  | _ => none
def asFrm : Expr → Option (Expr × Expr)
  | .Subscript a (.Slice (some b) none none _) _ => some (a, b)
  | _ => none
def asUpto : Expr → Option (Expr × Expr)
  | .Subscript a (.Slice none (some b) none _) _ => some (a, b)
  | _ => none
def asIdx : Expr → Option (Expr × Expr)
  | .Subscript a b _ => some (a, b)
  | _ => none
def asDget (S : Sx) (sc : Scope) (j : Nat) : Expr → Option Expr
  | .Subscript (.Name x _) a _ => if decide (S.dn[j]? = some x) && glo sc x && nmOk x then some a else none
  | _ => none
def asDnot (S : Sx) (sc : Scope) (j : Nat) : Expr → Option Expr
  | .Compare a [.NotIn] [.Name x _] _ => if decide (S.dn[j]? = some x) && glo sc x && nmOk x then some a else none
  | _ => none
def asIsi (S : Sx) (sc : Scope) (t : Ty) (e : Expr) : Option Expr := match asCall2 S sc "isinstance" e with
  | some (a, .Name y _) => if y == (tyN t : Str) && S.bl.contains y && glo sc y && nmOk y then some a else none
  | _ => none
def asFld (j : Nat) : Expr → Option Expr
  | .Attribute x f _ => if fldN j == f && recvE x then some x else none
  | _ => none
def asRng (S : Sx) (sc : Scope) (e : Expr) : Option Expr := match asCall1 S sc "list" e with
  | some r => asCall1 S sc "range" r
  | none => none

section
variable {S : Sx} {sc : Scope} {n : Str} {e a b : Expr}
theorem glo_iff {x : Str} (h : glo sc x = true) : sc.names.lookup x = some .globalImplicit := by
  unfold glo at h
  split at h
  · assumption
  · cases h
theorem asCall1_inv (h : asCall1 S sc n e = some a) : ∃ p pos, e = .Call (.Name n p) [a] [] pos ∧ n ∈ S.bl ∧ glo sc n = true ∧ nmOk n = true := by
  unfold asCall1 at h
  split at h
  · split at h
    · rename_i q
      simp only [Bool.and_eq_true, List.contains_iff_mem] at q
      cases h
      obtain ⟨⟨⟨q1, q2⟩, q3⟩, q4⟩ := q
      have e1 := eq_of_beq q1
      subst e1
      exact ⟨_, _, rfl, q2, q3, q4⟩
    · cases h
  · cases h
theorem asCall2_inv (h : asCall2 S sc n e = some (a, b)) : ∃ p pos, e = .Call (.Name n p) [a, b] [] pos ∧ n ∈ S.bl ∧ glo sc n = true ∧ nmOk n = true := by
  unfold asCall2 at h
  split at h
  · split at h
    · rename_i q
      simp only [Bool.and_eq_true, List.contains_iff_mem] at q
      cases h
      obtain ⟨⟨⟨q1, q2⟩, q3⟩, q4⟩ := q
      have e1 := eq_of_beq q1
      subst e1
      exact ⟨_, _, rfl, q2, q3, q4⟩
    · cases h
  · cases h
theorem asBin_inv {op : Operator} (h : asBin op e = some (a, b)) : ∃ pos, e = .BinOp a op b pos := by
  unfold asBin at h
  split at h
  · split at h
    · rename_i q; subst q; cases h; exact ⟨_, rfl⟩
    · cases h
  · cases h
theorem asCmp_inv {op : CmpOp} (h : asCmp op e = some (a, b)) : ∃ pos, e = .Compare a [op] [b] pos := by
  unfold asCmp at h
  split at h
  · split at h
    · rename_i q; subst q; cases h; exact ⟨_, rfl⟩
    · cases h
  · cases h
theorem asMeth1_inv (h : asMeth1 n e = some (a, b)) : ∃ ap cp, e = .Call (.Attribute a n ap) [b] [] cp ∧ (ap.endLine == cp.line) = true ∧ recvE a = true := by
  unfold asMeth1 at h
  split at h
  · split at h
    · rename_i q
      simp only [Bool.and_eq_true] at q
      have e1 := eq_of_beq q.1.1
      subst e1
      cases h
      exact ⟨_, _, rfl, q.1.2, q.2⟩
    · cases h
  · cases h
theorem asIsN_inv {op : CmpOp} (h : asIsN op e = some a) : ∃ j p pos, e = .Compare a [op] [.Constant .none j p] pos := by
  unfold asIsN at h
  split at h
  · split at h
    · rename_i q; subst q; cases h; exact ⟨_, _, _, rfl⟩
    · cases h
  · cases h
theorem asNeg_inv (h : asNeg e = some a) : ∃ pos, e = .UnaryOp .USub a pos := by
  unfold asNeg at h
  split at h
  · cases h; exact ⟨_, rfl⟩
  · cases h
theorem asRev_inv (h : asRev e = some a) : ∃ k p1 p2 p3 pos, e = .Subscript a (.Slice none none (some (.UnaryOp .USub (.Constant (.int 1) k p1) p2)) p3) pos := by
  unfold asRev at h
  split at h
  · cases h; exact ⟨_, _, _, _, _, rfl⟩
  · cases h
theorem asMid_inv {i j : Int} (h : asMid i j e = some a) : ∃ k1 p1 k2 p2 p pos, e = .Subscript a (.Slice (some (.Constant (.int i) k1 p1)) (some (.Constant (.int j) k2 p2)) none p) pos := by
  unfold asMid at h
  split at h
  · split at h
    · rename_i q
      simp only [Bool.and_eq_true] at q
      have e1 := eq_of_beq q.1
      have e2 := eq_of_beq q.2
      subst e1 e2
      cases h
      exact ⟨_, _, _, _, _, _, rfl⟩
    · cases h
  · cases h
theorem asMaxd_inv (h : asMaxd S sc e = some a) : ∃ p kk p1 p2 p3 pos, e = .Call (.Name "max" p) [a] [⟨some "default", .UnaryOp .USub (.Constant (.int 1) kk p1) p2, p3⟩] pos ∧ ("max" : Str) ∈ S.bl ∧ glo sc "max" = true := by
  unfold asMaxd at h
  split at h
  · split at h
    · rename_i q
      simp only [Bool.and_eq_true, List.contains_iff_mem] at q
      obtain ⟨⟨⟨⟨q1, q2⟩, q3⟩, q4⟩, q5⟩ := q
      have e1 := eq_of_beq q1
      have e2 := eq_of_beq q2
      have e3 := eq_of_beq q3
      subst e1 e2 e3
      cases h
      exact ⟨_, _, _, _, _, _, rfl, q4, q5⟩
    · cases h
  · cases h
theorem asJoin_inv (h : asJoin e = some a) : ∃ k1 p1 ap cp, e = .Call (.Attribute (.Constant (.str spc) k1 p1) "join" ap) [a] [] cp ∧ (ap.endLine == cp.line) = true := by
  unfold asJoin at h
  split at h
  · split at h
    · rename_i q
      simp only [Bool.and_eq_true] at q
      have e1 := eq_of_beq q.1.1
      have e2 := eq_of_beq q.1.2
      subst e1 e2
      cases h
      exact ⟨_, _, _, _, rfl, q.2⟩
    · cases h
  · cases h
theorem asSplit_inv (h : asSplit e = some a) : ∃ x p2 k1 p1 ap cp, a = .Name x p2 ∧ e = .Call (.Attribute (.Name x p2) "split" ap) [.Constant (.str spc) k1 p1] [] cp ∧ (ap.endLine == cp.line) = true := by
  unfold asSplit at h
  split at h
  · split at h
    · rename_i q
      simp only [Bool.and_eq_true] at q
      have e1 := eq_of_beq q.1.1.1
      have e2 := eq_of_beq q.1.1.2
      have q3 := q.2
      have q2 := q.1.2
      subst e1 e2
      cases h
      unfold isNm at q3
      split at q3
      · exact ⟨_, _, _, _, _, _, rfl, rfl, q2⟩
      · cases q3
    · cases h
  · cases h
theorem asFrm_inv (h : asFrm e = some (a, b)) : ∃ p pos, e = .Subscript a (.Slice (some b) none none p) pos := by
  unfold asFrm at h
  split at h
  · cases h; exact ⟨_, _, rfl⟩
  · cases h
theorem asUpto_inv (h : asUpto e = some (a, b)) : ∃ p pos, e = .Subscript a (.Slice none (some b) none p) pos := by
  unfold asUpto at h
  split at h
  · cases h; exact ⟨_, _, rfl⟩
  · cases h
theorem asIdx_inv (h : asIdx e = some (a, b)) : ∃ pos, e = .Subscript a b pos := by
  unfold asIdx at h
  split at h
  · cases h; exact ⟨_, rfl⟩
  · cases h
theorem asDget_inv {j : Nat} (h : asDget S sc j e = some a) : ∃ x p pos, e = .Subscript (.Name x p) a pos ∧ S.dn[j]? = some x ∧ glo sc x = true ∧ nmOk x = true := by
  unfold asDget at h
  split at h
  · split at h
    · rename_i q
      simp only [Bool.and_eq_true, decide_eq_true_eq] at q
      cases h
      exact ⟨_, _, _, rfl, q.1.1, q.1.2, q.2⟩
    · cases h
  · cases h
theorem asDnot_inv {j : Nat} (h : asDnot S sc j e = some a) : ∃ x p pos, e = .Compare a [.NotIn] [.Name x p] pos ∧ S.dn[j]? = some x ∧ glo sc x = true ∧ nmOk x = true := by
  unfold asDnot at h
  split at h
  · split at h
    · rename_i q
      simp only [Bool.and_eq_true, decide_eq_true_eq] at q
      cases h
      exact ⟨_, _, _, rfl, q.1.1, q.1.2, q.2⟩
    · cases h
  · cases h
theorem asIsi_inv {t : Ty} (h : asIsi S sc t e = some a) : ∃ p p1 pos, e = .Call (.Name "isinstance" p) [a, .Name (tyN t : Str) p1] [] pos ∧ ("isinstance" : Str) ∈ S.bl ∧ glo sc "isinstance" = true ∧ (tyN t : Str) ∈ S.bl ∧ glo sc (tyN t : Str) = true := by
  unfold asIsi at h
  split at h
  · rename_i q
    obtain ⟨p, pos, e1, h1, h2, h3⟩ := asCall2_inv q
    split at h
    · rename_i q2
      simp only [Bool.and_eq_true, List.contains_iff_mem] at q2
      have e2 := eq_of_beq q2.1.1.1
      subst e2
      cases h
      exact ⟨_, _, _, e1, h1, h2, q2.1.1.2, q2.1.2⟩
    · cases h
  · cases h
theorem asFld_inv {j : Nat} (h : asFld j e = some a) : ∃ pos, e = .Attribute a (fldN j) pos ∧ recvE a = true := by
  unfold asFld at h
  split at h
  · split at h
    · rename_i q
      simp only [Bool.and_eq_true] at q
      have e1 := eq_of_beq q.1
      subst e1
      cases h
      exact ⟨_, rfl, q.2⟩
    · cases h
  · cases h
theorem asRng_inv (h : asRng S sc e = some a) : ∃ p p1 pos1 pos, e = .Call (.Name "list" p) [.Call (.Name "range" p1) [a] [] pos1] [] pos ∧ ("list" : Str) ∈ S.bl ∧ glo sc "list" = true ∧ ("range" : Str) ∈ S.bl ∧ glo sc "range" = true := by
  unfold asRng at h
  split at h
  · rename_i q
    obtain ⟨p, pos, e1, h1, h2, h3⟩ := asCall1_inv q
    obtain ⟨p', pos', e2, h4, h5, h6⟩ := asCall1_inv h
    subst e2
    exact ⟨_, _, _, _, e1, h1, h2, h4, h5⟩
  · cases h
end

/-! ### modes -/
def mle : Md → Md → Bool
  | .O, _ => true
  | .V, .O => false
  | .V, _ => true
  | .R, .R => true
  | .R, _ => false
def mmax : Md → Md → Md
  | .R, _ => .R
  | _, .R => .R
  | .V, _ => .V
  | _, .V => .V
  | .O, .O => .O
def md1 : P1 → Md
  | .fld _ => .V
  | _ => .O
def md2 : P2 → Md
  | .idx => .V
  | _ => .O
def md (M : Nat → Bool) : Ex → Md
  | .var i => if M i then .R else .V
  | .cst _ => .O
  | .glb _ => .V
  | .op1 p _ => md1 p
  | .op2 p _ _ => md2 p
  | .chain _ _ _ _ _ => .O
  | .and _ b => md M b
  | .or _ b => md M b
  | .not _ => .O
  | .ite _ a b => mmax (md M a) (md M b)
  | .call _ _ => .V
  | .tup _ => .O
  | .lst _ => .O
  | .comp _ _ _ _ _ => .O
theorem up {K : PySem.W.Frag} {g : Gh} {X : Cx} {e : Expr} {m m' : Md} {f : Env → Res D} (h : PE X e (tE K g m f)) (l : mle m m' = true) : PE X e (tE K g m' f) := by
  cases m <;> cases m' <;> first | exact h | exact PE.wk h (fun _ _ _ => tE_O_V) | exact PE.wk h (fun _ _ _ => tE_O_R) | exact PE.wk h (fun _ _ _ => tE_V_R) | cases l
theorem mle_refl (m : Md) : mle m m = true := by cases m <;> rfl
theorem mle_R (m : Md) : mle m .R = true := by cases m <;> rfl
theorem mle_max1 (m n : Md) : mle m (mmax m n) = true := by cases m <;> cases n <;> rfl
theorem mle_max2 (m n : Md) : mle n (mmax m n) = true := by cases m <;> cases n <;> rfl

/-- no call within -/
def noCall : Ex → Bool
  | .call _ _ => false
  | .op1 _ a => noCall a
  | .op2 _ a b => noCall a && noCall b
  | .var _ => true
  | .cst _ => true
  | .glb _ => true
  | _ => false
theorem noCall_ok {c : Orc} {G : Gd} : ∀ {e : Ex}, noCall e = true → ∀ env x, ev c G e env ≠ .exc x
  | .var i, _, env, x => by
    unfold ev get
    split <;> simp
  | .cst d, _, env, x => by simp [ev]
  | .glb i, _, env, x => by
    unfold ev
    split
    · cases G.cs[i]? <;> simp [ofO]
    · simp
  | .op1 p a, h, env, x => by
    unfold noCall at h
    unfold ev
    cases q : ev c G a env with
    | ok d =>
      simp only [bind_ok]
      cases prim1 G p d <;> simp [ofO]
    | exc y => exact absurd q (noCall_ok h env y)
    | stuck => simp
  | .op2 p a b, h, env, x => by
    unfold noCall at h
    simp only [Bool.and_eq_true] at h
    unfold ev
    cases q : ev c G a env with
    | ok d =>
      simp only [bind_ok]
      cases q2 : ev c G b env with
      | ok d2 =>
        simp only [bind_ok]
        cases prim2 p d d2 <;> simp [ofO]
      | exc y => exact absurd q2 (noCall_ok h.2 env y)
      | stuck => simp
    | exc y => exact absurd q (noCall_ok h.1 env y)
    | stuck => simp
  | .chain .., h, _, _ => by simp [noCall] at h
  | .and .., h, _, _ => by simp [noCall] at h
  | .or .., h, _, _ => by simp [noCall] at h
  | .not .., h, _, _ => by simp [noCall] at h
  | .ite .., h, _, _ => by simp [noCall] at h
  | .call .., h, _, _ => by simp [noCall] at h
  | .tup .., h, _, _ => by simp [noCall] at h
  | .lst .., h, _, _ => by simp [noCall] at h
  | .comp .., h, _, _ => by simp [noCall] at h

def noCalls : Exs → Bool
  | .nil => true
  | .cons a r => noCall a && noCalls r
def cmpOp : P2 → Option CmpOp
  | .lt => some .Lt
  | .le => some .LtE
  | .gt => some .Gt
  | .ge => some .GtE
  | .eq => some .Eq
  | .ne => some .NotEq
  | .isin => some .In
  | .notin => some .NotIn
  | _ => none
/-- the operand of a one-place form -/
def sh1 (S : Sx) (sc : Scope) : P1 → Expr → Option Expr
  | .len, e => asCall1 S sc "len" e
  | .sum, e => asCall1 S sc "sum" e
  | .sorted, e => asCall1 S sc "sorted" e
  | .lenset, e => (asCall1 S sc "len" e).bind (asCall1 S sc "set")
  | .sortset, e => (asCall1 S sc "sorted" e).bind (asCall1 S sc "set")
  | .tuple, e => asCall1 S sc "tuple" e
  | .list, e => asCall1 S sc "list" e
  | .max, e => asCall1 S sc "max" e
  | .min, e => asCall1 S sc "min" e
  | .int, e => asCall1 S sc "int" e
  | .bool, e => asCall1 S sc "bool" e
  | .str, e => asCall1 S sc "str" e
  | .rev, e => asRev e
  | .isN, e => asIsN .Is e
  | .notN, e => asIsN .IsNot e
  | .neg, e => asNeg e
  | .rng, e => asRng S sc e
  | .dget j, e => asDget S sc j e
  | .dnotin j, e => asDnot S sc j e
  | .isi t, e => asIsi S sc t e
  | .maxd, e => asMaxd S sc e
  | .mid i j, e => asMid i j e
  | .joinsp, e => asJoin e
  | .splitsp, e => asSplit e
  | .fld j, e => asFld j e
def sh2 (S : Sx) (sc : Scope) : P2 → Expr → Option (Expr × Expr)
  | .add, e => asBin .Add e
  | .sub, e => asBin .Sub e
  | .mul, e => asBin .Mult e
  | .fdiv, e => asBin .FloorDiv e
  | .mod, e => asBin .Mod e
  | .pow, e => asBin .Pow e
  | .lt, e => asCmp .Lt e
  | .le, e => asCmp .LtE e
  | .gt, e => asCmp .Gt e
  | .ge, e => asCmp .GtE e
  | .eq, e => asCmp .Eq e
  | .ne, e => asCmp .NotEq e
  | .isin, e => asCmp .In e
  | .notin, e => asCmp .NotIn e
  | .idx, e => asIdx e
  | .max2, e => asCall2 S sc "max" e
  | .min2, e => asCall2 S sc "min" e
  | .index, e => asMeth1 "index" e
  | .count, e => asMeth1 "count" e
  | .frm, e => asFrm e
  | .upto, e => asUpto e
def sh2x (p : P2) (b : Ex) : Bool := match p with
  | .index => noCall b
  | .count => noCall b
  | _ => true

def chkTg (S : Sx) (sc : Scope) (bs : Scope) : Tg → Expr → Bool
  | .one i, .Name x _ => decide (S.N[i]? = some x) && locB sc x && (match bs.names.lookup x with | some .cell => true | _ => (match sc.names.lookup x with | some .local => true | _ => false)) && !S.M i
  | .two i j, .Tuple [.Name x _, .Name y _] _ _ => decide (S.N[i]? = some x) && locB sc x && (match bs.names.lookup x with | some .cell => true | _ => (match sc.names.lookup x with | some .local => true | _ => false)) && !S.M i &&
      decide (S.N[j]? = some y) && locB sc y && (match bs.names.lookup y with | some .cell => true | _ => (match sc.names.lookup y with | some .local => true | _ => false)) && !S.M j
  | _, _ => false
def isTwo : Tg → Bool
  | .two _ _ => true
  | _ => false
def Exs.len : Exs → Nat
  | .nil => 0
  | .cons _ as => as.len + 1

mutual
def chkE (S : Sx) (sc : Scope) : Ex → Expr → Bool
  | .var i, e => match e with
    | .Name x _ => decide (S.N[i]? = some x) && vis sc x && nmOk x
    | _ => false
  | .cst d, e => match e with
    | .Constant k _ _ => cstOk d k
    | _ => false
  | .glb i, e => decide (1000 ≤ i) || match e with
    | .Name x _ => decide (S.cs[i]? = some x) && glo sc x && nmOk x
    | _ => false
  | .op1 p a, e => match sh1 S sc p e with
    | some x => chkE S sc a x && plainE x
    | none => false
  | .op2 p a b, e => match sh2 S sc p e with
    | some (x, y) => chkE S sc a x && chkE S sc b y && plainE x && plainE y && sh2x p b
    | none => false
  | .chain p q a b c, e => match e with
    | .Compare x [o, o'] [y, z] _ => decide (cmpOp p = some o) && decide (cmpOp q = some o') && chkE S sc a x && chkE S sc b y && chkE S sc c z && plainE y && plainE z
    | _ => false
  | .and a b, e => match e with
    | .BoolOp .And (x :: y :: rest) pos => chkE S sc a x && (match rest with | [] => chkE S sc b y | _ => chkE S sc b (.BoolOp .And (y :: rest) pos))
    | _ => false
  | .or a b, e => match e with
    | .BoolOp .Or (x :: y :: rest) pos => chkE S sc a x && (match rest with | [] => chkE S sc b y | _ => chkE S sc b (.BoolOp .Or (y :: rest) pos))
    | _ => false
  | .not a, e => match e with
    | .UnaryOp .Not x _ => chkE S sc a x
    | _ => false
  | .ite t a b, e => match e with
    | .IfExp c x y _ => chkT S sc t c && chkE S sc a x && chkE S sc b y
    | _ => false
  | .call f as, e => match e with
    | .Call (.Name x _) (y :: ys) [] _ => decide (S.fns[f]? = some (x, as.len)) && glo sc x && nmOk x && chkL S sc as (y :: ys)
    | .Call (.Attribute o m ap) ys [] cp => (match as with
      | .cons a rest => decide (S.mths[f]? = some (m, rest.len + 1)) && nmOk m && mnOk m && chkE S sc a o && mle (md S.M a) .V && recvE o && chkL S sc rest ys && noCalls rest && decide (ys.length < 25) && ap.endLine == cp.line
      | .nil => false)
    | _ => false
  | .tup as, e => match e with
    | .Tuple es _ _ => chkL S sc as es && decide (as.len ≤ LIM)
    | _ => false
  | .lst as, e => match e with
    | .List es _ => chkL S sc as es && decide (as.len ≤ LIM)
    | _ => false
  | .comp elt t it cs own, e => match e with
    | .ListComp x [⟨tg, iter, ifs, as⟩] scope _ => decide (as = 0) && blkC S.N sc scope own && chkTg S (relS scope sc) scope t tg && (tgSlots t).all (fun i => (own.map (·.2)).contains i) && chkI S sc false (isTwo t) it iter && plainE iter &&
        chkTs S (relS scope sc) cs ifs && chkE S (relS scope sc) elt x && mle (md S.M elt) .V
    | _ => false
/-- as a test -/
def chkT (S : Sx) (sc : Scope) : Ex → Expr → Bool
  | .and a b, e => match e with
    | .BoolOp .And (x :: y :: rest) pos => chkT S sc a x && (match rest with | [] => chkT S sc b y | _ => chkT S sc b (.BoolOp .And (y :: rest) pos))
    | _ => false
  | .or a b, e => match e with
    | .BoolOp .Or (x :: y :: rest) pos => chkT S sc a x && (match rest with | [] => chkT S sc b y | _ => chkT S sc b (.BoolOp .Or (y :: rest) pos))
    | _ => false
  | .not a, e => match e with
    | .UnaryOp .Not x _ => chkT S sc a x
    | _ => false
  | .ite _ _ _, _ => false
  | .var i, e => match e with
    | .Name x _ => decide (S.N[i]? = some x) && vis sc x && nmOk x
    | _ => false
  | .cst d, e => match e with
    | .Constant k _ _ => cstOk d k
    | _ => false
  | .glb i, e => decide (1000 ≤ i)
  | .op1 p a, e => match sh1 S sc p e with
    | some x => chkE S sc a x && plainE x
    | none => false
  | .op2 p a b, e => match sh2 S sc p e with
    | some (x, y) => chkE S sc a x && chkE S sc b y && plainE x && plainE y && sh2x p b
    | none => false
  | .chain p q a b c, e => match e with
    | .Compare x [o, o'] [y, z] _ => decide (cmpOp p = some o) && decide (cmpOp q = some o') && chkE S sc a x && chkE S sc b y && chkE S sc c z && plainE y && plainE z
    | _ => false
  | .call f as, e => match e with
    | .Call (.Name x _) (y :: ys) [] _ => decide (S.fns[f]? = some (x, as.len)) && glo sc x && nmOk x && chkL S sc as (y :: ys)
    | _ => false
  | .tup as, e => false
  | .lst as, e => false
  | .comp elt t it cs own, e => match e with
    | .ListComp x [⟨tg, iter, ifs, as⟩] scope _ => decide (as = 0) && blkC S.N sc scope own && chkTg S (relS scope sc) scope t tg && (tgSlots t).all (fun i => (own.map (·.2)).contains i) && chkI S sc false (isTwo t) it iter && plainE iter &&
        chkTs S (relS scope sc) cs ifs && chkE S (relS scope sc) elt x && mle (md S.M elt) .V
    | _ => false
/-- arguments, items: frozen -/
def chkL (S : Sx) (sc : Scope) : Exs → List Expr → Bool
  | .nil, es => match es with
    | [] => true
    | _ => false
  | .cons a as, es => match es with
    | x :: r => chkE S sc a x && mle (md S.M a) .V && plainE x && chkL S sc as r
    | [] => false
def chkTs (S : Sx) (sc : Scope) : Exs → List Expr → Bool
  | .nil, es => match es with
    | [] => true
    | _ => false
  | .cons a .nil, es => match es with
    | [x] => chkT S sc a x
    | _ => false
  | .cons _ (.cons _ _), _ => false
def chkI (S : Sx) (sc : Scope) (fz two : Bool) : Ir → Expr → Bool
  | .seq a, e => chkE S sc a e && mle (md S.M a) (mI fz)
  | .rng a, e => match asCall1 S sc "range" e with
    | some x => chkE S sc a x && plainE x
    | none => false
  | .rng2 a b, e => match asCall2 S sc "range" e with
    | some (x, y) => chkE S sc a x && chkE S sc b y && plainE x && plainE y
    | none => false
  | .enum a, e => match asCall1 S sc "enumerate" e with
    | some x => chkE S sc a x && plainE x && mle (md S.M a) (mI fz) && two
    | none => false
  | .zip a b, e => match asCall2 S sc "zip" e with
    | some (x, y) => chkE S sc a x && chkE S sc b y && plainE x && plainE y && mle (md S.M a) (mI fz) && mle (md S.M b) (mI fz) && two
    | none => false
end
end DH
set_option Elab.async false
set_option linter.all false
set_option maxRecDepth 100000
/-! DH, part L: the forms are kept: expressions. -/
namespace DH
open PySem L2
open PySem.Spec PyProof.Rows

structure Good (S : Sx) (G : Gd) (c : Orc) (k : Nat) (X : Cx) (g : Gh) (sc : Scope) : Prop where
  N : X.N = S.N
  nd : S.N.Nodup
  sc : X.env.scope = sc
  calm : X.calm = true
  M : g.M = S.M
  room : Room (k + 2) X.A
  tk : Takes X g.W
  fn : ∀ (f : Nat) (x : Str) (n : Nat), S.fns[f]? = some (x, n) → x ≠ "" → DefOk X.prog X.w X.K X.mg X.base g.C k x n (c f)
  cs : ∀ (i : Nat) (x : Str), S.cs[i]? = some x → x ≠ "" → ∃ v u d, G.cs[i]? = some d ∧ X.mg x = some u ∧ RelV v u ∧ Dq X.K (fun _ => none) v d
  dn : ∀ (i : Nat) (x : Str), S.dn[i]? = some x → x ≠ "" → ∃ A t, G.ds[i]? = some t ∧ X.mg x = some (.ref A) ∧ IntDict X.K A t
  bl : ∀ x ∈ S.bl, X.mg x = none
  pe : ∀ v, g.C 15 = some v → PErr X.prog X.w X.K X.mg X.base v
  wk : ∀ A, WkC X.K A → Cls X.K A ∧ ∀ i, NoAttr X.K A (fldN i)
  mth : ∀ (f : Nat) (x : Str) (n : Nat), S.mths[f]? = some (x, n) → x ≠ "" → (∃ A, WkC X.K A) ∧ MthOk X.prog X.w X.K X.mg X.base g.C k x n (c f)

theorem bo_len : bootBuiltins "len" = some (.builtin "len") := by decide +kernel
theorem bo_sum : bootBuiltins "sum" = some (.builtin "sum") := by decide +kernel
theorem bo_sorted : bootBuiltins "sorted" = some (.builtin "sorted") := by decide +kernel
theorem bo_set : bootBuiltins "set" = some (.type "set") := by decide +kernel
theorem bo_max : bootBuiltins "max" = some (.builtin "max") := by decide +kernel
theorem bo_min : bootBuiltins "min" = some (.builtin "min") := by decide +kernel
theorem bo_isi : bootBuiltins "isinstance" = some (.builtin "isinstance") := by decide +kernel
theorem bo_tuple : bootBuiltins "tuple" = some (.type "tuple") := by decide +kernel
theorem bo_list : bootBuiltins "list" = some (.type "list") := by decide +kernel
theorem bo_int : bootBuiltins "int" = some (.type "int") := by decide +kernel
theorem bo_bool : bootBuiltins "bool" = some (.type "bool") := by decide +kernel
theorem bo_str : bootBuiltins "str" = some (.type "str") := by decide +kernel
theorem bo_ty (t : Ty) : bootBuiltins (tyN t : Str) = some (.type (tyN t)) := by
  cases t
  · exact bo_int
  · exact bo_bool
  · exact bo_tuple
  · exact bo_list
  · exact bo_str

section
variable {S : Sx} {G : Gd} {c : Orc} {k : Nat} {X : Cx} {g : Gh} {sc : Scope}
theorem Good.gl (O : Good S G c k X g sc) {x : Str} (h : glo sc x = true) : Gl X x := by
  have e := glo_iff h
  rw [← O.sc] at e
  exact e
theorem nmOk_inv {x : Str} (h : nmOk x = true) : (x == ("__debug__" : Str)) = false ∧ (x == ("__classdict__" : Str)) = false ∧ x ≠ "__name__" := by
  unfold nmOk at h
  simp only [Bool.and_eq_true, Bool.not_eq_true'] at h
  exact ⟨h.1.1.1, h.1.1.2, fun e => by rw [e] at h; exact absurd h.1.2 (by decide)⟩
theorem nmOk_ne {x : Str} (h : nmOk x = true) : x ≠ "" := by
  unfold nmOk at h
  simp only [Bool.and_eq_true, Bool.not_eq_true', beq_eq_false_iff_ne] at h
  exact h.2
theorem Good.blt (O : Good S G c k X g sc) {x : Str} {v : Value} (h : x ∈ S.bl) (hg : glo sc x = true) (hn : nmOk x = true) (hb : bootBuiltins x = some v) : Blt X x v :=
  let ⟨a, _, b⟩ := nmOk_inv hn
  ⟨O.gl hg, O.bl x h, hb, b, a⟩
theorem Good.u64 (O : Good S G c k X g sc) : X.A.units + 64 < cLine := O.room.units
theorem Good.u65 (O : Good S G c k X g sc) : X.A.units + 65 < cLine := by have := O.room.un; omega
theorem Good.vis (O : Good S G c k X g sc) {x : Str} (h : DH.vis sc x = true) : Vis X.env.scope x := by
  rw [O.sc]
  unfold DH.vis at h
  split at h <;> first | (rename_i q; first | exact .inl q | exact .inr (.inl q) | exact .inr (.inr q)) | cases h
theorem Good.blk (O : Good S G c k X g sc) (s : Shared) (H : Hp) (scope : Scope) (C : Addr) (cl : List (Str × Addr)) (fp : List Addr) : Good S G c k (X.blk s H scope (compEnvC scope cl C X.env) fp) (gN g) (relS scope sc) where
  N := O.N
  nd := O.nd
  sc := by rw [← O.sc]; rfl
  calm := O.calm
  M := O.M
  room := O.room
  tk := takes0
  fn := O.fn
  cs := O.cs
  dn := O.dn
  bl := O.bl
  pe := O.pe
  wk := O.wk
  mth := O.mth

/-- comparisons -/
theorem cmp_ok (O : Good S G c k X g sc) {p : P2} {op : CmpOp} (h : cmpOp p = some op) : ∃ r, CmpOk X op p r := by
  cases p <;> first | (cases h; first | exact ⟨_, ck_lt⟩ | exact ⟨_, ck_le⟩ | exact ⟨_, ck_gt⟩ | exact ⟨_, ck_ge⟩ | exact ⟨_, ck_eq O.u64⟩ | exact ⟨_, ck_ne O.u64⟩ | exact ⟨_, ck_in O.u65⟩ | exact ⟨_, ck_notin O.u65⟩) | cases h

theorem ok1 {p : P1} {e x : Expr} {fa : Env → Res D} (O : Good S G c k X g sc) (h : sh1 S sc p e = some x) (ha : PE X x (tE X.K g .R fa)) (pa : plainE x = true) :
    PE X e (tE X.K g (md1 p) fun env => (fa env).bind fun d => ofO (prim1 G p d)) := by
  cases p with
  | len => obtain ⟨p, pos, rfl, h1, h2, h3⟩ := asCall1_inv h; exact de_len (O.blt h1 h2 h3 bo_len) ha pa
  | sum => obtain ⟨p, pos, rfl, h1, h2, h3⟩ := asCall1_inv h; exact de_sum O.calm (O.blt h1 h2 h3 bo_sum) ha pa
  | sorted => obtain ⟨p, pos, rfl, h1, h2, h3⟩ := asCall1_inv h; exact de_sorted (O.blt h1 h2 h3 bo_sorted) ha pa
  | lenset =>
    obtain ⟨e1, q1, q2⟩ := Option.bind_eq_some_iff.mp h
    obtain ⟨p, pos, rfl, h1, h2, h3⟩ := asCall1_inv q1
    obtain ⟨p', pos', rfl, h4, h5, h6⟩ := asCall1_inv q2
    exact de_lenset O.calm (O.blt h1 h2 h3 bo_len) (O.blt h4 h5 h6 bo_set) ha pa
  | sortset =>
    obtain ⟨e1, q1, q2⟩ := Option.bind_eq_some_iff.mp h
    obtain ⟨p, pos, rfl, h1, h2, h3⟩ := asCall1_inv q1
    obtain ⟨p', pos', rfl, h4, h5, h6⟩ := asCall1_inv q2
    exact de_sortset O.calm (O.blt h1 h2 h3 bo_sorted) (O.blt h4 h5 h6 bo_set) ha pa
  | tuple => obtain ⟨p, pos, rfl, h1, h2, h3⟩ := asCall1_inv h; exact de_tuple (O.blt h1 h2 h3 bo_tuple) ha pa
  | list => obtain ⟨p, pos, rfl, h1, h2, h3⟩ := asCall1_inv h; exact de_list (O.blt h1 h2 h3 bo_list) ha pa
  | max => obtain ⟨p, pos, rfl, h1, h2, h3⟩ := asCall1_inv h; exact de_max O.calm (O.blt h1 h2 h3 bo_max) ha pa
  | min => obtain ⟨p, pos, rfl, h1, h2, h3⟩ := asCall1_inv h; exact de_min O.calm (O.blt h1 h2 h3 bo_min) ha pa
  | int => obtain ⟨p, pos, rfl, h1, h2, h3⟩ := asCall1_inv h; exact de_int (O.blt h1 h2 h3 bo_int) ha pa
  | bool => obtain ⟨p, pos, rfl, h1, h2, h3⟩ := asCall1_inv h; exact de_bool (O.blt h1 h2 h3 bo_bool) ha pa
  | str => obtain ⟨p, pos, rfl, h1, h2, h3⟩ := asCall1_inv h; exact de_str (O.blt h1 h2 h3 bo_str) ha pa
  | rev => obtain ⟨_, _, _, _, _, rfl⟩ := asRev_inv h; exact de_rev ha
  | isN => obtain ⟨_, _, _, rfl⟩ := asIsN_inv h; exact de_isN ha
  | notN => obtain ⟨_, _, _, rfl⟩ := asIsN_inv h; exact de_notN ha
  | neg => obtain ⟨_, rfl⟩ := asNeg_inv h; exact de_neg ha
  | rng =>
    obtain ⟨_, _, _, _, rfl, h1, h2, h3, h4⟩ := asRng_inv h
    exact de_rng O.calm (O.gl h2) (O.bl _ h1) (O.gl h4) (O.bl _ h3) ha pa
  | dget j =>
    obtain ⟨y, _, _, rfl, h1, h2, h3⟩ := asDget_inv h
    obtain ⟨A, t, h4, h5, h6⟩ := O.dn j y h1 (nmOk_ne h3)
    exact de_dget h4 h6 (O.gl h2) h5 (nmOk_inv h3).1 ha pa
  | dnotin j =>
    obtain ⟨y, _, _, rfl, h1, h2, h3⟩ := asDnot_inv h
    obtain ⟨A, t, h4, h5, h6⟩ := O.dn j y h1 (nmOk_ne h3)
    exact de_dnotin h4 h6 (O.gl h2) h5 (nmOk_inv h3).1 ha
  | isi t =>
    obtain ⟨_, _, _, rfl, h1, h2, h3, h4⟩ := asIsi_inv h
    have n1 : nmOk "isinstance" = true := by decide
    have n2 : nmOk (tyN t : Str) = true := by cases t <;> decide
    exact de_isi (O.blt h1 h2 n1 bo_isi) (O.blt h3 h4 n2 (bo_ty t)) ha pa
  | maxd => obtain ⟨_, _, _, _, _, _, rfl, h1, h2⟩ := asMaxd_inv h; exact de_maxd O.calm (O.blt h1 h2 (by decide) bo_max) ha pa
  | mid i j => obtain ⟨_, _, _, _, _, _, rfl⟩ := asMid_inv h; exact de_mid ha
  | joinsp => obtain ⟨_, _, _, _, rfl, h1⟩ := asJoin_inv h; exact de_join ha pa h1
  | fld j => obtain ⟨_, rfl, h1⟩ := asFld_inv h; exact de_fld rfl O.wk ha (base_recv h1 _ _ _)
  | splitsp => obtain ⟨_, _, _, _, _, _, rfl, rfl, h1⟩ := asSplit_inv h; exact de_split ha h1

theorem ok2 {p : P2} {e x y : Expr} {fa fb : Env → Res D} (O : Good S G c k X g sc) (h : sh2 S sc p e = some (x, y)) (ha : PE X x (tE X.K g .R fa)) (hb : PE X y (tE X.K g .R fb)) (pa : plainE x = true) (pb : plainE y = true)
    (hx : ∀ b, (fb = ev c G b) → sh2x p b = true → True) (hno : p = .index ∨ p = .count → ∀ env x, fb env ≠ .exc x) :
    PE X e (tE X.K g (md2 p) fun env => (fa env).bind fun d1 => (fb env).bind fun d2 => ofO (prim2 p d1 d2)) := by
  cases p with
  | add => obtain ⟨_, rfl⟩ := asBin_inv h; exact de_add ha hb
  | sub => obtain ⟨_, rfl⟩ := asBin_inv h; exact de_sub ha hb
  | mul => obtain ⟨_, rfl⟩ := asBin_inv h; exact de_mul ha hb
  | fdiv => obtain ⟨_, rfl⟩ := asBin_inv h; exact de_fdiv ha hb
  | mod => obtain ⟨_, rfl⟩ := asBin_inv h; exact de_mod ha hb
  | pow => obtain ⟨_, rfl⟩ := asBin_inv h; exact de_pow ha hb
  | lt => obtain ⟨_, rfl⟩ := asCmp_inv h; exact de_cmp ck_lt ha hb (mark_plain pb _)
  | le => obtain ⟨_, rfl⟩ := asCmp_inv h; exact de_cmp ck_le ha hb (mark_plain pb _)
  | gt => obtain ⟨_, rfl⟩ := asCmp_inv h; exact de_cmp ck_gt ha hb (mark_plain pb _)
  | ge => obtain ⟨_, rfl⟩ := asCmp_inv h; exact de_cmp ck_ge ha hb (mark_plain pb _)
  | eq => obtain ⟨_, rfl⟩ := asCmp_inv h; exact de_cmp (ck_eq O.u64) ha hb (mark_plain pb _)
  | ne => obtain ⟨_, rfl⟩ := asCmp_inv h; exact de_cmp (ck_ne O.u64) ha hb (mark_plain pb _)
  | isin => obtain ⟨_, rfl⟩ := asCmp_inv h; exact de_cmp (ck_in O.u65) ha hb (mark_plain pb _)
  | notin => obtain ⟨_, rfl⟩ := asCmp_inv h; exact de_cmp (ck_notin O.u65) ha hb (mark_plain pb _)
  | idx => obtain ⟨_, rfl⟩ := asIdx_inv h; exact de_idx ha hb (ix_plain pb)
  | max2 => obtain ⟨p, pos, rfl, h1, h2, h3⟩ := asCall2_inv h; exact de_max2 O.calm (O.blt h1 h2 h3 bo_max) ha hb pa pb
  | min2 => obtain ⟨p, pos, rfl, h1, h2, h3⟩ := asCall2_inv h; exact de_min2 O.calm (O.blt h1 h2 h3 bo_min) ha hb pa pb
  | index => obtain ⟨_, _, rfl, h1, h2⟩ := asMeth1_inv h; exact de_index O.u65 ha hb h2 pb h1 (hno (.inl rfl))
  | count => obtain ⟨_, _, rfl, h1, h2⟩ := asMeth1_inv h; exact de_count ha hb h2 pb h1 (hno (.inr rfl))
  | frm => obtain ⟨_, _, rfl⟩ := asFrm_inv h; exact de_frm ha hb
  | upto => obtain ⟨_, _, rfl⟩ := asUpto_inv h; exact de_upto ha hb

/-- forms that are tests by their value -/
def valTest : Expr → Bool
  | .UnaryOp .Not _ _ => false
  | .BoolOp _ _ _ => false
  | .IfExp _ _ _ _ => false
  | .Compare _ _ _ _ => false
  | _ => true
theorem valTest_ok {e : Expr} (h : valTest e = true) (env : PySem.Env) : ∀ whole, isTrue e env whole = (do let v ← whole; standAt e.pos; holding [v] (truthy v)) := by
  intro whole
  cases e <;> first | rfl | (simp [valTest] at h; done) | (rename_i o _ _; cases o <;> first | rfl | (simp [valTest] at h; done))
theorem sh1_test {p : P1} {e x : Expr} (h : sh1 S sc p e = some x) : valTest e = true ∨ (p = .isN ∨ p = .notN ∨ ∃ j, p = .dnotin j) := by
  cases p <;> first
    | (obtain ⟨_, _, rfl, _⟩ := asCall1_inv h; exact .inl rfl)
    | (obtain ⟨_, q1, _⟩ := Option.bind_eq_some_iff.mp h; obtain ⟨_, _, rfl, _⟩ := asCall1_inv q1; exact .inl rfl)
    | (obtain ⟨_, _, _, _, _, rfl⟩ := asRev_inv h; exact .inl rfl)
    | (obtain ⟨_, rfl⟩ := asNeg_inv h; exact .inl rfl)
    | (obtain ⟨_, _, _, _, rfl, _⟩ := asRng_inv h; exact .inl rfl)
    | (obtain ⟨_, _, _, rfl, _⟩ := asDget_inv h; exact .inl rfl)
    | (obtain ⟨_, _, _, rfl, _⟩ := asIsi_inv h; exact .inl rfl)
    | (obtain ⟨_, _, _, _, _, _, rfl, _⟩ := asMaxd_inv h; exact .inl rfl)
    | (obtain ⟨_, _, _, _, _, _, rfl⟩ := asMid_inv h; exact .inl rfl)
    | (obtain ⟨_, _, _, _, rfl, _⟩ := asJoin_inv h; exact .inl rfl)
    | (obtain ⟨_, _, _, _, _, _, rfl, rfl, _⟩ := asSplit_inv h; exact .inl rfl)
    | (obtain ⟨_, rfl, _⟩ := asFld_inv h; exact .inl rfl)
    | exact .inr (.inl rfl)
    | exact .inr (.inr (.inl rfl))
    | exact .inr (.inr (.inr ⟨_, rfl⟩))
    | cases h
theorem ok1T {p : P1} {e x : Expr} {fa : Env → Res D} (O : Good S G c k X g sc) (h : sh1 S sc p e = some x) (ha : PE X x (tE X.K g .R fa)) (pa : plainE x = true) :
    PT X e (tT X.K g fun env => ((fa env).bind fun d => ofO (prim1 G p d)).bind fun x => ofO (truth x)) := by
  rcases sh1_test h with v | rfl | rfl | ⟨j, rfl⟩
  · exact dt_truth (up (ok1 O h ha pa) (mle_R _)) (valTest_ok v _)
  · obtain ⟨_, _, _, rfl⟩ := asIsN_inv h; exact dt_isN ha
  · obtain ⟨_, _, _, rfl⟩ := asIsN_inv h; exact dt_notN ha
  · obtain ⟨y, _, _, rfl, h1, h2, h3⟩ := asDnot_inv h
    obtain ⟨A, t, h4, h5, h6⟩ := O.dn j y h1 (nmOk_ne h3)
    exact dt_dnotin h4 h6 (O.gl h2) h5 (nmOk_inv h3).1 ha
theorem sh2_test {p : P2} {e x y : Expr} (h : sh2 S sc p e = some (x, y)) : valTest e = true ∨ ∃ op, cmpOp p = some op ∧ ∃ pos, e = .Compare x [op] [y] pos := by
  cases p <;> first
    | (obtain ⟨_, rfl⟩ := asBin_inv h; exact .inl rfl)
    | (obtain ⟨_, rfl⟩ := asCmp_inv h; exact .inr ⟨_, rfl, _, rfl⟩)
    | (obtain ⟨_, rfl⟩ := asIdx_inv h; exact .inl rfl)
    | (obtain ⟨_, _, rfl, _⟩ := asCall2_inv h; exact .inl rfl)
    | (obtain ⟨_, _, rfl, _⟩ := asMeth1_inv h; exact .inl rfl)
    | (obtain ⟨_, _, rfl⟩ := asFrm_inv h; exact .inl rfl)
    | (obtain ⟨_, _, rfl⟩ := asUpto_inv h; exact .inl rfl)
theorem ok2T {p : P2} {e x y : Expr} {fa fb : Env → Res D} (O : Good S G c k X g sc) (h : sh2 S sc p e = some (x, y)) (ha : PE X x (tE X.K g .R fa)) (hb : PE X y (tE X.K g .R fb)) (pa : plainE x = true) (pb : plainE y = true)
    (hno : p = .index ∨ p = .count → ∀ env x, fb env ≠ .exc x) :
    PT X e (tT X.K g fun env => ((fa env).bind fun d1 => (fb env).bind fun d2 => ofO (prim2 p d1 d2)).bind fun x => ofO (truth x)) := by
  rcases sh2_test h with v | ⟨op, h1, pos, rfl⟩
  · exact dt_truth (up (ok2 O h ha hb pa pb (fun _ _ _ => trivial) hno) (mle_R _)) (valTest_ok v _)
  · obtain ⟨r, C⟩ := cmp_ok O h1
    exact dt_cmp C ha hb (mark_plain pb _)
end
end DH
set_option Elab.async false
set_option linter.all false
set_option maxRecDepth 100000
set_option maxHeartbeats 2000000
/-! DH, part M: the forms are kept: all expressions. -/
namespace DH
open PySem L2
open PySem.Spec PyProof.Rows

theorem evs_len {c : Orc} {G : Gd} : ∀ {as : Exs} {env : Env} {xs : List D}, evs c G as env = .ok xs → xs.length = as.len
  | .nil, env, xs, h => by
    unfold evs at h
    cases h
    rfl
  | .cons a as, env, xs, h => by
    unfold evs at h
    cases q : ev c G a env with
    | ok d =>
      rw [q] at h
      simp only [bind_ok] at h
      cases q2 : evs c G as env with
      | ok ds =>
        rw [q2] at h
        simp only [bind_ok] at h
        cases h
        simp [Exs.len, evs_len q2]
      | exc x => rw [q2] at h; cases h
      | stuck => rw [q2] at h; cases h
    | exc x => rw [q] at h; cases h
    | stuck => rw [q] at h; cases h

theorem noCalls_ok {c : Orc} {G : Gd} : ∀ {as : Exs}, noCalls as = true → ∀ env x, evs c G as env ≠ .exc x
  | .nil, _, env, x => by simp [evs]
  | .cons a r, h, env, x => by
    unfold noCalls at h
    rw [Bool.and_eq_true] at h
    unfold evs
    cases q : ev c G a env with
    | exc y => exact absurd q (noCall_ok h.1 env y)
    | stuck => simp
    | ok d =>
      simp only [bind_ok]
      cases q2 : evs c G r env with
      | exc y => exact absurd q2 (noCalls_ok h.2 env y)
      | stuck => simp
      | ok ds => simp
section
variable {S : Sx} {G : Gd} {c : Orc} {k : Nat}

/-- targets -/
theorem okTg {X : Cx} {g : Gh} {sc bs : Scope} {t : Tg} {e : Expr} (O : Good S G c k X g sc) (hfn : ∀ x, bs.names.lookup x = some .cell → X.fn x = true) (h : chkTg S sc bs t e = true) :
    PG X e (gT X.K t) := by
  have nd : X.N.Nodup := by rw [O.N]; exact O.nd
  have name : ∀ {i : Nat} {x : Str} {pos : Pos}, decide (S.N[i]? = some x) = true → locB sc x = true →
      (match bs.names.lookup x with | some .cell => true | _ => (match sc.names.lookup x with | some .local => true | _ => false)) = true → PG X (.Name x pos) (gName i) := fun {i x pos} h1 h2 h3 => by
    refine pg_name nd (by rw [O.N]; exact of_decide_eq_true h1) ?_ ?_
    · unfold L2.Loc
      rw [O.sc]
      unfold locB at h2
      split at h2
      · exact .inl (by assumption)
      · exact .inr (by assumption)
      · cases h2
    · rw [O.sc]
      split at h3
      · exact .inl (hfn x (by assumption))
      · split at h3
        · exact .inr (by assumption)
        · cases h3
  cases t with
  | one i =>
    cases e with
    | Name x pos =>
      simp only [chkTg, Bool.and_eq_true, Bool.not_eq_true'] at h
      obtain ⟨⟨⟨h1, h2⟩, h3⟩, h4⟩ := h
      exact name h1 h2 h3
    | _ => cases h
  | two i j =>
    unfold chkTg at h
    split at h
    · rename_i q; cases q
    · rename_i x p1 y p2 kk p3 q
      cases q
      simp only [Bool.and_eq_true, Bool.not_eq_true'] at h
      obtain ⟨⟨⟨⟨⟨⟨⟨h1, h2⟩, h3⟩, h4⟩, h5⟩, h6⟩, h7⟩, h8⟩ := h
      exact pg_tup O.calm (pgs_cons (name h1 h2 h3) (pgs_cons (name h5 h6 h7) pgs_nil))
    · cases h
theorem tgStat {sc bs : Scope} {t : Tg} {e : Expr} (h : chkTg S sc bs t e = true) :
    (∀ i ∈ tgSlots t, S.M i = false) ∧ (isTwo t = true → ∃ elts kk p, e = .Tuple elts kk p) ∧ (isTwo t = true → ∃ i j, t = .two i j) := by
  cases t with
  | one i =>
    cases e with
    | Name x pos =>
      simp only [chkTg, Bool.and_eq_true, Bool.not_eq_true'] at h
      exact ⟨fun j hj => by cases (List.mem_singleton.mp hj); exact h.2, fun z => (nomatch z), fun z => (nomatch z)⟩
    | _ => cases h
  | two i j =>
    unfold chkTg at h
    split at h
    · rename_i q; cases q
    · rename_i x p1 y p2 kk p3 q
      cases q
      simp only [Bool.and_eq_true, Bool.not_eq_true'] at h
      obtain ⟨⟨⟨⟨⟨⟨⟨h1, h2⟩, h3⟩, h4⟩, h5⟩, h6⟩, h7⟩, h8⟩ := h
      refine ⟨fun l hl => ?_, fun _ => ⟨_, _, _, rfl⟩, fun _ => ⟨i, j, rfl⟩⟩
      rcases (by simpa [tgSlots] using hl : l = i ∨ l = j) with z | z
      · rw [z]; exact h4
      · rw [z]; exact h8
    · cases h
theorem PT.pw {X : Cx} {op : BoolOp} {vs : List Expr} {pos : Pos} {t : TT} (h : PT X (.BoolOp op vs pos) t) : PW X (.BoolOp op vs pos) t := ⟨fun _ pins s σ H Q I q => h.run pins s σ H Q I q⟩
theorem evT_comp {elt : Ex} {t : Tg} {it : Ir} {cs : Exs} {own : List (Str × Nat)} : evT c G (.comp elt t it cs own) = fun env => (ev c G (.comp elt t it cs own) env).bind fun x => ofO (truth x) := by
  have gen : ∀ r : Res (List D), (r.bind fun ys => Res.ok (!ys.isEmpty)) = (r.bind fun ys => Res.ok (PyData.list ys)).bind fun x => ofO (truth x) := fun r => by cases r <;> rfl
  funext env
  have h1 : evT c G (.comp elt t it cs own) env = (evI c G it env).bind fun xs => (noX (compL (turnC t own (evTs c G cs) (ev c G elt) env) xs [])).bind fun ys => .ok (!ys.isEmpty) := rfl
  have h2 : ev c G (.comp elt t it cs own) env = (evI c G it env).bind fun xs => (noX (compL (turnC t own (evTs c G cs) (ev c G elt) env) xs [])).bind fun ys => .ok (.list ys) := rfl
  rw [h1, h2]
  cases evI c G it env with
  | ok xs => exact gen _
  | exc x => rfl
  | stuck => rfl

theorem blk_fn {X : Cx} {s : Shared} {H : Hp} {scope : Scope} {ce : PySem.Env} {fp : List Addr} : ∀ x, scope.names.lookup x = some .cell → (X.blk s H scope ce fp).fn x = true := fun x h => by
  show (scope.names.lookup x == some .cell) = true
  rw [h]; rfl

mutual
theorem okE : ∀ (e : Ex) {X : Cx} {g : Gh} {sc : Scope} {x : Expr}, Good S G c k X g sc → chkE S sc e x = true → PE X x (tE X.K g (md S.M e) (ev c G e))
  | .var i, X, g, sc, x, O, h => by
    cases x with
    | Name y pos =>
      simp only [chkE, Bool.and_eq_true, decide_eq_true_eq] at h
      obtain ⟨⟨h1, h2⟩, h3⟩ := h
      obtain ⟨n1, n2, n3⟩ := nmOk_inv h3
      have r := de_var (g := g) (pos := pos) (by rw [O.N]; exact h1) (O.vis h2) n1 n2
      rw [O.M] at r
      exact r
    | _ => cases h
  | .cst d, X, g, sc, x, O, h => by
    cases x with
    | Constant k0 j pos =>
      simp only [chkE] at h
      cases d <;> cases k0 <;> simp only [cstOk] at h <;> first
        | exact de_cst pe_non (fun _ => .non) rfl
        | (rw [eq_of_beq h]; exact de_cst pe_bl (fun _ => .bl _) rfl)
        | (rw [eq_of_beq h]; exact de_cst pe_int (fun _ => .int _) rfl)
        | (rw [eq_of_beq h]; exact de_cst pe_str (fun _ => .str _) rfl)
        | cases h
    | _ => cases h
  | .glb i, X, g, sc, x, O, h => by
    by_cases hi : i < 1000
    · have hn : decide (1000 ≤ i) = false := by rw [decide_eq_false_iff_not]; omega
      have e : ev c G (.glb i) = fun _ => ofO G.cs[i]? := by funext env; unfold ev; exact if_pos hi
      simp only [chkE, hn, Bool.false_or] at h
      rw [e]
      cases x with
      | Name y pos =>
        simp only [Bool.and_eq_true, decide_eq_true_eq] at h
        obtain ⟨⟨h1, h2⟩, h3⟩ := h
        obtain ⟨n1, n2, n3⟩ := nmOk_inv h3
        obtain ⟨v, u, d, q1, q2, q3, q4⟩ := O.cs i y h1 (nmOk_ne h3)
        exact de_glb q1 (pe_glob (O.gl h2) q2 q3 n1) q4
      | _ => cases h
    · have e : ev c G (.glb i) = fun _ => .stuck := by funext env; unfold ev; exact if_neg hi
      rw [e]
      exact de_opq
  | .op1 p a, X, g, sc, x, O, h => by
    simp only [chkE] at h
    split at h
    · rename_i y q
      simp only [Bool.and_eq_true] at h
      exact ok1 O q (up (okE a O h.1) (mle_R _)) h.2
    · cases h
  | .op2 p a b, X, g, sc, x, O, h => by
    simp only [chkE] at h
    split at h
    · rename_i y z q
      simp only [Bool.and_eq_true] at h
      obtain ⟨⟨⟨⟨h1, h2⟩, h3⟩, h4⟩, h5⟩ := h
      have r := ok2 O q (up (okE a O h1) (mle_R _)) (up (okE b O h2) (mle_R _)) h3 h4 (fun _ _ _ => trivial) (fun w => noCall_ok (by rcases w with rfl | rfl <;> exact h5))
      exact r
    · cases h
  | .chain p q a b d, X, g, sc, x, O, h => by
    simp only [chkE] at h
    split at h
    · rename_i x1 o o' y z pos
      simp only [Bool.and_eq_true, decide_eq_true_eq] at h
      obtain ⟨⟨⟨⟨⟨⟨h1, h2⟩, h3⟩, h4⟩, h5⟩, h6⟩, h7⟩ := h
      obtain ⟨r, C⟩ := cmp_ok O h1
      obtain ⟨r', C'⟩ := cmp_ok O h2
      have pa := up (okE a O h3) (mle_R _)
      have pb := up (okE b O h4) (mle_R _)
      have pd := up (okE d O h5) (mle_R _)
      exact de_chain C C' pa pb pd (pe_chain C.op C'.op pa pb pd (show lastMarks [_, _] [_, _] = false from mark_plain h7 _))
    · cases h
  | .and a b, X, g, sc, x, O, h => by
    simp only [chkE] at h
    split at h
    · rename_i x1 y rest pos
      simp only [Bool.and_eq_true] at h
      have pa := up (okE a O h.1) (mle_R _)
      split at h
      · exact de_and pa (pe_one (okE b O h.2))
      · exact de_and pa (okE b O h.2)
    · cases h
  | .or a b, X, g, sc, x, O, h => by
    simp only [chkE] at h
    split at h
    · rename_i x1 y rest pos
      simp only [Bool.and_eq_true] at h
      have pa := up (okE a O h.1) (mle_R _)
      split at h
      · exact de_or pa (pe_one (okE b O h.2))
      · exact de_or pa (okE b O h.2)
    · cases h
  | .not a, X, g, sc, x, O, h => by
    simp only [chkE] at h
    split at h
    · exact de_not (up (okE a O h) (mle_R _))
    · cases h
  | .ite t a b, X, g, sc, x, O, h => by
    simp only [chkE] at h
    split at h
    · simp only [Bool.and_eq_true] at h
      exact de_ite (okT t O h.1.1) (up (okE a O h.1.2) (mle_max1 _ _)) (up (okE b O h.2) (mle_max2 _ _))
    · cases h
  | .call f as, X, g, sc, x, O, h => by
    unfold chkE at h
    split at h
    · rename_i y p0 z zs pos
      simp only [Bool.and_eq_true, decide_eq_true_eq] at h
      obtain ⟨⟨⟨h1, h2⟩, h3⟩, h4⟩ := h
      obtain ⟨pa, pl⟩ := okL as O h4
      exact de_call (O.fn f y _ h1 (nmOk_ne h3)) O.room (O.gl h2) (nmOk_inv h3).1 O.tk pa pl (fun env ds q => evs_len q)
    · split at h
      · rename_i a rest
        simp only [Bool.and_eq_true, decide_eq_true_eq] at h
        obtain ⟨⟨⟨⟨⟨⟨⟨⟨⟨h1, h2⟩, h3⟩, h4⟩, h5⟩, h6⟩, h7⟩, h8⟩, h9⟩, h10⟩ := h
        obtain ⟨⟨A, wk⟩, M⟩ := O.mth f _ _ h1 (nmOk_ne h2)
        obtain ⟨pa, pl⟩ := okL rest O h7
        refine de_meth wk M (O.wk A wk).1 O.room O.tk (up (okE a O h4) h5) pa (base_recv h6 _ _ _) pl h9 h10 h3 (fun env ds q => by rw [evs_len q]) (noCalls_ok h8) (fun e env => ?_)
        subst e
        cases rest with
        | nil => rfl
        | cons _ _ => simp only [chkL] at h7; cases h7
      · cases h
    · cases h
  | .tup as, X, g, sc, x, O, h => by
    simp only [chkE] at h
    split at h
    · simp only [Bool.and_eq_true, decide_eq_true_eq] at h
      exact de_tup (okL as O h.1).1 (fun env ds q => by rw [evs_len q]; exact h.2)
    · cases h
  | .lst as, X, g, sc, x, O, h => by
    simp only [chkE] at h
    split at h
    · simp only [Bool.and_eq_true, decide_eq_true_eq] at h
      exact de_lst (okL as O h.1).1 (fun env ds q => by rw [evs_len q]; exact h.2)
    · cases h
  | .comp elt t it cs own, X, g, sc, x, O, h => by
    simp only [chkE] at h
    split at h
    · rename_i el tg iter ifs as scope pos
      simp only [Bool.and_eq_true, decide_eq_true_eq] at h
      obtain ⟨⟨⟨⟨⟨⟨⟨⟨h0, h1⟩, h2⟩, h3⟩, h4⟩, h5⟩, h6⟩, h7⟩, h8⟩ := h
      subst h0
      obtain ⟨t2, t3, t4⟩ := tgStat h2
      have pi := okI it false (isTwo t) tg t3 O h4
      have ok : BlkOk X.N X.env.scope scope own := by rw [O.N, O.sc]; exact blkOk_by h1
      have nd : X.N.Nodup := by rw [O.N]; exact O.nd
      refine PE.wk (pe_lc (g := gT X.K t) (tt := tT X.K (gN g) (evTs c G cs)) (te := tE X.K (gN g) .V (ev c G elt)) O.calm nd pi ok (fun s H C cl fp => okTg (O.blk s H scope C cl fp) blk_fn h2) (fun s H C cl fp => okTs cs (O.blk s H scope C cl fp) h6) (fun s H C cl fp => up (okE elt (O.blk s H scope C cl fp) h7) h8) (fold_plain h5 _)) fun σ H Q q => ?_
      refine lc_read (two := isTwo t) (fi := evI c G it) (ft := evTs c G cs) (fe := ev c G elt) (fun _ _ _ z => z) (fun i hi => ?_) (fun i hi => by rw [O.M]; exact t2 i hi) t4 q
      have := List.all_eq_true.mp h3 i hi
      simpa using this
    · cases h
theorem okT : ∀ (e : Ex) {X : Cx} {g : Gh} {sc : Scope} {x : Expr}, Good S G c k X g sc → chkT S sc e x = true → PT X x (tT X.K g (evT c G e))
  | .and a b, X, g, sc, x, O, h => by
    simp only [chkT] at h
    split at h
    · rename_i x1 y rest pos
      simp only [Bool.and_eq_true] at h
      have pa := okT a O h.1
      split at h
      · exact PW.pt (dw_and pa (pw_and1 (okT b O h.2)))
      · exact PW.pt (dw_and pa (PT.pw (okT b O h.2)))
    · cases h
  | .or a b, X, g, sc, x, O, h => by
    simp only [chkT] at h
    split at h
    · rename_i x1 y rest pos
      simp only [Bool.and_eq_true] at h
      have pa := okT a O h.1
      split at h
      · exact PW.pt (dw_or pa (pw_or1 (okT b O h.2)))
      · exact PW.pt (dw_or pa (PT.pw (okT b O h.2)))
    · cases h
  | .not a, X, g, sc, x, O, h => by
    simp only [chkT] at h
    split at h
    · exact dt_not (okT a O h)
    · cases h
  | .ite t a b, X, g, sc, x, O, h => by cases h
  | .var i, X, g, sc, x, O, h => by
    cases x with
    | Name y pos =>
      simp only [chkT, Bool.and_eq_true, decide_eq_true_eq] at h
      obtain ⟨⟨h1, h2⟩, h3⟩ := h
      obtain ⟨n1, n2, n3⟩ := nmOk_inv h3
      have r := de_var (g := g) (pos := pos) (by rw [O.N]; exact h1) (O.vis h2) n1 n2
      exact dt_truth (up r (mle_R _)) (valTest_ok rfl _)
    | _ => cases h
  | .cst d, X, g, sc, x, O, h => by
    cases x with
    | Constant k0 j pos =>
      simp only [chkT] at h
      cases d <;> cases k0 <;> simp only [cstOk] at h <;> first
        | exact dt_truth (up (de_cst pe_non (fun _ => .non) rfl) rfl) (valTest_ok rfl _)
        | (rw [eq_of_beq h]; exact dt_truth (up (de_cst pe_bl (fun _ => .bl _) rfl) rfl) (valTest_ok rfl _))
        | (rw [eq_of_beq h]; exact dt_truth (up (de_cst pe_int (fun _ => .int _) rfl) rfl) (valTest_ok rfl _))
        | (rw [eq_of_beq h]; exact dt_truth (up (de_cst pe_str (fun _ => .str _) rfl) rfl) (valTest_ok rfl _))
        | cases h
    | _ => cases h
  | .glb i, X, g, sc, x, O, h => by
    simp only [chkT, decide_eq_true_eq] at h
    have e : evT c G (.glb i) = fun _ => .stuck := by funext env; unfold evT; exact if_neg (by omega)
    rw [e]
    exact ⟨fun pins s σ H Q I h => by obtain ⟨_, _, _, z⟩ := h; exact z.elim⟩
  | .op1 p a, X, g, sc, x, O, h => by
    simp only [chkT] at h
    split at h
    · rename_i y q
      simp only [Bool.and_eq_true] at h
      exact ok1T O q (up (okE a O h.1) (mle_R _)) h.2
    · cases h
  | .op2 p a b, X, g, sc, x, O, h => by
    simp only [chkT] at h
    split at h
    · rename_i y z q
      simp only [Bool.and_eq_true] at h
      obtain ⟨⟨⟨⟨h1, h2⟩, h3⟩, h4⟩, h5⟩ := h
      exact ok2T O q (up (okE a O h1) (mle_R _)) (up (okE b O h2) (mle_R _)) h3 h4 (fun w => noCall_ok (by rcases w with rfl | rfl <;> exact h5))
    · cases h
  | .chain p q a b d, X, g, sc, x, O, h => by
    simp only [chkT] at h
    split at h
    · rename_i x1 o o' y z pos
      simp only [Bool.and_eq_true, decide_eq_true_eq] at h
      obtain ⟨⟨⟨⟨⟨⟨h1, h2⟩, h3⟩, h4⟩, h5⟩, h6⟩, h7⟩ := h
      obtain ⟨r, C⟩ := cmp_ok O h1
      obtain ⟨r', C'⟩ := cmp_ok O h2
      have pa := up (okE a O h3) (mle_R _)
      have pb := up (okE b O h4) (mle_R _)
      have pd := up (okE d O h5) (mle_R _)
      exact dt_chain C C' (pt_chain C.op C'.op pa pb pd (show lastMarks [_, _] [_, _] = false from mark_plain h7 _))
    · cases h
  | .call f as, X, g, sc, x, O, h => by
    simp only [chkT] at h
    split at h
    · rename_i y p0 z zs pos
      simp only [Bool.and_eq_true, decide_eq_true_eq] at h
      obtain ⟨⟨⟨h1, h2⟩, h3⟩, h4⟩ := h
      obtain ⟨pa, pl⟩ := okL as O h4
      have r := de_call (pos := pos) (p0 := p0) (O.fn f y _ h1 (nmOk_ne h3)) O.room (O.gl h2) (nmOk_inv h3).1 O.tk pa pl (fun env ds q => evs_len q)
      exact dt_truth (up r rfl) (valTest_ok rfl _)
    · cases h
  | .tup as, X, g, sc, x, O, h => by cases h
  | .lst as, X, g, sc, x, O, h => by cases h
  | .comp elt t it cs own, X, g, sc, x, O, h => by
    simp only [chkT] at h
    split at h
    · rename_i el tg iter ifs as scope pos
      have r := okE (.comp elt t it cs own) O (x := .ListComp el [⟨tg, iter, ifs, as⟩] scope pos) (by simp only [chkE]; exact h)
      rw [evT_comp]
      exact dt_truth (up r (mle_R _)) (valTest_ok rfl _)
    · cases h
theorem okL : ∀ (as : Exs) {X : Cx} {g : Gh} {sc : Scope} {xs : List Expr}, Good S G c k X g sc → chkL S sc as xs = true → PA X xs (tA X.K g (evs c G as)) ∧ xs.all plainE = true
  | .nil, X, g, sc, xs, O, h => by
    simp only [chkL] at h
    split at h
    · exact ⟨da_nil, rfl⟩
    · cases h
  | .cons a as, X, g, sc, xs, O, h => by
    simp only [chkL] at h
    split at h
    · rename_i x r
      simp only [Bool.and_eq_true] at h
      obtain ⟨⟨⟨h1, h2⟩, h3⟩, h4⟩ := h
      obtain ⟨p, q⟩ := okL as O h4
      exact ⟨da_cons (up (okE a O h1) h2) p h3, by rw [List.all_cons, h3, q]; rfl⟩
    · cases h
theorem okTs : ∀ (as : Exs) {X : Cx} {g : Gh} {sc : Scope} {xs : List Expr}, Good S G c k X g sc → chkTs S sc as xs = true → PTs X xs (tT X.K g (evTs c G as))
  | .nil, X, g, sc, xs, O, h => by
    simp only [chkTs] at h
    split at h
    · exact ⟨fun pins s σ H Q I ⟨F, env, rel, hd⟩ => pts_nil.run pins s σ H Q I (hd H F (.refl rel.fh))⟩
    · cases h
  | .cons a .nil, X, g, sc, xs, O, h => by
    simp only [chkTs] at h
    split at h
    · exact pts_one (okT a O h)
    · cases h
  | .cons _ (.cons _ _), X, g, sc, xs, O, h => by cases h
theorem okI : ∀ (it : Ir) (fz two : Bool) (tg : Expr), (two = true → ∃ elts kk p, tg = .Tuple elts kk p) → ∀ {X : Cx} {g : Gh} {sc : Scope} {x : Expr}, Good S G c k X g sc → chkI S sc fz two it x = true → PI X tg x (tI X.K g two fz (evI c G it))
  | .seq a, fz, two, tg, ht, X, g, sc, x, O, h => by
    simp only [chkI, Bool.and_eq_true] at h
    exact di_seq (up (okE a O h.1) h.2)
  | .rng a, fz, two, tg, ht, X, g, sc, x, O, h => by
    simp only [chkI] at h
    split at h
    · rename_i y q
      simp only [Bool.and_eq_true] at h
      obtain ⟨p, pos, rfl, h1, h2, h3⟩ := asCall1_inv q
      exact di_rng (O.gl h2) (O.bl _ h1) (up (okE a O h.1) (mle_R _)) h.2
    · cases h
  | .rng2 a b, fz, two, tg, ht, X, g, sc, x, O, h => by
    simp only [chkI] at h
    split at h
    · rename_i y z q
      simp only [Bool.and_eq_true] at h
      obtain ⟨p, pos, rfl, h1, h2, h3⟩ := asCall2_inv q
      exact di_rng2 (O.gl h2) (O.bl _ h1) (up (okE a O h.1.1.1) (mle_R _)) (up (okE b O h.1.1.2) (mle_R _)) h.1.2 h.2
    · cases h
  | .enum a, fz, two, tg, ht, X, g, sc, x, O, h => by
    simp only [chkI] at h
    split at h
    · rename_i y q
      simp only [Bool.and_eq_true] at h
      obtain ⟨p, pos, rfl, h1, h2, h3⟩ := asCall1_inv q
      obtain ⟨⟨⟨q1, q2⟩, q3⟩, rfl⟩ := h
      obtain ⟨elts, kk, p3, rfl⟩ := ht rfl
      exact di_enum (O.gl h2) (O.bl _ h1) (up (okE a O q1) q3) q2
    · cases h
  | .zip a b, fz, two, tg, ht, X, g, sc, x, O, h => by
    simp only [chkI] at h
    split at h
    · rename_i y z q
      simp only [Bool.and_eq_true] at h
      obtain ⟨p, pos, rfl, h1, h2, h3⟩ := asCall2_inv q
      obtain ⟨⟨⟨⟨⟨⟨q1, q2⟩, q3⟩, q4⟩, q5⟩, q6⟩, rfl⟩ := h
      obtain ⟨elts, kk, p3, rfl⟩ := ht rfl
      exact di_zip (O.gl h2) (O.bl _ h1) (up (okE a O q1) q5) (up (okE b O q2) q6) q3 q4
    · cases h
end
end
end DH
set_option Elab.async false
set_option linter.all false
set_option maxRecDepth 100000
set_option maxHeartbeats 1000000
/-! DH, part N: statements. -/
namespace DH
open PySem L2
open PySem.Spec PyProof.Rows

/-- what stands in an except clause -/
inductive Sk where
  | two (c1 c2 : Nat) (a b : Str)
  | oth (j o1 o2 o3 c1 : Nat) (a b : Str)
  | line (c1 c2 : Nat) (a b : Str)
structure Hd where
  c : Nat
  s : Sk
/-- class i lies below class j: 0 stands over all others -/
def sub (i j : Nat) : Bool := i == j || j == 0
def skRun : Sk → Exn → Option D
  | .two c1 c2 a b, x => some (.str (if sub x.c c1 && !sub x.c c2 then a else b))
  | .oth _ o1 o2 o3 c1 a b, x => some (.str (if sub x.c c1 && !(sub x.c o1 || sub x.c o2 || sub x.c o3) then a else b))
  | .line c1 c2 a b, x => match x.a with
    | some d => some (if sub x.c c1 && !sub x.c c2 then .list [.str a, d] else .list [.str b])
    | none => none
/-- clauses that want the line -/
def Sk.wants : Sk → Bool
  | .line _ _ _ _ => true
  | _ => false
def hdRun (x : Exn) : List Hd → Option (Option D)
  | [] => none
  | h :: r => if sub x.c h.c then some (if h.s.wants == x.a.isSome then skRun h.s x else none) else hdRun x r

/-- the clause of a try that asks for all classes and goes on: c the class, f u l m the slots, the classes by groups -/
structure HA where
  c : Nat
  f : Nat
  u : Nat
  l : Nat
  m : Nat
  g0 : List Nat
  gs : List (List Nat)
mutual
inductive Sm where
  | asg (i : Nat) (e : Ex)
  | mov (i j : Nat)
  | par (i j : Nat) (a b : Ex)
  | unp (i j : Nat) (e : Ex)
  | app (i : Nat) (e : Ex)
  | ext (i : Nat) (e : Ex)
  | pop (j i : Nat)
  | pop0 (j i : Nat)
  | set (i : Nat) (k e : Ex)
  | set2 (i : Nat) (k1 k2 e1 e2 : Ex)
  | ife (c : Ex) (a b : Sms)
  | forr (t : Tg) (it : Ir) (b : Sms)
  | whil (c : Ex) (b : Sms)
  | ret (e : Ex)
  | retN
  | rais (x : Nat)
  | raisA (x : Nat) (e : Ex)
  | expr (e : Ex)
  | pass
  | tri (i : Nat) (b : Sms) (hs : List Hd)
  | trA (i : Nat) (e : Ex) (h : HA)
inductive Sms where
  | nil
  | cons (s : Sm) (r : Sms)
end

inductive Fl where
  | nx (env : Env)
  | rt (d : D)
  | exc (x : Exn) (env : Env)
  | stuck
def Res.fl {α : Type} (r : Res α) (env : Env) (f : α → Fl) : Fl := match r with
  | .ok a => f a
  | .exc x => .exc x env
  | .stuck => .stuck
@[simp] theorem fl_ok {α : Type} (a : α) (env : Env) (f : α → Fl) : Res.fl (.ok a) env f = f a := id rfl
@[simp] theorem fl_exc {α : Type} (x : Exn) (env : Env) (f : α → Fl) : Res.fl (.exc x : Res α) env f = .exc x env := id rfl
@[simp] theorem fl_stuck {α : Type} (env : Env) (f : α → Fl) : Res.fl (.stuck : Res α) env f = .stuck := id rfl
def Fl.then (r : Fl) (f : Env → Fl) : Fl := match r with
  | .nx env => f env
  | .rt d => .rt d
  | .exc x env => .exc x env
  | .stuck => .stuck
@[simp] theorem then_nx (env : Env) (f : Env → Fl) : Fl.then (.nx env) f = f env := id rfl
@[simp] theorem then_rt (d : D) (f : Env → Fl) : Fl.then (.rt d) f = .rt d := id rfl
@[simp] theorem then_exc (x : Exn) (env : Env) (f : Env → Fl) : Fl.then (.exc x env) f = .exc x env := id rfl
@[simp] theorem then_stuck (f : Env → Fl) : Fl.then .stuck f = .stuck := id rfl
def forL (t : Tg) (body : Env → Fl) : List D → Env → Fl
  | [], env => .nx env
  | x :: r, env => match bindT t x env with
    | none => .stuck
    | some env1 => (body env1).then (forL t body r)
def whileL (cond : Env → Res Bool) (body : Env → Fl) : Nat → Env → Fl
  | 0, _ => .stuck
  | n + 1, env => (cond env).fl env fun k => if k then (body env).then (whileL cond body n) else .nx env
def lstOf : D → Option (List D)
  | .list xs => some xs
  | _ => none
def setL (xs : List D) (k d : D) : Option (List D) := match k with
  | .int n => (ixN xs.length n).map fun p => xs.set p d
  | _ => none
def appL (xs : List D) (d : D) : Option (List D) := if xs.length < LIM then some (xs ++ [d]) else none
def extL (xs : List D) (d : D) : Option (List D) := match d with
  | .list ys => if xs.length + ys.length ≤ LIM then some (xs ++ ys) else none
  | _ => none
def popL (xs : List D) : Option (D × List D) := (xs[xs.length - 1]?).map fun y => (y, xs.dropLast)
def pop0L (xs : List D) : Option (D × List D) := match xs with
  | x :: r => some (x, r)
  | [] => none

/-- an exception meets the clauses -/
def Fl.catch (r : Fl) (i : Nat) (hs : List Hd) : Fl := match r with
  | .exc x env => if i < env.length then (match hdRun x hs with
    | none => .exc x env
    | some (some d) => .rt d
    | some none => .stuck) else .stuck
  | r => r
def goA (x : Exn) (e : Env) (i : Nat) (h : HA) : Fl := match e[h.m]? with
  | some (some (.int k)) => (match (if k = 12 then x.a else some (.str "none")) with
    | some d => .nx ((put (put (put (e.set i none) h.f (.list ((h.g0 ++ h.gs.flatten).map fun j => .bool (sub x.c j)))) h.u (.bool true)) h.l d).set i none)
    | none => .stuck)
  | _ => .stuck
def Fl.catchA (r : Fl) (i : Nat) (h : HA) : Fl := match r with
  | .exc x env => if i < env.length then (if sub x.c h.c then goA x env i h else .exc x env) else .stuck
  | r => r
mutual
def run (c : Orc) (G : Gd) (w : Nat) : Sm → Env → Fl
  | .asg i e, env => (ev c G e env).fl env fun d => .nx (put env i d)
  | .mov i j, env => (get env j).fl env fun d => .nx ((put env i d).set j none)
  | .par i j a b, env => (ev c G a env).fl env fun x => (ev c G b env).fl env fun y => .nx (put (put env i x) j y)
  | .unp i j e, env => (ev c G e env).fl env fun d => match bindT (.two i j) d env with
    | some env' => .nx env'
    | none => .stuck
  | .app i e, env => (get env i).fl env fun l => (ofO (lstOf l)).fl env fun xs => (ev c G e env).fl env fun d => (ofO (appL xs d)).fl env fun z => .nx (put env i (.list z))
  | .ext i e, env => (get env i).fl env fun l => (ofO (lstOf l)).fl env fun xs => (ev c G e env).fl env fun d => (ofO (extL xs d)).fl env fun z => .nx (put env i (.list z))
  | .pop j i, env => (get env i).fl env fun l => (ofO (lstOf l)).fl env fun xs => (ofO (popL xs)).fl env fun z => .nx (put (put env i (.list z.2)) j z.1)
  | .pop0 j i, env => (get env i).fl env fun l => (ofO (lstOf l)).fl env fun xs => (ofO (pop0L xs)).fl env fun z => .nx (put (put env i (.list z.2)) j z.1)
  | .set i k e, env => (ev c G e env).fl env fun d => (get env i).fl env fun l => (ofO (lstOf l)).fl env fun xs => (ev c G k env).fl env fun n => (ofO (setL xs n d)).fl env fun z => .nx (put env i (.list z))
  | .set2 i k1 k2 e1 e2, env => (ev c G e1 env).fl env fun d1 => (ev c G e2 env).fl env fun d2 => (get env i).fl env fun l => (ofO (lstOf l)).fl env fun xs => (ev c G k1 env).fl env fun n1 => (ofO (setL xs n1 d1)).fl env fun z =>
      (ev c G k2 (put env i (.list z))).fl (put env i (.list z)) fun n2 => (ofO (setL z n2 d2)).fl env fun z2 => .nx (put (put env i (.list z)) i (.list z2))
  | .ife t a b, env => (evT c G t env).fl env fun k => if k then runs c G w a env else runs c G w b env
  | .forr t it b, env => (evI c G it env).fl env fun xs => forL t (fun env => runs c G w b env) xs env
  | .whil t b, env => whileL (fun env => evT c G t env) (fun env => runs c G w b env) w env
  | .ret e, env => (ev c G e env).fl env fun d => .rt d
  | .retN, _ => .rt .none
  | .rais x, env => .exc ⟨x, none⟩ env
  | .raisA x e, env => (ev c G e env).fl env fun d => if flatD d then .exc ⟨x, some d⟩ env else .stuck
  | .expr e, env => (ev c G e env).fl env fun _ => .nx env
  | .pass, env => .nx env
  | .tri i b hs, env => (runs c G w b env).catch i hs
  | .trA i e h, env => ((ev c G e env).fl env fun _ => .nx env).catchA i h
def runs (c : Orc) (G : Gd) (w : Nat) : Sms → Env → Fl
  | .nil, env => .nx env
  | .cons s r, env => (run c G w s env).then fun env' => runs c G w r env'
end

/-! ### readings -/
def DoneS (K : PySem.W.Frag) (g : Gh) (F : Hp) (r : Fl) (D : Ends) : Prop := match r with
  | .nx env' => ∀ σ' H' F', Same F F' → Rel K g.M g.F0 g.H0 F' env' σ' H' → D.nx σ' H'
  | .rt d => ∀ v H' F', Ext g.F0 g.H0 F' H' → Dq K F' v d → D.rt v H'
  | .exc x env' => ∀ σ' H' F', Rel K g.M g.F0 g.H0 F' env' σ' H' → ∀ cls dd, XR K g.C x cls dd H' → g.W cls dd σ' H'
  | .stuck => False
def tS (K : PySem.W.Frag) (g : Gh) (f : Env → Fl) : TS := fun D σ H => ∃ F env, Rel K g.M g.F0 g.H0 F env σ H ∧ DoneS K g F (f env) D
theorem DoneS.up {K : PySem.W.Frag} {g : Gh} {F F' : Hp} {r : Fl} {D : Ends} (s : Same F F') (h : DoneS K g F r D) : DoneS K g F' r D := by
  cases r with
  | nx env => exact fun σ' H' F'' s' => h σ' H' F'' (s.trans s')
  | rt d => exact h
  | exc x env => exact h
  | stuck => exact h
theorem PS.wk {X : Cx} {st : Stmt} {t t' : TS} (h : PS X st t) (w : ∀ D σ H, t' D σ H → t D σ H) : PS X st t' := ⟨fun pins s σ H D I q => h.run pins s σ H D I (w D σ H q)⟩
theorem PSs.wk {X : Cx} {st : List Stmt} {t t' : TS} (h : PSs X st t) (w : ∀ D σ H, t' D σ H → t D σ H) : PSs X st t' := ⟨fun pins s σ H D I q => h.run pins s σ H D I (w D σ H q)⟩
/-- from an expression's end to a statement's -/
theorem done_fl {K : PySem.W.Frag} {g : Gh} {m : Md} {r : Res D} {F H : Hp} {env : Env} {σ : L2.St} {En : Ends} {Q : VK} {f : D → Fl} (rel : Rel K g.M g.F0 g.H0 F env σ H) (h : DoneS K g F (r.fl env f) En)
    (k : ∀ d, r = .ok d → DoneS K g F (f d) En → ∀ v H' F', Ext F H F' H' → Post K m F' H H' v d → Q v H') : Done K g m r F H σ Q := by
  cases r with
  | ok d => exact fun v H' F' x p => k d rfl h v H' F' x p
  | exc x => exact fun H' F' x1 => h σ H' F' (rel.step x1)
  | stuck => exact h
theorem done_flT {K : PySem.W.Frag} {g : Gh} {r : Res Bool} {F H : Hp} {env : Env} {σ : L2.St} {En : Ends} {Q : Bool → Hp → Prop} {f : Bool → Fl} (rel : Rel K g.M g.F0 g.H0 F env σ H) (h : DoneS K g F (r.fl env f) En)
    (k : ∀ b, r = .ok b → DoneS K g F (f b) En → ∀ H' F', Ext F H F' H' → Q b H') : DoneT K g r F H σ Q := by
  cases r with
  | ok d => exact fun H' F' x => k d rfl h H' F' x
  | exc x => exact fun H' F' x1 => h σ H' F' (rel.step x1)
  | stuck => exact h

section
variable {g : Gh} {X : Cx} {e a b o : Expr} {fa fb : Env → Res D} {pos : Pos} {st : Stmt} {rest : List Stmt} {f fs : Env → Fl}
theorem ds_nil : PSs X [] (tS X.K g fun env => .nx env) := PSs.wk pss_nil fun D σ H ⟨F, env, rel, h⟩ => h σ H F (Same.refl _) rel
theorem ds_cons (h1 : PS X st (tS X.K g f)) (h2 : PSs X rest (tS X.K g fs)) : PSs X (st :: rest) (tS X.K g fun env => (f env).then fs) := by
  refine PSs.wk (pss_cons h1 h2) fun D σ H ⟨F, env, rel, h⟩ => ⟨F, env, rel, ?_⟩
  cases q : f env with
  | nx env' => simp only [q, then_nx] at h; exact fun σ' H' F' sm rel' => ⟨F', env', rel', DoneS.up sm h⟩
  | rt d => simp only [q, then_rt] at h; exact h
  | exc x env' => simp only [q, then_exc] at h; exact h
  | stuck => simp only [q, then_stuck] at h; exact h.elim
theorem ds_pass : PS X (.Pass pos) (tS X.K g fun env => .nx env) := PS.wk ps_pass fun D σ H ⟨F, env, rel, h⟩ => h σ H F (Same.refl _) rel
theorem ds_retN : PS X (.Return none pos) (tS X.K g fun _ => .rt .none) := PS.wk ps_retN fun D σ H ⟨F, env, rel, h⟩ => h .non H F rel.ext .non
/-- what is returned is frozen -/
theorem ret_post {K : PySem.W.Frag} {m : Md} {F0 H0 F H F' H' : Hp} {v : V} {d : D} {Q : VK} (x0 : Ext F0 H0 F H) (x : Ext F H F' H') (p : Post K m F' H H' v d) (hR : m = .R → (∃ a, v = .ref a ∧ H0 a = none ∧ F' a = none) ∨ Dq K F' v d)
    (h : ∀ v H' F', Ext F0 H0 F' H' → Dq K F' v d → Q v H') : Q v H' := by
  have x1 := x0.trans x
  cases m with
  | V => exact h v H' F' x1 p
  | O =>
    rcases p with ⟨a, vs, ds, rfl, rfl, h1, h2, h3, h4⟩ | ⟨_, p⟩
    · exact h _ H' _ (x1.freeze (x0.hh.free h3) h2 h1) (.lst upd_same (h4.mono (same_upd h2)))
    · exact h v H' F' x1 p
  | R =>
    rcases p with p | ⟨a, vs, ds, rfl, rfl, h1, h4⟩
    · exact h v H' F' x1 p
    · rcases hR rfl with ⟨b, e, h3, h2⟩ | p
      · cases e
        exact h _ H' _ (x1.freeze h3 h2 h1) (.lst upd_same (h4.mono (same_upd h2)))
      · exact h _ H' F' x1 p
theorem ds_ret {m : Md} (hm : mle m .V = true) (ha : PE X a (tE X.K g m fa)) : PS X (.Return (some a) pos) (tS X.K g fun env => (fa env).fl env fun d => .rt d) := by
  refine PS.wk (ps_ret ha) fun D σ H ⟨F, env, rel, h⟩ => ⟨F, env, rel, done_fl rel h fun d _ h v H' F' x p => ?_⟩
  exact ret_post rel.ext x p (fun e => by subst e; cases hm) h
/-- return of an owned name -/
theorem ds_retM {i : Nat} {x : Str} {p0 : Pos} (hN : X.N[i]? = some x) (hv : Vis X.env.scope x) (hd : (x == ("__debug__" : Str)) = false) (hcd : (x == ("__classdict__" : Str)) = false) : PS X (.Return (some (.Name x p0)) pos) (tS X.K g fun env => (get env i).fl env fun d => .rt d) := by
  refine PS.wk (ps_ret (pe_var hN hv hd hcd)) fun D σ H ⟨F, env, rel, h⟩ => ?_
  unfold get at h
  replace h : DoneS X.K g F ((match env[i]? with | some (some d) => Res.ok d | _ => Res.stuck).fl env fun d => .rt d) D := h
  cases q : env[i]? with
  | none => rw [q] at h; exact h.elim
  | some o =>
    cases o with
    | none => rw [q] at h; exact h.elim
    | some d =>
      rw [q] at h
      obtain ⟨v, h1, h2⟩ := rel.sl i d q
      refine ⟨v, h1, ?_⟩
      split at h2
      · rcases h2 with ⟨a, vs, ds, rfl, rfl, e1, e2, e3, e4⟩ | ⟨_, p⟩
        · exact h _ H _ (rel.ext.freeze e3 e2 e1) (.lst upd_same (e4.mono (same_upd e2)))
        · exact h v H F rel.ext p
      · exact h v H F rel.ext h2
theorem ds_expr (ha : PE X a (tE X.K g .R fa)) (hs : swapsWith a none pos.line X.env = pure false) : PS X (.Expr a pos) (tS X.K g fun env => (fa env).fl env fun _ => .nx env) := by
  refine PS.wk (ps_expr ha hs) fun D σ H ⟨F, env, rel, h⟩ => ⟨F, env, rel, done_fl rel h fun d _ h v H' F' x p => ?_⟩
  exact h σ H' F' x.ff (rel.step x)
theorem ds_if {ta : Env → Res Bool} {p q : List Stmt} {f1 f2 : Env → Fl} (hc : PT X a (tT X.K g ta)) (h1 : PSs X p (tS X.K g f1)) (h2 : PSs X q (tS X.K g f2)) : PS X (.If a p q pos) (tS X.K g fun env => (ta env).fl env fun k => if k then f1 env else f2 env) := by
  refine PS.wk (ps_if hc h1 h2) fun D σ H ⟨F, env, rel, h⟩ => ⟨F, env, rel, done_flT rel h fun k _ h H' F' x => ?_⟩
  cases k with
  | true => rw [if_pos rfl] at h ⊢; exact ⟨F', env, rel.step x, DoneS.up x.ff h⟩
  | false => rw [if_neg Bool.false_ne_true] at h ⊢; exact ⟨F', env, rel.step x, DoneS.up x.ff h⟩

/-! ### stores -/
/-- a value goes to a slot -/
theorem Rel.storeP {K : PySem.W.Frag} {M : Nat → Bool} {F0 H0 F H F' H' : Hp} {env : Env} {σ : L2.St} {j : Nat} {v : V} {d : D} (r : Rel K M F0 H0 F env σ H) (x : Ext F H F' H') (p : Post K (if M j then .O else .V) F' H H' v d) :
    Rel K M F0 H0 F' (put env j d) (σ.set j (some v)) H' := by
  have r' := r.step x
  by_cases hm : M j = true
  · rw [if_pos hm] at p
    refine r'.store (by rw [if_pos hm]; exact Post.back (m := .O) (F1 := F) (H1 := H) r.ext p) fun _ i a di dj ne mi ei si ed ev => ?_
    subst ed ev
    obtain ⟨vs, h1, _⟩ := r.there mi ei si
    rcases p with ⟨b, _, _, e1, _, _, _, h3, _⟩ | ⟨h3, _⟩
    · cases e1
      rw [h1] at h3
      cases h3
    · exact h3 dj rfl
  · have hm' : M j = false := by cases q : M j with | true => exact absurd q hm | false => rfl
    rw [if_neg hm] at p
    exact r'.storeV hm' p
theorem ds_asg {i : Nat} {x : Str} {p0 : Pos} (hN : X.N.Nodup) (hi : X.N[i]? = some x) (hx : L2.Loc X.env.scope x) (hf : X.fn x = true) (ha : PE X a (tE X.K g (if g.M i then .O else .V) fa)) (hs : swapsWith a (some (.Name x p0)) pos.line X.env = pure false) :
    PS X (.Assign [.Name x p0] a pos) (tS X.K g fun env => (fa env).fl env fun d => .nx (put env i d)) := by
  refine PS.wk (ps_set hN hi hx ha hs (.inl hf)) fun D σ H ⟨F, env, rel, h⟩ => ⟨F, env, rel, done_fl rel h fun d _ h v H' F' x p => ?_⟩
  exact h _ H' F' x.ff (rel.storeP x p)
/-- .. whatever the rule for the store is -/
theorem ds_asgR {i : Nat} {te : TE} (rule : PS X st (tAsg te (gName i))) (w : ∀ σ H Q, tE X.K g (if g.M i then .O else .V) fa σ H Q → te σ H Q) : PS X st (tS X.K g fun env => (fa env).fl env fun d => .nx (put env i d)) := by
  refine PS.wk rule fun D σ H ⟨F, env, rel, h⟩ => w σ H _ ⟨F, env, rel, done_fl rel h fun d _ h v H' F' x p => ?_⟩
  exact h _ H' F' x.ff (rel.storeP x p)
/-- x = y, y owned: the list goes over -/
theorem ds_mov {i j : Nat} {x y : Str} {p0 p1 : Pos} (hij : i ≠ j) (mi : g.M i = false) (hN : X.N.Nodup) (hi : X.N[i]? = some x) (hx : L2.Loc X.env.scope x) (hf : X.fn x = true) (hj : X.N[j]? = some y) (hv : Vis X.env.scope y) (hd : (y == ("__debug__" : Str)) = false) (hcd : (y == ("__classdict__" : Str)) = false) :
    PS X (.Assign [.Name x p0] (.Name y p1) pos) (tS X.K g fun env => (get env j).fl env fun d => .nx ((put env i d).set j none)) := by
  refine PS.wk (ps_set hN hi hx (pe_var hj hv hd hcd) rfl (.inl hf)) fun D σ H ⟨F, env, rel, h⟩ => ?_
  replace h : DoneS X.K g F ((get env j).fl env fun d => .nx ((put env i d).set j none)) D := h
  unfold get at h
  cases q : env[j]? with
  | none => rw [q] at h; exact h.elim
  | some o =>
    cases o with
    | none => rw [q] at h; exact h.elim
    | some d =>
      rw [q] at h
      obtain ⟨v, h1, h2⟩ := rel.sl j d q
      refine ⟨v, h1, ?_⟩
      have fin : ∀ F', Same F' H → Dq X.K F' v d → (F' = F ∨ ∃ a o, v = .ref a ∧ F' = upd F a o ∧ F a = none ∧ g.M j = true ∧ ∃ ds, d = .list ds) → D.nx (σ.set i (some v)) H := fun F' xx dv hF => by
        refine h _ H F' (by rcases hF with rfl | ⟨a, o, _, rfl, na, _⟩; exact Same.refl _; exact same_upd na) ?_
        -- forget j first, then freeze, then store, then forget again
        have r0 := rel.forget j (some v)
        have hσ : σ.set j (some v) = σ := by
          apply List.ext_getElem?
          intro l
          by_cases hl : j = l
          · subst hl
            rw [List.getElem?_set_self (by have := (List.getElem?_eq_some_iff.mp h1).1; exact this), h1]
          · rw [List.getElem?_set_ne hl]
        rw [hσ] at r0
        have r1 : Rel X.K g.M g.F0 g.H0 F' (env.set j none) σ H := by
          rcases hF with rfl | ⟨a, o, rfl, rfl, na, mj, ds, rfl⟩
          · exact r0
          · have hown : Own X.K g.H0 F H (.ref a) (.list ds) := by rw [if_pos mj] at h2; exact h2
            have hH0 : g.H0 a = none := by
              rcases hown with ⟨b, _, _, e1, _, _, _, e5, _⟩ | ⟨e1, _⟩
              · cases e1; exact e5
              · exact absurd rfl (e1 ds)
            refine ⟨⟨r0.ext.hh, r0.ext.ff.trans (same_upd na), xx, fun b u qb => ?_⟩, r0.len, fun l dl el => ?_, r0.ds⟩
            · by_cases hb : b = a
              · subst hb; exact .inr hH0
              · rw [upd_ne hb] at qb; exact r0.ext.nw b u qb
            · obtain ⟨vl, e1, e2⟩ := r0.sl l dl el
              refine ⟨vl, e1, ?_⟩
              split at e2
              · rename_i ml
                rw [if_pos ml]
                rcases e2 with ⟨b, vs, dl', rfl, rfl, z1, z2, z3, z4⟩ | ⟨z1, z2⟩
                · refine .inl ⟨b, vs, dl', rfl, rfl, z1, ?_, z3, z4.mono (same_upd na)⟩
                  by_cases hb : b = a
                  · subst hb
                    have hlj : l ≠ j := fun z => by
                      subst z
                      have : l < env.length := (List.getElem?_eq_some_iff.mp q).1
                      rw [List.getElem?_set_self this] at el
                      cases el
                    rw [List.getElem?_set_ne (Ne.symm hlj)] at el
                    exact absurd (rel.ds l j b dl' ds ml mj el q e1 h1) hlj
                  · rw [upd_ne hb]; exact z2
                · exact .inr ⟨z1, z2.mono (same_upd na)⟩
              · rename_i ml
                rw [if_neg ml]
                exact e2.mono (same_upd na)
        have r2 := (r1.storeV mi dv).forget j none
        have e1 : ((put (env.set j none) i d).set j none) = (put env i d).set j none := by
          unfold put
          rw [List.set_comm _ _ (Ne.symm hij), List.set_set]
        rw [e1] at r2
        have r3 : Rel X.K g.M g.F0 g.H0 F' ((put env i d).set j none) (σ.set i (some v)) H := by
          refine ⟨r2.ext, by rw [r2.len]; simp, fun l dl el => ?_, fun l m a dl dm ml mm el em sl sm => ?_⟩
          · obtain ⟨vl, e1, e2⟩ := r2.sl l dl el
            refine ⟨vl, ?_, e2⟩
            by_cases hl : j = l
            · subst hl
              exfalso
              by_cases hb : j < (put env i d).length
              · rw [List.getElem?_set_self hb] at el; cases el
              · rw [List.getElem?_eq_none (by simpa using hb)] at el; cases el
            · rw [List.getElem?_set_ne hl] at e1; exact e1
          · have ne : ∀ {l : Nat} {dl : List PySem.PyData}, ((put env i d).set j none)[l]? = some (some (PyData.list dl)) → j ≠ l := fun {l dl} el hl => by
              subst hl
              by_cases hb : j < (put env i d).length
              · rw [List.getElem?_set_self hb] at el; cases el
              · rw [List.getElem?_eq_none (by simpa using hb)] at el; cases el
            exact r2.ds l m a dl dm ml mm el em (by rw [List.getElem?_set_ne (ne el)]; exact sl) (by rw [List.getElem?_set_ne (ne em)]; exact sm)
        exact r3
      by_cases mj : g.M j = true
      · rw [if_pos mj] at h2
        rcases h2 with ⟨a, vs, ds, rfl, rfl, e1, e2, e3, e4⟩ | ⟨_, p⟩
        · refine fin (upd F a (.lst vs)) (fun b u qb => ?_) (.lst upd_same (e4.mono (same_upd e2))) (.inr ⟨a, _, rfl, rfl, e2, mj, ds, rfl⟩)
          by_cases hb : b = a
          · subst hb; rw [upd_same] at qb; cases qb; exact e1
          · rw [upd_ne hb] at qb; exact rel.fh _ _ qb
        · exact fin F rel.fh p (.inl rfl)
      · rw [if_neg mj] at h2
        exact fin F rel.fh h2 (.inl rfl)
end
end DH
set_option Elab.async false
set_option linter.all false
set_option maxRecDepth 100000
set_option maxHeartbeats 2000000
/-! DH, part P: stores into lists, loops, raise. -/
namespace DH
open PySem L2
open PySem.Spec PyProof.Rows

/-- an owned list is written -/
theorem Rel.write {K : PySem.W.Frag} {M : Nat → Bool} {F0 H0 F H : Hp} {env : Env} {σ : L2.St} {i : Nat} {a : Addr} {ds ds' : List D} {vs' : List V} (r : Rel K M F0 H0 F env σ H) (mi : M i = true) (ei : env[i]? = some (some (.list ds))) (si : σ[i]? = some (some (.ref a)))
    (q : DqAll K F vs' ds') : Rel K M F0 H0 F (put env i (.list ds')) σ (upd H a (.lst vs')) := by
  obtain ⟨vs, h1, h2, h3, h4⟩ := r.there mi ei si
  have hlen : i < env.length := (List.getElem?_eq_some_iff.mp ei).1
  have g : ∀ l d, (put env i (.list ds'))[l]? = some (some d) → (l = i ∧ d = .list ds') ∨ (l ≠ i ∧ env[l]? = some (some d)) := fun l d e => by
    unfold put at e
    by_cases hl : i = l
    · subst hl; rw [List.getElem?_set_self hlen] at e; cases e; exact .inl ⟨rfl, rfl⟩
    · rw [List.getElem?_set_ne hl] at e; exact .inr ⟨fun z => hl z.symm, e⟩
  refine ⟨⟨fun b o e => ?_, r.ext.ff, fun b o e => ?_, r.ext.nw⟩, by unfold put; rw [List.length_set]; exact r.len, fun l d e => ?_, fun l m b dl dm ml mm el em sl sm => ?_⟩
  · rw [upd_ne (ne_of_none e h3)]; exact r.ext.hh _ _ e
  · rw [upd_ne (ne_of_none e h2)]; exact r.ext.fh _ _ e
  · rcases g l d e with ⟨rfl, rfl⟩ | ⟨ne, e'⟩
    · refine ⟨.ref a, si, ?_⟩
      rw [if_pos mi]
      exact .inl ⟨a, vs', ds', rfl, rfl, upd_same, h2, h3, q⟩
    · obtain ⟨v, e1, e2⟩ := r.sl l d e'
      refine ⟨v, e1, ?_⟩
      split at e2
      · rename_i ml
        rw [if_pos ml]
        rcases e2 with ⟨b, ws, dl, rfl, rfl, z1, z2, z3, z4⟩ | ⟨z1, z2⟩
        · refine .inl ⟨b, ws, dl, rfl, rfl, ?_, z2, z3, z4⟩
          rw [upd_ne (fun hb => ne (by subst hb; exact r.ds l i b dl ds ml mi e' ei e1 si))]
          exact z1
        · exact .inr ⟨z1, z2⟩
      · rename_i ml
        rw [if_neg ml]
        exact e2
  · have h : ∀ {l : Nat} {dl : List PySem.PyData}, (put env i (.list ds'))[l]? = some (some (PyData.list dl)) → ∃ dl', env[l]? = some (some (.list dl')) := fun {l dl} el => by
      rcases g l _ el with ⟨rfl, _⟩ | ⟨_, e'⟩
      · exact ⟨ds, ei⟩
      · exact ⟨dl, e'⟩
    obtain ⟨dl', el'⟩ := h el
    obtain ⟨dm', em'⟩ := h em
    exact r.ds l m b dl' dm' ml mm el' em' sl sm
theorem get_ok {env : Env} {i : Nat} {d : D} (h : get env i = .ok d) : env[i]? = some (some d) := by
  unfold get at h
  split at h
  · rename_i q; cases h; exact q
  · cases h
/-- the owned list at a slot -/
theorem Rel.lst {K : PySem.W.Frag} {M : Nat → Bool} {F0 H0 F H : Hp} {env : Env} {σ : L2.St} {i : Nat} {ds : List D} (r : Rel K M F0 H0 F env σ H) (mi : M i = true) (ei : env[i]? = some (some (.list ds))) :
    ∃ a vs, σ[i]? = some (some (.ref a)) ∧ H a = some (.lst vs) ∧ DqAll K F vs ds := by
  obtain ⟨v, e1, e2⟩ := r.sl i _ ei
  rw [if_pos mi] at e2
  rcases e2 with ⟨b, ws, dl, rfl, e3, z1, z2, z3, z4⟩ | ⟨z1, z2⟩
  · cases e3; exact ⟨b, ws, e1, z1, z4⟩
  · exact absurd rfl (z1 ds)

/-- a name of a slot -/
structure Slt (X : Cx) (i : Nat) (x : Str) : Prop where
  at_ : X.N[i]? = some x
  vis : Vis X.env.scope x
  nd : (x == ("__debug__" : Str)) = false
  nc : (x == ("__classdict__" : Str)) = false
section
variable {g : Gh} {X : Cx} {e a b : Expr} {fa fb : Env → Res D} {pos p0 : Pos} {st : Stmt} {i : Nat} {x : Str}
theorem Slt.pe (L : Slt X i x) : PE X (.Name x p0) (tVar i) := pe_var L.at_ L.vis L.nd L.nc
theorem fl_get {K : PySem.W.Frag} {F : Hp} {env : Env} {En : Ends} {f : D → Fl} (h : DoneS K g F ((get env i).fl env f) En) : ∃ d, env[i]? = some (some d) ∧ DoneS K g F (f d) En := by
  cases q : get env i with
  | ok d => rw [q] at h; exact ⟨d, get_ok q, h⟩
  | exc x => unfold get at q; split at q <;> cases q
  | stuck => rw [q] at h; exact h.elim
theorem fl_o {K : PySem.W.Frag} {F : Hp} {α : Type} {o : Option α} {env : Env} {En : Ends} {f : α → Fl} (h : DoneS K g F ((ofO o).fl env f) En) : ∃ z, o = some z ∧ DoneS K g F (f z) En := by
  cases o with
  | none => exact h.elim
  | some z => exact ⟨z, rfl, h⟩
theorem fl_lst {K : PySem.W.Frag} {F : Hp} {d : D} {env : Env} {En : Ends} {f : List D → Fl} (h : DoneS K g F ((ofO (lstOf d)).fl env f) En) : ∃ xs, d = .list xs ∧ DoneS K g F (f xs) En := by
  obtain ⟨xs, e, h⟩ := fl_o h
  cases d <;> simp only [lstOf] at e <;> cases e
  exact ⟨_, rfl, h⟩
theorem ds_app {apos : Pos} {p1 : Pos} (mi : g.M i = true) (L : Slt X i x) (ha : PE X a (tE X.K g .V fa)) (pa : plainE a = true) (hline : (apos.endLine == p1.line) = true) :
    PS X (.Expr (.Call (.Attribute (.Name x p0) "append" apos) [a] [] p1) pos) (tS X.K g fun env => (get env i).fl env fun l => (ofO (lstOf l)).fl env fun xs => (fa env).fl env fun d => (ofO (appL xs d)).fl env fun z => .nx (put env i (.list z))) := by
  refine PS.wk (ps_expr (pe_bm PySem.F.plainAttrs_list PySem.F.slot_list_append PySem.F.type_list_append mt_append (L.pe (p0 := p0)) (pa_cons ha pa_nil (star_plain pa _ _)) rfl (few1 pa p1 X.env) hline (star_plain pa _ _))) fun D σ H ⟨F, env, rel, h⟩ => ?_
  obtain ⟨d, ei, h2⟩ := fl_get h
  obtain ⟨ds, ed, h3⟩ := fl_lst h2
  subst ed
  obtain ⟨p, vs, si, hl, dq⟩ := rel.lst mi ei
  refine ⟨.ref p, si, .inl ⟨rfl, vs, SqL.of hl⟩, F, env, rel, done_fl rel h3 fun d _ h v H' F' x p1 => ?_⟩
  obtain ⟨z, e1, h⟩ := fl_o h
  unfold appL at e1
  split at e1
  · rename_i hlt
    cases e1
    refine ⟨p, vs, v, rfl, rfl, x.hh _ _ hl, by rw [dq.length]; exact line_lt hlt, ?_⟩
    exact h σ _ F' x.ff ((rel.step x).write mi ei si ((dq.mono x.ff).append (.cons p1 .nil)))
  · cases e1
theorem ds_ext {apos : Pos} {p1 : Pos} (mi : g.M i = true) (L : Slt X i x) (ha : PE X a (tE X.K g .V fa)) (pa : plainE a = true) (hline : (apos.endLine == p1.line) = true) :
    PS X (.Expr (.Call (.Attribute (.Name x p0) "extend" apos) [a] [] p1) pos) (tS X.K g fun env => (get env i).fl env fun l => (ofO (lstOf l)).fl env fun xs => (fa env).fl env fun d => (ofO (extL xs d)).fl env fun z => .nx (put env i (.list z))) := by
  refine PS.wk (ps_expr (pe_bm PySem.F.plainAttrs_list PySem.F.slot_list_extend PySem.F.type_list_extend mt_extend (L.pe (p0 := p0)) (pa_cons ha pa_nil (star_plain pa _ _)) rfl (few1 pa p1 X.env) hline (star_plain pa _ _))) fun D σ H ⟨F, env, rel, h⟩ => ?_
  obtain ⟨d, ei, h2⟩ := fl_get h
  obtain ⟨ds, ed, h3⟩ := fl_lst h2
  subst ed
  obtain ⟨p, vs, si, hl, dq⟩ := rel.lst mi ei
  refine ⟨.ref p, si, .inl ⟨rfl, vs, SqL.of hl⟩, F, env, rel, done_fl rel h3 fun d _ h v H' F' x p1 => ?_⟩
  obtain ⟨z, e1, h⟩ := fl_o h
  cases d with
  | list ys =>
    unfold extL at e1
    simp only at e1
    split at e1
    · rename_i hlt
      cases e1
      cases (show Dq X.K F' v (.list ys) from p1) with
      | lst hb qb =>
        refine ⟨p, _, vs, _, rfl, rfl, x.hh _ _ hl, x.fh _ _ hb, by rw [dq.length, qb.length]; exact line_lim hlt, ?_⟩
        exact h σ _ F' x.ff ((rel.step x).write mi ei si ((dq.mono x.ff).append qb))
    · cases e1
  | _ => cases e1
/-- y = x.pop() -/
theorem ds_pop {j : Nat} {y : Str} {apos p1 p2 : Pos} (hij : i ≠ j) (mi : g.M i = true) (mj : g.M j = false) (L : Slt X i x) (hN : X.N.Nodup) (hj : X.N[j]? = some y) (hy : L2.Loc X.env.scope y) (hf : X.fn y = true) (hline : (apos.endLine == p1.line) = true) :
    PS X (.Assign [.Name y p2] (.Call (.Attribute (.Name x p0) "pop" apos) [] [] p1) pos) (tS X.K g fun env => (get env i).fl env fun l => (ofO (lstOf l)).fl env fun xs => (ofO (popL xs)).fl env fun z => .nx (put (put env i (.list z.2)) j z.1)) := by
  refine PS.wk (ps_set hN hj hy (pe_bm0 PySem.F.plainAttrs_list PySem.F.slot_list_pop PySem.F.type_list_pop mt_pop (L.pe (p0 := p0)) rfl hline) rfl (.inl hf)) fun D σ H ⟨F, env, rel, h⟩ => ?_
  obtain ⟨d, ei, h2⟩ := fl_get h
  obtain ⟨ds, ed, h3⟩ := fl_lst h2
  subst ed
  obtain ⟨p, vs, si, hl, dq⟩ := rel.lst mi ei
  obtain ⟨z, e1, h4⟩ := fl_o h3
  unfold popL at e1
  obtain ⟨w, e2, rfl⟩ := map_some e1
  obtain ⟨v, e3, dv⟩ := dq.get e2
  refine ⟨.ref p, si, .inl ⟨rfl, vs, SqL.of hl⟩, p, vs, v, rfl, rfl, hl, by rw [dq.length]; exact e3, ?_⟩
  refine h4 _ _ F (Same.refl _) ((rel.write mi ei si dq.dropLast).storeV mj dv)
theorem ds_pop0 {j : Nat} {y : Str} {apos p1 p2 p3 : Pos} {kk : Nat} (hij : i ≠ j) (mi : g.M i = true) (mj : g.M j = false) (L : Slt X i x) (hN : X.N.Nodup) (hj : X.N[j]? = some y) (hy : L2.Loc X.env.scope y) (hf : X.fn y = true) (hline : (apos.endLine == p1.line) = true) :
    PS X (.Assign [.Name y p2] (.Call (.Attribute (.Name x p0) "pop" apos) [.Constant (.int 0) kk p3] [] p1) pos) (tS X.K g fun env => (get env i).fl env fun l => (ofO (lstOf l)).fl env fun xs => (ofO (pop0L xs)).fl env fun z => .nx (put (put env i (.list z.2)) j z.1)) := by
  refine PS.wk (ps_set hN hj hy (pe_bm PySem.F.plainAttrs_list PySem.F.slot_list_pop PySem.F.type_list_pop mt_popAt (L.pe (p0 := p0)) (pa_cons pe_int pa_nil) rfl rfl hline) rfl (.inl hf)) fun D σ H ⟨F, env, rel, h⟩ => ?_
  obtain ⟨d, ei, h2⟩ := fl_get h
  obtain ⟨ds, ed, h3⟩ := fl_lst h2
  subst ed
  obtain ⟨p, vs, si, hl, dq⟩ := rel.lst mi ei
  obtain ⟨z, e1, h4⟩ := fl_o h3
  cases ds with
  | nil => cases e1
  | cons d0 ds =>
    cases e1
    cases dq with
    | cons dv dq' =>
      rename_i v vs
      refine ⟨.ref p, si, .inl ⟨rfl, _, SqL.of hl⟩, p, v :: vs, 0, 0, v, rfl, rfl, hl, by decide, by decide, ?_, rfl, ?_⟩
      · unfold seqIndex?
        simp
      · exact h4 _ _ F (Same.refl _) ((rel.write mi ei si dq').storeV mj dv)
/-- x[k] = e -/
theorem set_ok {ds z : List D} {n d : D} (e : setL ds n d = some z) : ∃ m p, n = .int m ∧ ixN ds.length m = some p ∧ z = ds.set p d := by
  cases n <;> simp only [setL] at e <;> first | (obtain ⟨p, h1, h2⟩ := map_some e; exact ⟨_, p, rfl, h1, h2.symm⟩) | cases e
theorem ds_set {k : Expr} {fk : Env → Res D} {p1 : Pos} (mi : g.M i = true) (L : Slt X i x) (ha : PE X a (tE X.K g .V fa)) (hk : PE X k (tE X.K g .R fk)) (pk : plainE k = true) (pa : ∀ tg l, swapsWithSole [.Subscript (.Name x p0) k tg] a l X.env = pure false) (pw : ∀ tg, swappedStores [.Subscript (.Name x p0) k tg] a X.env = pure none) :
    PS X (.Assign [.Subscript (.Name x p0) k p1] a pos) (tS X.K g fun env => (fa env).fl env fun d => (get env i).fl env fun l => (ofO (lstOf l)).fl env fun xs => (fk env).fl env fun n => (ofO (setL xs n d)).fl env fun z => .nx (put env i (.list z))) := by
  have hg : PG X (.Subscript (.Name x p0) k p1) (gSub (tVar i) (tE X.K g .R fk) rSetL) := by
    refine pg_sub (L.pe (p0 := p0)) hk set_list (fun v => ?_)
    cases k <;> first | rfl | (simp [plainE] at pk; done)
  refine PS.wk (ps_asg ha hg (pa _ _) (pw _)) fun D σ H ⟨F, env, rel, h⟩ => ⟨F, env, rel, done_fl rel h fun d _ h v H1 F1 x1 q1 => ?_⟩
  obtain ⟨l, ei, h2⟩ := fl_get h
  obtain ⟨ds, ed, h3⟩ := fl_lst h2
  subst ed
  have rel1 := rel.step x1
  obtain ⟨p, vs, si, hl, dq⟩ := rel1.lst mi ei
  refine ⟨.ref p, si, F1, env, rel1, done_fl rel1 (DoneS.up x1.ff h3) fun n _ h u H2 F2 x2 q2 => ?_⟩
  obtain ⟨z, e1, h4⟩ := fl_o h
  obtain ⟨m, w, rfl, e2, rfl⟩ := set_ok e1
  have dq2 := dq.mono x2.ff
  refine ⟨p, vs, m, w, rfl, R_int q2, x2.hh _ _ hl, by rw [dq.length]; exact e2, ?_⟩
  exact h4 σ _ F2 x2.ff ((rel1.step x2).write mi ei si (dq2.set (Dq.mono x2.ff q1) w))

/-! ### two at once -/
theorem ds_par {j : Nat} {y : Str} {px py pt pt2 : Pos} {kt k2 : Nat} (hc : X.calm = true) (hN : X.N.Nodup) (hij : i ≠ j) (mi : g.M i = false) (mj : g.M j = false) (hi : X.N[i]? = some x) (hj : X.N[j]? = some y)
    (hx : X.env.scope.names.lookup x = some .local) (hy : X.env.scope.names.lookup y = some .local) (ha : PE X a (tE X.K g .V fa)) (hb : PE X b (tE X.K g .V fb)) (pa : plainE a = true) (pb : plainE b = true)
    (hw : swappedStores [.Tuple [.Name x px, .Name y py] kt pt] (.Tuple [a, b] k2 pt2) X.env = pure (some [x, y])) :
    PS X (.Assign [.Tuple [.Name x px, .Name y py] kt pt] (.Tuple [a, b] k2 pt2) pos) (tS X.K g fun env => (fa env).fl env fun d => (fb env).fl env fun d2 => .nx (put (put env i d) j d2)) := by
  refine PS.wk (ps_par hc hN hi hj hij hx hy (pa_cons ha (pa_cons hb pa_nil (star_plain pb _ _)) (star_plain pa _ _)) hw rfl) fun D σ H ⟨F, env, rel, h⟩ => ⟨F, env, rel, done_fl rel h fun d _ h v H1 F1 x1 q1 => ?_⟩
  have rel1 := rel.step x1
  refine ⟨F1, env, rel1, done_fl rel1 (DoneS.up x1.ff h) fun d2 _ h v2 H2 F2 x2 q2 => ?_⟩
  refine ⟨v, v2, rfl, h _ H2 F2 x2.ff ?_⟩
  exact ((rel1.step x2).storeV mi (Dq.mono x2.ff q1)).storeV mj q2
theorem ds_unp {j : Nat} {t : Expr} (hg : PG X t (gT X.K (.two i j))) (mi : g.M i = false) (mj : g.M j = false) (ha : PE X a (tE X.K g .V fa)) (hs : swapsWithSole [t] a pos.line X.env = pure false) (hw : swappedStores [t] a X.env = pure none) (h1 : (assignEach [t] X.env).map (·.2) = [assign t X.env]) :
    PS X (.Assign [t] a pos) (tS X.K g fun env => (fa env).fl env fun d => match bindT (.two i j) d env with | some env' => .nx env' | none => .stuck) := by
  refine PS.wk (ps_asg ha hg hs hw h1) fun D σ H ⟨F, env, rel, h⟩ => ⟨F, env, rel, done_fl rel h fun d _ h v H1 F1 x1 q1 => ?_⟩
  cases q : bindT (.two i j) d env with
  | none => rw [q] at h; exact h.elim
  | some env' =>
    rw [q] at h
    exact gT_ok (two := false) (rel.step x1) (.inl q1) (fun z => (nomatch z)) (fun l hl => by rcases (by simpa [tgSlots] using hl : l = i ∨ l = j) with z | z <;> rw [z] <;> assumption) q fun σ' r' _ _ => h σ' H1 F1 x1.ff r'

/-! ### loops -/
theorem ds_for {t : Tg} {tg iter : Expr} {body : List Stmt} {two : Bool} {fi : Env → Res (List D)} {f : Env → Fl} (hp : PassesOwn (model X.prog X.w) X.A X.env X.xe) (hc : X.calm = true) (hi : PI X tg iter (tI X.K g two true fi)) (hg : PG X tg (gT X.K t)) (hb : PSs X body (tS X.K g f))
    (ht : two = true → ∃ i j, t = .two i j) (hm : ∀ i ∈ tgSlots t, g.M i = false) (pi : plainE iter = true) : PS X (.For tg iter body [] pos) (tS X.K g fun env => (fi env).fl env fun xs => forL t f xs env) := by
  refine PS.wk (ps_for hp hc hi hg hb (fold_plain pi _)) fun D σ H ⟨F, env, rel, h⟩ => ⟨F, env, rel, ?_⟩
  cases q : fi env with
  | ok xs =>
    simp only [q, fl_ok] at h
    intro J H1 F1 x1 it
    simp only [if_true] at it
    refine ⟨fun n m σ' H' => m = xs.length - n ∧ n ≤ xs.length ∧ ∃ F' env', Rel X.K g.M g.F0 g.H0 F' env' σ' H' ∧ Same F1 F' ∧ DoneS X.K g F' (forL t f (xs.drop n) env') D, ⟨xs.length, by omega, Nat.zero_le _, F1, env, rel.step x1, Same.refl _, by rw [List.drop_zero]; exact DoneS.up x1.ff h⟩, ?_⟩
    rintro n m σ' H' ⟨rfl, hn, F', env', rel', sm, h'⟩
    obtain ⟨its, stp⟩ := it F' H' (sm.trans rel'.fh) sm rel'.fh
    by_cases hlt : n < xs.length
    · right
      have e : xs[n]? = some xs[n] := List.getElem?_eq_getElem hlt
      obtain ⟨go, yl⟩ := its n xs[n] e
      rw [List.drop_eq_getElem_cons hlt] at h'
      unfold forL at h'
      refine ⟨go, fun σ2 H2 => ∃ F2 env2, Rel X.K g.M g.F0 g.H0 F2 env2 σ2 H2 ∧ Same F1 F2 ∧ DoneS X.K g F2 (forL t f (xs.drop (n + 1)) env2) D, fun σ2 H2 w => ⟨xs.length - (n + 1), by omega, rfl, hlt, w⟩, fun v H2 hy => ?_⟩
      obtain ⟨F2, x2, ir⟩ := yl v H2 hy
      cases qb : bindT t xs[n] env' with
      | none => rw [qb] at h'; exact h'.elim
      | some env1 =>
        rw [qb] at h'
        refine gT_ok (rel'.step x2) ir ht hm qb fun σ2 r2 _ _ => ⟨F2, env1, r2, ?_⟩
        have sm2 : Same F1 F2 := sm.trans x2.ff
        simp only at h'
        cases qf : f env1 with
        | nx env3 =>
          rw [qf] at h'
          intro σ3 H3 F3 s3 r3
          exact ⟨F3, env3, r3, sm2.trans s3, DoneS.up (x2.ff.trans s3) h'⟩
        | rt d => rw [qf] at h'; exact h'
        | exc y env3 => rw [qf] at h'; exact h'
        | stuck => rw [qf] at h'; exact h'
    · left
      have en : n = xs.length := by omega
      subst en
      rw [List.drop_length] at h'
      exact ⟨stp, h' σ' H' F' (Same.refl _) rel'⟩
  | exc y => simp only [q, fl_exc] at h; exact fun H' F' x1 => h σ H' F' (rel.step x1)
  | stuck => simp only [q, fl_stuck] at h; exact h.elim
theorem ds_while {c : Expr} {body : List Stmt} {tc : Env → Res Bool} {f : Env → Fl} {w : Nat} (hp : PassesOwn (model X.prog X.w) X.A X.env X.xe) (hc : PT X c (tT X.K g tc)) (hb : PSs X body (tS X.K g f)) :
    PS X (.While c body [] pos) (tS X.K g fun env => whileL tc f w env) := by
  refine PS.wk (ps_while hp hc hb) fun D σ H ⟨F, env, rel, h⟩ => ?_
  refine ⟨fun m σ' H' => ∃ F' env', Rel X.K g.M g.F0 g.H0 F' env' σ' H' ∧ Same F F' ∧ DoneS X.K g F' (whileL tc f m env') D, ⟨w, F, env, rel, Same.refl _, h⟩, ?_⟩
  rintro m σ' H' ⟨F', env', rel', sm, h'⟩
  cases m with
  | zero => exact h'.elim
  | succ m =>
    unfold whileL at h'
    refine ⟨F', env', rel', done_flT rel' h' fun k _ h2 H1 F1 x1 => ?_⟩
    cases k with
    | true =>
      rw [if_pos rfl] at h2 ⊢
      refine ⟨fun σ2 H2 => ∃ F2 env2, Rel X.K g.M g.F0 g.H0 F2 env2 σ2 H2 ∧ Same F F2 ∧ DoneS X.K g F2 (whileL tc f m env2) D, fun σ2 H2 z => ⟨m, Nat.lt_succ_self _, z⟩, F1, env', rel'.step x1, ?_⟩
      cases qf : f env' with
      | nx env3 => rw [qf] at h2; exact fun σ3 H3 F3 s3 r3 => ⟨F3, env3, r3, (sm.trans x1.ff).trans s3, DoneS.up (x1.ff.trans s3) h2⟩
      | rt d => rw [qf] at h2; exact h2
      | exc y env3 => rw [qf] at h2; exact h2
      | stuck => rw [qf] at h2; exact h2
    | false =>
      rw [if_neg Bool.false_ne_true] at h2 ⊢
      exact h2 σ' H1 F1 x1.ff (rel'.step x1)

/-! ### raise -/
theorem ds_raise {c : Nat} {C : Addr} {m : Str} {kk : Nat} {p1 p2 p3 : Pos} (hc : X.calm = true) (tk : Takes X g.W) (q : PySem.W.excIn X.K C [Value.type "ValueError", .type "Exception", .type "BaseException", .type "object"] "ValueError.__new__" = true) (gC : X.mg x = some (.ref C)) (kC : PySem.W.keepIn X.K (.ref C) = true) (r : Raises X (.ref C)) (hg : Gl X x)
    (hdb : (x == ("__debug__" : Str)) = false) (hC : g.C c = some (.ref C)) : PS X (.Raise (some (.Call (.Name x p1) [.Constant (.str m) kk p2] [] p3)) none pos) (tS X.K g fun env => .exc ⟨c, none⟩ env) := by
  refine PS.wk (ps_raise hc tk (pmk_own PySem.F.excBase_ValueError q gC kC r hg hdb)) fun D σ H ⟨F, env, rel, h⟩ => ?_
  exact h σ H F rel _ _ ⟨hC, rfl⟩
end
section
variable {g : Gh} {X : Cx} {e a b : Expr} {fa fb : Env → Res D} {pos p0 : Pos} {st : Stmt} {i : Nat} {x : Str}
/-- x[k1], x[k2] = (a, b) -/
theorem ds_set2 {k1 k2 : Expr} {f1 f2 : Env → Res D} {p1 p2 p3 pt pt2 : Pos} {kt kt2 : Nat} (hc : X.calm = true) (mi : g.M i = true) (L : Slt X i x) (ha : PA X [a, b] (tA X.K g fun env => (fa env).bind fun x => ((fb env).bind fun y => .ok [y]).bind fun xs => .ok (x :: xs))) (h1 : PE X k1 (tE X.K g .R f1)) (h2 : PE X k2 (tE X.K g .R f2)) (q1 : plainE k1 = true) (q2 : plainE k2 = true) :
    PS X (.Assign [.Tuple [.Subscript (.Name x p0) k1 p1, .Subscript (.Name x p2) k2 p3] kt pt] (.Tuple [a, b] kt2 pt2) pos) (tS X.K g fun env => (fa env).fl env fun d1 => (fb env).fl env fun d2 => (get env i).fl env fun l => (ofO (lstOf l)).fl env fun xs => (f1 env).fl env fun n1 => (ofO (setL xs n1 d1)).fl env fun z =>
      (f2 (put env i (.list z))).fl (put env i (.list z)) fun n2 => (ofO (setL z n2 d2)).fl env fun z2 => .nx (put (put env i (.list z)) i (.list z2))) := by
  have g1 : PG X (.Subscript (.Name x p0) k1 p1) (gSub (tVar i) (tE X.K g .R f1) rSetL) := by
    refine pg_sub (L.pe (p0 := p0)) h1 set_list (fun v => ?_)
    cases k1 <;> first | rfl | (simp [plainE] at q1; done)
  have g2 : PG X (.Subscript (.Name x p2) k2 p3) (gSub (tVar i) (tE X.K g .R f2) rSetL) := by
    refine pg_sub (L.pe (p0 := p2)) h2 set_list (fun v => ?_)
    cases k2 <;> first | rfl | (simp [plainE] at q2; done)
  have te := de_tup (pos := pt2) (k := kt2) ha (fun env xs q => by
    cases e1 : fa env with
    | ok d =>
      cases e2 : fb env with
      | ok d2 => simp only [e1, e2, bind_ok] at q; cases q; show 2 ≤ 100000; decide
      | exc y => simp only [e1, e2, bind_ok, bind_exc] at q; cases q
      | stuck => simp only [e1, e2, bind_ok, bind_stuck] at q; cases q
    | exc y => simp only [e1, bind_exc] at q; cases q
    | stuck => simp only [e1, bind_stuck] at q; cases q)
  have hw : swappedStores [.Tuple [.Subscript (.Name x p0) k1 p1, .Subscript (.Name x p2) k2 p3] kt pt] (.Tuple [a, b] kt2 pt2) X.env = pure none := by
    unfold swappedStores
    simp only
    split
    · rfl
    · split
      · rfl
      · rfl
  refine PS.wk (ps_asg te (pg_tup hc (pgs_cons g1 (pgs_cons g2 pgs_nil))) (by unfold swapsWithSole swapsWith; rfl) hw) fun D σ H ⟨F, env, rel, h⟩ => ⟨F, env, rel, ?_⟩
  replace h : DoneS X.K g F ((fa env).fl env fun d1 => (fb env).fl env fun d2 => (get env i).fl env fun l => (ofO (lstOf l)).fl env fun xs => (f1 env).fl env fun n1 => (ofO (setL xs n1 d1)).fl env fun z =>
      (f2 (put env i (.list z))).fl (put env i (.list z)) fun n2 => (ofO (setL z n2 d2)).fl env fun z2 => .nx (put (put env i (.list z)) i (.list z2))) D := h
  cases e1 : fa env with
  | exc y => simp only [e1, fl_exc] at h; simp only [e1, bind_exc]; exact fun H' F' x1 => h σ H' F' (rel.step x1)
  | stuck => rw [e1] at h; exact h.elim
  | ok d1 =>
    rw [e1, fl_ok] at h
    cases e2 : fb env with
    | exc y => simp only [e2, fl_exc] at h; simp only [e1, e2, bind_ok, bind_exc]; exact fun H' F' x1 => h σ H' F' (rel.step x1)
    | stuck => rw [e2] at h; exact h.elim
    | ok d2 =>
      rw [e2, fl_ok] at h
      simp only [e1, e2, bind_ok]
      intro v H1 F1 x1 q
      have dv : Dq X.K F1 v (.tuple [d1, d2]) := by
        rcases q with ⟨_, _, _, _, z, _⟩ | ⟨_, q⟩
        · cases z
        · exact q
      cases dv with
      | tup hs r =>
        cases r with
        | cons r1 r =>
          cases r with
          | cons r2 r =>
            cases r
            rename_i ad v1 v2
            obtain ⟨l, ei, h⟩ := fl_get h
            obtain ⟨ds, ed, h⟩ := fl_lst h
            subst ed
            have rel1 := rel.step x1
            obtain ⟨p, vs, si, hl, dq⟩ := rel1.lst mi ei
            refine ⟨ad, [v1, v2], rfl, (hs.mono rel1.fh).sq, rfl, v1, [v2], rfl, .ref p, si, F1, env, rel1, done_fl rel1 (DoneS.up x1.ff h) fun n1 _ h u H2 F2 x2 w1 => ?_⟩
            obtain ⟨z, ez, h⟩ := fl_o h
            obtain ⟨m, w, rfl, eix, rfl⟩ := set_ok ez
            have dq2 := dq.mono x2.ff
            refine ⟨p, vs, m, w, rfl, R_int w1, x2.hh _ _ hl, by rw [dq.length]; exact eix, ?_⟩
            have relA := (rel1.step x2).write mi ei si (dq2.set (Dq.mono x2.ff r1) w)
            have eiA : (put env i (.list (ds.set w d1)))[i]? = some (some (.list (ds.set w d1))) := by
              unfold put
              rw [List.getElem?_set_self (List.getElem?_eq_some_iff.mp ei).1]
            refine ⟨v2, [], rfl, .ref p, si, F2, _, relA, done_fl relA (DoneS.up x2.ff h) fun n2 _ h u H3 F3 x3 w2 => ?_⟩
            obtain ⟨z2, ez2, h⟩ := fl_o h
            obtain ⟨m2, w2', rfl, eix2, rfl⟩ := set_ok ez2
            have relB := relA.step x3
            obtain ⟨p', vs', si', hl', dq'⟩ := relB.lst mi eiA
            rw [si] at si'
            cases si'
            refine ⟨p, vs', m2, w2', rfl, R_int w2, hl', by rw [dq'.length]; exact eix2, rfl, ?_⟩
            refine h σ _ F3 x3.ff ?_
            exact relB.write mi eiA si (dq'.set (Dq.mono (x2.ff.trans x3.ff) r2) w2')
end
end DH
set_option Elab.async false
set_option linter.all false
set_option maxRecDepth 100000
set_option maxHeartbeats 2000000
/-! DH: the error with a line: its __init__, raise of it. -/
namespace DH
open PySem L2
open PySem.Spec PyProof.Rows

section
variable {X : Cx} {e : Expr} {es : List Expr} {ta : TA} {x : Str} {p1 p2 pos : Pos}
/-- C.__init__(self, ..), C an own class over ValueError -/
theorem pe_ceinit {CE : Addr} (hg : Gl X x) (hm : X.mg x = some (.ref CE)) (hdb : (x == ("__debug__" : Str)) = false) (rd : PySem.W.readsIn X.K CE (.type "type") = true) (ga : PySem.W.specialIn X.K (.ref CE) "__getattribute__" = some (some (.builtin "type.__getattribute__")))
    (at_ : PySem.W.findCls X.K (.ref CE) (.type "type") "__init__" = some (.val (.builtin "ValueError.__init__"))) (ha : PA X (e :: es) ta)
    (hfew : ((backTo pos (starEach (e :: es) X.env)).all (fun x => !x.1) && (backToKw pos (keywordEach [] X.env)).all (fun x => x.1.isSome) && decide ((e :: es).length + ([] : List Keyword).length + (if ([] : List Keyword).isEmpty then 0 else 1) < 30)) = true) (hline : (p2.endLine == pos.line) = true)
    (he : starEach (e :: es) X.env = (false, eval e X.env) :: starEach es X.env) (hpl : (backTo pos (starEach es X.env)).any (·.1) = false) :
    PE X (.Call (.Attribute (.Name x p1) "__init__" p2) (e :: es) [] pos) (tVeI X.K ta) := by
  refine ⟨fun pins s σ H Q I h => ?_⟩
  refine mc_gen rfl hfew hline (ld_glob I hg hm (fun pl => ?_) hdb)
  refine PySem.W.method_cls I.kIn ga (PySem.W.cls_value I.kIn rd at_ (by decide +kernel) ?_)
  show wpAny _ _ (callWith pos (Value.builtin "ValueError.__init__") [] (backTo pos (starEach (e :: es) X.env)) []) _ _ _
  refine callWith_method1 (thn (ha.run pos pins _ σ H _ (I.tok _) h) fun us s1 ⟨vs, H1, I1, r1, a, C, ws, ev, hl, T, ea, q⟩ => ?_) he hpl
  subst ev
  cases r1 with
  | @cons _ u0 _ ur ra rw' =>
    obtain rfl : u0 = Value.ref a := ra
    refine oinit_ok T I1 ea ?_ fun s' J => ⟨.non, H1, J, rfl, q⟩
    rw [← Paired.length rw', sizeLine_eq]
    omega
end

/-! ### the text of __init__ -/
def peB (sc : Scope) : Bool := (match sc.kind with | .function => true | _ => false) && !sc.isCoroutine && !sc.isGenerator && locX2 sc "self" && locX2 sc "line" && sc.names.all (fun y => match y.2 with | .free => false | _ => true) && glo sc "CubeError"
where locX2 (sc : Scope) (x : Str) : Bool := match sc.names.lookup x with
  | some .local => true
  | _ => false
def peS : List Stmt → Bool
  | [.Expr (.Call (.Attribute (.Name x _) m p2) [.Name a _, .Constant (.str _) _ _] [] p5) _, .Assign [.Attribute (.Name b _) f _] (.Name c _) _] =>
    x == ("CubeError" : Str) && m == ("__init__" : Str) && a == ("self" : Str) && b == ("self" : Str) && f == ("line" : Str) && c == ("line" : Str) && p2.endLine == p5.line
  | _ => false
theorem peS_inv {l : List Stmt} (h : peS l = true) : ∃ p1 p2 p3 t k p4 p5 p6 p7 p8 p9 p10, l = [.Expr (.Call (.Attribute (.Name "CubeError" p1) "__init__" p2) [.Name "self" p3, .Constant (.str t) k p4] [] p5) p6, .Assign [.Attribute (.Name "self" p7) "line" p8] (.Name "line" p9) p10] ∧ (p2.endLine == p5.line) = true := by
  unfold peS at h
  split at h
  · simp only [Bool.and_eq_true] at h
    obtain ⟨⟨⟨⟨⟨⟨h1, h2⟩, h3⟩, h4⟩, h5⟩, h6⟩, h7⟩ := h
    have e1 := eq_of_beq h1
    have e2 := eq_of_beq h2
    have e3 := eq_of_beq h3
    have e4 := eq_of_beq h4
    have e5 := eq_of_beq h5
    have e6 := eq_of_beq h6
    subst e1 e2 e3 e4 e5 e6
    exact ⟨_, _, _, _, _, _, _, _, _, _, _, _, rfl, h7⟩
  · cases h
theorem locX2_inv {sc : Scope} {x : Str} (h : peB.locX2 sc x = true) : sc.names.lookup x = some .local := by
  unfold peB.locX2 at h
  split at h
  · assumption
  · cases h
section
variable {prog : Program} {w : World} {K : PySem.W.Frag} {mg : Str → Option Value} {base : Heap} {C CE fI : Addr} {fd : FuncData} {st : Stmt} {q : Str}
theorem perr_fn (hF : Fun K "__init__" q st fI fd) (hs : peB (defScope st) = true) (hb : peS (defBody st) = true) (T : OexC K C) (hno : PySem.W.findIn K (.ref C) "line" = some none) (hm : mg "CubeError" = some (.ref CE))
    (rd : PySem.W.readsIn K CE (.type "type") = true) (ga : PySem.W.specialIn K (.ref CE) "__getattribute__" = some (some (.builtin "type.__getattribute__"))) (at_ : PySem.W.findCls K (.ref CE) (.type "type") "__init__" = some (.val (.builtin "ValueError.__init__"))) :
    FnOk prog w K mg base (L2.CX prog w) 1 fI fd ["self", "line"] (spPE C) := by
  unfold peB at hs
  simp only [Bool.and_eq_true, Bool.not_eq_true', List.all_eq_true] at hs
  obtain ⟨⟨⟨⟨⟨⟨c1, c2⟩, c3⟩, c4⟩, c5⟩, c6⟩, c7⟩ := hs
  have k1 : (defScope st).kind = .function := by
    split at c1
    · assumption
    · cases c1
  have l4 := locX2_inv c4
  have l5 := locX2_inv c5
  have sc : FnScope ["self", "line"] ["self", "line"] (defScope st) := by
    refine ⟨k1, c2, c3, by decide +kernel, rfl, fun x hx => ?_, fun y hy => ?_⟩
    · simp only [List.mem_cons, List.not_mem_nil, or_false] at hx
      rcases hx with rfl | rfl
      · exact .inl l4
      · exact .inl l5
    · have := c6 y hy
      intro z
      rw [z] at this
      cases this
  refine hF.okX sc (fun vs H Q E h => ?_) (fun cdv A outer s H vs Q E hr h => ?_)
  · obtain ⟨a, v, rfl, _⟩ := h
    rfl
  · obtain ⟨a, v, rfl, ha, h⟩ := h
    let X : Cx := cxOf (L2.CX prog w) prog w K mg base ["self", "line"] q (defScope st) fI cdv A outer s H E
    obtain ⟨p1, p2, p3, t, k, p4, p5, p6, p7, p8, p9, p10, e, hl⟩ := peS_inv hb
    have vS : ∀ {p : Pos}, PE X (.Name "self" p) (tVar 0) := fun {p} => pe_var (i := 0) rfl (.inl l4) (by decide) (by decide)
    have vL : ∀ {p : Pos}, PE X (.Name "line" p) (tVar 1) := fun {p} => pe_var (i := 1) rfl (.inl l5) (by decide) (by decide)
    have hg : Gl X "CubeError" := glo_iff c7
    have S1 : PS X (.Expr (.Call (.Attribute (.Name "CubeError" p1) "__init__" p2) [.Name "self" p3, .Constant (.str t) k p4] [] p5) p6) (fun D σ H => tVeI X.K (tCons (tVar 0) (tCons (tC (.str t)) tNil)) σ H fun _ H' => D.nx σ H') :=
      ps_expr (pe_ceinit hg hm (by decide) rd ga at_ (pa_cons vS (pa_cons pe_str pa_nil)) rfl hl rfl rfl) rfl
    have S2 : PS X (.Assign [.Attribute (.Name "self" p7) "line" p8] (.Name "line" p9) p10) (tOst X.K "line" (tVar 0) (tVar 1)) := ps_ost vS vL rfl
    refine ⟨_, by rw [e]; exact pss_cons S1 (pss_one S2), ?_⟩
    refine ⟨.ref a, rfl, a, C, [.str t], rfl, (show 1 ≤ 1000 by decide), T, ha, ?_⟩
    refine ⟨v, rfl, .ref a, rfl, a, C, rfl, T, hno, .inl ⟨ha, fun dx n ne => ?_⟩⟩
    exact h dx n ne
end
theorem flat_none {K : PySem.W.Frag} {F : Hp} {v : V} {d : D} (h : Dq K F v d) (f : flatD d = true) : Dq K (fun _ => none) v d := by
  cases h <;> first | (simp [flatD, obD] at f; done) | constructor
section
variable {g : Gh} {X : Cx} {a : Expr} {fa : Env → Res D} {pos p1 p3 : Pos} {x : Str} {c : Nat} {v : Value}
/-- raise X(e) -/
theorem ds_raiseA (hc : X.calm = true) (tk : Takes X g.W) (pe : PErr X.prog X.w X.K X.mg X.base v) (hr : Room 2 X.A) (hg : Gl X x) (hm : X.mg x = some v) (hdb : (x == ("__debug__" : Str)) = false) (hC : g.C c = some v) (ha : PE X a (tE X.K g .V fa)) (pa : plainE a = true) :
    PS X (.Raise (some (.Call (.Name x p1) [a] [] p3)) none pos) (tS X.K g fun env => (fa env).fl env fun d => if flatD d then .exc ⟨c, some d⟩ env else .stuck) := by
  obtain ⟨C, fI, fd, rfl, T, iC, tI, hb, F1, _, _⟩ := pe.ex
  have pf : Passes (L2.CX X.prog X.w) X (fun _ _ _ => False) := fun pins σ H s e s' I z => by
    obtain ⟨_, _, _, _, _, _, _, _, _, _, _, _, z⟩ := z
    exact z.elim
  refine PS.wk (ps_raise hc tk (pmk_oex T iC tI F1 hr hb .nil pf hg hm (pa_cons ha pa_nil (star_plain pa _ _)) hdb (star_plain pa _ _) rfl)) fun D σ H ⟨F, env, rel, h⟩ => ⟨F, env, rel, done_fl rel h fun d _ h v H1 F1 x1 q1 => ?_⟩
  split at h
  · rename_i fl
    refine ⟨(show 1 ≤ 1000 by decide), fun p np => ⟨p, v, rfl, upd_same, fun dd nd ne => ?_⟩⟩
    rw [upd_ne ne] at nd
    refine ⟨rfl, dd, [("line", v)], upd_same, by rw [upd_ne ne, upd_same], nd, ?_⟩
    have keep : ∀ b, b ≠ p → b ≠ dd → (upd (del (upd (upd (upd H1 p (exo p C none)) dd (exd dd [("line", v)])) p (exo p C (some dd))) p) dd (.xd [("line", v)])) b = H1 b := fun b h1 h2 => by
      rw [upd_ne h2, del_ne h1, upd_ne h1, upd_ne h2, upd_ne h1]
    have hh : Same H1 (upd (del (upd (upd (upd H1 p (exo p C none)) dd (exd dd [("line", v)])) p (exo p C (some dd))) p) dd (.xd [("line", v)])) := fun b o e => by
      rw [keep b (ne_of_none e np) (ne_of_none e nd)]
      exact e
    have x2 : Ext F1 H1 F1 (upd (del (upd (upd (upd H1 p (exo p C none)) dd (exd dd [("line", v)])) p (exo p C (some dd))) p) dd (.xd [("line", v)])) := ⟨hh, Same.refl _, x1.fh.trans hh, fun _ o q => .inl ⟨o, q⟩⟩
    exact h σ _ F1 (rel.step (x1.trans x2)) _ _ ⟨hC, dd, v, rfl, upd_same, flat_none (show Dq X.K F1 v d from q1) fl⟩
  · exact h.elim
end
end DH
set_option Elab.async false
set_option linter.all false
set_option maxRecDepth 100000
set_option maxHeartbeats 2000000
/-! DH, part Q: try with several clauses «except X as e», and what stands in them. -/
namespace DH
open PySem L2
open PySem.Spec PyProof.Rows

abbrev TSx := Addr → Value → Option Addr → TS
def goneE (i : Nat) (D : Ends) : Ends := { nx := fun σ H => D.nx (σ.set i none) H, rt := D.rt, bk := fun σ H => D.bk (σ.set i none) H, ct := fun σ H => D.ct (σ.set i none) H }
def wHs (K : PySem.W.Frag) (i : Nat) (out : WX) (D : Ends) : List (Value × TSx) → WX
  | [] => out
  | h :: r => fun cls d σ H => ∃ b, PySem.W.exmOne K cls h.1 = some b ∧ (b = true → ∀ a, H a = none → h.2 a cls d (goneE i D) (σ.set i (some (.ref a))) H) ∧ (b = false → wHs K i out D r cls d σ H)
inductive HsOk (X : Cx) (n : Str) : List ExceptHandler → List (Value × TSx) → Prop
  | nil : HsOk X n [] []
  | cons {x : Str} {c : Value} {ts : TSx} {b : Stmt} {bs : List Stmt} {p q : Pos} {r : List ExceptHandler} {l : List (Value × TSx)} (name : Names X x c)
      (suite : ∀ a oe cls d pn, Zc cls d oe → (∃ vs, oe.data = .fields vs) → PSs (X.suite a ((a, oe) :: pn)) (b :: bs) (ts a cls d)) (more : HsOk X n r l) : HsOk X n (.ExceptHandler (some (.Name x p)) (some n) (b :: bs) q :: r) ((c, ts) :: l)

/-- an error on its way through the clauses -/
structure Fly (X : Cx) (pins : List (Addr × Obj)) (B : Heap) (a : Addr) (cls : Value) (d : Option Addr) (sI s : Shared) (σ : L2.St) (H : Hp) : Prop where
  inv : Inv X pins σ H sI
  nb : ∀ b o, sI.heap.get? b = some o → b ∉ frs X.stack → B.get? b = some o
  up : sI.heap.UpToSlots s.heap
  fl : HandSPX.FlyingZ B (X.env :: X.outer) a (Zc cls d) s.heap
  na : H a = none
  os : s.os = sI.os
  ag : AllBare s.gens
section
variable {X : Cx} {n : Str} {i : Nat} {pos : Pos} {out : WX} {D : Ends} {pins : List (Addr × Obj)} {B : Heap} {a : Addr} {cls : Value} {d : Option Addr} {sI s : Shared} {σ : L2.St} {H : Hp}
theorem Fly.here (f : Fly X pins B a cls d sI s σ H) : Inv X pins σ H s := f.inv.landed f.nb f.fl.1 f.up f.os f.ag
/-- the suite's ground -/
theorem Fly.suite (f : Fly X pins B a cls d sI s σ H) (hf : X.env.frame = some X.env.locals) : ∃ oe vs, s.heap.get? a = some oe ∧ Zc cls d oe ∧ oe.data = .fields vs ∧ Inv (X.suite a ((a, oe) :: (X.pn ++ pins))) [] σ H s := by
  obtain ⟨oe, vs, h1, h2, h3⟩ := f.fl.there
  have no : a ∉ frs (X.env :: X.outer) := fun hm => by
    obtain ⟨_, o', e', hn⟩ := f.fl.2.2.1.mem hm
    rw [h1] at e'
    cases e'
    exact hn _ h3
  refine ⟨oe, vs, h1, h2, h3, f.here.suite h1 h3 f.na (fun z => no ?_) fun hm => no ?_⟩
  · exact List.mem_filterMap.mpr ⟨X.env, List.mem_cons_self, by rw [hf, z]⟩
  · obtain ⟨e, he, q⟩ := List.mem_filterMap.mp hm
    exact List.mem_filterMap.mpr ⟨e, List.mem_cons_of_mem _ he, q⟩
/-- no clause is left -/
theorem hs_none (hs : X.stack = X.env :: X.outer) (hf : X.env.frame = some X.env.locals) (tk : Takes X out) (f : Fly X pins B a cls d sI s σ H) (w : out cls d σ H) :
    wpAny (model X.prog X.w) X.A (handleBy (.ref a) X.env []) (SP X pins D) X.xe s := by
  refine wpAny_handleBy_nil ?_
  obtain ⟨_, _, _, oe, vs, T, oT, ts', he, _, hd, h1, _⟩ := id f.fl
  have on : wpAny (model X.prog X.w) X.A (setFlight (.ref a) X.env.frame) (fun _ s4 => wpAny (model X.prog X.w) X.A (throw (.ref a) : Sem Flow) (SP X pins D) X.xe s4) X.xe s := by
    rw [hf]
    obtain ⟨hp, gg, dr, tt, oo⟩ := s
    refine HandSPX.setFlight_upZ f.fl fun h4 hh4 up4 => wpAny_throw (tk _ _ ⟨a, B, sI, pins, σ, H, cls, d, rfl, f.inv, f.nb, f.up.trans up4, .inr (.inr ?_), f.na, f.os, f.ag, w⟩)
    rw [hs]
    exact hh4
  unfold PySem.passOn
  refine wpAny_bind (wpAny_field he hd h1 ?_)
  rw [if_neg (show ¬ ((Value.ref T == Value.none) = true) from by simp)]
  first
    | exact wpAny_bind (wpAny_pure (wpAny_bind on))
    | exact wpAny_bind on
/-- the clauses, one after the other -/
theorem hs_run (hs : X.stack = X.env :: X.outer) (hf : X.env.frame = some X.env.locals) (hN : X.N.Nodup) (hi : X.N[i]? = some n) (hn : X.env.kindOf n = some .local) (tk : Takes X out) {hds : List ExceptHandler} {l : List (Value × TSx)} (hk : HsOk X n hds l) :
    ∀ {s : Shared}, Fly X pins B a cls d sI s σ H → wHs X.K i out D l cls d σ H → wpAny (model X.prog X.w) X.A (handleBy (.ref a) X.env hds) (SP X pins D) X.xe s := by
  induction hk with
  | nil => exact fun f w => hs_none hs hf tk f w
  | @cons x c ts b bs p q r l name suite more ih =>
    intro s f w
    obtain ⟨m, hm, yes, no⟩ := w
    obtain ⟨oe, vs, h1, h2, h3, S3⟩ := f.suite hf
    have ok := f.inv.ok
    refine wpAny_handleBy_cons (codeAny_handlers_test ?_) (by intro z; cases z)
    have ty : PySem.W.Looks (model X.prog X.w) s.heap (typeOf (.ref a)) cls := fun _ _ _ _ k z => wpAny_typeOf_ref (k _ _ h1) (by rw [h2.1]; exact z)
    have mt := PySem.W.exm_one (M := model X.prog X.w) f.here.kIn ty hm
    have ask : ∀ {Q E : Value → Shared → Prop}, Q c s → wpAny (model X.prog X.w) (X.A.mark (some (.ref a))) (eval (.Name x p) X.env) Q E s := fun {Q E} z => by
      obtain ⟨g1, g2, g3⟩ := name
      rcases g3 with g3 | ⟨g3, g4, g5⟩
      · exact ld_glob (X := X.suite a ((a, oe) :: (X.pn ++ pins))) S3 g1 g3 z g2
      · exact ld_blt (X := X.suite a ((a, oe) :: (X.pn ++ pins))) S3 g1 g3 g4 z g5 g2
    refine ask (mt.here ?_)
    cases m with
    | false =>
      show wpAny _ X.A (handleBy (.ref a) X.env r) _ _ _
      exact ih f (no rfl)
    | true =>
      refine codeAny_handlers_suite_as ?_
      obtain ⟨hp, gg, dr, tt, oo⟩ := s
      refine HandSPX.lands_againZ f.fl fun h4 fl4 up4 => ?_
      have f4 : Fly X pins B a cls d sI ⟨h4, gg, dr, tt, oo⟩ σ H := ⟨f.inv, f.nb, f.up.trans up4, fl4, f.na, f.os, f.ag⟩
      obtain ⟨o4, v4, k1, k2, k3, S4⟩ := f4.suite hf
      refine store_ok (X := X.suite a ((a, o4) :: (X.pn ++ pins))) (v := .ref a) S4 hN hi (.inl hn) rfl (fun s5 S5 => ?_) (.inr hn)
      refine wpAny_mono ((suite a o4 cls d (X.pn ++ pins) k2 ⟨_, k3⟩).run [] s5 _ H _ S5 (yes rfl a f.na)) (fun fw s6 hsp => ?_) (fun _ _ z => False.elim z)
      have away : ∀ {σ6 : L2.St} {H6 : Hp} {R : Shared → Prop}, Inv (X.suite a ((a, o4) :: (X.pn ++ pins))) [] σ6 H6 s6 → (∀ s7, Inv X pins (σ6.set i none) H6 s7 → R s7) →
          wpAny (model X.prog X.w) X.A (do bindName X.env n .none; unbindBehindTheSuite X.env n q) (fun _ s7 => R s7) X.xe s6 := fun {σ6 H6 R} S6 hr => gone_ok (S6.unsuite ok) hN hi hn hr
      cases fw with
      | next => obtain ⟨σ6, H6, S6, z⟩ := hsp; exact away S6 fun s7 J7 => ⟨_, _, J7, z⟩
      | brk => obtain ⟨σ6, H6, S6, z⟩ := hsp; exact away S6 fun s7 J7 => ⟨_, _, J7, z⟩
      | cont => obtain ⟨σ6, H6, S6, z⟩ := hsp; exact away S6 fun s7 J7 => ⟨_, _, J7, z⟩
      | ret u => obtain ⟨v6, σ6, H6, S6, r6, z⟩ := hsp; exact away S6 fun s7 J7 => ⟨_, _, _, J7, r6, z⟩
/-- the statement -/
theorem ps_tryA {body : List Stmt} {hd : ExceptHandler} {hds : List ExceptHandler} {l : List (Value × TSx)} {tb : WX → TS} (hs : X.stack = X.env :: X.outer) (hf : X.env.frame = some X.env.locals) (hN : X.N.Nodup) (hi : X.N[i]? = some n) (hn : X.env.kindOf n = some .local) (tk : Takes X out)
    (hb : ∀ (W : WX) (pn : List (Addr × Obj)) (xe : Value → Shared → Prop), Takes (X.tr pn xe) W → PassesOwn (model X.prog X.w) X.A X.env xe → PSs (X.tr pn xe) body (tb W)) (hk : HsOk X n (hd :: hds) l) :
    PS X (.Try body (hd :: hds) [] [] pos) (fun D σ H => tb (wHs X.K i out D l) D σ H) := by
  refine ⟨fun pins s σ H D I h => wpAny_Try_except ?_⟩
  have ok := I.ok
  have hfr : X.A.frames = some (X.env :: X.outer) := by rw [ok.frames, hs]
  let xe : Value → Shared → Prop := fun e s₁ => wpAny (model X.prog X.w) X.A (noteFrame e X.env) (fun _ s₂ => wpAny (model X.prog X.w) X.A (setFlight e none) (fun _ s₃ => wpAny (model X.prog X.w) X.A (handleBy e X.env (hd :: hds)) (SP X pins D) X.xe s₃) X.xe s₂) X.xe s₁
  have tk' : Takes (X.tr (X.pn ++ pins) xe) (wHs X.K i out D l) := fun u s' xx => by
    obtain ⟨a, B, sI, pins', σ', H', cls, d, rfl, J', nb, up, sky, na, os, ag, w⟩ := xx
    have sky' : Sky B (X.env :: X.outer) a (Zc cls d) X.env.locals s'.heap := by rw [← hs]; exact sky
    show wpAny (model X.prog X.w) X.A (noteFrame (.ref a) X.env) _ _ _
    exact Sky.land Zc.steady hfr hf sky' fun h3 fl3 up3 => hs_run hs hf hN hi hn tk hk (s := { s' with heap := h3 }) ⟨J'.ofTry ok, nb, up.trans up3, fl3, na, os, ag⟩ w
  refine wpAny_mono ((hb (wHs X.K i out D l) (X.pn ++ pins) xe tk' PassesOwn.looking).run [] s σ H D (I.toTry _) h) (fun f s1 hsp => ?_) (fun e s1 he => he)
  cases f with
  | next => obtain ⟨σ', H', J', q⟩ := hsp; exact wpAny_execs_nil ⟨σ', H', J'.ofTry ok, q⟩
  | brk => obtain ⟨σ', H', J', q⟩ := hsp; exact ⟨σ', H', J'.ofTry ok, q⟩
  | cont => obtain ⟨σ', H', J', q⟩ := hsp; exact ⟨σ', H', J'.ofTry ok, q⟩
  | ret u => obtain ⟨v, σ', H', J', r, q⟩ := hsp; exact ⟨v, σ', H', J'.ofTry ok, r, q⟩
end
end DH
set_option Elab.async false
set_option linter.all false
set_option maxRecDepth 100000
set_option maxHeartbeats 4000000
/-! DH: isinstance of a caught error that has a dict. -/
namespace DH
open PySem L2 PySem.W
open PySem.Spec PySem.Calls PyProof.Rows
section
variable {prog : Program} {w : World} {A : Around} {E : Value → Shared → Prop} {s : Shared} {K : Frag} {x D : Addr} {ox : Obj} {od : Option Obj}
theorem fo_data {a g : Value} {n : Str} (hc : (clsIn K D).isSome = true) (ha : findIn K (.ref D) n = some (some a)) (hg : specialIn K a "__get__" = some (some g)) (ht : takesIn K a = some true) : findObj K D od n = some (.bind g a) := by
  cases od with
  | none => exact findObj_dataN hc ha hg ht
  | some o => exact findObj_data hc ha hg ht
theorem cls_some (h : hasDictIn K D = true) : (clsIn K D).isSome = true := by
  obtain ⟨cd, hc, _⟩ := any_some h
  rw [hc]
  rfl
theorem xo_class {Q : Option Value → Shared → Prop} (T : ExcC K D) (X : K.In s.heap) (I : InstAt s.heap x ox D od) (h : Q (some (.ref D)) { s with toks := s.toks + 1 }) : wpAny (model prog w) A (getAttr? (.ref x) "__class__") Q E s := by
  have fo : findObj K D od "__class__" = some (.bind (.builtin "getset_descriptor.__get__") (.builtin "object.__class__")) := fo_data (cls_some T.hd) T.ha T.hn T.ht
  obtain ⟨hp, gs, dr, tk, os⟩ := s
  have aTy := I.type (M := model prog w)
  have aGa := looks_findIn (M := model prog w) X T.hg
  have aGt := looks_findIn (M := model prog w) X T.hk
  have aFo := looks_find (M := model prog w) X I fo
  have isB : Looks (model prog w) hp (isInstance (.ref x) (.type "BaseException")) true := aTy.andThen (looks_subIn X T.hs)
  have neq : (Value.builtin "BaseException.__getattribute__" == Value.builtin "object.__getattribute__") = false := by decide +kernel
  have c1 : (onTheHeap (Value.ref D) && Value.builtin "BaseException.__getattribute__" == Value.builtin "object.__getattribute__") = false := by rw [neq]; rfl
  have c0 : (false && onTheHeap (Value.builtin "BaseException.__getattribute__")) = false := rfl
  unfold getAttr? getAttrBy? getAttrBy
  refine wpAny_bind (wpAny_mkText (wpAny_bind (wpAny_attempt (wpAny_holding (wpAny_bind (aTy.at (wpAny_bind (aGa.at ?_))))))))
  show wpAny _ _ (if (onTheHeap (Value.ref D) && Value.builtin "BaseException.__getattribute__" == Value.builtin "object.__getattribute__") = true then _ else _) _ _ _
  rw [c1, if_neg Bool.false_ne_true]
  unfold getAttrByItsOwn hookBefore
  refine wpAny_bind ?_
  rw [if_pos (show onTheHeap (Value.ref D) = true from rfl)]
  refine aGt.at (wpAny_bind (wpAny_attempt (wpAny_holding ?_)))
  unfold callGetattribute
  rw [c0, if_neg Bool.false_ne_true]
  unfold boundAndCalled
  rw [PySem.F.excAttr_ValueError.ga.bind (.ref x)]
  refine wpAny_bind (wpAny_pure ?_)
  show wpAny _ _ (call (.builtin "BaseException.__getattribute__") [.ref x, .str "__class__" tk]) _ _ _
  refine wpAny_call (codeAny_call_builtin PySem.F.excAttr_ValueError.ga.plain PySem.F.entry_bexc_ga ?_)
  refine @check_slot (model prog w) _ _ ⟨hp, gs, dr, tk + 1, os⟩ "BaseException.__getattribute__" "BaseException" "__getattribute__" (.ref x) [.str "__class__" tk] [] _ (by decide +kernel) (by decide +kernel) isB (PySem.F.args_bexc_ga (.ref x) (.str "__class__" tk)) ?_
  unfold Builtin.«object.__getattribute__»
  refine wpAny_bind (wpAny_of_eq (a := ((Value.ref x : Value), [Value.str "__class__" tk])) (by first | rfl | (simp only [slotArgs]; rfl)) ?_)
  refine wpAny_bind (wpAny_pure (wpAny_bind (aTy.at (wpAny_bind (aFo.at ?_)))))
  show wpAny _ _ (holding [Value.builtin "object.__class__"] (call (.builtin "getset_descriptor.__get__") [.builtin "object.__class__", .ref x, .ref D]) >>= ret) _ _ _
  refine wpAny_bind (wpAny_holding (wpAny_call (class_get (s := ⟨hp, gs, dr, tk + 1, os⟩) (ox := ox) (od := od) X I T.hm ?_)))
  refine wpAny_pure ?_
  show wpAny _ _ (handedOut (.ref D)) _ _ _
  rw [handedOut_of (v := .ref D) rfl]
  first
    | exact wpAny_pure (wpAny_pure h)
    | exact wpAny_pure h
    | exact wpAny_pure (wpAny_bind (wpAny_pure (wpAny_pure h)))
theorem xo_kit (T : ExcC K D) : KitX K (.ref x) (.ref D) (fun h => InstAt h x ox D od) where
  ty := fun _ _ _ I => I.type
  it := fun _ _ X _ => by
    obtain ⟨cd, hc, _⟩ := any_some T.hd
    unfold clsIn at hc
    split at hc
    · rename_i ho
      intro A' Q' E' s' k q
      unfold isType loadHead
      exact wpAny_bind (wpAny_loadPart (k _ _ (X _ _ ho)) (wpAny_pure q))
    · cases hc
  ne := fun h tp dd its n sl X htp => by
    obtain ⟨cd, hc, _⟩ := any_some T.hd
    rw [Bool.eq_false_iff]
    intro q
    have e : D = tp := Value.ref.inj (beq_iff_eq.mp q)
    subst e
    unfold clsIn at hc
    split at hc
    · rename_i ho
      cases (X _ _ ho).symm.trans htp
    · cases hc
  ca := fun X I k => xo_class T X I k
end
section
variable {X : Cx} {a D : Addr} {oe : Obj} {pn : List (Addr × Obj)} {d : Option Addr}
/-- .. as call_isE, the error's dict being one of the heap -/
theorem call_isD (T : ExcC X.K D) (hz : Zc (.ref D) d oe) (hf : ∃ vs, oe.data = .fields vs) : CallR (X.suite a ((a, oe) :: pn)) (.builtin "isinstance") (fun xs H Q => (∀ dd, d = some dd → ∃ fs, H dd = some (.xd fs)) ∧ rIsE X.K D a xs H Q) := by
  intro pins s σ H xs us Q I r h
  obtain ⟨hd, c, cv, b, rfl, hcv, e, q⟩ := h
  cases r with
  | cons rx rr =>
    cases rr with
    | cons rt rr =>
      cases rr
      cases rx
      have ec := hcv _ rt
      subst ec
      obtain ⟨hget, _⟩ := I.pin (a, oe) (List.mem_append.mpr (.inl List.mem_cons_self))
      obtain ⟨vs, hv⟩ := hf
      have J : ∃ od, InstAt s.heap a oe D od := by
        obtain ⟨oc, odd, oda, osl⟩ := oe
        obtain ⟨h1, h2⟩ := hz
        dsimp only at h1 h2 hv
        subst h1 h2 hv
        cases odd with
        | none => exact ⟨none, hget, rfl, rfl, trivial⟩
        | some dd =>
          obtain ⟨fs, hx⟩ := hd dd rfl
          have hx : ObjOk X.prog X.w H s.heap dd (.xd fs) := I.hok dd _ hx
          obtain ⟨mA, hns, _⟩ := hx
          obtain ⟨od, ho, _⟩ := lookIn_ns hns
          exact ⟨some od, hget, rfl, rfl, ho⟩
      obtain ⟨od, J⟩ := J
      exact kia_one (xo_kit T) I.kIn J e (fun z => nomatch z) fun tk => ⟨.bl b, H, I.kept (t' := tk) fun _ _ z => z, rfl, q⟩
end
end DH
set_option Elab.async false
set_option linter.all false
set_option maxRecDepth 100000
set_option maxHeartbeats 2000000
/-! DH, part R: the clauses of a try. -/
namespace DH
open PySem L2
open PySem.Spec PyProof.Rows

abbrev veL : List Value := [Value.type "ValueError", .type "Exception", .type "BaseException", .type "object"]
/-- the program's own errors: number 0 stands over the others -/
structure XOk (K : PySem.W.Frag) (mg : Str → Option Value) (C : Nat → Option Value) (xs : List Str) : Prop where
  cls : ∀ (i : Nat) (x : Str), xs[i]? = some x → x ≠ "" → ∃ A, C i = some (.ref A) ∧ mg x = some (.ref A) ∧ PySem.W.keepIn K (.ref A) = true ∧ ExcC K A ∧ PySem.W.typeIn K (.ref A) = some (.type "type") ∧ PySem.W.findIn K (.ref A) "line" = some none
  all : ∀ (i : Nat) (v : Value), C i = some v → ∃ x, xs[i]? = some x ∧ x ≠ ""
  rel : ∀ (i j : Nat) (A B : Addr), C i = some (.ref A) → C j = some (.ref B) → PySem.W.exmOne K (.ref A) (.ref B) = some (sub i j) ∧ PySem.W.kitOne K (.ref A) (.ref B) = some (sub i j)
  ve : ∀ (i : Nat) (A : Addr), C i = some (.ref A) → PySem.W.kitOne K (.ref A) (.type "ValueError") = some true
  rai : ∀ (i : Nat) (A : Addr), C i = some (.ref A) → i ≠ 15 → PySem.W.excIn K A veL "ValueError.__new__" = true

/-- the error's dict stands in the heap -/
def XD (d : Option Addr) (H : Hp) : Prop := ∀ dd, d = some dd → ∃ fs, H dd = some (.xd fs)
theorem XR.xd {K : PySem.W.Frag} {C : Nat → Option Value} {x : Exn} {cls : Value} {d : Option Addr} {H : Hp} (h : XR K C x cls d H) : XD d H := fun dd e => by
  obtain ⟨_, h⟩ := h
  cases q : x.a with
  | none => rw [q] at h; rw [h] at e; cases e
  | some z =>
    rw [q] at h
    obtain ⟨a, v, h1, h2, _⟩ := h
    rw [h1] at e
    cases e
    exact ⟨_, h2⟩
section
variable {X : Cx} {a D : Addr} {oe : Obj} {pn : List (Addr × Obj)} {i : Nat} {n y : Str} {B : Addr} {p0 p1 p2 pos : Pos} {d : Option Addr}
/-- isinstance(e, y) -/
theorem su_isE (C : ExcC X.K D) (hz : Zc (.ref D) d oe) (hf : ∃ vs, oe.data = .fields vs) (hB : Blt X "isinstance" (.builtin "isinstance")) (L : Slt X i n) (gy : Gl X y) (my : X.mg y = some (.ref B)) (ny : (y == ("__debug__" : Str)) = false) :
    PE (X.suite a ((a, oe) :: pn)) (.Call (.Name "isinstance" p0) [.Name n p1, .Name y p2] [] pos) (fun σ H Q => σ[i]? = some (some (.ref a)) ∧ XD d H ∧ ∃ b, PySem.W.kitOne X.K (.ref D) (.ref B) = some b ∧ Q (.bl b) H) := by
  refine PE.wk (pe_callB (X := X.suite a ((a, oe) :: pn)) (call_isD (a := a) (pn := pn) C hz hf) hB.gl hB.mg hB.bo (pa_cons (pe_var L.at_ L.vis L.nd L.nc) (pa_cons (pe_glob gy my (v := .ref B) rfl ny) pa_nil)) hB.nn hB.nd rfl) fun σ H Q ⟨h1, hx, b, h2, h3⟩ => ?_
  refine ⟨_, h1, ?_⟩
  exact ⟨hx, .ref B, .ref B, b, rfl, fun u r => by cases r; rfl, h2, h3⟩
end

structure GoodS (S : Sx) (G : Gd) (c : Orc) (k : Nat) (X : Cx) (g : Gh) (sc : Scope) : Prop where
  o : Good S G c k X g sc
  kind : sc.kind = .function
  fa : ∀ x, X.fn x = true
  ps : PassesOwn (model X.prog X.w) X.A X.env X.xe
  xok : XOk X.K X.mg g.C S.xs
  st : X.stack = X.env :: X.outer
  fr : X.env.frame = some X.env.locals

def asIsE (S : Sx) (sc : Scope) (n : Str) (c : Nat) : Expr → Bool
  | .Call (.Name x _) [.Name m _, .Name y _] [] _ => x == ("isinstance" : Str) && m == n && decide (S.xs[c]? = some y) && glo sc y && nmOk y && S.bl.contains "isinstance" && glo sc "isinstance"
  | _ => false
def asTwo : List Stmt → Option (Expr × Expr × Str × Str)
  | [.Return (some (.IfExp (.BoolOp .And [e1, .UnaryOp .Not e2 _] _) (.Constant (.str a) _ _) (.Constant (.str b) _ _) _)) _] => some (e1, e2, a, b)
  | _ => none
def asLine (n : Str) : List Stmt → Option (Expr × Expr × Str × Str)
  | [.Return (some (.IfExp (.BoolOp .And [e1, .UnaryOp .Not e2 _] _) (.List [.Constant (.str a) _ _, .Attribute (.Name m _) f _] _) (.List [.Constant (.str b) _ _] _) _)) _] => if m == n && f == ("line" : Str) then some (e1, e2, a, b) else none
  | _ => none
def locX (sc : Scope) (x : Str) : Bool := match sc.names.lookup x with
  | some .local => true
  | _ => false
def asOth : List Stmt → Option (Str × Expr × Expr × Expr × Expr × Str × Str)
  | [.Assign [.Name z _] (.BoolOp .Or [e1, e2, e3] _) _, .Return (some (.IfExp (.BoolOp .And [e4, .UnaryOp .Not (.Name z' _) _] _) (.Constant (.str a) _ _) (.Constant (.str b) _ _) _)) _] => if z == z' then some (z, e1, e2, e3, e4, a, b) else none
  | _ => none
def chkSk (S : Sx) (sc : Scope) (n : Str) (s : Sk) (b : List Stmt) : Bool := match s with
  | .two c1 c2 x y => (match asTwo b with
    | some (e1, e2, x', y') => asIsE S sc n c1 e1 && asIsE S sc n c2 e2 && x == x' && y == y'
    | none => false)
  | .oth j o1 o2 o3 c1 x y => (match asOth b with
    | some (z, e1, e2, e3, e4, x', y') => asIsE S sc n o1 e1 && asIsE S sc n o2 e2 && asIsE S sc n o3 e3 && asIsE S sc n c1 e4 && x == x' && y == y' && decide (S.N[j]? = some z) && locX sc z && nmOk z && !(z == n)
    | none => false)
  | .line c1 c2 x y => (match asLine n b with
    | some (e1, e2, x', y') => asIsE S sc n c1 e1 && asIsE S sc n c2 e2 && x == x' && y == y'
    | none => false)
def chkHs (S : Sx) (sc : Scope) (n : Str) : List Hd → List ExceptHandler → Bool
  | [], [] => true
  | h :: hs, .ExceptHandler (some (.Name x _)) (some m) (b :: bs) _ :: r => m == n && decide (S.xs[h.c]? = some x) && glo sc x && nmOk x && chkSk S sc n h.s (b :: bs) && chkHs S sc n hs r
  | _, _ => false
/-- what is returned -/
def rtD (K : PySem.W.Frag) (E : Ends) (H : Hp) : D → Prop
  | .str m => E.rt (.str m) H
  | .list [.str y, z] => ∀ p v, H p = none → Dq K (fun _ => none) v z → E.rt (.ref p) (upd H p (.lst [.str y, v]))
  | .list [.str y] => ∀ p, H p = none → E.rt (.ref p) (upd H p (.lst [.str y]))
  | _ => False
def tsOf (K : PySem.W.Frag) (C : Nat → Option Value) (i : Nat) (s : Sk) : TSx := fun a cls d E σ H => ∃ (x : Exn) (r : D), XR K C x cls d H ∧ s.wants = x.a.isSome ∧ σ[i]? = some (some (.ref a)) ∧ skRun s x = some r ∧ rtD K E H r

section
variable {S : Sx} {G : Gd} {c : Orc} {k : Nat} {X : Cx} {g : Gh} {sc : Scope} {n : Str} {i : Nat}
theorem XOk.ref {K : PySem.W.Frag} {mg : Str → Option Value} {C : Nat → Option Value} {xs : List Str} (x : XOk K mg C xs) {i : Nat} {v : Value} (h : C i = some v) : ∃ A, v = .ref A ∧ ExcC K A := by
  obtain ⟨y, hy, hne⟩ := x.all i v h
  obtain ⟨A, h1, _, _, h2, _⟩ := x.cls i y hy hne
  rw [h] at h1
  cases h1
  exact ⟨A, rfl, h2⟩
theorem asIsE_inv {e : Expr} {j : Nat} (h : asIsE S sc n j e = true) : ∃ y p0 p1 p2 pos, e = .Call (.Name "isinstance" p0) [.Name n p1, .Name y p2] [] pos ∧ S.xs[j]? = some y ∧ glo sc y = true ∧ nmOk y = true ∧ ("isinstance" : Str) ∈ S.bl ∧ glo sc "isinstance" = true := by
  unfold asIsE at h
  split at h
  · simp only [Bool.and_eq_true, decide_eq_true_eq, List.contains_iff_mem] at h
    obtain ⟨⟨⟨⟨⟨⟨h1, h2⟩, h3⟩, h4⟩, h5⟩, h6⟩, h7⟩ := h
    have e1 := eq_of_beq h1
    have e2 := eq_of_beq h2
    subst e1 e2
    exact ⟨_, _, _, _, _, rfl, h3, h4, h5, h6, h7⟩
  · cases h
theorem asTwo_inv {b : List Stmt} {e1 e2 : Expr} {x y : Str} (h : asTwo b = some (e1, e2, x, y)) : ∃ p1 p2 k1 q1 k2 q2 p3 p4, b = [.Return (some (.IfExp (.BoolOp .And [e1, .UnaryOp .Not e2 p1] p2) (.Constant (.str x) k1 q1) (.Constant (.str y) k2 q2) p3)) p4] := by
  unfold asTwo at h
  split at h
  · cases h; exact ⟨_, _, _, _, _, _, _, _, rfl⟩
  · cases h
theorem asLine_inv {b : List Stmt} {e1 e2 : Expr} {x y : Str} (h : asLine n b = some (e1, e2, x, y)) : ∃ p1 p2 k1 q1 p5 p6 p7 k2 q2 p8 p3 p4, b = [.Return (some (.IfExp (.BoolOp .And [e1, .UnaryOp .Not e2 p1] p2) (.List [.Constant (.str x) k1 q1, .Attribute (.Name n p5) "line" p6] p7) (.List [.Constant (.str y) k2 q2] p8) p3)) p4] := by
  unfold asLine at h
  split at h
  · split at h
    · rename_i q
      simp only [Bool.and_eq_true] at q
      have e1 := eq_of_beq q.1
      have e2 := eq_of_beq q.2
      subst e1 e2
      cases h
      exact ⟨_, _, _, _, _, _, _, _, _, _, _, _, rfl⟩
    · cases h
  · cases h
theorem asOth_inv {b : List Stmt} {z : Str} {e1 e2 e3 e4 : Expr} {x y : Str} (h : asOth b = some (z, e1, e2, e3, e4, x, y)) : ∃ p0 p1 p2 p3 p4 p5 k1 q1 k2 q2 p6 p7, b = [.Assign [.Name z p0] (.BoolOp .Or [e1, e2, e3] p1) p2, .Return (some (.IfExp (.BoolOp .And [e4, .UnaryOp .Not (.Name z p3) p4] p5) (.Constant (.str x) k1 q1) (.Constant (.str y) k2 q2) p6)) p7] := by
  unfold asOth at h
  split at h
  · split at h
    · rename_i q
      have e := eq_of_beq q
      subst e
      cases h
      exact ⟨_, _, _, _, _, _, _, _, _, _, _, _, rfl⟩
    · cases h
  · cases h
/-- isinstance(e, X), by number -/
theorem su_is (O : GoodS S G c k X g sc) (L : Slt X i n) {e : Expr} {j : Nat} (h : asIsE S sc n j e = true) {a D : Addr} {oe : Obj} {pn : List (Addr × Obj)} {x : Nat} {d : Option Addr} (hC : g.C x = some (.ref D)) (hz : Zc (.ref D) d oe) (hf : ∃ vs, oe.data = .fields vs) :
    PE (X.suite a ((a, oe) :: pn)) e (fun σ H Q => σ[i]? = some (some (.ref a)) ∧ XD d H ∧ Q (.bl (sub x j)) H) ∧ valTest e = true := by
  obtain ⟨y, p0, p1, p2, pos, rfl, h1, h2, h3, h4, h5⟩ := asIsE_inv h
  obtain ⟨A, q1, q2, q3, q4, q5, _⟩ := O.xok.cls j y h1 (nmOk_ne h3)
  obtain ⟨D', e1, hD⟩ := O.xok.ref hC
  cases e1
  refine ⟨PE.wk (su_isE hD hz hf (O.o.blt h4 h5 (by decide) bo_isi) L (O.o.gl h2) q2 (nmOk_inv h3).1) fun σ H Q ⟨z1, z0, z2⟩ => ⟨z1, z0, sub x j, ?_, z2⟩, rfl⟩
  exact (O.xok.rel x j D A hC q1).2
theorem su_two (O : GoodS S G c k X g sc) (L : Slt X i n) {s : Sk} {b : List Stmt} (h : chkSk S sc n s b = true) (a : Addr) (oe : Obj) (cls : Value) (d : Option Addr) (pn : List (Addr × Obj)) (hz : Zc cls d oe) (hf : ∃ vs, oe.data = .fields vs) :
    PSs (X.suite a ((a, oe) :: pn)) b (tsOf X.K g.C i s a cls d) := by
  refine ⟨fun pins s0 σ H D I q => ?_⟩
  obtain ⟨x, r, hxr, hw, hσ, hr, q⟩ := q
  have hX := hxr.xd
  have hC := hxr.1
  obtain ⟨A, rfl, hA⟩ := O.xok.ref hC
  cases s with
  | two c1 c2 y1 y2 =>
    unfold chkSk at h
    simp only at h
    split at h
    · rename_i e1 e2 x' y' hb
      obtain ⟨p1, p2, k1, r1, k2, r2, p3, p4, rfl⟩ := asTwo_inv hb
      simp only [Bool.and_eq_true] at h
      obtain ⟨⟨⟨h1, h2⟩, h3⟩, h4⟩ := h
      have z3 := eq_of_beq h3
      have z4 := eq_of_beq h4
      subst z3 z4
      obtain ⟨I1, v1⟩ := su_is (a := a) (pn := pn) O L h1 hC hz hf
      obtain ⟨I2, v2⟩ := su_is (a := a) (pn := pn) O L h2 hC hz hf
      have T := pw_and (pos := p2) (pt_val I1 (valTest_ok v1 _)) (pw_and1 (pos := p2) (pt_not (pos := p1) (pt_val I2 (valTest_ok v2 _))))
      refine (pss_one (ps_ret (pe_ifExp T.pt pe_str pe_str))).run pins s0 σ H D I ?_
      refine ⟨hσ, hX, _, rfl, ?_⟩
      have hm : r = .str (if sub x.c c1 && !sub x.c c2 then y1 else y2) := (Option.some.inj hr).symm
      subst hm
      cases w1 : sub x.c c1 with
      | false =>
        rw [w1] at q
        exact iteF (iteF q)
      | true =>
        rw [w1] at q
        refine iteT ⟨hσ, hX, _, rfl, ?_⟩
        cases w2 : sub x.c c2 with
        | false => rw [w2] at q; exact iteT q
        | true => rw [w2] at q; exact iteF q
    · cases h
  | oth j o1 o2 o3 c1 y1 y2 =>
    unfold chkSk at h
    simp only at h
    split at h
    · rename_i z e1 e2 e3 e4 x' y' hb
      obtain ⟨p0, p1, p2, p3, p4, p5, k1, r1, k2, r2, p6, p7, rfl⟩ := asOth_inv hb
      simp only [Bool.and_eq_true, decide_eq_true_eq, Bool.not_eq_true'] at h
      obtain ⟨⟨⟨⟨⟨⟨⟨⟨⟨h1, h2⟩, h3⟩, h4⟩, h5⟩, h6⟩, h7⟩, h8⟩, h9⟩, h10⟩ := h
      have z5 := eq_of_beq h5
      have z6 := eq_of_beq h6
      subst z5 z6
      obtain ⟨I1, v1⟩ := su_is (a := a) (pn := pn) O L h1 hC hz hf
      obtain ⟨I2, v2⟩ := su_is (a := a) (pn := pn) O L h2 hC hz hf
      obtain ⟨I3, v3⟩ := su_is (a := a) (pn := pn) O L h3 hC hz hf
      obtain ⟨I4, v4⟩ := su_is (a := a) (pn := pn) O L h4 hC hz hf
      have hl : sc.names.lookup z = some .local := by
        unfold locX at h8
        split at h8
        · assumption
        · cases h8
      have hlX : X.env.scope.names.lookup z = some .local := by rw [O.o.sc]; exact hl
      have hj : X.N[j]? = some z := by rw [O.o.N]; exact h7
      obtain ⟨n1, n2, _⟩ := nmOk_inv h9
      have nij : j ≠ i := fun e => by
        subst e
        have := L.at_
        rw [hj] at this
        have e := Option.some.inj this
        rw [beq_eq_false_iff_ne] at h10
        exact h10 e
      have hlen : j < σ.length := by
        have := I.len
        rw [this]
        exact (List.getElem?_eq_some_iff.mp hj).1
      have nd : (X.suite a ((a, oe) :: pn)).N.Nodup := by show X.N.Nodup; rw [O.o.N]; exact O.o.nd
      have A := ps_set (X := X.suite a ((a, oe) :: pn)) (pos := p2) (pos' := p0) nd hj (.inl hlX) (pe_or (pos := p1) I1 (pe_or (pos := p1) I2 (pe_one (pos := p1) I3))) (by unfold swapsWith; rfl) (.inr hlX)
      have V : PE (X.suite a ((a, oe) :: pn)) (.Name z p3) (tVar j) := pe_var hj (.inl hlX) n1 n2
      have T := pw_and (pos := p5) (pt_val I4 (valTest_ok v4 _)) (pw_and1 (pos := p5) (pt_not (pos := p4) (pt_val V (fun _ => rfl))))
      have A2 : PS (X.suite a ((a, oe) :: pn)) (.Assign [.Name z p0] (.BoolOp .Or [e1, e2, e3] p1) p2) (fun D σ H => σ[i]? = some (some (.ref a)) ∧ XD d H ∧ D.nx (σ.set j (some (.bl (sub x.c o1 || sub x.c o2 || sub x.c o3)))) H) := PS.wk A fun D σ H ⟨hσ, hX, q⟩ => by
        refine ⟨hσ, hX, _, rfl, ?_⟩
        cases w1 : sub x.c o1 with
        | true => rw [w1] at q; exact iteT q
        | false =>
          refine iteF ⟨hσ, hX, _, rfl, ?_⟩
          cases w2 : sub x.c o2 with
          | true => rw [w1, w2] at q; exact iteT q
          | false => rw [w1, w2] at q; exact iteF ⟨hσ, hX, q⟩
      have R2 : PSs (X.suite a ((a, oe) :: pn)) [.Return (some (.IfExp (.BoolOp .And [e4, .UnaryOp .Not (.Name z p3) p4] p5) (.Constant (.str y1) k1 r1) (.Constant (.str y2) k2 r2) p6)) p7] (fun D σ H => σ[i]? = some (some (.ref a)) ∧ XD d H ∧ ∃ k : Bool, σ[j]? = some (some (.bl k)) ∧ D.rt (.str (if sub x.c c1 && !k then y1 else y2)) H) :=
        PSs.wk (pss_one (ps_ret (pe_ifExp T.pt pe_str pe_str))) fun D σ H ⟨hσ, hX, k, hk, q⟩ => by
          refine ⟨hσ, hX, _, rfl, ?_⟩
          cases w1 : sub x.c c1 with
          | false => rw [w1] at q; exact iteF (iteF q)
          | true =>
            rw [w1] at q
            refine iteT ⟨.bl k, hk, k, rfl, ?_⟩
            cases k with
            | false => exact iteT q
            | true => exact iteF q
      have hm : r = .str (if sub x.c c1 && !(sub x.c o1 || sub x.c o2 || sub x.c o3) then y1 else y2) := (Option.some.inj hr).symm
      subst hm
      exact (pss_cons A2 R2).run pins s0 σ H D I ⟨hσ, hX, by rw [List.getElem?_set_ne nij]; exact hσ, hX, _, List.getElem?_set_self hlen, q⟩
    · cases h
  | line c1 c2 y1 y2 =>
    unfold chkSk at h
    simp only at h
    split at h
    · rename_i e1 e2 x' y' hb
      obtain ⟨p1, p2, k1, r1, p5, p6, p7, k2, r2, p8, p3, p4, rfl⟩ := asLine_inv hb
      simp only [Bool.and_eq_true] at h
      obtain ⟨⟨⟨h1, h2⟩, h3⟩, h4⟩ := h
      have z3 := eq_of_beq h3
      have z4 := eq_of_beq h4
      subst z3 z4
      obtain ⟨I1, v1⟩ := su_is (a := a) (pn := pn) O L h1 hC hz hf
      obtain ⟨I2, v2⟩ := su_is (a := a) (pn := pn) O L h2 hC hz hf
      have T := pw_and (pos := p2) (pt_val I1 (valTest_ok v1 _)) (pw_and1 (pos := p2) (pt_not (pos := p1) (pt_val I2 (valTest_ok v2 _))))
      obtain ⟨y, hy, hyne⟩ := O.xok.all _ _ hC
      obtain ⟨A', w1, _, _, w4, _, w6⟩ := O.xok.cls _ y hy hyne
      rw [hC] at w1
      cases w1
      have V : PE (X.suite a ((a, oe) :: pn)) (.Name n p5) (tVar i) := pe_var L.at_ L.vis L.nd L.nc
      have F := pe_xf (X := X) (a := a) (pn := pn) (n := "line") (pos := p6) ⟨w4.hg, w4.hk, w4.hs, w4.hd⟩ w6 hz hf V rfl
      have L1 := pe_lst (X := X.suite a ((a, oe) :: pn)) (pos := p7) (pa_cons (pe_str (j := k1) (pos := r1) (x := y1)) (pa_cons F pa_nil rfl) rfl)
      have L2' := pe_lst (X := X.suite a ((a, oe) :: pn)) (pos := p8) (pa_cons (pe_str (j := k2) (pos := r2) (x := y2)) pa_nil rfl)
      refine (pss_one (ps_ret (pe_ifExp T.pt L1 L2'))).run pins s0 σ H D I ?_
      obtain ⟨_, hxa⟩ := hxr
      unfold skRun at hr
      cases qa : x.a with
      | none => rw [qa] at hw; cases hw
      | some z =>
        rw [qa] at hxa
        simp only [qa] at hr
        obtain ⟨dd, v, rfl, hdd, dq⟩ := hxa
        have hm := (Option.some.inj hr).symm
        refine ⟨hσ, hX, _, rfl, ?_⟩
        cases w1 : sub x.c c1 with
        | false =>
          rw [w1] at hm
          have hm : r = .list [.str y2] := hm
          subst hm
          exact iteF (iteF ⟨(by decide : 1 ≤ sizeLine), q⟩)
        | true =>
          rw [w1] at hm
          refine iteT ⟨hσ, hX, _, rfl, ?_⟩
          cases w2 : sub x.c c2 with
          | false =>
            rw [w2] at hm
            have hm : r = .list [.str y1, z] := hm
            subst hm
            exact iteT ⟨.ref a, hσ, rfl, rfl, dd, _, v, rfl, hdd, rfl, (by decide : 2 ≤ sizeLine), fun p np => q p v np dq⟩
          | true =>
            rw [w2] at hm
            have hm : r = .list [.str y2] := hm
            subst hm
            exact iteF ⟨(by decide : 1 ≤ sizeLine), q⟩
    · cases h
def hsOf (K : PySem.W.Frag) (C : Nat → Option Value) (i : Nat) (hs : List Hd) : List (Value × TSx) := hs.map fun h => ((C h.c).getD .none, tsOf K C i h.s)
theorem ok_hs (O : GoodS S G c k X g sc) (L : Slt X i n) : ∀ {hs : List Hd} {r : List ExceptHandler}, chkHs S sc n hs r = true → HsOk X n r (hsOf X.K g.C i hs)
  | [], [], _ => .nil
  | [], _ :: _, h => by cases h
  | _ :: _, [], h => by cases h
  | hd :: hs, e :: r, h => by
    unfold chkHs at h
    split at h
    · rename_i q; cases q
    · rename_i hd1 hs1 x p m b bs q r1 e1 e2
      cases e1
      cases e2
      simp only [Bool.and_eq_true, decide_eq_true_eq] at h
      obtain ⟨⟨⟨⟨⟨h1, h2⟩, h3⟩, h4⟩, h5⟩, h6⟩ := h
      rw [eq_of_beq h1]
      obtain ⟨A, q1, q2, q3, q4, q5, _⟩ := O.xok.cls _ x h2 (nmOk_ne h4)
      have hn : Names X x ((g.C hd.c).getD .none) := ⟨O.o.gl h3, (nmOk_inv h4).1, .inl (by rw [q1]; exact q2)⟩
      exact .cons hn (fun a oe cls d pn hz hf => su_two O L h5 a oe cls d pn hz hf) (ok_hs O L h6)
    · cases h
/-- which clause takes it -/
theorem hs_read (O : GoodS S G c k X g sc) {F H : Hp} {env : Env} {σ : L2.St} {D : Ends} {x : Exn} {cls : Value} {d : Option Addr} (li : i < env.length) (rel : Rel X.K g.M g.F0 g.H0 F env σ H) (hx : XR X.K g.C x cls d H) : ∀ {hs : List Hd} {r : List ExceptHandler}, chkHs S sc n hs r = true →
    DoneS X.K g F (Fl.catch (.exc x env) i hs) D → wHs X.K i g.W D (hsOf X.K g.C i hs) cls d σ H
  | [], _, _, h => by
    unfold Fl.catch at h
    simp only [if_pos li] at h
    exact h σ H F rel cls d hx
  | _ :: _, [], hc, _ => by cases hc
  | hd :: hs, e :: r, hc, h => by
    unfold chkHs at hc
    split at hc
    · rename_i q; cases q
    · rename_i hd1 hs1 y p m b bs q r1 e1 e2
      cases e1
      cases e2
      simp only [Bool.and_eq_true, decide_eq_true_eq] at hc
      obtain ⟨⟨⟨⟨⟨h1, h2⟩, h3⟩, h4⟩, h5⟩, h6⟩ := hc
      obtain ⟨B, q1, q2, q3, q4, q5, _⟩ := O.xok.cls _ y h2 (nmOk_ne h4)
      obtain ⟨A, rfl, hA⟩ := O.xok.ref hx.1
      refine ⟨sub x.c hd.c, by show PySem.W.exmOne X.K _ ((g.C hd.c).getD .none) = _; rw [q1]; exact (O.xok.rel x.c hd.c A B hx.1 q1).1, fun hs1 a _ => ?_, fun hs1 => ?_⟩
      · unfold Fl.catch at h
        simp only [if_pos li] at h
        simp only [hdRun, hs1, if_true] at h
        have hσ : i < σ.length := by rw [← rel.len]; exact li
        cases qw : (hd.s.wants == x.a.isSome) with
        | false => simp only [qw] at h; exact h.elim
        | true =>
          simp only [qw, if_true] at h
          cases qr : skRun hd.s x with
          | none => simp only [qr] at h; exact h.elim
          | some r =>
            simp only [qr] at h
            refine ⟨x, r, hx, eq_of_beq qw, List.getElem?_set_self hσ, qr, ?_⟩
            have fin : ∀ r : PyData, DoneS X.K g F (.rt r) D → (∃ m, r = .str m) ∨ (∃ y z, r = .list [.str y, z]) ∨ (∃ y, r = .list [.str y]) → rtD X.K D H r := fun r h sh => by
              rcases sh with ⟨m, rfl⟩ | ⟨y, z, rfl⟩ | ⟨y, rfl⟩
              · exact h (.str m) H F rel.ext (.str m)
              · exact fun p v np dq => h _ _ _ (rel.ext.trans (.frz rel.fh np)) (.lst upd_same (.cons (.str y) (.cons (dq.mono fun _ _ e => by cases e) .nil)))
              · exact fun p np => h _ _ _ (rel.ext.trans (.frz rel.fh np)) (.lst upd_same (.cons (.str y) .nil))
            refine fin r h ?_
            unfold skRun at qr
            cases q5 : hd.s with
            | two c1 c2 y1 y2 => simp only [q5] at qr; exact .inl ⟨_, (Option.some.inj qr).symm⟩
            | oth j o1 o2 o3 c1 y1 y2 => simp only [q5] at qr; exact .inl ⟨_, (Option.some.inj qr).symm⟩
            | line c1 c2 y1 y2 =>
              simp only [q5] at qr
              cases q6 : x.a with
              | none => rw [q6] at qr; cases qr
              | some z =>
                rw [q6] at qr
                have qr := (Option.some.inj qr).symm
                rw [qr]
                split
                · exact .inr (.inl ⟨_, _, rfl⟩)
                · exact .inr (.inr ⟨_, rfl⟩)
      · refine hs_read O li rel hx h6 ?_
        unfold Fl.catch at h ⊢
        simp only [if_pos li] at h ⊢
        simp only [hdRun, hs1] at h
        exact h
    · cases hc
theorem GoodS.tr (O : GoodS S G c k X g sc) {W : WX} {pn : List (Addr × Obj)} {xe : Value → Shared → Prop} (tk : Takes (X.tr pn xe) W) (ps : PassesOwn (model X.prog X.w) X.A X.env xe) : GoodS S G c k (X.tr pn xe) { g with W := W } sc where
  o := ⟨O.o.N, O.o.nd, O.o.sc, O.o.calm, O.o.M, O.o.room, tk, O.o.fn, O.o.cs, O.o.dn, O.o.bl, O.o.pe, O.o.wk, O.o.mth⟩
  kind := O.kind
  fa := O.fa
  ps := ps
  xok := O.xok
  st := O.st
  fr := O.fr
theorem ds_try {body : List Stmt} {hds : List ExceptHandler} {hs : List Hd} {f : Env → Fl} {pos : Pos} (O : GoodS S G c k X g sc) (L : Slt X i n) (hl : sc.names.lookup n = some .local)
    (hb : ∀ (X' : Cx) (g' : Gh), X'.K = X.K → g'.M = g.M → g'.F0 = g.F0 → g'.H0 = g.H0 → g'.C = g.C → GoodS S G c k X' g' sc → PSs X' body (tS X'.K g' f)) (h : chkHs S sc n hs hds = true) (hne : hds ≠ []) :
    PS X (.Try body hds [] [] pos) (tS X.K g fun env => (f env).catch i hs) := by
  cases hds with
  | nil => exact absurd rfl hne
  | cons hd hds =>
    have hk : X.env.kindOf n = some .local := by show X.env.scope.names.lookup n = _; rw [O.o.sc]; exact hl
    refine PS.wk (ps_tryA (i := i) (n := n) (out := g.W) (l := hsOf X.K g.C i hs) (tb := fun W => tS X.K { g with W := W } f) O.st O.fr (by rw [O.o.N]; exact O.o.nd) L.at_ hk O.o.tk
      (fun W pn xe tk ps => hb (X.tr pn xe) { g with W := W } rfl rfl rfl rfl rfl (O.tr tk ps)) (ok_hs O L h)) fun D σ H ⟨F, env, rel, hd⟩ => ⟨F, env, rel, ?_⟩
    replace hd : DoneS X.K g F ((f env).catch i hs) D := hd
    cases q : f env with
    | nx env' => rw [q] at hd; exact hd
    | rt d => rw [q] at hd; exact hd
    | stuck => rw [q] at hd; exact hd.elim
    | exc x env' =>
      rw [q] at hd
      intro σ' H' F' rel' cls dd hx
      by_cases li : i < env'.length
      · refine hs_read O li rel' hx h ?_
        unfold Fl.catch at hd ⊢
        simp only [if_pos li] at hd ⊢
        cases q2 : hdRun x hs with
        | none => rw [q2] at hd; exact hd
        | some o =>
          rw [q2] at hd
          cases o with
          | none => exact hd.elim
          | some d => exact hd
      · unfold Fl.catch at hd
        simp only [if_neg li] at hd
        exact hd.elim
end
end DH
set_option Elab.async false
set_option linter.all false
set_option maxRecDepth 100000
set_option maxHeartbeats 2000000
/-! DH: the clause that asks for all classes and goes on. -/
namespace DH
open PySem L2
open PySem.Spec PyProof.Rows
def isEs (S : Sx) (sc : Scope) (n : Str) : List Nat → List Expr → Bool
  | [], [] => true
  | c :: cs, e :: es => asIsE S sc n c e && isEs S sc n cs es
  | _, _ => false
def asMore (S : Sx) (sc : Scope) (n x : Str) : List (List Nat) → List Stmt → Option (List Stmt)
  | [], l => some l
  | g :: gs, .Assign [.Name y _] (.BinOp (.Name z _) .Add (.List es _) _) _ :: l => if y == x && z == x && isEs S sc n g es then asMore S sc n x gs l else none
  | _, _ => none
def asTail : List Stmt → Option (Expr × Str × Str × Str × Str)
  | [.Assign [.Name u _] e _, .Assign [.Name l _] (.IfExp (.Compare (.Name m _) [.Eq] [.Constant (.int z) _ _] _) (.Attribute (.Name e2 _) f _) (.Constant (.str y) _ _) _) _] => if z == 12 && f == ("line" : Str) && y == ("none" : Str) then some (e, u, l, m, e2) else none
  | _ => none
def asIsV (n : Str) : Expr → Bool
  | .Call (.Name x _) [.Name m _, .Name y _] [] _ => x == ("isinstance" : Str) && m == n && y == ("ValueError" : Str)
  | _ => false
def asAll (S : Sx) (sc : Scope) (n : Str) (h : HA) : List Stmt → Bool
  | .Assign [.Name x _] (.List es _) _ :: l => (match asMore S sc n x h.gs l with
    | some r => (match asTail r with
      | some (e, u, ln, m, e2) => isEs S sc n h.g0 es && asIsV n e && e2 == n && decide (S.N[h.f]? = some x) && decide (S.N[h.u]? = some u) && decide (S.N[h.l]? = some ln) && decide (S.N[h.m]? = some m) && locX sc x && locX sc u && locX sc ln && vis sc m && nmOk x && nmOk m &&
          !(x == n) && !(u == n) && !(m == x) && !(m == u) && !S.M h.f && !S.M h.u && !S.M h.l && decide (h.g0.length + h.gs.flatten.length ≤ 100) && S.bl.contains "isinstance" && glo sc "isinstance" && S.bl.contains "ValueError" && glo sc "ValueError" && !(ln == n) && !(u == x) && !(m == n)
      | none => false)
    | none => false)
  | _ => false
def chkHA (S : Sx) (sc : Scope) (n : Str) (h : HA) : List ExceptHandler → Bool
  | [.ExceptHandler (some (.Name x _)) (some m) (b :: bs) _] => m == n && decide (S.xs[h.c]? = some x) && glo sc x && nmOk x && asAll S sc n h (b :: bs)
  | _ => false
theorem locX_inv {sc : Scope} {x : Str} (h : locX sc x = true) : sc.names.lookup x = some .local := by
  unfold locX at h
  split at h
  · assumption
  · cases h
theorem set_self' {α : Type} {l : List α} {i : Nat} {a : α} (h : l[i]? = some a) : l.set i a = l := by
  apply List.ext_getElem?
  intro j
  by_cases e : i = j
  · subst e
    rw [List.getElem?_set_self (List.getElem?_eq_some_iff.mp h).1, h]
  · rw [List.getElem?_set_ne e]
theorem bo_ve : bootBuiltins "ValueError" = some (.type "ValueError") := by decide +kernel
section
variable {S : Sx} {G : Gd} {c : Orc} {k : Nat} {X : Cx} {g : Gh} {sc : Scope} {n : Str} {i : Nat}
theorem su_es (O : GoodS S G c k X g sc) (L : Slt X i n) {a D : Addr} {oe : Obj} {pn : List (Addr × Obj)} {x : Nat} {d : Option Addr} (hC : g.C x = some (.ref D)) (hz : Zc (.ref D) d oe) (hf : ∃ vs, oe.data = .fields vs) : ∀ {cs : List Nat} {es : List Expr}, isEs S sc n cs es = true →
    PA (X.suite a ((a, oe) :: pn)) es (fun σ H Q => σ[i]? = some (some (.ref a)) ∧ XD d H ∧ Q (cs.map fun j => .bl (sub x j)) H)
  | [], [], _ => PA.wk pa_nil fun σ H Q ⟨_, _, q⟩ => q
  | [], _ :: _, h => by cases h
  | _ :: _, [], h => by cases h
  | c :: cs, e :: es, h => by
    simp only [isEs, Bool.and_eq_true] at h
    obtain ⟨I1, v1⟩ := su_is (a := a) (pn := pn) O L h.1 hC hz hf
    have st : starEach (e :: es) (X.suite a ((a, oe) :: pn)).env = (false, eval e (X.suite a ((a, oe) :: pn)).env) :: starEach es (X.suite a ((a, oe) :: pn)).env := by
      obtain ⟨y, p0, p1, p2, pos, rfl, _⟩ := asIsE_inv h.1
      rfl
    exact PA.wk (pa_cons I1 (su_es O L hC hz hf h.2) st) fun σ H Q ⟨h1, h2, q⟩ => ⟨h1, h2, h1, h2, q⟩
theorem su_more (O : GoodS S G c k X g sc) (L : Slt X i n) {a D : Addr} {oe : Obj} {pn : List (Addr × Obj)} {xc : Nat} {d : Option Addr} (hC : g.C xc = some (.ref D)) (hz : Zc (.ref D) d oe) (hf : ∃ vs, oe.data = .fields vs) {x : Str} {f : Nat} (hN : S.N[f]? = some x) (hl : sc.names.lookup x = some .local) (hn : nmOk x = true) (hi : f ≠ i)
    {T : TS} {rest : List Stmt} (hT : PSs (X.suite a ((a, oe) :: pn)) rest T) : ∀ {gs : List (List Nat)} {l : List Stmt}, asMore S sc n x gs l = some rest →
    PSs (X.suite a ((a, oe) :: pn)) l (fun E σ H => σ[i]? = some (some (.ref a)) ∧ XD d H ∧ ∃ p bs, σ[f]? = some (some (.ref p)) ∧ H p = some (.lst bs) ∧ bs.length + gs.flatten.length ≤ 100 ∧ ∀ q H', Same H H' → (q = p ∨ H q = none) → H' q = some (.lst (bs ++ gs.flatten.map fun j => .bl (sub xc j))) → T E (σ.set f (some (.ref q))) H')
  | [], l, h => by
    cases h
    refine PSs.wk hT fun E σ H ⟨h1, h2, p, bs, h3, h4, h5, q⟩ => ?_
    have := q p H (Same.refl _) (.inl rfl) (by rw [h4]; simp)
    rw [set_self' h3] at this
    exact this
  | gg :: gs, l, h => by
    unfold asMore at h
    split at h
    · rename_i q; cases q
    · rename_i g1 gs1 y p1 z p2 es p3 p4 p5 l1 e1
      cases e1
      split at h
      · rename_i q
        simp only [Bool.and_eq_true] at q
        obtain ⟨⟨q1, q2⟩, q3⟩ := q
        have e1 := eq_of_beq q1
        have e2 := eq_of_beq q2
        subst e1 e2
        have ih := su_more O L hC hz hf hN hl hn hi hT h
        obtain ⟨n1, n2, _⟩ := nmOk_inv hn
        have hlX : (X.suite a ((a, oe) :: pn)).env.scope.names.lookup z = some .local := by show X.env.scope.names.lookup z = _; rw [O.o.sc]; exact hl
        have hj : (X.suite a ((a, oe) :: pn)).N[f]? = some z := by show X.N[f]? = _; rw [O.o.N]; exact hN
        have nd : (X.suite a ((a, oe) :: pn)).N.Nodup := by show X.N.Nodup; rw [O.o.N]; exact O.o.nd
        have Vz : PE (X.suite a ((a, oe) :: pn)) (.Name z p2) (tVar f) := pe_var hj (.inl hlX) n1 n2
        have A := ps_set (X := X.suite a ((a, oe) :: pn)) (pos := p5) (pos' := p1) nd hj (.inl hlX) (pe_op (pos := p4) op_cat Vz (pe_lst (pos := p3) (su_es O L hC hz hf q3))) (by unfold swapsWith; rfl) (.inr hlX)
        refine PSs.wk (pss_cons A ih) fun E σ H ⟨h1, h2, p, bs, h3, h4, h5, q⟩ => ?_
        have lf : f < σ.length := (List.getElem?_eq_some_iff.mp h3).1
        simp only [List.flatten_cons, List.length_append] at h5
        have s100 : (100 : Nat) ≤ sizeLine := by rw [sizeLine_eq]; decide
        refine ⟨.ref p, h3, h1, h2, by rw [List.length_map]; omega, fun p' np => ⟨p, p', bs, _, rfl, rfl, ?_, upd_same, by rw [List.length_map]; omega, fun p'' np'' => ?_⟩⟩
        · rw [upd_ne (ne_of_none h4 np)]; exact h4
        · have sm1 : Same H (upd H p' (.lst (gg.map fun j => V.bl (sub xc j)))) := same_upd np
          have sm2 := sm1.trans (same_upd (o := .lst (bs ++ gg.map fun j => V.bl (sub xc j))) np'')
          refine ⟨by rw [List.getElem?_set_ne hi]; exact h1, fun dd e => ?_, p'', bs ++ gg.map fun j => V.bl (sub xc j), List.getElem?_set_self lf, upd_same, by rw [List.length_append, List.length_map]; omega, fun q' H' sm nq hq => ?_⟩
          · obtain ⟨fs, hx⟩ := h2 dd e
            exact ⟨fs, sm2 _ _ hx⟩
          · rw [List.set_set]
            refine q q' H' (sm2.trans sm) (.inr ?_) (by rw [hq]; simp [List.append_assoc])
            rcases nq with rfl | nq
            · exact sm1.free np''
            · exact sm2.free nq
      · cases h
    · cases h
theorem su_all (O : GoodS S G c k X g sc) (L : Slt X i n) {h : HA} {b : List Stmt} (hb : asAll S sc n h b = true) (a : Addr) (oe : Obj) (cls : Value) (d : Option Addr) (pn : List (Addr × Obj)) (hz : Zc cls d oe) (hf : ∃ vs, oe.data = .fields vs) :
    PSs (X.suite a ((a, oe) :: pn)) b (fun E σ H => ∃ (x : Exn) (z : Int) (r : D), XR X.K g.C x cls d H ∧ σ[i]? = some (some (.ref a)) ∧ σ[h.m]? = some (some (.int z)) ∧ (if z = 12 then x.a else some (.str "none")) = some r ∧
      ∀ q H' v, Same H H' → H q = none → H' q = some (.lst ((h.g0 ++ h.gs.flatten).map fun j => .bl (sub x.c j))) → Dq X.K (fun _ => none) v r → E.nx (((σ.set h.f (some (.ref q))).set h.u (some (.bl true))).set h.l (some v)) H') := by
  refine ⟨fun pins s0 σ H E I q => ?_⟩
  obtain ⟨x, z, r, hxr, h1, h2, hr, q⟩ := q
  have hX := hxr.xd
  have hC := hxr.1
  obtain ⟨A, rfl, hA⟩ := O.xok.ref hC
  unfold asAll at hb
  split at hb
  · rename_i xn px es pes pas l
    split at hb
    · rename_i rest hm
      split at hb
      · rename_i e u ln m e2 ht
        unfold asTail at ht
        split at ht
        · rename_i u1 pu e1 pp l1 pl m1 pm z1 zk zp cp e21 pe2 f1 pf y1 yk yp ip ap
          split at ht
          · rename_i hc
            cases ht
            simp only [Bool.and_eq_true] at hc
            obtain ⟨⟨c1, c2⟩, c3⟩ := hc
            have d1 := eq_of_beq c1
            have d2 := eq_of_beq c2
            have d3 := eq_of_beq c3
            subst d1 d2 d3
            simp only [Bool.and_eq_true, decide_eq_true_eq, Bool.not_eq_true', List.contains_iff_mem] at hb
            obtain ⟨⟨⟨⟨⟨⟨⟨⟨⟨⟨⟨⟨⟨⟨⟨⟨⟨⟨⟨⟨⟨⟨⟨⟨⟨⟨⟨b1, b2⟩, b3⟩, b4⟩, b5⟩, b6⟩, b7⟩, b8⟩, b9⟩, b10⟩, b11⟩, b12⟩, b13⟩, b14⟩, b15⟩, b16⟩, b17⟩, b18⟩, b19⟩, b20⟩, b21⟩, b22⟩, b23⟩, b24⟩, b25⟩, b26⟩, b27⟩, b28⟩ := hb
            have d4 := (eq_of_beq b3).symm
            subst d4
            have ne : ∀ {p q : Nat} {y z : Str}, S.N[p]? = some y → S.N[q]? = some z → (y == z) = false → p ≠ q := fun {p q y z} e1 e2 e3 e => by
              subst e
              rw [e1] at e2
              cases e2
              simp at e3
            have hiN : S.N[i]? = some n := by rw [← O.o.N]; exact L.at_
            have nfi := ne b4 hiN b14
            have nui := ne b5 hiN b15
            have nmf := ne b7 b4 b16
            have nmu := ne b7 b5 b17
            have nli := ne b6 hiN b26
            have nuf := ne b5 b4 b27
            have nmi := ne b7 hiN b28
            have lf : h.f < σ.length := by
              have := I.len
              rw [this]
              show h.f < X.N.length
              rw [O.o.N]
              exact (List.getElem?_eq_some_iff.mp b4).1
            let Xs := X.suite a ((a, oe) :: pn)
            have nd : Xs.N.Nodup := by show X.N.Nodup; rw [O.o.N]; exact O.o.nd
            have lk : ∀ {y : Str}, locX sc y = true → Xs.env.scope.names.lookup y = some .local := fun {y} hy => by
              show X.env.scope.names.lookup y = _
              rw [O.o.sc]
              exact locX_inv hy
            have aN : ∀ {p : Nat} {y : Str}, S.N[p]? = some y → Xs.N[p]? = some y := fun {p y} hy => by show X.N[p]? = _; rw [O.o.N]; exact hy
            obtain ⟨m1', m2', _⟩ := nmOk_inv b13
            -- isinstance(e, ValueError)
            have V6 : PE Xs e (fun σ H Q => σ[i]? = some (some (.ref a)) ∧ XD d H ∧ Q (.bl true) H) := by
              unfold asIsV at b2
              split at b2
              · rename_i x0 p0 m0 p1 y0 p2 pos
                simp only [Bool.and_eq_true] at b2
                obtain ⟨⟨t1, t2⟩, t3⟩ := b2
                have w1 := eq_of_beq t1
                have w2 := eq_of_beq t2
                have w3 := eq_of_beq t3
                subst w1 w2 w3
                have hB : Blt X "isinstance" (.builtin "isinstance") := O.o.blt b22 b23 (by decide) bo_isi
                refine PE.wk (pe_callB (X := X.suite a ((a, oe) :: pn)) (call_isD (a := a) (pn := pn) hA hz hf) hB.gl hB.mg hB.bo (pa_cons (pe_var L.at_ L.vis L.nd L.nc) (pa_cons (pe_bltn (v := .ty "ValueError") (O.o.gl b25) (O.o.bl _ b24) bo_ve rfl) pa_nil)) hB.nn hB.nd rfl) fun σ H Q ⟨h1, hx, h3⟩ => ?_
                exact ⟨_, h1, hx, .ty "ValueError", .type "ValueError", true, rfl, fun u r => by cases r; rfl, O.xok.ve _ _ hC, h3⟩
              · cases b2
            have sw6 : swapsWith e (some (.Name u pu)) pp.line Xs.env = pure false := by
              unfold asIsV at b2
              split at b2
              · unfold swapsWith; rfl
              · cases b2
            have S6 := ps_set (X := Xs) (pos := pp) (pos' := pu) nd (aN b5) (.inl (lk b9)) V6 sw6 (.inr (lk b9))
            obtain ⟨y, hy, hyne⟩ := O.xok.all _ _ hC
            obtain ⟨A', w1, _, _, w4, _, w6⟩ := O.xok.cls _ y hy hyne
            rw [hC] at w1
            cases w1
            have Vn : PE Xs (.Name n pe2) (tVar i) := pe_var L.at_ L.vis L.nd L.nc
            have Vm : PE Xs (.Name m pm) (tVar h.m) := pe_var (aN b7) (O.o.vis b11) m1' m2'
            have Fl := pe_xf (X := X) (a := a) (pn := pn) (n := "line") (pos := pf) ⟨w4.hg, w4.hk, w4.hs, w4.hd⟩ w6 hz hf Vn rfl
            have S7 := ps_set (X := Xs) (pos := ap) (pos' := pl) nd (aN b6) (.inl (lk b10)) (pe_ifExp (pos := ip) (pt_cmp (pos := cp) (pc_eqI Vm (pe_int (j := zk) (pos := zp) (i := 12)))) Fl (pe_str (j := yk) (pos := yp) (x := "none"))) (by unfold swapsWith; rfl) (.inr (lk b10))
            have TT := pss_cons S6 (pss_one S7)
            have MM := su_more O L hC hz hf b4 (locX_inv b8) b12 nfi TT hm
            have S1 := ps_set (X := Xs) (pos := pas) (pos' := px) nd (aN b4) (.inl (lk b8)) (pe_lst (pos := pes) (su_es O L hC hz hf b1)) (by unfold swapsWith; rfl) (.inr (lk b8))
            refine (pss_cons S1 MM).run pins s0 σ H E I ?_
            have s100 : (100 : Nat) ≤ sizeLine := by rw [sizeLine_eq]; decide
            refine ⟨h1, hX, by rw [List.length_map]; omega, fun p np => ?_⟩
            have sm1 : Same H (upd H p (.lst (h.g0.map fun j => V.bl (sub x.c j)))) := same_upd np
            refine ⟨by rw [List.getElem?_set_ne nfi]; exact h1, fun dd e => (by obtain ⟨fs, hx⟩ := hX dd e; exact ⟨fs, sm1 _ _ hx⟩), p, _, List.getElem?_set_self lf, upd_same, by rw [List.length_map]; exact b21, fun q' H' sm nq hq => ?_⟩
            rw [List.set_set]
            have sm2 := sm1.trans sm
            have nq' : H q' = none := by
              rcases nq with rfl | nq
              · exact np
              · exact sm1.free nq
            have i2 : (σ.set h.f (some (.ref q')))[i]? = some (some (.ref a)) := by rw [List.getElem?_set_ne nfi]; exact h1
            refine ⟨i2, fun dd e => (by obtain ⟨fs, hx⟩ := hX dd e; exact ⟨fs, sm2 _ _ hx⟩), ?_⟩
            have q0 := fun v => q q' H' v sm2 nq' (by rw [hq, List.map_append])
            have m2 : ((σ.set h.f (some (.ref q'))).set h.u (some (.bl true)))[h.m]? = some (some (.int z)) := by rw [List.getElem?_set_ne (Ne.symm nmu), List.getElem?_set_ne (Ne.symm nmf)]; exact h2
            have i3 : ((σ.set h.f (some (.ref q'))).set h.u (some (.bl true)))[i]? = some (some (.ref a)) := by rw [List.getElem?_set_ne nui]; exact i2
            refine ⟨.int z, m2, z, 12, rfl, rfl, _, rfl, ?_⟩
            by_cases hz12 : z = 12
            · rw [if_pos hz12] at hr
              show if decide (z = 12) = true then _ else _
              rw [if_pos (decide_eq_true hz12)]
              obtain ⟨_, hxa⟩ := hxr
              rw [hr] at hxa
              obtain ⟨dd, v, rfl, hdd, dq⟩ := hxa
              exact ⟨.ref a, i3, rfl, rfl, dd, _, v, rfl, sm2 _ _ hdd, rfl, q0 v dq⟩
            · rw [if_neg hz12] at hr
              have hr := Option.some.inj hr
              subst hr
              show if decide (z = 12) = true then _ else _
              rw [if_neg (by rw [decide_eq_false hz12]; exact Bool.false_ne_true)]
              exact q0 (.str "none") (.str "none")
          · cases ht
        · cases ht
      · cases hb
    · cases hb
  · cases hb
/-- the side conditions once more -/
theorem asAll_f {h : HA} {b : List Stmt} (hb : asAll S sc n h b = true) : (∀ i, S.N[i]? = some n → h.m ≠ i) ∧ h.f < S.N.length ∧ S.M h.f = false ∧ S.M h.u = false ∧ S.M h.l = false := by
  unfold asAll at hb
  split at hb
  · split at hb
    · split at hb
      · simp only [Bool.and_eq_true, decide_eq_true_eq, Bool.not_eq_true', List.contains_iff_mem] at hb
        obtain ⟨⟨⟨⟨⟨⟨⟨⟨⟨⟨⟨⟨⟨⟨⟨⟨⟨⟨⟨⟨⟨⟨⟨⟨⟨⟨⟨b1, b2⟩, b3⟩, b4⟩, b5⟩, b6⟩, b7⟩, b8⟩, b9⟩, b10⟩, b11⟩, b12⟩, b13⟩, b14⟩, b15⟩, b16⟩, b17⟩, b18⟩, b19⟩, b20⟩, b21⟩, b22⟩, b23⟩, b24⟩, b25⟩, b26⟩, b27⟩, b28⟩ := hb
        refine ⟨fun i hi e => ?_, (List.getElem?_eq_some_iff.mp b4).1, b18, b19, b20⟩
        subst e
        rw [b7] at hi
        cases hi
        simp at b28
      · cases hb
    · cases hb
  · cases hb
def lcOf0 : Expr → Bool
  | .ListComp _ _ _ _ => false
  | .SetComp _ _ _ _ => false
  | .DictComp _ _ _ _ _ => false
  | _ => true
def tsA (K : PySem.W.Frag) (C : Nat → Option Value) (i : Nat) (h : HA) : TSx := fun a cls d E σ H => ∃ (x : Exn) (z : Int) (r : D), XR K C x cls d H ∧ σ[i]? = some (some (.ref a)) ∧ σ[h.m]? = some (some (.int z)) ∧ (if z = 12 then x.a else some (.str "none")) = some r ∧
      ∀ q H' v, Same H H' → H q = none → H' q = some (.lst ((h.g0 ++ h.gs.flatten).map fun j => .bl (sub x.c j))) → Dq K (fun _ => none) v r → E.nx (((σ.set h.f (some (.ref q))).set h.u (some (.bl true))).set h.l (some v)) H'
theorem bls {K : PySem.W.Frag} {F : Hp} (x : Nat) : ∀ l : List Nat, DqAll K F (l.map fun j => .bl (sub x j)) (l.map fun j => .bool (sub x j))
  | [] => .nil
  | j :: l => .cons (.bl _) (bls x l)
theorem ds_trA {a : Expr} {hds : List ExceptHandler} {h : HA} {fe : Env → Res D} {pos p1 : Pos} (O : GoodS S G c k X g sc) (L : Slt X i n) (hl : sc.names.lookup n = some .local) (hla : lcOf0 a = true)
    (hb : ∀ (X' : Cx) (g' : Gh), X'.K = X.K → GoodS S G c k X' g' sc → PE X' a (tE X'.K g' .R fe)) (hc : chkHA S sc n h hds = true) :
    PS X (.Try [.Expr a p1] hds [] [] pos) (tS X.K g fun env => ((fe env).fl env fun _ => .nx env).catchA i h) := by
  unfold chkHA at hc
  split at hc
  · rename_i x px m b bs q
    simp only [Bool.and_eq_true, decide_eq_true_eq] at hc
    obtain ⟨⟨⟨⟨h1, h2⟩, h3⟩, h4⟩, h5⟩ := hc
    have e1 := eq_of_beq h1
    subst e1
    obtain ⟨B, q1, q2, q3, q4, q5, _⟩ := O.xok.cls _ x h2 (nmOk_ne h4)
    have hn : Names X x ((g.C h.c).getD .none) := ⟨O.o.gl h3, (nmOk_inv h4).1, .inl (by rw [q1]; exact q2)⟩
    have hk : X.env.kindOf m = some .local := by show X.env.scope.names.lookup m = _; rw [O.o.sc]; exact hl
    have sw : ∀ env : PySem.Env, swapsWith a none p1.line env = pure false := fun env => by
      unfold swapsWith
      cases a <;> first | rfl | (simp [lcOf0] at hla; done)
    refine PS.wk (ps_tryA (i := i) (n := m) (out := g.W) (l := [((g.C h.c).getD .none, tsA X.K g.C i h)]) (tb := fun W D σ H => tE X.K { g with W := W } .R fe σ H fun _ H' => D.nx σ H') O.st O.fr (by rw [O.o.N]; exact O.o.nd) L.at_ hk O.o.tk
      (fun W pn xe tk ps => pss_one (ps_expr (hb (X.tr pn xe) { g with W := W } rfl (O.tr tk ps)) (sw _))) (.cons hn (fun a oe cls d pn hz hf => su_all O L h5 a oe cls d pn hz hf) .nil)) fun D σ H ⟨F, env, rel, hd⟩ => ⟨F, env, rel, ?_⟩
    replace hd : DoneS X.K g F (((fe env).fl env fun _ => .nx env).catchA i h) D := hd
    have hd' := asAll_f h5
    cases qe : fe env with
    | ok d => rw [qe] at hd; exact fun v H' F' x1 _ => hd σ H' F' x1.ff (rel.step x1)
    | stuck => rw [qe] at hd; exact hd.elim
    | exc x =>
      rw [qe] at hd
      intro H' F' x1 cls dd hx
      have rel' := rel.step x1
      by_cases li : i < env.length
      · replace hd : DoneS X.K g F (if i < env.length then (if sub x.c h.c then goA x env i h else .exc x env) else .stuck) D := hd
        rw [if_pos li] at hd
        obtain ⟨A, rfl, hA⟩ := O.xok.ref hx.1
        refine ⟨sub x.c h.c, by show PySem.W.exmOne X.K _ ((g.C h.c).getD .none) = _; rw [q1]; exact (O.xok.rel x.c h.c A B hx.1 q1).1, fun hs1 p np => ?_, fun hs1 => ?_⟩
        · rw [if_pos hs1] at hd
          unfold goA at hd
          split at hd
          · rename_i z em
            split at hd
            · rename_i r hr
              obtain ⟨nmi, lf, mf, mu, ml⟩ := hd'
              have nmi : h.m ≠ i := nmi i (by rw [← O.o.N]; exact L.at_)
              have hlen : i < σ.length := by rw [← rel.len]; exact li
              obtain ⟨v, e1, e2⟩ := rel'.sl h.m _ em
              have ev : v = .int z := by
                split at e2
                · rcases e2 with ⟨_, _, _, _, w, _⟩ | ⟨_, w⟩
                  · cases w
                  · cases w; rfl
                · cases e2; rfl
              subst ev
              refine ⟨x, z, r, hx, List.getElem?_set_self hlen, by rw [List.getElem?_set_ne (Ne.symm nmi)]; exact e1, hr, fun q H2 v sm nq hq dq => ?_⟩
              show D.nx _ H2
              have fq : F' q = none := rel'.fh.free nq
              have x2 : Ext F' H' (upd F' q (.lst ((h.g0 ++ h.gs.flatten).map fun j => .bl (sub x.c j)))) H2 := by
                refine ⟨sm, same_upd fq, fun b o e => ?_, fun b o e => ?_⟩
                · by_cases hb : b = q
                  · subst hb; rw [upd_same] at e; rw [hq]; exact e
                  · rw [upd_ne hb] at e; exact sm _ _ (rel'.fh _ _ e)
                · by_cases hb : b = q
                  · subst hb; exact .inr nq
                  · rw [upd_ne hb] at e; exact .inl ⟨o, e⟩
              refine hd _ H2 _ (x1.ff.trans x2.ff) ?_
              have r1 := ((rel'.step x2).forget i (some (.ref p)))
              have r2 := r1.storeV (j := h.f) (v := .ref q) (by rw [O.o.M]; exact mf) (.lst upd_same (bls x.c (h.g0 ++ h.gs.flatten)))
              have r3 := r2.storeV (j := h.u) (v := .bl true) (by rw [O.o.M]; exact mu) (.bl true)
              have r4 := r3.storeV (j := h.l) (v := v) (by rw [O.o.M]; exact ml) (dq.mono fun _ _ e => by cases e)
              exact r4.forget i none
            · exact hd.elim
          · exact hd.elim
        · rw [if_neg (by rw [hs1]; exact Bool.false_ne_true)] at hd
          exact hd σ H' F' rel' _ dd hx
      · replace hd : DoneS X.K g F (if i < env.length then (if sub x.c h.c then goA x env i h else .exc x env) else .stuck) D := hd
        rw [if_neg li] at hd
        exact hd.elim
  · cases hc
end
end DH
set_option Elab.async false
set_option linter.all false
set_option maxRecDepth 100000
set_option maxHeartbeats 2000000
/-! DH, part S: when is a text of the language a text of Python; statements. -/
namespace DH
open PySem L2
open PySem.Spec PyProof.Rows

def locL (sc : Scope) (x : Str) : Bool := match sc.names.lookup x with
  | some .local => true
  | _ => false
/-- x = [..] -/
def lcOf : Expr → Option (Scope × Pos)
  | .ListComp _ _ s p => some (s, p)
  | .SetComp _ _ s p => some (s, p)
  | .DictComp _ _ _ s p => some (s, p)
  | _ => none
def swB (sc : Scope) (x : Str) (px : Pos) (e : Expr) : Bool := match lcOf e with
  | none => false
  | some (s, p) => locL sc x && px.line == p.line && !(s.names.any fun (n, k) => n == x && (k == .local || k == .cell))
theorem sw_eq {env : PySem.Env} {x : Str} {px : Pos} {e : Expr} {l : Nat} (hk : env.scope.kind = .function) : swapsWith e (some (.Name x px)) l env = pure (swB env.scope x px e) := by
  have hb : env.blockKind = .function := by unfold Env.blockKind; rw [hk]; rfl
  have kx : (env.kindOf x == some .local) = locL env.scope x := by
    show ((env.scope.names.lookup x) == some .local) = locL env.scope x
    unfold locL
    cases env.scope.names.lookup x with
    | none => rfl
    | some k => cases k <;> rfl
  unfold swapsWith swB
  cases e <;> first | rfl | (simp only [lcOf, hb, kx, Expr.pos]; rfl)
/-- (x, y) = .. : not the swapped stores -/
def notTup : Expr → Bool
  | .Tuple _ _ _ => false
  | _ => true
def notLoc (sc : Scope) (x : Str) : Bool := match sc.names.lookup x with
  | some .local => false
  | _ => true
/-- one of the two names lies in a cell -/
def celT (sc : Scope) : Expr → Bool
  | .Tuple [.Name x _, .Name y _] _ _ => notLoc sc x || notLoc sc y
  | _ => false
def isComp : Ex → Bool
  | .comp _ _ _ _ _ => true
  | _ => false
def isOpq : Ex → Bool
  | .glb i => decide (1000 ≤ i)
  | _ => false
def isVar : Ex → Bool
  | .var _ => true
  | _ => false
mutual
def chkS (S : Sx) (sc : Scope) : Sm → Stmt → Bool
  | .asg i e, s => match s with
    | .Assign [.Name x px] a _ => decide (S.N[i]? = some x) && locB sc x && chkE S sc e a && mle (md S.M e) (if S.M i then .O else .V) && (isComp e || !swB sc x px a)
    | _ => false
  | .mov i j, s => match s with
    | .Assign [.Name x _] (.Name y _) _ => decide (S.N[i]? = some x) && locB sc x && decide (S.N[j]? = some y) && vis sc y && nmOk y && !(i == j) && !S.M i
    | _ => false
  | .par i j a b, s => match s with
    | .Assign [.Tuple [.Name x px, .Name y py] _ _] (.Tuple [e1, e2] _ _) _ => decide (S.N[i]? = some x) && decide (S.N[j]? = some y) && locL sc x && locL sc y && !(i == j) && !S.M i && !S.M j && chkE S sc a e1 && chkE S sc b e2 && mle (md S.M a) .V && mle (md S.M b) .V &&
        plainE e1 && plainE e2 && px.line == py.line && !(x == y) && !([e1, e2].all (foldedForSure 8)) && !([e1, e2].all (constantsAlone 8))
    | _ => false
  | .unp i j e, s => match s with
    | .Assign [t] a _ => chkTg S sc sc (.two i j) t && chkE S sc e a && mle (md S.M e) .V && (notTup a || celT sc t)
    | _ => false
  | .app i e, s => match s with
    | .Expr (.Call (.Attribute (.Name x _) m ap) [a] [] cp) _ => m == ("append" : Str) && decide (S.N[i]? = some x) && vis sc x && nmOk x && S.M i && chkE S sc e a && mle (md S.M e) .V && plainE a && ap.endLine == cp.line
    | _ => false
  | .ext i e, s => match s with
    | .Expr (.Call (.Attribute (.Name x _) m ap) [a] [] cp) _ => m == ("extend" : Str) && decide (S.N[i]? = some x) && vis sc x && nmOk x && S.M i && chkE S sc e a && mle (md S.M e) .V && plainE a && ap.endLine == cp.line
    | _ => false
  | .pop j i, s => match s with
    | .Assign [.Name y _] (.Call (.Attribute (.Name x _) m ap) [] [] cp) _ => m == ("pop" : Str) && decide (S.N[i]? = some x) && vis sc x && nmOk x && S.M i && decide (S.N[j]? = some y) && locB sc y && !S.M j && !(i == j) && ap.endLine == cp.line
    | _ => false
  | .pop0 j i, s => match s with
    | .Assign [.Name y _] (.Call (.Attribute (.Name x _) m ap) [.Constant (.int z) _ _] [] cp) _ => m == ("pop" : Str) && z == 0 && decide (S.N[i]? = some x) && vis sc x && nmOk x && S.M i && decide (S.N[j]? = some y) && locB sc y && !S.M j && !(i == j) && ap.endLine == cp.line
    | _ => false
  | .set i k e, s => match s with
    | .Assign [.Subscript (.Name x _) k' _] a _ => decide (S.N[i]? = some x) && vis sc x && nmOk x && S.M i && chkE S sc k k' && plainE k' && chkE S sc e a && mle (md S.M e) .V
    | _ => false
  | .set2 i k1 k2 e1 e2, s => match s with
    | .Assign [.Tuple [.Subscript (.Name x _) j1 _, .Subscript (.Name y _) j2 _] _ _] (.Tuple [a, b] _ _) _ => decide (S.N[i]? = some x) && x == y && vis sc x && nmOk x && S.M i && chkE S sc k1 j1 && chkE S sc k2 j2 && plainE j1 && plainE j2 && chkL S sc (.cons e1 (.cons e2 .nil)) [a, b]
    | _ => false
  | .ife c a b, s => match s with
    | .If t p q _ => chkT S sc c t && chkSs S sc a p && chkSs S sc b q
    | _ => false
  | .forr t it b, s => match s with
    | .For tg iter body [] _ => chkTg S sc sc t tg && chkI S sc true (isTwo t) it iter && plainE iter && chkSs S sc b body
    | _ => false
  | .whil c b, s => match s with
    | .While t body [] _ => chkT S sc c t && chkSs S sc b body
    | _ => false
  | .ret e, s => match s with
    | .Return (some a) _ => chkE S sc e a && (mle (md S.M e) .V || isVar e)
    | _ => false
  | .retN, s => match s with
    | .Return none _ => true
    | _ => false
  | .rais x, s => match s with
    | .Raise (some (.Call (.Name y _) [.Constant (.str _) _ _] [] _)) none _ => decide (S.xs[x]? = some y) && glo sc y && nmOk y && !(x == 15)
    | _ => false
  | .raisA x e, s => match s with
    | .Raise (some (.Call (.Name y _) [a] [] _)) none _ => decide (x = 15) && decide (S.xs[x]? = some y) && glo sc y && nmOk y && chkE S sc e a && mle (md S.M e) .V && plainE a
    | _ => false
  | .expr e, s => isOpq e || match s with
    | .Expr a _ => chkE S sc e a && (lcOf a).isNone
    | _ => false
  | .pass, s => match s with
    | .Pass _ => true
    | _ => false
  | .tri i b hs, s => match s with
    | .Try body hds [] [] _ => (match S.N[i]? with
      | some n => locL sc n && nmOk n && chkHs S sc n hs hds && !hds.isEmpty && chkSs S sc b body
      | none => false)
    | _ => false
  | .trA i e h, s => match s with
    | .Try [.Expr a _] hds [] [] _ => (match S.N[i]? with
      | some n => locL sc n && nmOk n && chkHA S sc n h hds && chkE S sc e a && lcOf0 a
      | none => false)
    | _ => false
def chkSs (S : Sx) (sc : Scope) : Sms → List Stmt → Bool
  | .nil, l => match l with
    | [] => true
    | _ => false
  | .cons s r, l => match l with
    | x :: xs => chkS S sc s x && chkSs S sc r xs
    | [] => false
end

section
variable {S : Sx} {G : Gd} {c : Orc} {k : Nat} {X : Cx} {g : Gh} {sc : Scope}
theorem Good.loc (O : Good S G c k X g sc) {x : Str} (h : locB sc x = true) : L2.Loc X.env.scope x := by
  rw [O.sc]
  unfold locB at h
  split at h
  · exact .inl (by assumption)
  · exact .inr (by assumption)
  · cases h
theorem Good.locl (O : Good S G c k X g sc) {x : Str} (h : locL sc x = true) : X.env.scope.names.lookup x = some .local := by
  rw [O.sc]
  unfold locL at h
  split at h
  · assumption
  · cases h
theorem Good.nod (O : Good S G c k X g sc) : X.N.Nodup := by rw [O.N]; exact O.nd
theorem Good.slt (O : Good S G c k X g sc) {i : Nat} {x : Str} (h1 : S.N[i]? = some x) (h2 : DH.vis sc x = true) (h3 : nmOk x = true) : Slt X i x :=
  let ⟨a, b, _⟩ := nmOk_inv h3
  ⟨by rw [O.N]; exact h1, O.vis h2, a, b⟩
theorem ok_asg (O : GoodS S G c k X g sc) {i : Nat} {e : Ex} {x : Str} {px : Pos} {a : Expr} {pos : Pos} (h1 : S.N[i]? = some x) (h2 : locB sc x = true) (h3 : chkE S sc e a = true) (h4 : mle (md S.M e) (if S.M i then .O else .V) = true) (h5 : (isComp e || !swB sc x px a) = true) :
    PS X (.Assign [.Name x px] a pos) (tS X.K g fun env => (ev c G e env).fl env fun d => .nx (put env i d)) := by
  have hk : X.env.scope.kind = .function := by rw [O.o.sc]; exact O.kind
  have hi : X.N[i]? = some x := by rw [O.o.N]; exact h1
  have sw := sw_eq (env := X.env) (x := x) (px := px) (e := a) (l := pos.line) hk
  rw [O.o.sc] at sw
  have hm : (if g.M i = true then Md.O else Md.V) = (if S.M i then .O else .V) := by rw [O.o.M]
  cases q : swB sc x px a with
  | false =>
    rw [q] at sw
    exact ds_asg O.o.nod hi (O.o.loc h2) (O.fa x) (by rw [hm]; exact up (okE e O.o h3) h4) sw
  | true =>
    rw [q] at sw h5
    cases e with
    | comp elt t it cs own =>
      simp only [chkE] at h3
      split at h3
      · rename_i el tg iter ifs as scope p
        simp only [Bool.and_eq_true, decide_eq_true_eq] at h3
        obtain ⟨⟨⟨⟨⟨⟨⟨⟨g0, g1⟩, g2⟩, g3⟩, g4⟩, g5⟩, g6⟩, g7⟩, g8⟩ := h3
        subst g0
        obtain ⟨t2, t3, t4⟩ := tgStat g2
        have pi := okI it false (isTwo t) tg t3 O.o g4
        have ok : BlkOk X.N X.env.scope scope own := by rw [O.o.N, O.o.sc]; exact blkOk_by g1
        have hl : X.env.scope.names.lookup x = some .local := by
          unfold swB at q
          simp only [lcOf, Bool.and_eq_true] at q
          exact O.o.locl q.1.1
        refine ds_asgR (i := i) (fa := ev c G (.comp elt t it cs own)) (ps_setLc (g := gT X.K t) (tt := tT X.K (gN g) (evTs c G cs)) (te := tE X.K (gN g) .V (ev c G elt)) O.o.calm O.o.nod hi hl sw pi ok (fun s H C cl fp => okTg (O.o.blk s H scope C cl fp) blk_fn g2) (fun s H C cl fp => okTs cs (O.o.blk s H scope C cl fp) g6) (fun s H C cl fp => up (okE elt (O.o.blk s H scope C cl fp) g7) g8) (fold_plain g5 _)) fun σ H Q z => ?_
        have z' : tE X.K g .O (ev c G (.comp elt t it cs own)) σ H Q := by
          split at z
          · exact z
          · exact tE_O_V z
        refine lc_read (two := isTwo t) (fi := evI c G it) (ft := evTs c G cs) (fe := ev c G elt) (fun _ _ _ z => z) (fun i hi => ?_) (fun i hi => by rw [O.o.M]; exact t2 i hi) t4 z'
        have := List.all_eq_true.mp g3 i hi
        simpa using this
      · cases h3
    | _ => cases h5
end
end DH
set_option Elab.async false
set_option linter.all false
set_option maxRecDepth 100000
set_option maxHeartbeats 2000000
/-! DH, part T: the forms are kept: statements. -/
namespace DH
open PySem L2
open PySem.Spec PyProof.Rows
theorem sp_two {x y : Str} {px py pt pt2 : Pos} {kt k2 : Nat} {a b : Expr} {env : PySem.Env} (hk : env.scope.kind = .function) (hx : env.scope.names.lookup x = some .local) (hy : env.scope.names.lookup y = some .local) (pa : plainE a = true) (pb : plainE b = true)
    (hl : (px.line == py.line) = true) (hxy : (x == y) = false) (h1 : [a, b].all (foldedForSure 8) = false) (h2 : [a, b].all (constantsAlone 8) = false) :
    swappedStores [.Tuple [.Name x px, .Name y py] kt pt] (.Tuple [a, b] k2 pt2) env = pure (some [x, y]) := by
  have hb : env.blockKind = .function := by unfold Env.blockKind; rw [hk]; rfl
  have kx : env.kindOf x = some .local := hx
  have ky : env.kindOf y = some .local := hy
  have nl : (py.line == px.line) = true := by rw [beq_iff_eq] at hl ⊢; exact hl.symm
  have st : ([a, b].any fun | .Starred .. => true | _ => false) = false := by
    have one : ∀ e : Expr, plainE e = true → (match e with | .Starred .. => true | _ => false) = false := fun e h => by cases e <;> first | rfl | (simp [plainE] at h)
    simp only [List.any_cons, List.any_nil, one a pa, one b pb, Bool.or_false]
  have nd : [x, y].eraseDups = [x, y] := by
    have hyx : (y == x) = false := by rw [beq_eq_false_iff_ne] at hxy ⊢; exact Ne.symm hxy
    simp [List.eraseDups_cons, hyx]
  have fm : ([Expr.Name x px, Expr.Name y py].filterMap fun | .Name id pos => if env.kindOf id == some .local && pos.line == px.line then some id else none | _ => none) = [x, y] := by
    simp [List.filterMap, kx, ky, nl]
  unfold swappedStores
  simp only [hb]
  refine (if_neg (by show ¬ ((!(2 == 2 || 2 == 3) || (2 : Nat) != 2 || ScopeKind.function != ScopeKind.function) = true); decide)).trans ((if_neg (fun h => ?_)).trans ?_)
  · have h' : ([a, b].any fun | .Starred .. => true | _ => false) = true := h
    rw [st] at h'
    cases h'
  · refine (if_neg (fun h => ?_)).trans ((if_neg (by rw [h1]; decide)).trans ((if_neg (by rw [h2]; decide)).trans ?_))
    · have h' : (([Expr.Name x px, Expr.Name y py].filterMap fun | .Name id pos => if env.kindOf id == some .local && pos.line == px.line then some id else none | _ => none).length != 2 ||
        ([Expr.Name x px, Expr.Name y py].filterMap fun | .Name id pos => if env.kindOf id == some .local && pos.line == px.line then some id else none | _ => none).eraseDups.length != ([Expr.Name x px, Expr.Name y py].filterMap fun | .Name id pos => if env.kindOf id == some .local && pos.line == px.line then some id else none | _ => none).length) = true := h
      rw [fm, nd] at h'
      cases h'
    · exact congrArg (fun l => (pure (some l) : Sem (Option (List Str)))) fm
theorem sp_none {t a : Expr} {env : PySem.Env} (h : notTup a = true) : swappedStores [t] a env = pure none := by
  unfold swappedStores
  cases a <;> first | (cases t <;> rfl) | (simp [notTup] at h)
theorem sp_cel {t a : Expr} {env : PySem.Env} (h : celT env.scope t = true) : swappedStores [t] a env = pure none := by
  unfold celT at h
  split at h
  · rename_i x px y py kt pt
    cases a with
    | Tuple vs k2 p2 =>
      have nl : ∀ z, notLoc env.scope z = true → (env.kindOf z == some NameKind.local) = false := fun z hz => by
        unfold notLoc at hz
        show (env.scope.names.lookup z == some NameKind.local) = false
        cases q : env.scope.names.lookup z with
        | none => rfl
        | some k =>
          rw [q] at hz
          cases k <;> first | (cases hz; done) | rfl
      have fm : (([Expr.Name x px, Expr.Name y py].filterMap fun | .Name id pos => if env.kindOf id == some .local && pos.line == px.line then some id else none | _ => none).length != 2 ||
        ([Expr.Name x px, Expr.Name y py].filterMap fun | .Name id pos => if env.kindOf id == some .local && pos.line == px.line then some id else none | _ => none).eraseDups.length != ([Expr.Name x px, Expr.Name y py].filterMap fun | .Name id pos => if env.kindOf id == some .local && pos.line == px.line then some id else none | _ => none).length) = true := by
        rw [Bool.or_eq_true] at h
        rcases h with h | h
        · rw [Bool.or_eq_true]
          left
          simp only [List.filterMap_cons, List.filterMap_nil, nl x h, Bool.false_and, Bool.false_eq_true, if_false]
          split <;> rfl
        · rw [Bool.or_eq_true]
          left
          simp only [List.filterMap_cons, List.filterMap_nil, nl y h, Bool.false_and, Bool.false_eq_true, if_false]
          split <;> rfl
      unfold swappedStores
      by_cases c1 : (!(2 == 2 || 2 == 3) || vs.length != 2 || env.blockKind != .function) = true
      · exact if_pos c1
      · refine (if_neg c1).trans ?_
        by_cases c2 : (vs.any fun | .Starred .. => true | _ => false) = true
        · exact if_pos c2
        · exact (if_neg c2).trans (if_pos fm)
    | _ => rfl
  · cases h
theorem sole_tup {els : List Expr} {kk : Nat} {p : Pos} {a : Expr} {l : Nat} {env : PySem.Env} : swapsWithSole [.Tuple els kk p] a l env = pure false := by
  unfold swapsWithSole swapsWith
  cases a <;> rfl
theorem sole_sub {o i : Expr} {p : Pos} {a : Expr} {l : Nat} {env : PySem.Env} : swapsWithSole [.Subscript o i p] a l env = pure false := by
  unfold swapsWithSole swapsWith
  cases a <;> rfl
section
variable {S : Sx} {G : Gd} {c : Orc} {k w : Nat} {sc : Scope}
mutual
theorem okS : ∀ (s : Sm) {X : Cx} {g : Gh} {st : Stmt}, GoodS S G c k X g sc → chkS S sc s st = true → PS X st (tS X.K g (run c G w s))
  | .asg i e, X, g, st, O, h => by
    simp only [chkS] at h
    split at h
    · simp only [Bool.and_eq_true, decide_eq_true_eq] at h
      obtain ⟨⟨⟨⟨h1, h2⟩, h3⟩, h4⟩, h5⟩ := h
      exact ok_asg O h1 h2 h3 h4 h5
    · cases h
  | .mov i j, X, g, st, O, h => by
    simp only [chkS] at h
    split at h
    · simp only [Bool.and_eq_true, decide_eq_true_eq, Bool.not_eq_true', beq_eq_false_iff_ne] at h
      obtain ⟨⟨⟨⟨⟨⟨h1, h2⟩, h3⟩, h4⟩, h5⟩, h6⟩, h7⟩ := h
      obtain ⟨n1, n2, _⟩ := nmOk_inv h5
      exact ds_mov h6 (by rw [O.o.M]; exact h7) O.o.nod (by rw [O.o.N]; exact h1) (O.o.loc h2) (O.fa _) (by rw [O.o.N]; exact h3) (O.o.vis h4) n1 n2
    · cases h
  | .par i j a b, X, g, st, O, h => by
    simp only [chkS] at h
    split at h
    · simp only [Bool.and_eq_true, decide_eq_true_eq, Bool.not_eq_true', beq_eq_false_iff_ne] at h
      obtain ⟨⟨⟨⟨⟨⟨⟨⟨⟨⟨⟨⟨⟨⟨⟨⟨h1, h2⟩, h3⟩, h4⟩, h5⟩, h6⟩, h7⟩, h8⟩, h9⟩, h10⟩, h11⟩, h12⟩, h13⟩, h14⟩, h15⟩, h16⟩, h17⟩ := h
      exact ds_par O.o.calm O.o.nod h5 (by rw [O.o.M]; exact h6) (by rw [O.o.M]; exact h7) (by rw [O.o.N]; exact h1) (by rw [O.o.N]; exact h2) (O.o.locl h3) (O.o.locl h4) (up (okE a O.o h8) h10) (up (okE b O.o h9) h11) h12 h13
        (sp_two (by rw [O.o.sc]; exact O.kind) (O.o.locl h3) (O.o.locl h4) h12 h13 h14 (by rw [beq_eq_false_iff_ne]; exact h15) h16 h17)
    · cases h
  | .unp i j e, X, g, st, O, h => by
    simp only [chkS] at h
    split at h
    · simp only [Bool.and_eq_true] at h
      obtain ⟨⟨⟨h1, h2⟩, h3⟩, h4⟩ := h
      obtain ⟨t2, t3, t4⟩ := tgStat h1
      have hg := okTg O.o (fun x _ => O.fa x) h1
      obtain ⟨els, kk, p, rfl⟩ := t3 rfl
      refine ds_unp hg (by rw [O.o.M]; exact t2 i (by simp [tgSlots])) (by rw [O.o.M]; exact t2 j (by simp [tgSlots])) (up (okE e O.o h2) h3) ?_ ?_ rfl
      · exact sole_tup
      · rw [Bool.or_eq_true] at h4
        rcases h4 with h4 | h4
        · exact sp_none h4
        · exact sp_cel (by rw [O.o.sc]; exact h4)
    · cases h
  | .app i e, X, g, st, O, h => by
    simp only [chkS] at h
    split at h
    · simp only [Bool.and_eq_true, decide_eq_true_eq] at h
      obtain ⟨⟨⟨⟨⟨⟨⟨⟨h0, h1⟩, h2⟩, h3⟩, h4⟩, h5⟩, h6⟩, h7⟩, h8⟩ := h
      have e0 := eq_of_beq h0
      subst e0
      exact ds_app (by rw [O.o.M]; exact h4) (O.o.slt h1 h2 h3) (up (okE e O.o h5) h6) h7 h8
    · cases h
  | .ext i e, X, g, st, O, h => by
    simp only [chkS] at h
    split at h
    · simp only [Bool.and_eq_true, decide_eq_true_eq] at h
      obtain ⟨⟨⟨⟨⟨⟨⟨⟨h0, h1⟩, h2⟩, h3⟩, h4⟩, h5⟩, h6⟩, h7⟩, h8⟩ := h
      have e0 := eq_of_beq h0
      subst e0
      exact ds_ext (by rw [O.o.M]; exact h4) (O.o.slt h1 h2 h3) (up (okE e O.o h5) h6) h7 h8
    · cases h
  | .pop j i, X, g, st, O, h => by
    simp only [chkS] at h
    split at h
    · simp only [Bool.and_eq_true, decide_eq_true_eq, Bool.not_eq_true', beq_eq_false_iff_ne] at h
      obtain ⟨⟨⟨⟨⟨⟨⟨⟨⟨h0, h1⟩, h2⟩, h3⟩, h4⟩, h5⟩, h6⟩, h7⟩, h8⟩, h9⟩ := h
      have e0 := eq_of_beq h0
      subst e0
      exact ds_pop h8 (by rw [O.o.M]; exact h4) (by rw [O.o.M]; exact h7) (O.o.slt h1 h2 h3) O.o.nod (by rw [O.o.N]; exact h5) (O.o.loc h6) (O.fa _) h9
    · cases h
  | .pop0 j i, X, g, st, O, h => by
    simp only [chkS] at h
    split at h
    · simp only [Bool.and_eq_true, decide_eq_true_eq, Bool.not_eq_true', beq_eq_false_iff_ne] at h
      obtain ⟨⟨⟨⟨⟨⟨⟨⟨⟨⟨h0, hz⟩, h1⟩, h2⟩, h3⟩, h4⟩, h5⟩, h6⟩, h7⟩, h8⟩, h9⟩ := h
      have e0 := eq_of_beq h0
      have e1 := eq_of_beq hz
      subst e0 e1
      exact ds_pop0 h8 (by rw [O.o.M]; exact h4) (by rw [O.o.M]; exact h7) (O.o.slt h1 h2 h3) O.o.nod (by rw [O.o.N]; exact h5) (O.o.loc h6) (O.fa _) h9
    · cases h
  | .set i k' e, X, g, st, O, h => by
    simp only [chkS] at h
    split at h
    · simp only [Bool.and_eq_true, decide_eq_true_eq] at h
      obtain ⟨⟨⟨⟨⟨⟨⟨h1, h2⟩, h3⟩, h4⟩, h5⟩, h6⟩, h7⟩, h8⟩ := h
      rename_i x p1 kx p2 a p3
      refine ds_set (by rw [O.o.M]; exact h4) (O.o.slt h1 h2 h3) (up (okE e O.o h7) h8) (up (okE k' O.o h5) (mle_R _)) h6 (fun tg l => ?_) (fun tg => ?_)
      · exact sole_sub
      · unfold swappedStores
        cases a <;> rfl
    · cases h
  | .set2 i k1 k2 e1 e2, X, g, st, O, h => by
    simp only [chkS] at h
    split at h
    · simp only [Bool.and_eq_true, decide_eq_true_eq] at h
      obtain ⟨⟨⟨⟨⟨⟨⟨⟨⟨h1, h2⟩, h3⟩, h4⟩, h5⟩, h6⟩, h7⟩, h8⟩, h9⟩, h10⟩ := h
      have e0 := eq_of_beq h2
      subst e0
      exact ds_set2 (fa := ev c G e1) (fb := ev c G e2) O.o.calm (by rw [O.o.M]; exact h5) (O.o.slt h1 h3 h4) (okL (.cons e1 (.cons e2 .nil)) O.o h10).1 (up (okE k1 O.o h6) (mle_R _)) (up (okE k2 O.o h7) (mle_R _)) h8 h9
    · cases h
  | .ife t a b, X, g, st, O, h => by
    simp only [chkS] at h
    split at h
    · simp only [Bool.and_eq_true] at h
      exact ds_if (okT t O.o h.1.1) (okSs a O h.1.2) (okSs b O h.2)
    · cases h
  | .forr t it b, X, g, st, O, h => by
    simp only [chkS] at h
    split at h
    · simp only [Bool.and_eq_true] at h
      obtain ⟨⟨⟨h1, h2⟩, h3⟩, h4⟩ := h
      obtain ⟨t2, t3, t4⟩ := tgStat h1
      exact ds_for O.ps O.o.calm (okI it true (isTwo t) _ t3 O.o h2) (okTg O.o (fun x _ => O.fa x) h1) (okSs b O h4) t4 (fun i hi => by rw [O.o.M]; exact t2 i hi) h3
    · cases h
  | .whil t b, X, g, st, O, h => by
    simp only [chkS] at h
    split at h
    · simp only [Bool.and_eq_true] at h
      exact ds_while O.ps (okT t O.o h.1) (okSs b O h.2)
    · cases h
  | .ret e, X, g, st, O, h => by
    simp only [chkS] at h
    split at h
    · simp only [Bool.and_eq_true] at h
      obtain ⟨h1, h2⟩ := h
      cases q : mle (md S.M e) .V with
      | true => exact ds_ret q (okE e O.o h1)
      | false =>
        rw [q] at h2
        cases e with
        | var i =>
          rename_i a p
          cases a with
          | Name x p0 =>
            simp only [chkE, Bool.and_eq_true, decide_eq_true_eq] at h1
            obtain ⟨n1, n2, _⟩ := nmOk_inv h1.2
            exact ds_retM (by rw [O.o.N]; exact h1.1.1) (O.o.vis h1.1.2) n1 n2
          | _ => cases h1
        | _ => cases h2
    · cases h
  | .retN, X, g, st, O, h => by
    simp only [chkS] at h
    split at h
    · exact ds_retN
    · cases h
  | .rais x, X, g, st, O, h => by
    simp only [chkS] at h
    split at h
    · simp only [Bool.and_eq_true, decide_eq_true_eq] at h
      obtain ⟨⟨⟨h1, h2⟩, h3⟩, h4⟩ := h
      obtain ⟨A, q1, q2, q3, q4, q5, _⟩ := O.xok.cls _ _ h1 (nmOk_ne h3)
      have h4 : x ≠ 15 := by simpa using h4
      exact ds_raise O.o.calm O.o.tk (O.xok.rai _ A q1 h4) q2 q3 (raises_own q4.hs q5) (O.o.gl h2) (nmOk_inv h3).1 q1
    · cases h
  | .raisA x e, X, g, st, O, h => by
    simp only [chkS] at h
    split at h
    · simp only [Bool.and_eq_true, decide_eq_true_eq] at h
      obtain ⟨⟨⟨⟨⟨⟨h0, h1⟩, h2⟩, h3⟩, h4⟩, h5⟩, h6⟩ := h
      subst h0
      obtain ⟨A, q1, q2, q3, q4, q5, _⟩ := O.xok.cls _ _ h1 (nmOk_ne h3)
      exact ds_raiseA O.o.calm O.o.tk (O.o.pe _ q1) (O.o.room.mono (by omega)) (O.o.gl h2) q2 (nmOk_inv h3).1 q1 (up (okE e O.o h4) h5) h6
    · cases h
  | .expr e, X, g, st, O, h => by
    cases hq : isOpq e with
    | true =>
      have e0 : run c G w (.expr e) = fun _ => .stuck := by
        funext env
        cases e with
        | glb i =>
          have hi : 1000 ≤ i := of_decide_eq_true hq
          unfold run
          have e1 : ev c G (.glb i) env = .stuck := by unfold ev; exact if_neg (by omega)
          rw [e1]
          rfl
        | _ => cases hq
      rw [e0]
      exact ⟨fun pins s σ H D I h => by obtain ⟨_, _, _, z⟩ := h; exact z.elim⟩
    | false =>
    simp only [chkS, hq, Bool.false_or] at h
    split at h
    · simp only [Bool.and_eq_true] at h
      rename_i a p
      refine ds_expr (up (okE e O.o h.1) (mle_R _)) ?_
      have h2 := h.2
      unfold swapsWith
      cases a <;> first | rfl | (simp [lcOf] at h2; done)
    · cases h
  | .pass, X, g, st, O, h => by
    simp only [chkS] at h
    split at h
    · exact ds_pass
    · cases h
  | .tri i b hs, X, g, st, O, h => by
    simp only [chkS] at h
    split at h
    · split at h
      · rename_i n hn
        simp only [Bool.and_eq_true] at h
        obtain ⟨⟨⟨⟨h1, h2⟩, h3⟩, h4⟩, h5⟩ := h
        have hl : sc.names.lookup n = some .local := by have := O.o.locl h1; rw [O.o.sc] at this; exact this
        have hv : vis sc n = true := by unfold vis; rw [hl]
        exact ds_try O (O.o.slt hn hv h2) hl (fun X' g' _ _ _ _ _ O' => okSs b O' h5) h3 (fun z => by rw [z] at h4; cases h4)
      · cases h
    · cases h
  | .trA i e h, X, g, st, O, hh => by
    simp only [chkS] at hh
    split at hh
    · split at hh
      · rename_i n hn
        simp only [Bool.and_eq_true] at hh
        obtain ⟨⟨⟨⟨h1, h2⟩, h3⟩, h4⟩, h5⟩ := hh
        have hl : sc.names.lookup n = some .local := by have := O.o.locl h1; rw [O.o.sc] at this; exact this
        have hv : vis sc n = true := by unfold vis; rw [hl]
        exact ds_trA O (O.o.slt hn hv h2) hl h5 (fun X' g' _ O' => up (okE e O'.o h4) (mle_R _)) h3
      · cases hh
    · cases hh
theorem okSs : ∀ (ss : Sms) {X : Cx} {g : Gh} {l : List Stmt}, GoodS S G c k X g sc → chkSs S sc ss l = true → PSs X l (tS X.K g (runs c G w ss))
  | .nil, X, g, l, O, h => by
    cases l with
    | nil => exact ds_nil
    | cons _ _ => cases h
  | .cons s r, X, g, l, O, h => by
    cases l with
    | nil => cases h
    | cons x xs =>
      simp only [chkSs, Bool.and_eq_true] at h
      exact ds_cons (okS s O h.1) (okSs r O h.2)
end
end
end DH
set_option Elab.async false
set_option linter.all false
set_option maxRecDepth 100000
set_option maxHeartbeats 2000000
/-! DH, part U: a program of the language, and how its defs keep their promise. -/
namespace DH
open PySem L2
open PySem.Spec PyProof.Rows

/-- a def: how many parameters, the names of its slots (parameters first), the slots that own their list, the body -/
inductive Kd where
  | fn
  | ini
  | mth
  | cls (j : Nat)
  deriving DecidableEq
structure Df where
  kd : Kd := .fn
  x : Str
  np : Nat
  N : List Str
  mu : List Nat
  body : Sms
def Fl.fin : Fl → Res D
  | .nx _ => .ok .none
  | .rt d => .ok d
  | .exc x _ => .exc x
  | .stuck => .stuck
def Df.env (df : Df) (ds : List D) : Env := ds.map some ++ List.replicate (df.N.length - ds.length) none
/-- .. of __init__, self unknown -/
def Df.envI (df : Df) (ds : List D) : Env := none :: (ds.map some ++ List.replicate (df.N.length - 1 - ds.length) none)
def call (G : Gd) (w : Nat) (P : List Df) : Nat → Nat → List D → Res D
  | 0, _, _ => .stuck
  | n + 1, f, ds => match P[f]? with
    | none => .stuck
    | some df => match df.kd with
      | .fn => if ds.length = df.np then (runs (call G w P n) G w df.body (df.env ds)).fin else .stuck
      | .mth => if ds.length = df.np ∧ isOb (ds.headD .none) = true then (runs (call G w P n) G w df.body (df.env ds)).fin else .stuck
      | .ini => if ds.length + 1 = df.np then (runs (call G w P n) G w df.body (df.envI ds)).fin else .stuck
      | .cls j => if ds.length = df.np then mkC (call G w P n j) ds else .stuck

/-- what all defs share -/
structure Tx where
  us : List Nat
  cs : List Str
  dn : List Str
  bl : List Str
  xs : List Str
def mthsAt (us : List Nat) : Nat → List Df → List (Str × Nat)
  | _, [] => []
  | i, d :: r => ((if us.contains i && d.kd == .mth then d.x else ""), d.np) :: mthsAt us (i + 1) r
def mthsOf (T : Tx) (P : List Df) : List (Str × Nat) := mthsAt T.us 0 P
theorem mthsAt_get {us : List Nat} {x : Str} {m : Nat} : ∀ {P : List Df} {k f : Nat}, (mthsAt us k P)[f]? = some (x, m) → x ≠ "" → ∃ df, P[f]? = some df ∧ us.contains (k + f) = true ∧ df.x = x ∧ df.np = m ∧ df.kd = .mth
  | [], k, f, h, _ => by simp [mthsAt] at h
  | d :: r, k, 0, h, ne => by
    simp only [mthsAt, List.getElem?_cons_zero, Option.some.injEq, Prod.mk.injEq] at h
    by_cases q : (us.contains k && d.kd == .mth) = true
    · rw [if_pos q] at h
      rw [Bool.and_eq_true] at q
      exact ⟨d, rfl, q.1, h.1, h.2, eq_of_beq q.2⟩
    · rw [if_neg q] at h
      exact absurd h.1.symm ne
  | d :: r, k, f + 1, h, ne => by
    simp only [mthsAt, List.getElem?_cons_succ] at h
    obtain ⟨df, h1, h2, h3⟩ := mthsAt_get h ne
    exact ⟨df, by simpa using h1, by rw [show k + (f + 1) = k + 1 + f from by omega]; exact h2, h3⟩
def fnsAt (us : List Nat) : Nat → List Df → List (Str × Nat)
  | _, [] => []
  | i, d :: r => ((if us.contains i && !(d.kd == .ini || d.kd == .mth) then d.x else ""), d.np) :: fnsAt us (i + 1) r
def fnsOf (T : Tx) (P : List Df) : List (Str × Nat) := fnsAt T.us 0 P
theorem fnsAt_get {us : List Nat} {x : Str} {m : Nat} : ∀ {P : List Df} {k f : Nat}, (fnsAt us k P)[f]? = some (x, m) → x ≠ "" → ∃ df, P[f]? = some df ∧ us.contains (k + f) = true ∧ df.x = x ∧ df.np = m ∧ df.kd ≠ .ini ∧ df.kd ≠ .mth
  | [], k, f, h, _ => by simp [fnsAt] at h
  | d :: r, k, 0, h, ne => by
    simp only [fnsAt, List.getElem?_cons_zero, Option.some.injEq, Prod.mk.injEq] at h
    by_cases q : (us.contains k && !(d.kd == .ini || d.kd == .mth)) = true
    · rw [if_pos q] at h
      rw [Bool.and_eq_true] at q
      exact ⟨d, rfl, q.1, h.1, h.2, fun e => (by rw [e] at q; exact absurd q.2 (by decide)), fun e => (by rw [e] at q; exact absurd q.2 (by decide))⟩
    · rw [if_neg q] at h
      exact absurd h.1.symm ne
  | d :: r, k, f + 1, h, ne => by
    simp only [fnsAt, List.getElem?_cons_succ] at h
    obtain ⟨df, h1, h2, h3⟩ := fnsAt_get h ne
    exact ⟨df, by simpa using h1, by rw [show k + (f + 1) = k + 1 + f from by omega]; exact h2, h3⟩
def sxOf (T : Tx) (P : List Df) (df : Df) : Sx := { N := df.N, mu := df.mu, fns := fnsOf T P, cs := T.cs, dn := T.dn, bl := T.bl, xs := T.xs, mths := mthsOf T P }
def kindFn (sc : Scope) : Bool := match sc.kind with
  | .function => true
  | _ => false
def chkDf (T : Tx) (P : List Df) (df : Df) (st : Stmt) : Bool :=
  kindFn (defScope st) && !(defScope st).isCoroutine && !(defScope st).isGenerator && decide (df.N.Nodup) && decide (df.np ≤ df.N.length) && (df.N.take df.np).all (fun x => locB (defScope st) x) &&
    (defScope st).names.all (fun y => match y.2 with | .free => false | _ => true) && df.mu.all (fun i => decide (df.np ≤ i)) && chkSs (sxOf T P df) (defScope st) df.body (defBody st)

/-- the text of __init__ -/
def iniT : List Stmt → Bool
  | [.Assign [.Attribute (.Name s1 _) f1 _] (.Name y1 _) _, .Assign [.Attribute (.Name s2 _) f2 _] (.List [.Name y2 _] _) _, .Assign [.Attribute (.Name s3 _) f3 _] (.Constant (.int z) _ _) _] =>
    s1 == ("self" : Str) && s2 == ("self" : Str) && s3 == ("self" : Str) && f1 == ("cube" : Str) && f2 == ("steps" : Str) && f3 == ("kept" : Str) && y1 == ("cube" : Str) && y2 == ("corner" : Str) && z == 0
  | _ => false
def chkIni (T : Tx) (P : List Df) (df : Df) (st : Stmt) : Bool :=
  kindFn (defScope st) && !(defScope st).isCoroutine && !(defScope st).isGenerator && decide (df.N = [("self" : Str), ("cube" : Str), ("corner" : Str)]) && decide (df.np = 3) && df.N.all (fun x => locL (defScope st) x) &&
    (defScope st).names.all (fun y => match y.2 with | .free => false | _ => true) && df.mu.isEmpty && (match df.body, defBody st with
      | .cons (.expr e1) (.cons (.expr e2) .nil), .Expr a1 _ :: .Expr a2 _ :: r => chkE (sxOf T P df) (defScope st) e1 a1 && lcOf0 a1 && chkE (sxOf T P df) (defScope st) e2 a2 && lcOf0 a2 && iniT r
      | _, _ => false)
/-- what the top has written -/
structure Top (K : PySem.W.Frag) (mg : Str → Option Value) (G : Gd) (C : Nat → Option Value) (T : Tx) : Prop where
  xok : XOk K mg C T.xs
  cs : ∀ (i : Nat) (x : Str), T.cs[i]? = some x → x ≠ "" → ∃ v u d, G.cs[i]? = some d ∧ mg x = some u ∧ RelV v u ∧ Dq K (fun _ => none) v d
  dn : ∀ (i : Nat) (x : Str), T.dn[i]? = some x → x ≠ "" → ∃ A t, G.ds[i]? = some t ∧ mg x = some (.ref A) ∧ IntDict K A t
  bl : ∀ x ∈ T.bl, mg x = none
  pe : ∀ (P : Program) (w : World) (base : Heap) (v : Value), C 15 = some v → PErr P w K mg base v
  wk : ∀ A, WkC K A → Cls K A ∧ ∀ i, NoAttr K A (fldN i)
/-- a def of the text -/
structure DfTxt (K : PySem.W.Frag) (mg : Str → Option Value) (T : Tx) (P : List Df) (df : Df) : Prop where
  fn : df.kd = .fn → ∃ st f fd, mg df.x = some (.ref f) ∧ Fun K df.x df.x st f fd ∧ (∀ us : List Value, us.length = (df.N.take df.np).length → bindArgs fd ⟨us, []⟩ = pure ((df.N.take df.np).zip us)) ∧ chkDf T P df st = true
  cls : ∀ j, df.kd = .cls j → ∃ di st A f fd, P[j]? = some di ∧ di.kd = .ini ∧ di.np = df.np + 1 ∧ mg df.x = some (.ref A) ∧ WkC K A ∧ Mk K A f ∧ Fun K "__init__" di.x st f fd ∧ (∀ us : List Value, us.length = (di.N.take di.np).length → bindArgs fd ⟨us, []⟩ = pure ((di.N.take di.np).zip us)) ∧ chkIni T P di st = true
  mth : df.kd = .mth → ∃ A st f fd q, WkC K A ∧ Meth K A df.x f ∧ Fun K df.x q st f fd ∧ (∀ us : List Value, us.length = (df.N.take df.np).length → bindArgs fd ⟨us, []⟩ = pure ((df.N.take df.np).zip us)) ∧ chkDf T P df st = true
/-- the defs at a level -/
structure Lvl (prog : Program) (w : World) (K : PySem.W.Frag) (mg : Str → Option Value) (base : Heap) (G : Gd) (C : Nat → Option Value) (T : Tx) (P : List Df) (wf n : Nat) : Prop where
  fn : ∀ (f : Nat) (x : Str) (m : Nat), (fnsOf T P)[f]? = some (x, m) → x ≠ "" → DefOk prog w K mg base C n x m (call G wf P n f)
  mth : ∀ (f : Nat) (x : Str) (m : Nat), (mthsOf T P)[f]? = some (x, m) → x ≠ "" → (∃ A, WkC K A) ∧ MthOk prog w K mg base C n x m (call G wf P n f)

section
variable {prog : Program} {w : World} {K : PySem.W.Frag} {mg : Str → Option Value} {base : Heap} {G : Gd} {C : Nat → Option Value} {T : Tx} {P : List Df} {wf : Nat}
theorem fin_ok {g : Gh} {r : Fl} {F : Hp} {Q : VK} {E : XK} (hw : ∀ cls d σ H, E cls d H → g.W cls d σ H) (h : match r.fin with
    | .ok d => ∀ v H' F', Ext g.F0 g.H0 F' H' → Dq K F' v d → Q v H'
    | .exc x => ∀ H' F', Ext g.F0 g.H0 F' H' → ∀ cls dd, XR K g.C x cls dd H' → E cls dd H'
    | .stuck => False) : DoneS K g F r { nx := fun _ H' => Q .non H', rt := Q } := by
  cases r with
  | nx env => exact fun σ' H' F' _ rel => h .non H' F' rel.ext .non
  | rt d => exact h
  | exc x env => exact fun σ' H' F' rel cls dd xr => hw _ _ _ _ (h H' F' rel.ext cls dd xr)
  | stuck => exact h
theorem start_rel {df : Df} {F H : Hp} {vs : List V} {ds : List D} (sm : Same F H) (dq : DqAll K F vs ds) (hl : ds.length = df.np) (hm : ∀ i, i < df.np → df.mu.contains i = false) : Rel K (fun i => df.mu.contains i) F H F (df.env ds) (start df.N vs) H := by
  have len := dq.length
  have at_ : ∀ i d, (df.env ds)[i]? = some (some d) → i < df.np ∧ ds[i]? = some d := fun i d e => by
    unfold Df.env at e
    by_cases hi : i < ds.length
    · rw [List.getElem?_append_left (by simpa using hi), List.getElem?_map] at e
      obtain ⟨z, h1, h2⟩ := map_some e
      cases h2
      exact ⟨hl ▸ hi, h1⟩
    · rw [List.getElem?_append_right (by simpa using hi)] at e
      have := List.mem_of_getElem? e
      rw [List.mem_replicate] at this
      cases this.2
  refine ⟨.refl sm, by simp [Df.env, L2.start, len], fun i d e => ?_, fun i j a di dj mi _ ei _ _ _ => ?_⟩
  · obtain ⟨hi, h1⟩ := at_ i d e
    obtain ⟨v, h2, h3⟩ := dq.get h1
    refine ⟨v, ?_, ?_⟩
    · unfold L2.start
      have hv : i < vs.length := (List.getElem?_eq_some_iff.mp h2).1
      rw [List.getElem?_append_left (by simpa using hv), List.getElem?_map, h2]
      rfl
    · rw [if_neg (by rw [hm i hi]; exact Bool.false_ne_true)]
      exact h3
  · obtain ⟨hi, _⟩ := at_ i _ ei
    rw [hm i hi] at mi
    cases mi
theorem df_fn (Tp : Top K mg G C T) {n : Nat} {df : Df} {st : Stmt} {f : Addr} {fd : FuncData} {q : Str} (hF : Fun K df.x q st f fd) (hc : chkDf T P df st = true) (ih : Lvl prog w K mg base G C T P wf n) :
    FnOk prog w K mg base (L2.CX prog w) (n + 1 + 2) f fd (df.N.take df.np) (spF K C df.np fun ds => if ds.length = df.np then (runs (call G wf P n) G wf df.body (df.env ds)).fin else .stuck) := by
  unfold chkDf at hc
  simp only [Bool.and_eq_true, decide_eq_true_eq, Bool.not_eq_true', List.all_eq_true] at hc
  obtain ⟨⟨⟨⟨⟨⟨⟨⟨c1, c2⟩, c3⟩, c4⟩, c5⟩, c6⟩, c7⟩, c8⟩, c9⟩ := hc
  have tl : (df.N.take df.np).length = df.np := by rw [List.length_take]; omega
  have k1 : (defScope st).kind = .function := by
    unfold kindFn at c1
    split at c1
    · assumption
    · cases c1
  have sc : FnScope df.N (df.N.take df.np) (defScope st) := by
    refine ⟨k1, c2, c3, c4, by rw [tl], fun x hx => ?_, fun y hy => ?_⟩
    · have := c6 x hx
      unfold locB at this
      split at this
      · exact .inl (by assumption)
      · exact .inr (by assumption)
      · cases this
    · have := c7 y hy
      intro z
      rw [z] at this
      cases this
  have hm : ∀ i, i < df.np → df.mu.contains i = false := fun i hi => by
    cases q : df.mu.contains i with
    | false => rfl
    | true =>
      have := c8 i (by simpa using q)
      omega
  refine hF.okX sc (fun vs H Q E h => ?_) (fun cdv A outer s H vs Q E hr h => ?_)
  · obtain ⟨F, ds, _, h2, h3, _⟩ := h
    rw [tl, h3.length, h2]
  · obtain ⟨F, ds, h1, h2, h3, h4⟩ := h
    let X : Cx := cxOf (L2.CX prog w) prog w K mg base df.N q (defScope st) f cdv A outer s H E
    let g : Gh := { M := fun i => df.mu.contains i, F0 := F, H0 := H, W := fun cls d _ H' => E cls d H', C := C }
    have tk : Takes X g.W := takes_of (X := X) rfl rfl rfl rfl
    have O : GoodS (sxOf T P df) G (call G wf P n) n X g (defScope st) :=
      { o := { N := rfl, nd := c4, sc := rfl, calm := rfl, M := rfl, room := hr, tk := tk, fn := ih.fn, cs := Tp.cs, dn := Tp.dn, bl := Tp.bl, pe := fun v h => Tp.pe prog w base v h, wk := Tp.wk, mth := ih.mth }
        kind := k1, fa := fun _ => rfl, ps := passes_of (X := X) rfl, xok := Tp.xok, st := rfl, fr := rfl }
    refine ⟨tS K g (runs (call G wf P n) G wf df.body), okSs df.body O c9, F, df.env ds, start_rel h1 h3 h2 hm, ?_⟩
    simp only [if_pos h2] at h4
    exact fin_ok (g := g) (fun _ _ _ _ z => z) h4
theorem start_relI {df : Df} {F H : Hp} {v0 : V} {vs : List V} {ds : List D} (sm : Same F H) (dq : DqAll K F vs ds) (hl : ds.length + 1 = df.np) (hN : df.np ≤ df.N.length) (hm : ∀ i, i < df.np → df.mu.contains i = false) : Rel K (fun i => df.mu.contains i) F H F (df.envI ds) (start df.N (v0 :: vs)) H := by
  have len := dq.length
  have at_ : ∀ i d, (df.envI ds)[i]? = some (some d) → ∃ j, i = j + 1 ∧ i < df.np ∧ ds[j]? = some d := fun i d e => by
    unfold Df.envI at e
    cases i with
    | zero => simp at e
    | succ j =>
      rw [List.getElem?_cons_succ] at e
      by_cases hi : j < ds.length
      · rw [List.getElem?_append_left (by simpa using hi), List.getElem?_map] at e
        obtain ⟨z, h1, h2⟩ := map_some e
        cases h2
        exact ⟨j, rfl, by omega, h1⟩
      · rw [List.getElem?_append_right (by simpa using hi)] at e
        have := List.mem_of_getElem? e
        rw [List.mem_replicate] at this
        cases this.2
  refine ⟨.refl sm, by simp [Df.envI, L2.start, len]; omega, fun i d e => ?_, fun i j a di dj mi _ ei _ _ _ => ?_⟩
  · obtain ⟨j, rfl, hi, h1⟩ := at_ i d e
    obtain ⟨v, h2, h3⟩ := dq.get h1
    refine ⟨v, ?_, ?_⟩
    · unfold L2.start
      have hv : j < vs.length := (List.getElem?_eq_some_iff.mp h2).1
      rw [List.getElem?_append_left (by simpa using hv), List.getElem?_map, List.getElem?_cons_succ, h2]
      rfl
    · rw [if_neg (by rw [hm _ hi]; exact Bool.false_ne_true)]
      exact h3
  · obtain ⟨j, _, hi, _⟩ := at_ i _ ei
    rw [hm i hi] at mi
    cases mi
theorem putF3 {v1 v2 v3 : V} : putF "kept" v3 (putF "steps" v2 (putF "cube" v1 [])) = [(("cube" : Str), v1), (("steps" : Str), v2), (("kept" : Str), v3)] := by
  have h1 : ¬ (("cube" : Str) = ("steps" : Str)) := by decide +kernel
  have h2 : ¬ (("cube" : Str) = ("kept" : Str)) := by decide +kernel
  have h3 : ¬ (("steps" : Str) = ("kept" : Str)) := by decide +kernel
  simp only [putF, if_neg h1, if_neg h2, if_neg h3]
theorem iniT_inv {l : List Stmt} (h : iniT l = true) : ∃ a1 a2 a3 a4 b1 b2 b3 b4 b5 c1 c2 c3 c4 c5, l = [.Assign [.Attribute (.Name "self" a1) "cube" a2] (.Name "cube" a3) a4, .Assign [.Attribute (.Name "self" b1) "steps" b2] (.List [.Name "corner" b3] b4) b5, .Assign [.Attribute (.Name "self" c1) "kept" c2] (.Constant (.int 0) c3 c4) c5] := by
  unfold iniT at h
  split at h
  · simp only [Bool.and_eq_true] at h
    obtain ⟨⟨⟨⟨⟨⟨⟨⟨h1, h2⟩, h3⟩, h4⟩, h5⟩, h6⟩, h7⟩, h8⟩, h9⟩ := h
    have e1 := eq_of_beq h1
    have e2 := eq_of_beq h2
    have e3 := eq_of_beq h3
    have e4 := eq_of_beq h4
    have e5 := eq_of_beq h5
    have e6 := eq_of_beq h6
    have e7 := eq_of_beq h7
    have e8 := eq_of_beq h8
    have e9 := eq_of_beq h9
    subst e1 e2 e3 e4 e5 e6 e7 e8 e9
    exact ⟨_, _, _, _, _, _, _, _, _, _, _, _, _, _, rfl⟩
  · cases h
theorem locL_inv {sc : Scope} {x : Str} (h : locL sc x = true) : sc.names.lookup x = some .local := by
  unfold locL at h
  split at h
  · assumption
  · cases h
theorem sw_lc {a : Expr} (h : lcOf0 a = true) (l : Nat) (env : PySem.Env) : swapsWith a none l env = pure false := by
  unfold swapsWith
  cases a <;> first | rfl | (simp [lcOf0] at h; done)
theorem df_ini (Tp : Top K mg G C T) {n : Nat} {df : Df} {st : Stmt} {f : Addr} {fd : FuncData} (hF : Fun K "__init__" df.x st f fd) (hc : chkIni T P df st = true) (ih : Lvl prog w K mg base G C T P wf n) {np : Nat} (hnp : df.np = np + 1) :
    FnOk prog w K mg base (L2.CX prog w) (n + 1 + 2) f fd (df.N.take df.np) (spI K C np fun ds => if ds.length + 1 = df.np then (runs (call G wf P n) G wf df.body (df.envI ds)).fin else .stuck) := by
  unfold chkIni at hc
  simp only [Bool.and_eq_true, decide_eq_true_eq, Bool.not_eq_true', List.all_eq_true] at hc
  obtain ⟨⟨⟨⟨⟨⟨⟨⟨c1, c2⟩, c3⟩, c4⟩, c5⟩, c6⟩, c7⟩, c8⟩, c9⟩ := hc
  have tl : (df.N.take df.np).length = df.np := by rw [c4, c5]; rfl
  have k1 : (defScope st).kind = .function := by
    unfold kindFn at c1
    split at c1
    · assumption
    · cases c1
  have nd : df.N.Nodup := by rw [c4]; decide +kernel
  have hmu : df.mu = [] := by simpa using c8
  have sc : FnScope df.N (df.N.take df.np) (defScope st) := by
    refine ⟨k1, c2, c3, nd, by rw [tl], fun x hx => .inl (locL_inv (c6 x (List.mem_of_mem_take hx))), fun y hy => ?_⟩
    have := c7 y hy
    intro z
    rw [z] at this
    cases this
  split at c9
  · rename_i e1 e2 a1 p1 a2 p2 rest hbody htxt
    simp only [Bool.and_eq_true] at c9
    obtain ⟨⟨⟨⟨g1, g2⟩, g3⟩, g4⟩, g5⟩ := c9
    obtain ⟨t1, t2, t3, t4, u1, u2, u3, u4, u5, w1, w2, w3, w4, w5, rfl⟩ := iniT_inv g5
    refine hF.okX sc (fun vs H Q E h => ?_) (fun cdv A outer s H vs Q E hr h => ?_)
    · obtain ⟨a, A, dx, vs', F, ds, rfl, _, _, _, _, h2, h3, _⟩ := h
      rw [tl, List.length_cons, h3.length, h2, hnp]
    · obtain ⟨a, WA, dx, vs', F, ds, rfl, wk, ha, fa, h1, h2, h3, h4⟩ := h
      have hl : ds.length + 1 = df.np := by omega
      obtain ⟨cl, na⟩ := Tp.wk WA wk
      let X : Cx := cxOf (L2.CX prog w) prog w K mg base df.N df.x (defScope st) f cdv A outer s H E
      let g : Gh := { M := fun i => df.mu.contains i, F0 := F, H0 := H, W := fun cls d _ H' => E cls d H', C := C }
      have tk : Takes X g.W := takes_of (X := X) rfl rfl rfl rfl
      have O : GoodS (sxOf T P df) G (call G wf P n) n X g (defScope st) :=
        { o := { N := rfl, nd := nd, sc := rfl, calm := rfl, M := rfl, room := hr, tk := tk, fn := ih.fn, cs := Tp.cs, dn := Tp.dn, bl := Tp.bl, pe := fun v h => Tp.pe prog w base v h, wk := Tp.wk, mth := ih.mth }
          kind := k1, fa := fun _ => rfl, ps := passes_of (X := X) rfl, xok := Tp.xok, st := rfl, fr := rfl }
      have lS := locL_inv (c6 "self" (by rw [c4]; simp))
      have lC := locL_inv (c6 "cube" (by rw [c4]; simp))
      have lN := locL_inv (c6 "corner" (by rw [c4]; simp))
      have vS : ∀ {p : Pos}, PE X (.Name "self" p) (tVar 0) := fun {p} => pe_var (i := 0) (by show df.N[0]? = _; rw [c4]; rfl) (.inl lS) (by decide) (by decide)
      have vC : ∀ {p : Pos}, PE X (.Name "cube" p) (tVar 1) := fun {p} => pe_var (i := 1) (by show df.N[1]? = _; rw [c4]; rfl) (.inl lC) (by decide) (by decide)
      have vN : ∀ {p : Pos}, PE X (.Name "corner" p) (tVar 2) := fun {p} => pe_var (i := 2) (by show df.N[2]? = _; rw [c4]; rfl) (.inl lN) (by decide) (by decide)
      have S1 := ps_expr (pos := p1) (up (okE e1 O.o g1) (mle_R _)) (sw_lc g2 _ _)
      have S2 := ps_expr (pos := p2) (up (okE e2 O.o g3) (mle_R _)) (sw_lc g4 _ _)
      have S3 : PS X (.Assign [.Attribute (.Name "self" t1) "cube" t2] (.Name "cube" t3) t4) (sFld X.K (tVar 0) (tVar 1) "cube") := ps_fld vS vC (by unfold swapsWith; rfl)
      have S4 : PS X (.Assign [.Attribute (.Name "self" u1) "steps" u2] (.List [.Name "corner" u3] u4) u5) (sFld X.K (tVar 0) (tLst (tCons (tVar 2) tNil)) "steps") := ps_fld vS (pe_lst (pa_cons vN pa_nil rfl)) (by unfold swapsWith; rfl)
      have S5 : PS X (.Assign [.Attribute (.Name "self" w1) "kept" w2] (.Constant (.int 0) w3 w4) w5) (sFld X.K (tVar 0) (tC (.int 0)) "kept") := ps_fld vS pe_int (by unfold swapsWith; rfl)
      have rel : Rel K g.M F H F (df.envI ds) (start df.N (.ref a :: vs')) H := start_relI h1 h3 hl (by rw [c4, c5]; decide) (fun i _ => by show df.mu.contains i = false; rw [hmu]; rfl)
      have hM : ∀ x, g.M x = df.mu.contains x := fun _ => rfl
      have SS := pss_cons S1 (pss_cons S2 (pss_cons S3 (pss_cons S4 (pss_one S5))))
      rw [← htxt] at SS
      refine ⟨_, SS, F, df.envI ds, rel, ?_⟩
      simp only [if_pos hl, hbody] at h4
      have un : runs (call G wf P n) G wf (.cons (.expr e1) (.cons (.expr e2) .nil)) (df.envI ds) = ((ev (call G wf P n) G e1 (df.envI ds)).fl (df.envI ds) fun _ => .nx (df.envI ds)).then fun env => (((ev (call G wf P n) G e2 env).fl env fun _ => .nx env).then fun env => .nx env) := rfl
      rw [un] at h4
      cases q1 : ev (call G wf P n) G e1 (df.envI ds) with
      | stuck => rw [q1] at h4; exact h4.elim
      | exc y => rw [q1] at h4; exact fun H' F' x1 cls dd xr => h4 H' F' x1 cls dd xr
      | ok d1 =>
        rw [q1] at h4
        intro v H1 F1 x1 _
        refine ⟨F1, df.envI ds, rel.step x1, ?_⟩
        cases q2 : ev (call G wf P n) G e2 (df.envI ds) with
        | stuck => simp only [fl_ok, then_nx, q2, fl_stuck, then_stuck] at h4; exact h4.elim
        | exc y => simp only [fl_ok, then_nx, q2, fl_exc, then_exc] at h4; exact fun H' F' x2 cls dd xr => h4 H' F' (x1.trans x2) cls dd xr
        | ok d2 =>
          simp only [fl_ok, then_nx, q2] at h4
          obtain ⟨v1, v2, rfl, h4⟩ := h4
          intro v H2 F2 x2 _
          have xx := x1.trans x2
          have ha2 : H2 a = some (.ins WA dx []) := xx.hh _ _ ha
          have s0 : (start df.N [.ref a, v1, v2])[0]? = some (some (.ref a)) := by rw [c4]; rfl
          have s1 : (start df.N [.ref a, v1, v2])[1]? = some (some v1) := by rw [c4]; rfl
          have s2 : (start df.N [.ref a, v1, v2])[2]? = some (some v2) := by rw [c4]; rfl
          refine ⟨v1, s1, .ref a, s0, a, WA, dx, [], rfl, ha2, cl, na 0, by decide, ?_⟩
          refine ⟨v2, s2, (by rw [sizeLine_eq]; show 1 ≤ 16777216; decide), fun p np => ?_⟩
          have pa : p ≠ a := fun z => by rw [z, upd_same] at np; cases np
          rw [upd_ne pa] at np
          refine ⟨.ref a, s0, a, WA, dx, _, rfl, by rw [upd_ne (Ne.symm pa), upd_same], cl, na 1, (by show 1 < 1000; decide), ?_⟩
          refine ⟨.ref a, s0, a, WA, dx, _, rfl, upd_same, cl, na 2, (by have e1 := length_putF "steps" (.ref p) (putF "cube" v1 []); have e2 : (putF "cube" v1 []).length = 1 := rfl; omega), ?_⟩
          have fin := h4 H2 F2 p xx np
          have e : upd (upd (upd (upd H2 a (.ins WA dx (putF "cube" v1 []))) p (.lst [v2])) a (.ins WA dx (putF "steps" (.ref p) (putF "cube" v1 [])))) a (.ins WA dx (putF "kept" (.int 0) (putF "steps" (.ref p) (putF "cube" v1 [])))) = upd (upd H2 p (.lst [v2])) a (.ins WA dx [("cube", v1), ("steps", .ref p), ("kept", .int 0)]) := by
            rw [putF3]
            funext b
            by_cases hb : b = a
            · rw [hb, upd_same, upd_same]
            · rw [upd_ne hb, upd_ne hb, upd_ne hb]
              by_cases hp : b = p
              · rw [hp, upd_same, upd_same]
              · rw [upd_ne hp, upd_ne hp, upd_ne hb]
          show Q .non _
          rw [e]
          exact fin
  · cases c9
theorem call_fn {n f : Nat} {df : Df} (h1 : P[f]? = some df) (hk : df.kd = .fn) : call G wf P (n + 1) f = fun ds => if ds.length = df.np then (runs (call G wf P n) G wf df.body (df.env ds)).fin else .stuck := by
  funext ds
  show (match P[f]? with | none => Res.stuck | some df => match df.kd with
      | .fn => if ds.length = df.np then (runs (call G wf P n) G wf df.body (df.env ds)).fin else .stuck
      | .mth => if ds.length = df.np ∧ isOb (ds.headD .none) = true then (runs (call G wf P n) G wf df.body (df.env ds)).fin else .stuck
      | .ini => if ds.length + 1 = df.np then (runs (call G wf P n) G wf df.body (df.envI ds)).fin else .stuck
      | .cls j => if ds.length = df.np then mkC (call G wf P n j) ds else .stuck) = _
  rw [h1]
  simp only [hk]
theorem call_ini {n f : Nat} {df : Df} (h1 : P[f]? = some df) (hk : df.kd = .ini) : call G wf P (n + 1) f = fun ds => if ds.length + 1 = df.np then (runs (call G wf P n) G wf df.body (df.envI ds)).fin else .stuck := by
  funext ds
  show (match P[f]? with | none => Res.stuck | some df => match df.kd with
      | .fn => if ds.length = df.np then (runs (call G wf P n) G wf df.body (df.env ds)).fin else .stuck
      | .mth => if ds.length = df.np ∧ isOb (ds.headD .none) = true then (runs (call G wf P n) G wf df.body (df.env ds)).fin else .stuck
      | .ini => if ds.length + 1 = df.np then (runs (call G wf P n) G wf df.body (df.envI ds)).fin else .stuck
      | .cls j => if ds.length = df.np then mkC (call G wf P n j) ds else .stuck) = _
  rw [h1]
  simp only [hk]
theorem call_mth {n f : Nat} {df : Df} (h1 : P[f]? = some df) (hk : df.kd = .mth) : call G wf P (n + 1) f = fun ds => if ds.length = df.np ∧ isOb (ds.headD .none) = true then (runs (call G wf P n) G wf df.body (df.env ds)).fin else .stuck := by
  funext ds
  show (match P[f]? with | none => Res.stuck | some df => match df.kd with
      | .fn => if ds.length = df.np then (runs (call G wf P n) G wf df.body (df.env ds)).fin else .stuck
      | .mth => if ds.length = df.np ∧ isOb (ds.headD .none) = true then (runs (call G wf P n) G wf df.body (df.env ds)).fin else .stuck
      | .ini => if ds.length + 1 = df.np then (runs (call G wf P n) G wf df.body (df.envI ds)).fin else .stuck
      | .cls j => if ds.length = df.np then mkC (call G wf P n j) ds else .stuck) = _
  rw [h1]
  simp only [hk]
theorem call_cls {n f j : Nat} {df : Df} (h1 : P[f]? = some df) (hk : df.kd = .cls j) : call G wf P (n + 1) f = fun ds => if ds.length = df.np then mkC (call G wf P n j) ds else .stuck := by
  funext ds
  show (match P[f]? with | none => Res.stuck | some df => match df.kd with
      | .fn => if ds.length = df.np then (runs (call G wf P n) G wf df.body (df.env ds)).fin else .stuck
      | .mth => if ds.length = df.np ∧ isOb (ds.headD .none) = true then (runs (call G wf P n) G wf df.body (df.env ds)).fin else .stuck
      | .ini => if ds.length + 1 = df.np then (runs (call G wf P n) G wf df.body (df.envI ds)).fin else .stuck
      | .cls j => if ds.length = df.np then mkC (call G wf P n j) ds else .stuck) = _
  rw [h1]
  simp only [hk]
/-- a promise is weakened -/
theorem FnOk.spI {k : Nat} {f : Addr} {fd : FuncData} {ps : List Str} {np : Nat} {c c' : List D → Res D} (h : FnOk prog w K mg base (L2.CX prog w) k f fd ps (DH.spI K C np c)) (hc : ∀ ds, ds.length = np → c' ds = c ds) : FnOk prog w K mg base (L2.CX prog w) k f fd ps (DH.spI K C np c') := by
  have wk : ∀ vs H Q E, DH.spI K C np c' vs H Q E → DH.spI K C np c vs H Q E := fun vs H Q E q => by
    obtain ⟨a, A, dx, vs', F, ds, e, w1, w2, w3, h1, h2, h3, h4⟩ := q
    refine ⟨a, A, dx, vs', F, ds, e, w1, w2, w3, h1, h2, h3, ?_⟩
    rw [← hc ds h2]
    exact h4
  exact ⟨fun vs H Q E q => h.len vs H Q E (wk vs H Q E q), fun A outer s H args us vs Q E a b c d q => h.run A outer s H args us vs Q E a b c d (wk vs H Q E q)⟩
theorem FnOk.spF {k : Nat} {f : Addr} {fd : FuncData} {ps : List Str} {np : Nat} {c c' : List D → Res D} (h : FnOk prog w K mg base (L2.CX prog w) k f fd ps (DH.spF K C np c)) (hc : ∀ ds, ds.length = np → c' ds = .stuck ∨ c' ds = c ds) : FnOk prog w K mg base (L2.CX prog w) k f fd ps (DH.spF K C np c') := by
  have wk : ∀ vs H Q E, DH.spF K C np c' vs H Q E → DH.spF K C np c vs H Q E := fun vs H Q E q => by
    obtain ⟨F, ds, h1, h2, h3, h4⟩ := q
    refine ⟨F, ds, h1, h2, h3, ?_⟩
    rcases hc ds h2 with e | e
    · rw [e] at h4; exact h4.elim
    · rw [← e]; exact h4
  exact ⟨fun vs H Q E q => h.len vs H Q E (wk vs H Q E q), fun A outer s H args us vs Q E a b c d q => h.run A outer s H args us vs Q E a b c d (wk vs H Q E q)⟩
theorem stuck_fn {k : Nat} {f : Addr} {fd : FuncData} {ps : List Str} {np : Nat} {c : List D → Res D} (h : ∀ ds, c ds = .stuck) : FnOk prog w K mg base (L2.CX prog w) k f fd ps (DH.spF K C np c) := by
  refine ⟨fun vs H Q E q => ?_, fun A outer s H args us vs Q E _ _ _ _ q => ?_⟩
  · obtain ⟨_, _, _, _, _, z⟩ := q
    rw [h] at z
    exact z.elim
  · obtain ⟨_, _, _, _, _, z⟩ := q
    rw [h] at z
    exact z.elim
/-- THE RULE -/
theorem all_ok (Tp : Top K mg G C T) (hP : ∀ (f : Nat) (df : Df), P[f]? = some df → T.us.contains f = true → DfTxt K mg T P df) (n : Nat) : Lvl prog w K mg base G C T P wf n := by
  induction n using Nat.strongRecOn with
  | _ n ih =>
    refine ⟨fun f x m h ne => ?_, fun f x m h ne => ?_⟩
    · obtain ⟨df, h1, h2, rfl, rfl, h3, h3'⟩ := fnsAt_get h ne
      rw [Nat.zero_add] at h2
      have tx := hP f df h1 h2
      cases hk : df.kd with
      | ini => exact absurd hk h3
      | mth => exact absurd hk h3'
      | fn =>
        obtain ⟨st, fa, fd, hmg, hF, hb, hc⟩ := tx.fn hk
        have hc' := hc
        unfold chkDf at hc'
        simp only [Bool.and_eq_true, decide_eq_true_eq] at hc'
        have tl : (df.N.take df.np).length = df.np := by rw [List.length_take]; omega
        cases n with
        | zero => exact ⟨.inl ⟨fa, fd, _, tl, hmg, hF.kp, hb, stuck_fn fun _ => rfl⟩⟩
        | succ n =>
          rw [call_fn h1 hk]
          exact ⟨.inl ⟨fa, fd, df.N.take df.np, tl, hmg, hF.kp, hb, df_fn Tp hF hc (ih n (Nat.lt_succ_self n))⟩⟩
      | cls j =>
        obtain ⟨di, st, A, fa, fd, hj, hki, hnp, hmg, wk, hM, hF, hb, hc⟩ := tx.cls j hk
        have hc' := hc
        unfold chkIni at hc'
        simp only [Bool.and_eq_true, decide_eq_true_eq] at hc'
        have e3 : di.np = 3 := hc'.1.1.1.1.2
        have eN : di.N = [("self" : Str), ("cube" : Str), ("corner" : Str)] := hc'.1.1.1.1.1.2
        have tl : (di.N.take di.np).length = df.np + 1 := by rw [← hnp, eN, e3]; rfl
        cases n with
        | zero => exact ⟨.inr (.inr ⟨A, fa, hmg, hM, fun _ => rfl⟩)⟩
        | succ n =>
          rw [call_cls h1 hk]
          cases n with
          | zero =>
            refine ⟨.inr (.inr ⟨A, fa, hmg, hM, fun ds => ?_⟩)⟩
            show (if ds.length = df.np then mkC (call G wf P 0 j) ds else .stuck) = .stuck
            split <;> rfl
          | succ n =>
            refine ⟨.inr (.inl ⟨fun ds => if ds.length = df.np then call G wf P (n + 1) j ds else .stuck, ?_, A, fa, fd, di.N.take di.np, n + 1, rfl, tl, hmg, wk, hM, hb, ?_⟩)⟩
            · funext ds
              unfold mkC
              by_cases hl : ds.length = df.np
              · simp only [if_pos hl]
              · simp only [if_neg hl]
            · refine FnOk.spI (df_ini Tp hF hc (ih n (by omega)) hnp) fun ds hl => ?_
              rw [if_pos hl, call_ini hj hki]
    · obtain ⟨df, h1, h2, rfl, rfl, h3⟩ := mthsAt_get h ne
      rw [Nat.zero_add] at h2
      obtain ⟨A, st, fa, fd, q, wk, hM, hF, hb, hc⟩ := (hP f df h1 h2).mth h3
      refine ⟨⟨A, wk⟩, ?_⟩
      have hc' := hc
      unfold chkDf at hc'
      simp only [Bool.and_eq_true, decide_eq_true_eq] at hc'
      have tl : (df.N.take df.np).length = df.np := by rw [List.length_take]; omega
      cases n with
      | zero =>
        refine ⟨fun d ds _ => rfl, fun A' wk' => ?_⟩
        unfold WkC at wk wk'
        rw [wk] at wk'
        cases wk'
        exact ⟨fa, fd, _, tl, hM, hb, stuck_fn fun _ => rfl⟩
      | succ n =>
        rw [call_mth h1 h3]
        refine ⟨fun d ds ob => if_neg (fun z => by rw [show (d :: ds).headD PyData.none = d from rfl, ob] at z; exact Bool.false_ne_true z.2), fun A' wk' => ?_⟩
        unfold WkC at wk wk'
        rw [wk] at wk'
        cases wk'
        refine ⟨fa, fd, df.N.take df.np, tl, hM, hb, FnOk.spF (df_fn Tp hF hc (ih n (Nat.lt_succ_self n))) fun ds hl => ?_⟩
        by_cases ob : isOb (ds.headD .none) = true
        · right; rw [if_pos ⟨hl, ob⟩, if_pos hl]
        · left; exact if_neg fun z => ob z.2
end
end DH
set_option Elab.async false
set_option linter.all false
set_option maxRecDepth 100000
set_option maxHeartbeats 2000000
/-! DH: the defs of all laws as texts of the language (printed by gen.py) -/
namespace DH
open PySem
abbrev f_wall : Nat := 0
abbrev f_in_range : Nat := 1
abbrev f_has_bit : Nat := 2
abbrev f_other_end : Nat := 3
abbrev f_differing : Nat := 4
abbrev f_common : Nat := 5
abbrev f_dimension_count : Nat := 6
abbrev f_is_cube : Nat := 7
abbrev f_check_cube : Nat := 8
abbrev f_check_corner : Nat := 9
abbrev f_corners_of : Nat := 10
abbrev f_is_face : Nat := 11
abbrev f_check_face : Nat := 12
abbrev f_faces : Nat := 13
abbrev f_lowest_of : Nat := 14
abbrev f_lowest_corners : Nat := 15
abbrev f_agreeing_pair : Nat := 16
abbrev f_check_downhill : Nat := 17
abbrev f_packed : Nat := 18
abbrev f_spread : Nat := 19
abbrev f_inherited : Nat := 20
abbrev f_is_downhill : Nat := 21
abbrev f_corner_with : Nat := 22
abbrev f_format_cube : Nat := 23
abbrev f_below : Nat := 24
abbrev f_height_table : Nat := 25
abbrev f_heights : Nat := 26
abbrev f_turn_all : Nat := 27
abbrev f_check_edge : Nat := 28
abbrev f_tied : Nat := 29
abbrev f_group_of : Nat := 30
abbrev f_group : Nat := 31
abbrev f_law_cell : Nat := 32
abbrev f_law_whole : Nat := 33
abbrev f_law_row : Nat := 34
abbrev f_law_in : Nat := 35
abbrev f_law_bits : Nat := 36
abbrev f_law_end : Nat := 37
abbrev f_law_flip : Nat := 38
abbrev f_law_size : Nat := 39
abbrev f_law_drawn : Nat := 40
abbrev f_law_is_cube : Nat := 41
abbrev f_law_cube_error : Nat := 42
abbrev f_law_k01 : Nat := 43
abbrev f_law_apart : Nat := 44
abbrev f_law_faces : Nat := 45
abbrev f_law_lowest : Nat := 46
abbrev f_law_faced : Nat := 47
abbrev f_law_k02 : Nat := 48
abbrev f_paper : Nat := 49
abbrev f_is_paper : Nat := 50
abbrev f_bad_face : Nat := 51
abbrev f_law_fine : Nat := 52
abbrev f_law_downhill : Nat := 53
abbrev f_law_turned : Nat := 54
abbrev f_law_exchanged : Nat := 55
abbrev f_law_spun : Nat := 56
abbrev f_law_decided : Nat := 57
abbrev f_law_any : Nat := 58
abbrev f_law_k03 : Nat := 59
abbrev f_law_k04 : Nat := 60
abbrev f_next_down : Nat := 61
abbrev f_way_down : Nat := 62
abbrev f_law_found : Nat := 63
abbrev f_law_k05 : Nat := 64
abbrev f_law_k06 : Nat := 65
abbrev f_turned : Nat := 66
abbrev f_can_turn : Nat := 67
abbrev f_turn : Nat := 68
abbrev f_turn_group : Nat := 69
abbrev f_law_turning : Nat := 70
abbrev f_law_with_turned : Nat := 71
abbrev f_law_k07 : Nat := 72
abbrev f_law_k08 : Nat := 73
abbrev f_check_part : Nat := 74
abbrev f_face_cube : Nat := 75
abbrev f_check_two : Nat := 76
abbrev f_stacked : Nat := 77
abbrev f_doubled : Nat := 78
abbrev f_law_pack : Nat := 79
abbrev f_law_spread : Nat := 80
abbrev f_law_built : Nat := 81
abbrev f_law_k09 : Nat := 82
abbrev f_law_k10 : Nat := 83
abbrev f_closed_way : Nat := 84
abbrev f_is_closed_way : Nat := 85
abbrev f_law_ranked : Nat := 86
abbrev f_law_heights : Nat := 87
abbrev f_law_is_way : Nat := 88
abbrev f_law_k11 : Nat := 89
abbrev f_partial : Nat := 90
abbrev f_every_cube : Nat := 91
abbrev f_check_dimensions : Nat := 92
abbrev f_all_cubes : Nat := 93
abbrev f_law_listed : Nat := 94
abbrev f_law_k12 : Nat := 95
abbrev f_neighbors_of : Nat := 96
abbrev f_road : Nat := 97
abbrev f_law_road : Nat := 98
abbrev f_law_next : Nat := 99
abbrev f_law_k13 : Nat := 100
abbrev f_check_answers : Nat := 101
abbrev f_candidates : Nat := 102
abbrev f_best_corner : Nat := 103
abbrev f_depth : Nat := 104
abbrev f_questions_needed : Nat := 105
abbrev f_law_hidden : Nat := 106
abbrev f_law_depth : Nat := 107
abbrev f_law_k14 : Nat := 108
abbrev f_parse_cube : Nat := 109
abbrev f_law_parse : Nat := 110
abbrev f_law_k15 : Nat := 111
abbrev f_law_walked : Nat := 112
abbrev f_law_k16 : Nat := 113
abbrev f_law_k17 : Nat := 114
abbrev f_outer_sets : Nat := 115
abbrev f_can_replace : Nat := 116
abbrev f_replace_face : Nat := 117
abbrev f_law_raise : Nat := 118
abbrev f_law_raise_more : Nat := 119
abbrev f_law_k18 : Nat := 120
abbrev f_combed : Nat := 121
abbrev f_law_k19 : Nat := 122
abbrev f_law_replaced : Nat := 123
abbrev f_law_k20 : Nat := 124
abbrev f_least_walk : Nat := 125
abbrev f_law_least : Nat := 126
abbrev f_law_k21 : Nat := 127
abbrev f_Walker : Nat := 128
abbrev f_Walker__init__ : Nat := 129
abbrev f_Walker_corner : Nat := 130
abbrev f_Walker_options : Nat := 131
abbrev f_Walker_move : Nat := 132
abbrev f_Walker_undo : Nat := 133
def b_wall_1 : Sms := (.cons .pass .nil)
def d_wall : Df := { x := "_wall", np := 1, N := ["k"], mu := [], body := (.cons (.whil (.cst (.bool true)) b_wall_1) .nil) }
def d_in_range : Df := { x := "in_range", np := 3, N := ["value", "low", "high"], mu := [], body := (.cons (.ret (.and (.op1 (.isi .int) (.var 0)) (.and (.not (.op1 (.isi .bool) (.var 0))) (.chain .le .le (.var 1) (.var 0) (.var 2))))) .nil) }
def d_has_bit : Df := { x := "has_bit", np := 2, N := ["number", "dimension"], mu := [], body := (.cons (.ret (.op2 .eq (.op2 .mod (.op2 .fdiv (.var 0) (.op2 .idx (.glb 0) (.var 1))) (.cst (.int 2))) (.cst (.int 1)))) .nil) }
def d_other_end : Df := { x := "other_end", np := 2, N := ["corner", "dimension", "step"], mu := [], body := (.cons (.asg 2 (.op2 .idx (.glb 0) (.var 1))) (.cons (.ret (.ite (.call f_has_bit (.cons (.var 0) (.cons (.var 1) .nil))) (.op2 .sub (.var 0) (.var 2)) (.op2 .add (.var 0) (.var 2)))) .nil)) }
def d_differing : Df := { x := "differing", np := 2, N := ["one", "other", "dimension"], mu := [], body := (.cons (.ret (.op1 .sum (.comp (.op2 .idx (.glb 0) (.var 2)) (.one 2) (.rng (.cst (.int 4))) (.cons (.op2 .ne (.call f_has_bit (.cons (.var 0) (.cons (.var 2) .nil))) (.call f_has_bit (.cons (.var 1) (.cons (.var 2) .nil)))) .nil) [("dimension", 2)]))) .nil) }
def d_common : Df := { x := "common", np := 2, N := ["one", "other", "dimension"], mu := [], body := (.cons (.ret (.op1 .sum (.comp (.op2 .idx (.glb 0) (.var 2)) (.one 2) (.rng (.cst (.int 4))) (.cons (.and (.call f_has_bit (.cons (.var 0) (.cons (.var 2) .nil))) (.call f_has_bit (.cons (.var 1) (.cons (.var 2) .nil)))) .nil) [("dimension", 2)]))) .nil) }
def d_dimension_count : Df := { x := "dimension_count", np := 1, N := ["cube"], mu := [], body := (.cons (.ret (.op1 (.dget 0) (.op1 .len (.var 0)))) .nil) }
def b_is_cube_2 : Sms := (.cons (.ife (.op2 .eq (.call f_has_bit (.cons (.var 2) (.cons (.var 3) .nil))) (.call f_has_bit (.cons (.op2 .idx (.var 0) (.call f_other_end (.cons (.var 1) (.cons (.var 3) .nil)))) (.cons (.var 3) .nil)))) (.cons (.ret (.cst (.bool false))) .nil) .nil) .nil)
def b_is_cube_1 : Sms := (.cons (.forr (.one 3) (.rng (.op1 (.dget 0) (.op1 .len (.var 0)))) b_is_cube_2) .nil)
def d_is_cube : Df := { x := "is_cube", np := 1, N := ["value", "corner", "one", "dimension"], mu := [], body := (.cons (.ife (.or (.not (.op1 (.isi .tuple) (.var 0))) (.op1 (.dnotin 0) (.op1 .len (.var 0)))) (.cons (.ret (.cst (.bool false))) .nil) .nil) (.cons (.ife (.comp (.var 2) (.one 2) (.seq (.var 0)) (.cons (.not (.call f_in_range (.cons (.var 2) (.cons (.cst (.int 0)) (.cons (.op2 .sub (.op1 .len (.var 0)) (.cst (.int 1))) .nil))))) .nil) [("one", 2)]) (.cons (.ret (.cst (.bool false))) .nil) .nil) (.cons (.forr (.two 1 2) (.enum (.var 0)) b_is_cube_1) (.cons (.ret (.cst (.bool true))) .nil)))) }
def d_check_cube : Df := { x := "check_cube", np := 1, N := ["cube"], mu := [], body := (.cons (.ife (.not (.call f_is_cube (.cons (.var 0) .nil))) (.cons (.rais 1) .nil) .nil) .nil) }
def d_check_corner : Df := { x := "check_corner", np := 2, N := ["cube", "corner"], mu := [], body := (.cons (.ife (.not (.call f_in_range (.cons (.var 1) (.cons (.cst (.int 0)) (.cons (.op2 .sub (.op1 .len (.var 0)) (.cst (.int 1))) .nil))))) (.cons (.rais 3) .nil) .nil) .nil) }
def b_corners_of_1 : Sms := (.cons (.ife (.call f_has_bit (.cons (.op2 .idx (.var 0) (.cst (.int 1))) (.cons (.var 2) .nil))) (.cons (.asg 1 (.op2 .add (.var 1) (.comp (.call f_other_end (.cons (.var 3) (.cons (.var 2) .nil))) (.one 3) (.seq (.var 1)) .nil [("corner", 3)]))) .nil) .nil) .nil)
def d_corners_of : Df := { x := "corners_of", np := 1, N := ["face", "result", "dimension", "corner"], mu := [], body := (.cons (.asg 1 (.lst (.cons (.op2 .idx (.var 0) (.cst (.int 0))) .nil))) (.cons (.forr (.one 2) (.rng (.cst (.int 4))) b_corners_of_1) (.cons (.ret (.op1 .sorted (.var 1))) .nil))) }
def d_is_face : Df := { x := "is_face", np := 2, N := ["cube", "value", "one"], mu := [], body := (.cons (.ife (.or (.not (.op1 (.isi .tuple) (.var 1))) (.op2 .ne (.op1 .len (.var 1)) (.cst (.int 2)))) (.cons (.ret (.cst (.bool false))) .nil) .nil) (.cons (.ife (.comp (.var 2) (.one 2) (.seq (.var 1)) (.cons (.not (.call f_in_range (.cons (.var 2) (.cons (.cst (.int 0)) (.cons (.op2 .sub (.op1 .len (.var 0)) (.cst (.int 1))) .nil))))) .nil) [("one", 2)]) (.cons (.ret (.cst (.bool false))) .nil) .nil) (.cons (.ret (.op2 .eq (.call f_common (.cons (.op2 .idx (.var 1) (.cst (.int 0))) (.cons (.op2 .idx (.var 1) (.cst (.int 1))) .nil))) (.cst (.int 0)))) .nil))) }
def d_check_face : Df := { x := "check_face", np := 2, N := ["cube", "face"], mu := [], body := (.cons (.expr (.call f_check_cube (.cons (.var 0) .nil))) (.cons (.ife (.not (.call f_is_face (.cons (.var 0) (.cons (.var 1) .nil)))) (.cons (.rais 2) .nil) .nil) .nil)) }
def b_faces_1 : Sms := (.cons (.ext 1 (.comp (.tup (.cons (.var 2) (.cons (.var 3) .nil))) (.one 3) (.rng (.op1 .len (.var 0))) (.cons (.op2 .eq (.call f_common (.cons (.var 2) (.cons (.var 3) .nil))) (.cst (.int 0))) .nil) [("some", 3)])) .nil)
def d_faces : Df := { x := "faces", np := 1, N := ["cube", "result", "corner", "some"], mu := [1], body := (.cons (.expr (.call f_check_cube (.cons (.var 0) .nil))) (.cons (.asg 1 (.lst .nil)) (.cons (.forr (.one 2) (.rng (.op1 .len (.var 0))) b_faces_1) (.cons (.ret (.var 1)) .nil)))) }
def d_lowest_of : Df := { x := "lowest_of", np := 2, N := ["cube", "face", "corner"], mu := [], body := (.cons (.ret (.comp (.var 2) (.one 2) (.seq (.call f_corners_of (.cons (.var 1) .nil))) (.cons (.op2 .eq (.call f_common (.cons (.op2 .idx (.var 0) (.var 2)) (.cons (.op2 .idx (.var 1) (.cst (.int 1))) .nil))) (.cst (.int 0))) .nil) [("corner", 2)])) .nil) }
def d_lowest_corners : Df := { x := "lowest_corners", np := 2, N := ["cube", "face"], mu := [], body := (.cons (.expr (.call f_check_face (.cons (.var 0) (.cons (.var 1) .nil)))) (.cons (.ret (.call f_lowest_of (.cons (.var 0) (.cons (.var 1) .nil)))) .nil)) }
def b_agreeing_pair_2 : Sms := (.cons (.ife (.op2 .eq (.call f_common (.cons (.call f_differing (.cons (.op2 .idx (.var 0) (.var 1)) (.cons (.op2 .idx (.var 0) (.var 2)) .nil))) (.cons (.call f_differing (.cons (.var 1) (.cons (.var 2) .nil))) .nil))) (.cst (.int 0))) (.cons (.ret (.tup (.cons (.var 1) (.cons (.var 2) .nil)))) .nil) .nil) .nil)
def b_agreeing_pair_1 : Sms := (.cons (.forr (.one 2) (.rng2 (.op2 .add (.var 1) (.cst (.int 1))) (.op1 .len (.var 0))) b_agreeing_pair_2) .nil)
def d_agreeing_pair : Df := { x := "agreeing_pair", np := 1, N := ["cube", "one", "other"], mu := [], body := (.cons (.forr (.one 1) (.rng (.op1 .len (.var 0))) b_agreeing_pair_1) (.cons (.ret (.cst .none)) .nil)) }
def d_check_downhill : Df := { x := "check_downhill", np := 1, N := ["cube"], mu := [], body := (.cons (.expr (.call f_check_cube (.cons (.var 0) .nil))) (.cons (.ife (.op1 .notN (.call f_agreeing_pair (.cons (.var 0) .nil))) (.cons (.rais 7) .nil) .nil) .nil)) }
def d_packed : Df := { x := "packed", np := 2, N := ["number", "dimensions", "place", "dimension"], mu := [], body := (.cons (.ret (.op1 .sum (.comp (.op2 .idx (.glb 0) (.var 2)) (.two 2 3) (.enum (.var 1)) (.cons (.op2 .ne (.call f_common (.cons (.var 0) (.cons (.op2 .idx (.glb 0) (.var 3)) .nil))) (.cst (.int 0))) .nil) [("place", 2), ("dimension", 3)]))) .nil) }
def d_spread : Df := { x := "spread", np := 2, N := ["number", "dimensions", "place", "dimension"], mu := [], body := (.cons (.ret (.op1 .sum (.comp (.op2 .idx (.glb 0) (.var 3)) (.two 2 3) (.enum (.var 1)) (.cons (.op2 .ne (.call f_common (.cons (.var 0) (.cons (.op2 .idx (.glb 0) (.var 2)) .nil))) (.cst (.int 0))) .nil) [("place", 2), ("dimension", 3)]))) .nil) }
def b_inherited_1 : Sms := (.cons (.asg 5 (.op2 .idx (.call f_lowest_of (.cons (.var 0) (.cons (.tup (.cons (.call f_spread (.cons (.var 4) (.cons (.var 2) .nil))) (.cons (.var 1) .nil))) .nil))) (.cst (.int 0)))) (.cons (.app 3 (.call f_packed (.cons (.op2 .idx (.var 0) (.var 5)) (.cons (.var 2) .nil)))) .nil))
def d_inherited : Df := { x := "inherited", np := 2, N := ["cube", "some", "others", "result", "place", "lowest", "dimension"], mu := [3], body := (.cons (.expr (.call f_check_downhill (.cons (.var 0) .nil))) (.cons (.ife (.not (.call f_in_range (.cons (.var 1) (.cons (.cst (.int 0)) (.cons (.op2 .sub (.op1 .len (.var 0)) (.cst (.int 2))) .nil))))) (.cons (.rais 4) .nil) .nil) (.cons (.asg 2 (.comp (.var 6) (.one 6) (.rng (.call f_dimension_count (.cons (.var 0) .nil))) (.cons (.op2 .eq (.call f_common (.cons (.var 1) (.cons (.op2 .idx (.glb 0) (.var 6)) .nil))) (.cst (.int 0))) .nil) [("dimension", 6)])) (.cons (.asg 3 (.lst .nil)) (.cons (.forr (.one 4) (.rng (.op2 .idx (.glb 1) (.op1 .len (.var 2)))) b_inherited_1) (.cons (.ret (.op1 .tuple (.var 3))) .nil)))))) }
def d_is_downhill : Df := { x := "is_downhill", np := 1, N := ["cube"], mu := [], body := (.cons (.expr (.call f_check_cube (.cons (.var 0) .nil))) (.cons (.ret (.op1 .isN (.call f_agreeing_pair (.cons (.var 0) .nil)))) .nil)) }
def d_corner_with : Df := { x := "corner_with", np := 2, N := ["cube", "some"], mu := [], body := (.cons (.expr (.call f_check_downhill (.cons (.var 0) .nil))) (.cons (.ife (.not (.call f_in_range (.cons (.var 1) (.cons (.cst (.int 0)) (.cons (.op2 .sub (.op1 .len (.var 0)) (.cst (.int 1))) .nil))))) (.cons (.rais 4) .nil) .nil) (.cons (.ret (.op2 .index (.var 0) (.var 1))) .nil))) }
def d_format_cube : Df := { x := "format_cube", np := 1, N := ["cube", "one"], mu := [], body := (.cons (.expr (.call f_check_cube (.cons (.var 0) .nil))) (.cons (.ret (.op1 .joinsp (.comp (.op1 .str (.var 1)) (.one 1) (.seq (.var 0)) .nil [("one", 1)]))) .nil)) }
def b_below_1 : Sms := (.cons (.ife (.call f_has_bit (.cons (.op2 .idx (.var 0) (.var 1)) (.cons (.var 3) .nil))) (.cons (.app 2 (.call f_other_end (.cons (.var 1) (.cons (.var 3) .nil)))) .nil) .nil) .nil)
def d_below : Df := { x := "below", np := 2, N := ["cube", "corner", "result", "dimension"], mu := [2], body := (.cons (.asg 2 (.lst .nil)) (.cons (.forr (.one 3) (.rng (.call f_dimension_count (.cons (.var 0) .nil))) b_below_1) (.cons (.ret (.op1 .sorted (.var 2))) .nil))) }
def b_height_table_2 : Sms := (.cons (.asg 4 (.comp (.op2 .idx (.var 1) (.var 5)) (.one 5) (.seq (.call f_below (.cons (.var 0) (.cons (.var 3) .nil)))) .nil [("other", 5)])) (.cons (.ife (.and (.op1 .isN (.op2 .idx (.var 1) (.var 3))) (.op2 .notin (.cst .none) (.var 4))) (.cons (.set 1 (.var 3) (.op2 .add (.cst (.int 1)) (.op1 .maxd (.var 4)))) (.cons (.asg 2 (.cst (.bool true))) .nil)) .nil) .nil))
def b_height_table_1 : Sms := (.cons (.asg 2 (.cst (.bool false))) (.cons (.forr (.one 3) (.rng (.op1 .len (.var 0))) b_height_table_2) .nil))
def d_height_table : Df := { x := "height_table", np := 1, N := ["cube", "result", "changed", "corner", "under", "other"], mu := [1], body := (.cons (.asg 1 (.op2 .mul (.lst (.cons (.cst .none) .nil)) (.op1 .len (.var 0)))) (.cons (.asg 2 (.cst (.bool true))) (.cons (.whil (.var 2) b_height_table_1) (.cons (.ret (.var 1)) .nil)))) }
def d_heights : Df := { x := "heights", np := 1, N := ["cube", "result"], mu := [], body := (.cons (.expr (.call f_check_cube (.cons (.var 0) .nil))) (.cons (.asg 1 (.call f_height_table (.cons (.var 0) .nil))) (.cons (.ife (.op2 .isin (.cst .none) (.var 1)) (.cons (.rais 10) .nil) .nil) (.cons (.ret (.op1 .tuple (.var 1))) .nil)))) }
def d_turn_all : Df := { x := "turn_all", np := 2, N := ["cube", "some", "one"], mu := [], body := (.cons (.expr (.call f_check_downhill (.cons (.var 0) .nil))) (.cons (.ife (.not (.call f_in_range (.cons (.var 1) (.cons (.cst (.int 0)) (.cons (.op2 .sub (.op1 .len (.var 0)) (.cst (.int 1))) .nil))))) (.cons (.rais 4) .nil) .nil) (.cons (.ret (.op1 .tuple (.comp (.call f_differing (.cons (.var 2) (.cons (.var 1) .nil))) (.one 2) (.seq (.var 0)) .nil [("one", 2)]))) .nil))) }
def d_check_edge : Df := { x := "check_edge", np := 3, N := ["cube", "corner", "dimension"], mu := [], body := (.cons (.expr (.call f_check_downhill (.cons (.var 0) .nil))) (.cons (.expr (.call f_check_corner (.cons (.var 0) (.cons (.var 1) .nil)))) (.cons (.ife (.not (.call f_in_range (.cons (.var 2) (.cons (.cst (.int 0)) (.cons (.op2 .sub (.call f_dimension_count (.cons (.var 0) .nil)) (.cst (.int 1))) .nil))))) (.cons (.rais 5) .nil) .nil) .nil))) }
def b_tied_2 : Sms := (.cons (.ife (.call f_has_bit (.cons (.call f_differing (.cons (.var 4) (.cons (.var 5) .nil))) (.cons (.var 3) .nil))) (.cons (.asg 6 (.comp (.var 8) (.one 8) (.rng (.call f_dimension_count (.cons (.var 0) .nil))) (.cons (.call f_has_bit (.cons (.call f_differing (.cons (.var 4) (.cons (.var 5) .nil))) (.cons (.var 8) .nil))) .nil) [("place", 8)])) (.cons (.asg 7 (.comp (.var 8) (.one 8) (.seq (.var 6)) (.cons (.call f_has_bit (.cons (.call f_differing (.cons (.op2 .idx (.var 0) (.var 4)) (.cons (.op2 .idx (.var 0) (.var 5)) .nil))) (.cons (.var 8) .nil))) .nil) [("place", 8)])) (.cons (.ife (.op2 .eq (.var 7) (.lst (.cons (.var 3) .nil))) (.cons (.ret (.cst (.bool true))) .nil) .nil) .nil))) .nil) .nil)
def b_tied_1 : Sms := (.cons (.forr (.one 5) (.seq (.tup (.cons (.var 2) (.cons (.call f_other_end (.cons (.var 2) (.cons (.var 3) .nil))) .nil)))) b_tied_2) .nil)
def d_tied : Df := { x := "tied", np := 4, N := ["cube", "one", "other", "dimension", "first", "second", "agree", "apart", "place"], mu := [], body := (.cons (.forr (.one 4) (.seq (.tup (.cons (.var 1) (.cons (.call f_other_end (.cons (.var 1) (.cons (.var 3) .nil))) .nil)))) b_tied_1) (.cons (.ret (.cst (.bool false))) .nil)) }
def b_group_of_1 : Sms := (.cons (.pop 7 6) (.cons (.asg 8 (.comp (.var 9) (.one 9) (.seq (.var 3)) (.cons (.and (.op2 .notin (.var 9) (.var 5)) (.call f_tied (.cons (.var 0) (.cons (.var 7) (.cons (.var 9) (.cons (.var 2) .nil)))))) .nil) [("other", 9)])) (.cons (.ext 5 (.var 8)) (.cons (.ext 6 (.var 8)) .nil))))
def d_group_of : Df := { x := "group_of", np := 3, N := ["cube", "corner", "dimension", "lower", "start", "found", "queue", "one", "more", "other"], mu := [5, 6], body := (.cons (.asg 3 (.comp (.var 7) (.one 7) (.rng (.op1 .len (.var 0))) (.cons (.not (.call f_has_bit (.cons (.var 7) (.cons (.var 2) .nil)))) .nil) [("one", 7)])) (.cons (.asg 4 (.ite (.not (.call f_has_bit (.cons (.var 1) (.cons (.var 2) .nil)))) (.var 1) (.call f_other_end (.cons (.var 1) (.cons (.var 2) .nil))))) (.cons (.asg 5 (.lst (.cons (.var 4) .nil))) (.cons (.asg 6 (.lst (.cons (.var 4) .nil))) (.cons (.whil (.var 6) b_group_of_1) (.cons (.ret (.op1 .tuple (.op1 .sorted (.var 5)))) .nil)))))) }
def d_group : Df := { x := "group", np := 3, N := ["cube", "corner", "dimension"], mu := [], body := (.cons (.expr (.call f_check_edge (.cons (.var 0) (.cons (.var 1) (.cons (.var 2) .nil))))) (.cons (.ret (.call f_group_of (.cons (.var 0) (.cons (.var 1) (.cons (.var 2) .nil))))) .nil)) }
def d_law_cell : Df := { x := "_law_cell", np := 2, N := ["script", "k"], mu := [], body := (.cons (.ife (.op2 .lt (.var 1) (.op1 .len (.var 0))) (.cons (.ret (.op2 .idx (.var 0) (.var 1))) .nil) .nil) (.cons (.ret (.cst (.int 0))) .nil)) }
def d_law_whole : Df := { x := "_law_whole", np := 1, N := ["found"], mu := [], body := (.cons (.ret (.and (.op1 (.isi .int) (.var 0)) (.not (.op1 (.isi .bool) (.var 0))))) .nil) }
def b_law_row_1 : Sms := (.cons (.ife (.op2 .lt (.call f_law_cell (.cons (.var 0) (.cons (.var 1) .nil))) (.op2 .pow (.cst (.int 10)) (.cst (.int 18)))) (.cons (.asg 2 (.op2 .mod (.op2 .add (.op2 .add (.op2 .add (.op2 .mul (.var 2) (.cst (.int 48271))) (.op2 .mul (.cst (.int 131)) (.var 4))) (.cst (.int 7))) (.call f_law_cell (.cons (.var 0) (.cons (.op2 .mod (.op2 .add (.op2 .add (.var 1) (.cst (.int 1))) (.var 4)) (.cst (.int 20))) .nil)))) (.cst (.int 2147483647)))) (.cons (.app 3 (.op2 .mod (.op2 .fdiv (.var 2) (.cst (.int 11))) (.cst (.int 1000)))) .nil)) (.cons (.app 3 (.op2 .mod (.var 2) (.cst (.int 1000)))) (.cons (.asg 2 (.op2 .fdiv (.var 2) (.cst (.int 1000)))) .nil))) .nil)
def d_law_row : Df := { x := "_law_row", np := 2, N := ["script", "at", "cell", "found", "time"], mu := [3], body := (.cons (.asg 2 (.call f_law_cell (.cons (.var 0) (.cons (.var 1) .nil)))) (.cons (.asg 3 (.lst .nil)) (.cons (.forr (.one 4) (.rng (.cst (.int 60))) b_law_row_1) (.cons (.ret (.var 3)) .nil)))) }
def d_law_in : Df := { x := "_law_in", np := 3, N := ["thing", "low", "high"], mu := [], body := (.cons (.ret (.and (.call f_law_whole (.cons (.var 0) .nil)) (.chain .le .le (.var 1) (.var 0) (.var 2)))) .nil) }
def d_law_bits : Df := { x := "_law_bits", np := 1, N := ["some", "place"], mu := [], body := (.cons (.ret (.comp (.var 1) (.one 1) (.rng (.cst (.int 4))) (.cons (.op2 .eq (.op2 .mod (.op2 .fdiv (.var 0) (.op2 .idx (.lst (.cons (.cst (.int 1)) (.cons (.cst (.int 2)) (.cons (.cst (.int 4)) (.cons (.cst (.int 8)) .nil))))) (.var 1))) (.cst (.int 2))) (.cst (.int 1))) .nil) [("place", 1)])) .nil) }
def d_law_end : Df := { x := "_law_end", np := 2, N := ["corner", "place", "bit"], mu := [], body := (.cons (.asg 2 (.op2 .idx (.lst (.cons (.cst (.int 1)) (.cons (.cst (.int 2)) (.cons (.cst (.int 4)) (.cons (.cst (.int 8)) .nil))))) (.var 1))) (.cons (.ret (.ite (.op2 .isin (.var 1) (.call f_law_bits (.cons (.var 0) .nil))) (.op2 .sub (.var 0) (.var 2)) (.op2 .add (.var 0) (.var 2)))) .nil)) }
def d_law_flip : Df := { x := "_law_flip", np := 2, N := ["some", "place"], mu := [], body := (.cons (.ret (.call f_law_end (.cons (.var 0) (.cons (.var 1) .nil)))) .nil) }
def d_law_size : Df := { x := "_law_size", np := 1, N := ["cube"], mu := [], body := (.cons (.ret (.op2 .add (.op2 .index (.lst (.cons (.cst (.int 2)) (.cons (.cst (.int 4)) (.cons (.cst (.int 8)) (.cons (.cst (.int 16)) .nil))))) (.op1 .len (.var 0))) (.cst (.int 1)))) .nil) }
def b_law_drawn_2 : Sms := (.cons (.ife (.op2 .notin (.var 7) (.call f_law_bits (.cons (.var 6) .nil))) (.cons (.asg 8 (.var 6)) (.cons (.ife (.op2 .eq (.op2 .mod (.op2 .idx (.var 3) (.op2 .mod (.op2 .add (.op2 .mul (.var 6) (.cst (.int 4))) (.var 7)) (.cst (.int 60)))) (.cst (.int 2))) (.cst (.int 1))) (.cons (.asg 8 (.call f_law_end (.cons (.var 6) (.cons (.var 7) .nil)))) .nil) .nil) (.cons (.set 5 (.var 8) (.op2 .add (.op2 .idx (.var 5) (.var 8)) (.op2 .idx (.lst (.cons (.cst (.int 1)) (.cons (.cst (.int 2)) (.cons (.cst (.int 4)) (.cons (.cst (.int 8)) .nil))))) (.var 7)))) .nil))) .nil) .nil)
def b_law_drawn_1 : Sms := (.cons (.forr (.one 7) (.rng (.var 2)) b_law_drawn_2) .nil)
def d_law_drawn : Df := { x := "_law_drawn", np := 3, N := ["script", "at", "size", "draws", "count", "sets", "corner", "place", "end"], mu := [5], body := (.cons (.asg 3 (.call f_law_row (.cons (.var 0) (.cons (.var 1) .nil)))) (.cons (.asg 4 (.op2 .idx (.lst (.cons (.cst (.int 2)) (.cons (.cst (.int 4)) (.cons (.cst (.int 8)) (.cons (.cst (.int 16)) .nil))))) (.op2 .sub (.var 2) (.cst (.int 1))))) (.cons (.asg 5 (.op2 .mul (.lst (.cons (.cst (.int 0)) .nil)) (.var 4))) (.cons (.forr (.one 6) (.rng (.var 4)) b_law_drawn_1) (.cons (.ret (.op1 .tuple (.var 5))) .nil))))) }
def b_law_is_cube_2 : Sms := (.cons (.asg 3 (.op2 .idx (.var 0) (.call f_law_end (.cons (.var 1) (.cons (.var 2) .nil))))) (.cons (.ife (.op2 .eq (.op2 .isin (.var 2) (.call f_law_bits (.cons (.op2 .idx (.var 0) (.var 1)) .nil))) (.op2 .isin (.var 2) (.call f_law_bits (.cons (.var 3) .nil)))) (.cons (.ret (.cst (.bool false))) .nil) .nil) .nil))
def b_law_is_cube_1 : Sms := (.cons (.forr (.one 2) (.rng (.call f_law_size (.cons (.var 0) .nil))) b_law_is_cube_2) .nil)
def d_law_is_cube : Df := { x := "_law_is_cube", np := 1, N := ["value", "corner", "place", "there", "one"], mu := [], body := (.cons (.ife (.or (.not (.op1 (.isi .tuple) (.var 0))) (.op2 .notin (.op1 .len (.var 0)) (.tup (.cons (.cst (.int 2)) (.cons (.cst (.int 4)) (.cons (.cst (.int 8)) (.cons (.cst (.int 16)) .nil))))))) (.cons (.ret (.cst (.bool false))) .nil) .nil) (.cons (.ife (.op2 .ne (.comp (.var 4) (.one 4) (.seq (.var 0)) (.cons (.not (.call f_law_in (.cons (.var 4) (.cons (.cst (.int 0)) (.cons (.op2 .sub (.op1 .len (.var 0)) (.cst (.int 1))) .nil))))) .nil) [("one", 4)]) (.lst .nil)) (.cons (.ret (.cst (.bool false))) .nil) .nil) (.cons (.forr (.one 1) (.rng (.op1 .len (.var 0))) b_law_is_cube_1) (.cons (.ret (.cst (.bool true))) .nil)))) }
def d_law_cube_error : Df := { x := "_law_cube_error", np := 2, N := ["mode", "cube", "e", "others"], mu := [], body := (.cons (.tri 2 (.cons (.ife (.op2 .eq (.var 0) (.cst (.int 0))) (.cons (.expr (.call f_faces (.cons (.var 1) .nil))) .nil) (.cons (.ife (.op2 .eq (.var 0) (.cst (.int 1))) (.cons (.expr (.call f_lowest_corners (.cons (.var 1) (.cons (.cst .none) .nil)))) .nil) (.cons (.ife (.op2 .eq (.var 0) (.cst (.int 2))) (.cons (.expr (.call f_is_downhill (.cons (.var 1) .nil))) .nil) (.cons (.ife (.op2 .eq (.var 0) (.cst (.int 3))) (.cons (.expr (.call f_corner_with (.cons (.var 1) (.cons (.cst .none) .nil)))) .nil) (.cons (.ife (.op2 .eq (.var 0) (.cst (.int 4))) (.cons (.expr (.call f_turn_all (.cons (.var 1) (.cons (.cst .none) .nil)))) .nil) (.cons (.ife (.op2 .eq (.var 0) (.cst (.int 5))) (.cons (.expr (.call f_group (.cons (.var 1) (.cons (.cst .none) (.cons (.cst .none) .nil))))) .nil) (.cons (.ife (.op2 .eq (.var 0) (.cst (.int 6))) (.cons (.expr (.call f_inherited (.cons (.var 1) (.cons (.cst .none) .nil)))) .nil) (.cons (.ife (.op2 .eq (.var 0) (.cst (.int 7))) (.cons (.expr (.call f_heights (.cons (.var 1) .nil))) .nil) (.cons (.ife (.op2 .eq (.var 0) (.cst (.int 8))) (.cons (.expr (.call f_format_cube (.cons (.var 1) .nil))) .nil) (.cons (.expr (.call f_Walker (.cons (.var 1) (.cons (.cst .none) .nil)))) .nil)) .nil)) .nil)) .nil)) .nil)) .nil)) .nil)) .nil)) .nil)) .nil) [{ c := 0, s := .oth 3 2 3 7 1 "cube" "other" }]) (.cons (.ret (.cst (.str "none"))) .nil)) }
def d_law_k01 : Df := { x := "law", np := 1, N := ["script", "draws", "cube", "due", "at", "end", "tries", "truths", "one", "mode"], mu := [6], body := (.cons (.asg 1 (.call f_law_row (.cons (.var 0) (.cons (.cst (.int 4)) .nil)))) (.cons (.asg 2 (.call f_law_drawn (.cons (.var 0) (.cons (.cst (.int 2)) (.cons (.op2 .add (.cst (.int 1)) (.op2 .mod (.op2 .idx (.var 1) (.cst (.int 0))) (.cst (.int 4)))) .nil))))) (.cons (.ife (.op2 .eq (.op2 .mod (.op2 .idx (.var 1) (.cst (.int 1))) (.cst (.int 2))) (.cst (.int 0))) (.cons (.asg 4 (.op2 .mod (.op2 .idx (.var 1) (.cst (.int 2))) (.op1 .len (.var 2)))) (.cons (.asg 5 (.op2 .frm (.var 2) (.op2 .add (.var 4) (.cst (.int 1))))) (.cons (.asg 6 (.lst (.cons (.cst .none) (.cons (.op1 .list (.var 2)) (.cons (.op2 .frm (.var 2) (.cst (.int 1))) (.cons (.op2 .add (.var 2) (.tup (.cons (.cst (.int 0)) .nil))) (.cons (.tup .nil) (.cons (.tup (.cons (.cst (.int 0)) .nil)) (.cons (.op2 .add (.op2 .add (.op2 .upto (.var 2) (.var 4)) (.tup (.cons (.op1 .len (.var 2)) .nil))) (.var 5)) .nil))))))))) (.cons (.asg 6 (.op2 .add (.var 6) (.lst (.cons (.op2 .add (.op2 .add (.op2 .upto (.var 2) (.var 4)) (.tup (.cons (.op1 .neg (.cst (.int 1))) .nil))) (.var 5)) (.cons (.op2 .add (.op2 .add (.op2 .upto (.var 2) (.var 4)) (.tup (.cons (.call f_law_flip (.cons (.op2 .idx (.var 2) (.var 4)) (.cons (.cst (.int 0)) .nil))) .nil))) (.var 5)) .nil))))) (.cons (.app 6 (.op2 .add (.op2 .add (.op2 .upto (.var 2) (.var 4)) (.tup (.cons (.cst .none) .nil))) (.var 5))) (.cons (.asg 7 (.op1 .tuple (.comp (.ite (.op2 .lt (.var 8) (.cst (.int 2))) (.op1 .bool (.var 8)) (.var 8)) (.one 8) (.seq (.var 2)) .nil [("one", 8)]))) (.cons (.asg 2 (.op2 .idx (.op2 .add (.var 6) (.lst (.cons (.var 7) (.cons (.op1 .rev (.var 2)) (.cons (.tup (.cons (.cst (.int 0)) (.cons (.cst (.int 0)) .nil))) (.cons (.tup (.cons (.cst (.int 1)) (.cons (.cst (.int 1)) .nil))) .nil)))))) (.op2 .mod (.op2 .idx (.var 1) (.cst (.int 3))) (.cst (.int 14))))) .nil))))))) .nil) (.cons (.asg 3 (.call f_law_is_cube (.cons (.var 2) .nil))) (.cons (.ife (.op2 .ne (.call f_is_cube (.cons (.var 2) .nil)) (.var 3)) (.cons (.ret (.cst (.bool false))) .nil) .nil) (.cons (.ret (.or (.var 3) (.op2 .eq (.comp (.call f_law_cube_error (.cons (.var 9) (.cons (.var 2) .nil))) (.one 9) (.rng (.cst (.int 10))) .nil [("mode", 9)]) (.op2 .mul (.lst (.cons (.cst (.str "cube")) .nil)) (.cst (.int 10)))))) .nil)))))) }
def d_law_apart : Df := { x := "_law_apart", np := 2, N := ["one", "other", "place"], mu := [], body := (.cons (.ret (.comp (.var 2) (.one 2) (.rng (.cst (.int 4))) (.cons (.op2 .ne (.op2 .isin (.var 2) (.call f_law_bits (.cons (.var 0) .nil))) (.op2 .isin (.var 2) (.call f_law_bits (.cons (.var 1) .nil)))) .nil) [("place", 2)])) .nil) }
def b_law_faces_2 : Sms := (.cons (.ife (.op2 .eq (.comp (.var 4) (.one 4) (.seq (.call f_law_bits (.cons (.var 3) .nil))) (.cons (.op2 .isin (.var 4) (.call f_law_bits (.cons (.var 2) .nil))) .nil) [("place", 4)]) (.lst .nil)) (.cons (.app 1 (.tup (.cons (.var 2) (.cons (.var 3) .nil)))) .nil) .nil) .nil)
def b_law_faces_1 : Sms := (.cons (.forr (.one 3) (.rng (.op1 .len (.var 0))) b_law_faces_2) .nil)
def d_law_faces : Df := { x := "_law_faces", np := 1, N := ["cube", "found", "corner", "some", "place"], mu := [1], body := (.cons (.asg 1 (.lst .nil)) (.cons (.forr (.one 2) (.rng (.op1 .len (.var 0))) b_law_faces_1) (.cons (.ret (.var 1)) .nil))) }
def b_law_lowest_1 : Sms := (.cons (.asg 4 (.comp (.var 6) (.one 6) (.seq (.call f_law_apart (.cons (.var 3) (.cons (.op2 .idx (.var 1) (.cst (.int 0))) .nil)))) (.cons (.op2 .notin (.var 6) (.call f_law_bits (.cons (.op2 .idx (.var 1) (.cst (.int 1))) .nil))) .nil) [("place", 6)])) (.cons (.asg 5 (.comp (.var 6) (.one 6) (.seq (.call f_law_bits (.cons (.op2 .idx (.var 0) (.var 3)) .nil))) (.cons (.op2 .isin (.var 6) (.call f_law_bits (.cons (.op2 .idx (.var 1) (.cst (.int 1))) .nil))) .nil) [("place", 6)])) (.cons (.ife (.and (.op2 .eq (.var 4) (.lst .nil)) (.op2 .eq (.var 5) (.lst .nil))) (.cons (.app 2 (.var 3)) .nil) .nil) .nil)))
def d_law_lowest : Df := { x := "_law_lowest", np := 2, N := ["cube", "face", "found", "corner", "outside", "leading", "place"], mu := [2], body := (.cons (.asg 2 (.lst .nil)) (.cons (.forr (.one 3) (.rng (.op1 .len (.var 0))) b_law_lowest_1) (.cons (.ret (.var 2)) .nil))) }
def d_law_faced : Df := { x := "_law_faced", np := 2, N := ["cube", "face", "e"], mu := [], body := (.cons (.tri 2 (.cons (.ret (.call f_lowest_corners (.cons (.var 0) (.cons (.var 1) .nil)))) .nil) [{ c := 2, s := .two 0 1 "face" "other" }]) .nil) }
def b_law_k02_1 : Sms := (.cons (.asg 6 (.op2 .idx (.var 3) (.op2 .mod (.op2 .mul (.op2 .idx (.var 1) (.op2 .add (.cst (.int 1)) (.var 4))) (.cst (.int 7))) (.op1 .len (.var 3))))) (.cons (.ife (.op2 .ne (.call f_law_faced (.cons (.var 2) (.cons (.var 6) .nil))) (.call f_law_lowest (.cons (.var 2) (.cons (.var 6) .nil)))) (.cons (.ret (.cst (.bool false))) .nil) .nil) .nil))
def d_law_k02 : Df := { x := "law", np := 1, N := ["script", "draws", "cube", "every", "time", "wrong", "face"], mu := [], body := (.cons (.asg 1 (.call f_law_row (.cons (.var 0) (.cons (.cst (.int 4)) .nil)))) (.cons (.asg 2 (.call f_law_drawn (.cons (.var 0) (.cons (.cst (.int 2)) (.cons (.op2 .add (.cst (.int 1)) (.op2 .mod (.op2 .idx (.var 1) (.cst (.int 0))) (.cst (.int 4)))) .nil))))) (.cons (.asg 3 (.call f_law_faces (.cons (.var 2) .nil))) (.cons (.ife (.op2 .ne (.call f_faces (.cons (.var 2) .nil)) (.var 3)) (.cons (.ret (.cst (.bool false))) .nil) .nil) (.cons (.forr (.one 4) (.rng (.cst (.int 4))) b_law_k02_1) (.cons (.asg 5 (.lst (.cons (.cst .none) (.cons (.lst (.cons (.cst (.int 0)) (.cons (.cst (.int 0)) .nil))) (.cons (.tup (.cons (.cst (.int 0)) .nil)) (.cons (.tup (.cons (.cst (.int 0)) (.cons (.cst (.int 0)) (.cons (.cst (.int 0)) .nil)))) (.cons (.tup (.cons (.cst (.int 1)) (.cons (.cst (.int 1)) .nil))) (.cons (.tup (.cons (.op1 .len (.var 2)) (.cons (.cst (.int 0)) .nil))) (.cons (.tup (.cons (.cst (.int 0)) (.cons (.op1 .len (.var 2)) .nil))) (.cons (.tup (.cons (.op1 .neg (.cst (.int 1))) (.cons (.cst (.int 0)) .nil))) (.cons (.tup (.cons (.cst .none) (.cons (.cst (.int 0)) .nil))) .nil))))))))))) (.cons (.asg 5 (.op2 .idx (.op2 .add (.var 5) (.lst (.cons (.tup (.cons (.cst (.int 0)) (.cons (.cst (.bool true)) .nil))) .nil))) (.op2 .mod (.op2 .idx (.var 1) (.cst (.int 6))) (.cst (.int 10))))) (.cons (.ret (.op2 .eq (.call f_law_faced (.cons (.var 2) (.cons (.var 5) .nil))) (.cst (.str "face")))) .nil)))))))) }
def d_paper : Df := { x := "paper", np := 1, N := ["cube", "found"], mu := [], body := (.cons (.expr (.call f_check_cube (.cons (.var 0) .nil))) (.cons (.asg 1 (.call f_agreeing_pair (.cons (.var 0) .nil))) (.cons (.ife (.op1 .isN (.var 1)) (.cons (.rais 8) .nil) .nil) (.cons (.ret (.var 1)) .nil)))) }
def d_is_paper : Df := { x := "is_paper", np := 2, N := ["cube", "value", "one"], mu := [], body := (.cons (.expr (.call f_check_cube (.cons (.var 0) .nil))) (.cons (.ife (.or (.not (.op1 (.isi .tuple) (.var 1))) (.or (.op2 .ne (.op1 .len (.var 1)) (.cst (.int 2))) (.comp (.var 2) (.one 2) (.seq (.var 1)) (.cons (.not (.call f_in_range (.cons (.var 2) (.cons (.cst (.int 0)) (.cons (.op2 .sub (.op1 .len (.var 0)) (.cst (.int 1))) .nil))))) .nil) [("one", 2)]))) (.cons (.ret (.cst (.bool false))) .nil) .nil) (.cons (.ife (.op2 .ge (.op2 .idx (.var 1) (.cst (.int 0))) (.op2 .idx (.var 1) (.cst (.int 1)))) (.cons (.ret (.cst (.bool false))) .nil) .nil) (.cons (.ret (.op2 .eq (.call f_common (.cons (.call f_differing (.cons (.op2 .idx (.var 0) (.op2 .idx (.var 1) (.cst (.int 0)))) (.cons (.op2 .idx (.var 0) (.op2 .idx (.var 1) (.cst (.int 1)))) .nil))) (.cons (.call f_differing (.cons (.op2 .idx (.var 1) (.cst (.int 0))) (.cons (.op2 .idx (.var 1) (.cst (.int 1))) .nil))) .nil))) (.cst (.int 0)))) .nil)))) }
def b_bad_face_1 : Sms := (.cons (.ife (.op2 .ne (.op1 .len (.call f_lowest_of (.cons (.var 0) (.cons (.var 1) .nil)))) (.cst (.int 1))) (.cons (.ret (.var 1)) .nil) .nil) .nil)
def d_bad_face : Df := { x := "bad_face", np := 1, N := ["cube", "face"], mu := [], body := (.cons (.forr (.one 1) (.seq (.call f_faces (.cons (.var 0) .nil))) b_bad_face_1) (.cons (.rais 8) .nil)) }
def b_law_fine_2 : Sms := (.cons (.ife (.op2 .eq (.comp (.var 3) (.one 3) (.seq (.call f_law_apart (.cons (.var 1) (.cons (.var 2) .nil)))) (.cons (.op2 .isin (.var 3) (.call f_law_apart (.cons (.op2 .idx (.var 0) (.var 1)) (.cons (.op2 .idx (.var 0) (.var 2)) .nil)))) .nil) [("place", 3)]) (.lst .nil)) (.cons (.ret (.cst (.bool false))) .nil) .nil) .nil)
def b_law_fine_1 : Sms := (.cons (.forr (.one 2) (.rng (.var 1)) b_law_fine_2) .nil)
def d_law_fine : Df := { x := "_law_fine", np := 1, N := ["cube", "one", "other", "place"], mu := [], body := (.cons (.forr (.one 1) (.rng (.op1 .len (.var 0))) b_law_fine_1) (.cons (.ret (.cst (.bool true))) .nil)) }
def b_law_downhill_1 : Sms := (.cons (.asg 6 (.op1 .len (.var 4))) (.cons (.asg 7 (.op1 .tuple (.comp (.call f_law_turned (.cons (.var 10) (.cons (.op2 .mod (.op2 .idx (.var 3) (.op2 .add (.cst (.int 10)) (.var 5))) (.var 6)) .nil))) (.one 10) (.seq (.var 4)) .nil [("one", 10)]))) (.cons (.ife (.op2 .eq (.op2 .mod (.op2 .idx (.var 3) (.op2 .add (.cst (.int 20)) (.var 5))) (.cst (.int 3))) (.cst (.int 0))) (.cons (.asg 4 (.op2 .add (.var 4) (.op1 .tuple (.comp (.op2 .add (.var 10) (.var 6)) (.one 10) (.seq (.var 7)) .nil [("one", 10)])))) .nil) (.cons (.asg 8 (.comp (.op2 .eq (.op2 .mod (.op2 .idx (.var 3) (.op2 .add (.cst (.int 30)) (.var 11))) (.cst (.int 2))) (.cst (.int 0))) (.one 11) (.rng (.var 6)) .nil [("corner", 11)])) (.cons (.asg 9 (.comp (.op2 .add (.op2 .idx (.var 4) (.var 11)) (.ite (.op2 .idx (.var 8) (.var 11)) (.var 6) (.cst (.int 0)))) (.one 11) (.rng (.var 6)) .nil [("corner", 11)])) (.cons (.asg 4 (.op1 .tuple (.op2 .add (.var 9) (.comp (.op2 .add (.op2 .idx (.var 4) (.var 11)) (.ite (.op2 .idx (.var 8) (.var 11)) (.cst (.int 0)) (.var 6))) (.one 11) (.rng (.var 6)) .nil [("corner", 11)])))) .nil)))) (.cons (.ife (.op2 .eq (.op2 .mod (.op2 .idx (.var 3) (.op2 .add (.cst (.int 24)) (.var 5))) (.cst (.int 2))) (.cst (.int 0))) (.cons (.asg 4 (.call f_law_exchanged (.cons (.var 4) (.cons (.op2 .idx (.var 3) (.op2 .add (.cst (.int 26)) (.var 5))) .nil)))) .nil) .nil) (.cons (.asg 4 (.call f_law_spun (.cons (.var 4) (.cons (.op2 .idx (.var 3) (.op2 .add (.cst (.int 50)) (.var 5))) (.cons (.op2 .idx (.var 3) (.op2 .add (.cst (.int 54)) (.var 5))) .nil))))) .nil)))))
def d_law_downhill : Df := { x := "_law_downhill", np := 3, N := ["script", "at", "size", "draws", "cube", "time", "count", "turned_cube", "up", "low", "one", "corner"], mu := [], body := (.cons (.asg 3 (.call f_law_row (.cons (.var 0) (.cons (.var 1) .nil)))) (.cons (.asg 4 (.ite (.op2 .eq (.op2 .mod (.op2 .idx (.var 3) (.cst (.int 0))) (.cst (.int 2))) (.cst (.int 0))) (.tup (.cons (.cst (.int 0)) (.cons (.cst (.int 1)) .nil))) (.tup (.cons (.cst (.int 1)) (.cons (.cst (.int 0)) .nil))))) (.cons (.forr (.one 5) (.rng2 (.cst (.int 1)) (.var 2)) b_law_downhill_1) (.cons (.ret (.var 4)) .nil)))) }
def b_law_turned_1 : Sms := (.cons (.asg 2 (.call f_law_flip (.cons (.var 2) (.cons (.var 3) .nil)))) .nil)
def d_law_turned : Df := { x := "_law_turned", np := 2, N := ["one", "some", "found", "place"], mu := [], body := (.cons (.asg 2 (.var 0)) (.cons (.forr (.one 3) (.seq (.call f_law_bits (.cons (.var 1) .nil))) b_law_turned_1) (.cons (.ret (.var 2)) .nil))) }
def b_law_exchanged_1 : Sms := (.cons (.asg 8 (.op1 .sum (.comp (.op2 .idx (.lst (.cons (.cst (.int 1)) (.cons (.cst (.int 2)) (.cons (.cst (.int 4)) (.cons (.cst (.int 8)) .nil))))) (.op2 .idx (.var 3) (.var 9))) (.one 9) (.seq (.call f_law_bits (.cons (.var 5) .nil))) .nil [("place", 9)]))) (.cons (.app 4 (.op1 .sum (.comp (.op2 .idx (.lst (.cons (.cst (.int 1)) (.cons (.cst (.int 2)) (.cons (.cst (.int 4)) (.cons (.cst (.int 8)) .nil))))) (.op2 .idx (.var 3) (.var 9))) (.one 9) (.seq (.call f_law_bits (.cons (.op2 .idx (.var 0) (.var 8)) .nil))) .nil [("place", 9)]))) .nil))
def d_law_exchanged : Df := { x := "_law_exchanged", np := 2, N := ["cube", "draw", "size", "order", "found", "corner", "first", "last", "source", "place"], mu := [3, 4], body := (.cons (.asg 2 (.call f_law_size (.cons (.var 0) .nil))) (.cons (.par 6 7 (.op2 .mod (.var 1) (.var 2)) (.op2 .sub (.var 2) (.cst (.int 1)))) (.cons (.asg 3 (.op1 .rng (.var 2))) (.cons (.set2 3 (.var 6) (.var 7) (.var 7) (.var 6)) (.cons (.asg 4 (.lst .nil)) (.cons (.forr (.one 5) (.rng (.op1 .len (.var 0))) b_law_exchanged_1) (.cons (.ret (.op1 .tuple (.var 4))) .nil))))))) }
def b_law_spun_1 : Sms := (.cons (.par 7 8 (.op2 .mod (.op2 .add (.var 1) (.op2 .mul (.cst (.int 5)) (.var 5))) (.op1 .len (.var 0))) (.op2 .mod (.op2 .add (.var 2) (.var 5)) (.var 3))) (.cons (.asg 6 (.call f_law_end (.cons (.var 7) (.cons (.var 8) .nil)))) (.cons (.ife (.op2 .eq (.call f_law_apart (.cons (.op2 .idx (.var 4) (.var 7)) (.cons (.op2 .idx (.var 4) (.var 6)) .nil))) (.lst (.cons (.var 8) .nil))) (.cons (.asg 9 (.op1 .list (.var 4))) (.cons (.set 9 (.var 7) (.op2 .idx (.var 4) (.var 6))) (.cons (.set 9 (.var 6) (.op2 .idx (.var 4) (.var 7))) (.cons (.asg 4 (.op1 .tuple (.var 9))) .nil)))) .nil) .nil)))
def d_law_spun : Df := { x := "_law_spun", np := 3, N := ["cube", "draw", "more", "size", "found", "time", "end", "corner", "place", "changed_sets"], mu := [9], body := (.cons (.asg 3 (.call f_law_size (.cons (.var 0) .nil))) (.cons (.asg 4 (.var 0)) (.cons (.forr (.one 5) (.rng (.cst (.int 6))) b_law_spun_1) (.cons (.ret (.var 4)) .nil)))) }
def d_law_decided : Df := { x := "_law_decided", np := 2, N := ["mode", "cube", "e"], mu := [], body := (.cons (.tri 2 (.cons (.ret (.ite (.op2 .eq (.var 0) (.cst (.int 0))) (.call f_paper (.cons (.var 1) .nil)) (.call f_bad_face (.cons (.var 1) .nil)))) .nil) [{ c := 8, s := .two 0 7 "downhill" "other" }]) .nil) }
def d_law_any : Df := { x := "_law_any", np := 3, N := ["script", "at", "most", "draws", "size", "cube", "end", "changed_sets", "corner", "place"], mu := [7], body := (.cons (.asg 3 (.call f_law_row (.cons (.var 0) (.cons (.var 1) .nil)))) (.cons (.asg 4 (.op2 .add (.cst (.int 1)) (.op2 .mod (.op2 .idx (.var 3) (.cst (.int 40))) (.var 2)))) (.cons (.ife (.op2 .eq (.op2 .mod (.op2 .idx (.var 3) (.cst (.int 41))) (.cst (.int 4))) (.cst (.int 0))) (.cons (.ret (.call f_law_drawn (.cons (.var 0) (.cons (.var 1) (.cons (.var 4) .nil))))) .nil) .nil) (.cons (.asg 5 (.call f_law_downhill (.cons (.var 0) (.cons (.var 1) (.cons (.var 4) .nil))))) (.cons (.ife (.op2 .eq (.op2 .mod (.op2 .idx (.var 3) (.cst (.int 41))) (.cst (.int 4))) (.cst (.int 1))) (.cons (.par 8 9 (.op2 .mod (.op2 .idx (.var 3) (.cst (.int 42))) (.op1 .len (.var 5))) (.op2 .mod (.op2 .idx (.var 3) (.cst (.int 43))) (.var 4))) (.cons (.asg 6 (.call f_law_end (.cons (.var 8) (.cons (.var 9) .nil)))) (.cons (.asg 7 (.op1 .list (.var 5))) (.cons (.set 7 (.var 8) (.call f_law_flip (.cons (.op2 .idx (.var 5) (.var 8)) (.cons (.var 9) .nil)))) (.cons (.set 7 (.var 6) (.call f_law_flip (.cons (.op2 .idx (.var 5) (.var 6)) (.cons (.var 9) .nil)))) (.cons (.asg 5 (.op1 .tuple (.var 7))) .nil)))))) .nil) (.cons (.ret (.var 5)) .nil)))))) }
def d_law_k03 : Df := { x := "law", np := 1, N := ["script", "cube", "bad", "apart", "pair", "face", "one", "other", "place"], mu := [], body := (.cons (.asg 1 (.call f_law_any (.cons (.var 0) (.cons (.cst (.int 2)) (.cons (.cst (.int 4)) .nil))))) (.cons (.asg 2 (.comp (.var 5) (.one 5) (.seq (.call f_law_faces (.cons (.var 1) .nil))) (.cons (.op2 .ne (.op1 .len (.call f_law_lowest (.cons (.var 1) (.cons (.var 5) .nil)))) (.cst (.int 1))) .nil) [("face", 5)])) (.cons (.par 4 5 (.call f_law_decided (.cons (.cst (.int 0)) (.cons (.var 1) .nil))) (.call f_law_decided (.cons (.cst (.int 1)) (.cons (.var 1) .nil)))) (.cons (.ife (.or (.op2 .ne (.call f_is_downhill (.cons (.var 1) .nil)) (.op2 .eq (.var 2) (.lst .nil))) (.op2 .ne (.call f_law_fine (.cons (.var 1) .nil)) (.op2 .eq (.var 2) (.lst .nil)))) (.cons (.ret (.cst (.bool false))) .nil) .nil) (.cons (.ife (.op2 .eq (.var 2) (.lst .nil)) (.cons (.ret (.and (.op2 .eq (.var 4) (.cst (.str "downhill"))) (.op2 .eq (.var 5) (.cst (.str "downhill"))))) .nil) .nil) (.cons (.ife (.or (.op2 .ne (.var 5) (.op2 .idx (.var 2) (.cst (.int 0)))) (.not (.call f_is_paper (.cons (.var 1) (.cons (.var 4) .nil))))) (.cons (.ret (.cst (.bool false))) .nil) .nil) (.cons (.unp 6 7 (.var 4)) (.cons (.asg 3 (.call f_law_apart (.cons (.op2 .idx (.var 1) (.var 6)) (.cons (.op2 .idx (.var 1) (.var 7)) .nil)))) (.cons (.ret (.and (.op2 .lt (.var 6) (.var 7)) (.op2 .eq (.comp (.var 8) (.one 8) (.seq (.call f_law_apart (.cons (.var 6) (.cons (.var 7) .nil)))) (.cons (.op2 .isin (.var 8) (.var 3)) .nil) [("place", 8)]) (.lst .nil)))) .nil))))))))) }
def d_law_k04 : Df := { x := "law", np := 1, N := ["script", "draws", "cube", "found", "tries", "value", "due", "one", "other", "low", "high", "apart", "corner", "place"], mu := [], body := (.cons (.asg 1 (.call f_law_row (.cons (.var 0) (.cons (.cst (.int 4)) .nil)))) (.cons (.asg 2 (.call f_law_any (.cons (.var 0) (.cons (.cst (.int 2)) (.cons (.cst (.int 4)) .nil))))) (.cons (.par 7 8 (.op2 .mod (.op2 .idx (.var 1) (.cst (.int 0))) (.op1 .len (.var 2))) (.op2 .mod (.op2 .idx (.var 1) (.cst (.int 1))) (.op1 .len (.var 2)))) (.cons (.asg 3 (.call f_law_decided (.cons (.cst (.int 0)) (.cons (.var 2) .nil)))) (.cons (.unp 9 10 (.ite (.op1 (.isi .tuple) (.var 3)) (.var 3) (.tup (.cons (.op2 .min2 (.var 7) (.var 8)) (.cons (.op2 .max2 (.var 7) (.var 8)) .nil))))) (.cons (.asg 4 (.lst (.cons (.tup (.cons (.var 9) (.cons (.var 10) .nil))) (.cons (.tup (.cons (.var 9) (.cons (.var 10) .nil))) (.cons (.tup (.cons (.var 7) (.cons (.var 8) .nil))) (.cons (.tup (.cons (.var 10) (.cons (.var 9) .nil))) (.cons (.lst (.cons (.var 9) (.cons (.var 10) .nil))) (.cons (.tup (.cons (.var 9) .nil)) (.cons (.tup (.cons (.var 9) (.cons (.var 10) (.cons (.var 10) .nil)))) (.cons (.cst .none) .nil)))))))))) (.cons (.asg 5 (.op2 .idx (.op2 .add (.var 4) (.lst (.cons (.tup (.cons (.var 9) (.cons (.op1 .len (.var 2)) .nil))) (.cons (.tup (.cons (.op1 .neg (.cst (.int 1))) (.cons (.var 10) .nil))) (.cons (.tup (.cons (.cst .none) (.cons (.var 10) .nil))) (.cons (.tup (.cons (.var 9) (.cons (.var 9) .nil))) (.cons (.tup (.cons (.cst (.bool false)) (.cons (.var 10) .nil))) .nil))))))) (.op2 .mod (.op2 .idx (.var 1) (.cst (.int 2))) (.cst (.int 13))))) (.cons (.asg 6 (.and (.op1 (.isi .tuple) (.var 5)) (.op2 .eq (.op1 .len (.var 5)) (.cst (.int 2))))) (.cons (.asg 6 (.and (.var 6) (.and (.op2 .eq (.comp (.var 12) (.one 12) (.seq (.var 5)) (.cons (.not (.call f_law_in (.cons (.var 12) (.cons (.cst (.int 0)) (.cons (.op2 .sub (.op1 .len (.var 2)) (.cst (.int 1))) .nil))))) .nil) [("corner", 12)]) (.lst .nil)) (.op2 .lt (.op2 .idx (.var 5) (.cst (.int 0))) (.op2 .idx (.var 5) (.cst (.int 1))))))) (.cons (.ife (.var 6) (.cons (.asg 11 (.call f_law_apart (.cons (.op2 .idx (.var 2) (.op2 .idx (.var 5) (.cst (.int 0)))) (.cons (.op2 .idx (.var 2) (.op2 .idx (.var 5) (.cst (.int 1)))) .nil)))) (.cons (.asg 6 (.op2 .eq (.comp (.var 13) (.one 13) (.seq (.call f_law_apart (.cons (.op2 .idx (.var 5) (.cst (.int 0))) (.cons (.op2 .idx (.var 5) (.cst (.int 1))) .nil)))) (.cons (.op2 .isin (.var 13) (.var 11)) .nil) [("place", 13)]) (.lst .nil))) .nil)) .nil) (.cons (.ret (.op2 .eq (.call f_is_paper (.cons (.var 2) (.cons (.var 5) .nil))) (.var 6))) .nil))))))))))) }
def d_next_down : Df := { x := "next_down", np := 3, N := ["cube", "corner", "lowest", "needed", "dimensions", "dimension"], mu := [], body := (.cons (.asg 3 (.call f_common (.cons (.op2 .idx (.var 0) (.var 1)) (.cons (.call f_differing (.cons (.var 1) (.cons (.var 2) .nil))) .nil)))) (.cons (.asg 4 (.comp (.var 5) (.one 5) (.rng (.call f_dimension_count (.cons (.var 0) .nil))) (.cons (.call f_has_bit (.cons (.var 3) (.cons (.var 5) .nil))) .nil) [("dimension", 5)])) (.cons (.ret (.call f_other_end (.cons (.var 1) (.cons (.op2 .idx (.var 4) (.cst (.int 0))) .nil)))) .nil))) }
def b_way_down_1 : Sms := (.cons (.app 3 (.call f_next_down (.cons (.var 0) (.cons (.op2 .idx (.var 3) (.op1 .neg (.cst (.int 1)))) (.cons (.var 2) .nil))))) .nil)
def d_way_down : Df := { x := "way_down", np := 2, N := ["cube", "corner", "lowest", "result"], mu := [3], body := (.cons (.asg 2 (.call f_corner_with (.cons (.var 0) (.cons (.cst (.int 0)) .nil)))) (.cons (.expr (.call f_check_corner (.cons (.var 0) (.cons (.var 1) .nil)))) (.cons (.asg 3 (.lst (.cons (.var 1) .nil))) (.cons (.whil (.op2 .ne (.op2 .idx (.var 3) (.op1 .neg (.cst (.int 1)))) (.var 2)) b_way_down_1) (.cons (.ret (.var 3)) .nil))))) }
def d_law_found : Df := { x := "_law_found", np := 3, N := ["mode", "cube", "one", "e"], mu := [], body := (.cons (.tri 3 (.cons (.ret (.ite (.op2 .eq (.var 0) (.cst (.int 0))) (.call f_corner_with (.cons (.var 1) (.cons (.var 2) .nil))) (.call f_way_down (.cons (.var 1) (.cons (.var 2) .nil))))) .nil) [{ c := 7, s := .two 0 1 "not" "other" }, { c := 4, s := .two 0 3 "set" "other" }, { c := 3, s := .two 0 4 "corner" "other" }]) .nil) }
def b_law_k05_1 : Sms := (.cons (.asg 4 (.call f_corner_with (.cons (.var 2) (.cons (.var 3) .nil)))) (.cons (.ife (.op2 .ne (.op2 .idx (.var 2) (.var 4)) (.var 3)) (.cons (.ret (.cst (.bool false))) .nil) .nil) .nil))
def d_law_k05 : Df := { x := "law", np := 1, N := ["script", "draws", "cube", "some", "corner"], mu := [], body := (.cons (.asg 1 (.call f_law_row (.cons (.var 0) (.cons (.cst (.int 4)) .nil)))) (.cons (.asg 2 (.call f_law_any (.cons (.var 0) (.cons (.cst (.int 2)) (.cons (.cst (.int 4)) .nil))))) (.cons (.ife (.not (.call f_law_fine (.cons (.var 2) .nil))) (.cons (.ret (.and (.op2 .eq (.call f_law_found (.cons (.cst (.int 0)) (.cons (.var 2) (.cons (.cst (.int 0)) .nil)))) (.cst (.str "not"))) (.op2 .eq (.call f_law_found (.cons (.cst (.int 1)) (.cons (.var 2) (.cons (.cst (.int 0)) .nil)))) (.cst (.str "not"))))) .nil) .nil) (.cons (.ife (.op2 .ne (.op1 .sorted (.var 2)) (.op1 .rng (.op1 .len (.var 2)))) (.cons (.ret (.cst (.bool false))) .nil) .nil) (.cons (.forr (.one 3) (.rng (.op1 .len (.var 2))) b_law_k05_1) (.cons (.ret (.op2 .eq (.call f_law_found (.cons (.cst (.int 0)) (.cons (.var 2) (.cons (.op2 .idx (.lst (.cons (.cst .none) (.cons (.op1 .neg (.cst (.int 1))) (.cons (.op1 .len (.var 2)) (.cons (.cst (.bool true)) .nil))))) (.op2 .mod (.op2 .idx (.var 1) (.cst (.int 0))) (.cst (.int 4)))) .nil)))) (.cst (.str "set")))) .nil)))))) }
def b_law_k06_2 : Sms := (.cons (.asg 11 (.op2 .add (.var 11) (.comp (.call f_law_end (.cons (.var 12) (.cons (.var 13) .nil))) (.one 13) (.seq (.call f_law_bits (.cons (.op2 .idx (.var 2) (.var 12)) .nil))) .nil [("place", 13)]))) .nil)
def b_law_k06_1 : Sms := (.cons (.asg 11 (.lst .nil)) (.cons (.forr (.one 12) (.seq (.var 10)) b_law_k06_2) (.cons (.asg 10 (.op1 .sortset (.var 11))) (.cons (.asg 9 (.op2 .add (.var 9) (.var 10))) (.cons (.asg 7 (.op2 .add (.var 7) (.cst (.int 1)))) .nil)))))
def b_law_k06_3 : Sms := (.cons (.asg 8 (.call f_law_apart (.cons (.op2 .idx (.var 5) (.op2 .sub (.var 6) (.cst (.int 1)))) (.cons (.op2 .idx (.var 5) (.var 6)) .nil)))) (.cons (.ife (.or (.op2 .ne (.op1 .len (.var 8)) (.cst (.int 1))) (.op2 .notin (.op2 .idx (.var 8) (.cst (.int 0))) (.call f_law_bits (.cons (.op2 .idx (.var 2) (.op2 .idx (.var 5) (.op2 .sub (.var 6) (.cst (.int 1))))) .nil)))) (.cons (.ret (.cst (.bool false))) .nil) .nil) .nil))
def d_law_k06 : Df := { x := "law", np := 1, N := ["script", "draws", "cube", "corner", "lowest", "found", "step", "many", "apart", "reached", "level", "later", "one", "place"], mu := [], body := (.cons (.asg 1 (.call f_law_row (.cons (.var 0) (.cons (.cst (.int 4)) .nil)))) (.cons (.asg 2 (.call f_law_downhill (.cons (.var 0) (.cons (.cst (.int 2)) (.cons (.op2 .add (.cst (.int 1)) (.op2 .mod (.op2 .idx (.var 1) (.cst (.int 0))) (.cst (.int 4)))) .nil))))) (.cons (.asg 3 (.op2 .mod (.op2 .idx (.var 1) (.cst (.int 1))) (.op1 .len (.var 2)))) (.cons (.asg 4 (.op2 .index (.var 2) (.cst (.int 0)))) (.cons (.asg 5 (.call f_way_down (.cons (.var 2) (.cons (.var 3) .nil)))) (.cons (.ife (.or (.op2 .ne (.op2 .idx (.var 5) (.cst (.int 0))) (.var 3)) (.or (.op2 .ne (.op2 .idx (.var 5) (.op1 .neg (.cst (.int 1)))) (.var 4)) (.op2 .ne (.op1 .len (.var 5)) (.op2 .add (.op1 .len (.call f_law_apart (.cons (.var 3) (.cons (.var 4) .nil)))) (.cst (.int 1)))))) (.cons (.ret (.cst (.bool false))) .nil) .nil) (.cons (.forr (.one 6) (.rng2 (.cst (.int 1)) (.op1 .len (.var 5))) b_law_k06_3) (.cons (.par 9 10 (.lst (.cons (.var 3) .nil)) (.lst (.cons (.var 3) .nil))) (.cons (.asg 7 (.cst (.int 0))) (.cons (.whil (.op2 .notin (.var 4) (.var 9)) b_law_k06_1) (.cons (.ret (.and (.op2 .eq (.var 7) (.op2 .sub (.op1 .len (.var 5)) (.cst (.int 1)))) (.op2 .eq (.call f_law_found (.cons (.cst (.int 1)) (.cons (.var 2) (.cons (.op2 .idx (.lst (.cons (.cst .none) (.cons (.op1 .neg (.cst (.int 1))) (.cons (.op1 .len (.var 2)) (.cons (.cst (.bool true)) .nil))))) (.op2 .mod (.op2 .idx (.var 1) (.cst (.int 2))) (.cst (.int 4)))) .nil)))) (.cst (.str "corner"))))) .nil))))))))))) }
def d_turned : Df := { x := "turned", np := 3, N := ["cube", "corners", "dimension", "ends", "bit", "corner", "one"], mu := [], body := (.cons (.asg 3 (.op2 .add (.op1 .list (.var 1)) (.comp (.call f_other_end (.cons (.var 5) (.cons (.var 2) .nil))) (.one 5) (.seq (.var 1)) .nil [("corner", 5)]))) (.cons (.asg 4 (.op2 .idx (.glb 0) (.var 2))) (.cons (.ret (.op1 .tuple (.comp (.call f_differing (.cons (.var 6) (.cons (.ite (.op2 .isin (.var 5) (.var 3)) (.var 4) (.cst (.int 0))) .nil))) (.two 5 6) (.enum (.var 0)) .nil [("corner", 5), ("one", 6)]))) .nil))) }
def d_can_turn : Df := { x := "can_turn", np := 3, N := ["cube", "corner", "dimension"], mu := [], body := (.cons (.expr (.call f_check_edge (.cons (.var 0) (.cons (.var 1) (.cons (.var 2) .nil))))) (.cons (.ret (.op2 .eq (.call f_differing (.cons (.op2 .idx (.var 0) (.var 1)) (.cons (.op2 .idx (.var 0) (.call f_other_end (.cons (.var 1) (.cons (.var 2) .nil)))) .nil))) (.op2 .idx (.glb 0) (.var 2)))) .nil)) }
def d_turn : Df := { x := "turn", np := 3, N := ["cube", "corner", "dimension"], mu := [], body := (.cons (.ife (.not (.call f_can_turn (.cons (.var 0) (.cons (.var 1) (.cons (.var 2) .nil))))) (.cons (.rais 9) .nil) .nil) (.cons (.ret (.call f_turned (.cons (.var 0) (.cons (.tup (.cons (.var 1) .nil)) (.cons (.var 2) .nil))))) .nil)) }
def d_turn_group : Df := { x := "turn_group", np := 3, N := ["cube", "corner", "dimension"], mu := [], body := (.cons (.expr (.call f_check_edge (.cons (.var 0) (.cons (.var 1) (.cons (.var 2) .nil))))) (.cons (.ret (.call f_turned (.cons (.var 0) (.cons (.call f_group_of (.cons (.var 0) (.cons (.var 1) (.cons (.var 2) .nil)))) (.cons (.var 2) .nil))))) .nil)) }
def d_law_turning : Df := { x := "_law_turning", np := 4, N := ["mode", "cube", "one", "other", "e"], mu := [], body := (.cons (.tri 4 (.cons (.ife (.op2 .eq (.var 0) (.cst (.int 0))) (.cons (.ret (.call f_turn_all (.cons (.var 1) (.cons (.var 2) .nil)))) .nil) .nil) (.cons (.ife (.op2 .eq (.var 0) (.cst (.int 1))) (.cons (.ret (.call f_can_turn (.cons (.var 1) (.cons (.var 2) (.cons (.var 3) .nil))))) .nil) .nil) (.cons (.ife (.op2 .eq (.var 0) (.cst (.int 2))) (.cons (.ret (.call f_turn (.cons (.var 1) (.cons (.var 2) (.cons (.var 3) .nil))))) .nil) .nil) (.cons (.ret (.ite (.op2 .eq (.var 0) (.cst (.int 3))) (.call f_group (.cons (.var 1) (.cons (.var 2) (.cons (.var 3) .nil)))) (.call f_turn_group (.cons (.var 1) (.cons (.var 2) (.cons (.var 3) .nil)))))) .nil)))) [{ c := 9, s := .two 0 7 "cannot" "other" }, { c := 4, s := .two 0 3 "set" "other" }, { c := 3, s := .two 0 5 "corner" "other" }, { c := 5, s := .two 0 3 "number" "other" }, { c := 7, s := .two 0 1 "not" "other" }]) .nil) }
def b_law_with_turned_2 : Sms := (.cons (.set 3 (.var 5) (.call f_law_flip (.cons (.op2 .idx (.var 0) (.var 5)) (.cons (.var 2) .nil)))) .nil)
def b_law_with_turned_1 : Sms := (.cons (.forr (.one 5) (.seq (.tup (.cons (.var 4) (.cons (.call f_law_end (.cons (.var 4) (.cons (.var 2) .nil))) .nil)))) b_law_with_turned_2) .nil)
def d_law_with_turned : Df := { x := "_law_with_turned", np := 3, N := ["cube", "lows", "place", "found", "low", "corner"], mu := [3], body := (.cons (.asg 3 (.op1 .list (.var 0))) (.cons (.forr (.one 4) (.seq (.var 1)) b_law_with_turned_1) (.cons (.ret (.op1 .tuple (.var 3))) .nil))) }
def d_law_k07 : Df := { x := "law", np := 1, N := ["script", "draws", "size", "cube", "some", "found", "low", "due", "fits", "apart", "mode", "corner", "place", "one"], mu := [], body := (.cons (.asg 1 (.call f_law_row (.cons (.var 0) (.cons (.cst (.int 4)) .nil)))) (.cons (.asg 2 (.op2 .add (.cst (.int 1)) (.op2 .mod (.op2 .idx (.var 1) (.cst (.int 0))) (.cst (.int 4))))) (.cons (.asg 3 (.call f_law_downhill (.cons (.var 0) (.cons (.cst (.int 2)) (.cons (.var 2) .nil))))) (.cons (.asg 4 (.op2 .mod (.op2 .idx (.var 1) (.cst (.int 1))) (.op1 .len (.var 3)))) (.cons (.asg 5 (.call f_turn_all (.cons (.var 3) (.cons (.var 4) .nil)))) (.cons (.ife (.or (.op2 .ne (.var 5) (.op1 .tuple (.comp (.call f_law_turned (.cons (.var 13) (.cons (.var 4) .nil))) (.one 13) (.seq (.var 3)) .nil [("one", 13)]))) (.or (.not (.call f_is_downhill (.cons (.var 5) .nil))) (.not (.call f_law_fine (.cons (.var 5) .nil))))) (.cons (.ret (.cst (.bool false))) .nil) .nil) (.cons (.par 11 12 (.op2 .mod (.op2 .idx (.var 1) (.cst (.int 2))) (.op1 .len (.var 3))) (.op2 .mod (.op2 .idx (.var 1) (.cst (.int 3))) (.var 2))) (.cons (.asg 6 (.op2 .min2 (.var 11) (.call f_law_end (.cons (.var 11) (.cons (.var 12) .nil))))) (.cons (.asg 7 (.call f_law_with_turned (.cons (.var 3) (.cons (.lst (.cons (.var 6) .nil)) (.cons (.var 12) .nil))))) (.cons (.asg 8 (.call f_law_fine (.cons (.var 7) .nil))) (.cons (.asg 9 (.call f_law_apart (.cons (.op2 .idx (.var 3) (.var 11)) (.cons (.op2 .idx (.var 3) (.call f_law_end (.cons (.var 11) (.cons (.var 12) .nil)))) .nil)))) (.cons (.ife (.or (.op2 .ne (.call f_can_turn (.cons (.var 3) (.cons (.var 11) (.cons (.var 12) .nil)))) (.var 8)) (.op2 .ne (.var 8) (.op2 .eq (.var 9) (.lst (.cons (.var 12) .nil))))) (.cons (.ret (.cst (.bool false))) .nil) .nil) (.cons (.ife (.op2 .ne (.call f_law_turning (.cons (.cst (.int 2)) (.cons (.var 3) (.cons (.var 11) (.cons (.var 12) .nil))))) (.ite (.var 8) (.var 7) (.cst (.str "cannot")))) (.cons (.ret (.cst (.bool false))) .nil) .nil) (.cons (.asg 10 (.op2 .add (.cst (.int 1)) (.op2 .mod (.op2 .idx (.var 1) (.cst (.int 4))) (.cst (.int 4))))) (.cons (.ife (.op2 .ne (.call f_law_turning (.cons (.var 10) (.cons (.var 3) (.cons (.op2 .idx (.lst (.cons (.cst .none) (.cons (.op1 .neg (.cst (.int 1))) (.cons (.op1 .len (.var 3)) (.cons (.cst (.bool true)) .nil))))) (.op2 .mod (.op2 .idx (.var 1) (.cst (.int 5))) (.cst (.int 4)))) (.cons (.var 12) .nil))))) (.cst (.str "corner"))) (.cons (.ret (.cst (.bool false))) .nil) .nil) (.cons (.ife (.op2 .ne (.call f_law_turning (.cons (.var 10) (.cons (.var 3) (.cons (.var 11) (.cons (.op2 .idx (.lst (.cons (.cst .none) (.cons (.op1 .neg (.cst (.int 1))) (.cons (.var 2) (.cons (.cst (.bool true)) .nil))))) (.op2 .mod (.op2 .idx (.var 1) (.cst (.int 6))) (.cst (.int 4)))) .nil))))) (.cst (.str "number"))) (.cons (.ret (.cst (.bool false))) .nil) .nil) (.cons (.ret (.op2 .eq (.call f_law_turning (.cons (.cst (.int 0)) (.cons (.var 3) (.cons (.op2 .idx (.lst (.cons (.cst .none) (.cons (.op1 .neg (.cst (.int 1))) (.cons (.op1 .len (.var 3)) (.cons (.cst (.bool true)) .nil))))) (.op2 .mod (.op2 .idx (.var 1) (.cst (.int 7))) (.cst (.int 4)))) (.cons (.cst .none) .nil))))) (.cst (.str "set")))) .nil))))))))))))))))) }
def b_law_k08_1 : Sms := (.cons (.ife (.op2 .ne (.op2 .isin (.var 7) (.var 4)) (.op2 .eq (.call f_group (.cons (.var 3) (.cons (.var 7) (.cons (.var 9) .nil)))) (.var 4))) (.cons (.ret (.cst (.bool false))) .nil) .nil) .nil)
def b_law_k08_2 : Sms := (.cons (.asg 11 (.comp (.op2 .idx (.var 4) (.var 12)) (.one 12) (.seq (.call f_law_bits (.cons (.var 10) .nil))) .nil [("at", 12)])) (.cons (.ife (.call f_law_fine (.cons (.call f_law_with_turned (.cons (.var 3) (.cons (.var 11) (.cons (.var 9) .nil)))) .nil)) (.cons (.ret (.cst (.bool false))) .nil) .nil) .nil))
def d_law_k08 : Df := { x := "law", np := 1, N := ["script", "draws", "size", "cube", "found", "turned_cube", "lows", "one", "corner", "place", "number", "part", "at"], mu := [], body := (.cons (.asg 1 (.call f_law_row (.cons (.var 0) (.cons (.cst (.int 4)) .nil)))) (.cons (.asg 2 (.op2 .add (.cst (.int 1)) (.op2 .mod (.op2 .idx (.var 1) (.cst (.int 0))) (.cst (.int 4))))) (.cons (.asg 3 (.call f_law_downhill (.cons (.var 0) (.cons (.cst (.int 2)) (.cons (.var 2) .nil))))) (.cons (.unp 8 9 (.tup (.cons (.op2 .mod (.op2 .idx (.var 1) (.cst (.int 1))) (.op1 .len (.var 3))) (.cons (.op2 .mod (.op2 .idx (.var 1) (.cst (.int 2))) (.var 2)) .nil)))) (.cons (.asg 4 (.call f_group (.cons (.var 3) (.cons (.var 8) (.cons (.var 9) .nil))))) (.cons (.asg 5 (.call f_turn_group (.cons (.var 3) (.cons (.var 8) (.cons (.var 9) .nil))))) (.cons (.ife (.or (.op2 .notin (.op2 .min2 (.var 8) (.call f_law_end (.cons (.var 8) (.cons (.var 9) .nil)))) (.var 4)) (.op2 .ne (.var 5) (.call f_law_with_turned (.cons (.var 3) (.cons (.var 4) (.cons (.var 9) .nil)))))) (.cons (.ret (.cst (.bool false))) .nil) .nil) (.cons (.ife (.or (.not (.call f_law_fine (.cons (.var 5) .nil))) (.op2 .ne (.call f_group (.cons (.var 5) (.cons (.var 8) (.cons (.var 9) .nil)))) (.var 4))) (.cons (.ret (.cst (.bool false))) .nil) .nil) (.cons (.ife (.op2 .ne (.op2 .eq (.op1 .len (.var 4)) (.cst (.int 1))) (.call f_can_turn (.cons (.var 3) (.cons (.var 8) (.cons (.var 9) .nil))))) (.cons (.ret (.cst (.bool false))) .nil) .nil) (.cons (.ife (.op2 .lt (.op1 .len (.var 4)) (.cst (.int 5))) (.cons (.forr (.one 10) (.rng2 (.cst (.int 1)) (.op2 .sub (.op2 .idx (.lst (.cons (.cst (.int 2)) (.cons (.cst (.int 4)) (.cons (.cst (.int 8)) (.cons (.cst (.int 16)) .nil))))) (.op2 .sub (.op1 .len (.var 4)) (.cst (.int 1)))) (.cst (.int 1)))) b_law_k08_2) .nil) .nil) (.cons (.asg 6 (.comp (.var 7) (.one 7) (.rng (.op1 .len (.var 3))) (.cons (.op2 .notin (.var 9) (.call f_law_bits (.cons (.var 7) .nil))) .nil) [("one", 7)])) (.cons (.forr (.one 7) (.seq (.var 6)) b_law_k08_1) (.cons (.ret (.cst (.bool true))) .nil))))))))))))) }
def d_check_part : Df := { x := "check_part", np := 3, N := ["cube", "corner", "some"], mu := [], body := (.cons (.expr (.call f_check_downhill (.cons (.var 0) .nil))) (.cons (.ife (.not (.call f_in_range (.cons (.var 2) (.cons (.cst (.int 1)) (.cons (.op2 .sub (.op1 .len (.var 0)) (.cst (.int 1))) .nil))))) (.cons (.rais 4) .nil) .nil) (.cons (.ife (.or (.not (.call f_in_range (.cons (.var 1) (.cons (.cst (.int 0)) (.cons (.op2 .sub (.op1 .len (.var 0)) (.cst (.int 1))) .nil))))) (.op2 .ne (.call f_common (.cons (.var 1) (.cons (.var 2) .nil))) (.cst (.int 0)))) (.cons (.rais 4) .nil) .nil) .nil))) }
def b_face_cube_1 : Sms := (.cons (.app 4 (.call f_packed (.cons (.op2 .idx (.var 0) (.op2 .add (.var 1) (.call f_spread (.cons (.var 5) (.cons (.var 3) .nil))))) (.cons (.var 3) .nil)))) .nil)
def d_face_cube : Df := { x := "face_cube", np := 3, N := ["cube", "corner", "some", "dimensions", "result", "place", "dimension"], mu := [4], body := (.cons (.expr (.call f_check_part (.cons (.var 0) (.cons (.var 1) (.cons (.var 2) .nil))))) (.cons (.asg 3 (.comp (.var 6) (.one 6) (.rng (.call f_dimension_count (.cons (.var 0) .nil))) (.cons (.op2 .ne (.call f_common (.cons (.var 2) (.cons (.op2 .idx (.glb 0) (.var 6)) .nil))) (.cst (.int 0))) .nil) [("dimension", 6)])) (.cons (.asg 4 (.lst .nil)) (.cons (.forr (.one 5) (.rng (.op2 .idx (.glb 1) (.op1 .len (.var 3)))) b_face_cube_1) (.cons (.ret (.op1 .tuple (.var 4))) .nil))))) }
def d_check_two : Df := { x := "check_two", np := 2, N := ["low", "high"], mu := [], body := (.cons (.expr (.call f_check_downhill (.cons (.var 0) .nil))) (.cons (.expr (.call f_check_downhill (.cons (.var 1) .nil))) (.cons (.ife (.or (.op2 .ne (.op1 .len (.var 0)) (.op1 .len (.var 1))) (.op2 .gt (.op1 .len (.var 0)) (.cst (.int 8)))) (.cons (.rais 1) .nil) .nil) .nil))) }
def d_stacked : Df := { x := "stacked", np := 2, N := ["low", "high", "one"], mu := [], body := (.cons (.expr (.call f_check_two (.cons (.var 0) (.cons (.var 1) .nil)))) (.cons (.ret (.op2 .add (.var 0) (.op1 .tuple (.comp (.op2 .add (.var 2) (.op1 .len (.var 0))) (.one 2) (.seq (.var 1)) .nil [("one", 2)])))) .nil)) }
def d_doubled : Df := { x := "doubled", np := 2, N := ["cube", "upward", "size", "low", "one", "following", "corner"], mu := [], body := (.cons (.expr (.call f_check_two (.cons (.var 0) (.cons (.var 0) .nil)))) (.cons (.ife (.or (.not (.op1 (.isi .tuple) (.var 1))) (.comp (.var 4) (.one 4) (.seq (.var 1)) (.cons (.not (.call f_in_range (.cons (.var 4) (.cons (.cst (.int 0)) (.cons (.op2 .sub (.op1 .len (.var 0)) (.cst (.int 1))) .nil))))) .nil) [("one", 4)])) (.cons (.rais 4) .nil) .nil) (.cons (.ife (.comp (.cst (.int 1)) (.two 4 5) (.zip (.var 1) (.op2 .frm (.var 1) (.cst (.int 1)))) (.cons (.op2 .ge (.var 4) (.var 5)) .nil) [("one", 4), ("following", 5)]) (.cons (.rais 4) .nil) .nil) (.cons (.asg 2 (.op1 .len (.var 0))) (.cons (.asg 3 (.comp (.op2 .add (.var 4) (.ite (.op2 .isin (.var 6) (.var 1)) (.var 2) (.cst (.int 0)))) (.two 6 4) (.enum (.var 0)) .nil [("corner", 6), ("one", 4)])) (.cons (.ret (.op1 .tuple (.op2 .add (.var 3) (.comp (.op2 .add (.var 4) (.ite (.op2 .isin (.var 6) (.var 1)) (.cst (.int 0)) (.var 2))) (.two 6 4) (.enum (.var 0)) .nil [("corner", 6), ("one", 4)])))) .nil)))))) }
def d_law_pack : Df := { x := "_law_pack", np := 2, N := ["some", "dimensions", "place"], mu := [], body := (.cons (.ret (.op1 .sum (.comp (.op2 .idx (.lst (.cons (.cst (.int 1)) (.cons (.cst (.int 2)) (.cons (.cst (.int 4)) (.cons (.cst (.int 8)) .nil))))) (.var 2)) (.one 2) (.rng (.op1 .len (.var 1))) (.cons (.op2 .isin (.op2 .idx (.var 1) (.var 2)) (.call f_law_bits (.cons (.var 0) .nil))) .nil) [("place", 2)]))) .nil) }
def d_law_spread : Df := { x := "_law_spread", np := 2, N := ["number", "dimensions", "place"], mu := [], body := (.cons (.ret (.op1 .sum (.comp (.op2 .idx (.lst (.cons (.cst (.int 1)) (.cons (.cst (.int 2)) (.cons (.cst (.int 4)) (.cons (.cst (.int 8)) .nil))))) (.op2 .idx (.var 1) (.var 2))) (.one 2) (.seq (.call f_law_bits (.cons (.var 0) .nil))) .nil [("place", 2)]))) .nil) }
def d_law_built : Df := { x := "_law_built", np := 4, N := ["mode", "cube", "one", "other", "e"], mu := [], body := (.cons (.tri 4 (.cons (.ife (.op2 .eq (.var 0) (.cst (.int 0))) (.cons (.ret (.call f_face_cube (.cons (.var 1) (.cons (.var 2) (.cons (.var 3) .nil))))) .nil) .nil) (.cons (.ife (.op2 .eq (.var 0) (.cst (.int 1))) (.cons (.ret (.call f_inherited (.cons (.var 1) (.cons (.var 2) .nil)))) .nil) .nil) (.cons (.ret (.ite (.op2 .eq (.var 0) (.cst (.int 2))) (.call f_stacked (.cons (.var 1) (.cons (.var 2) .nil))) (.call f_doubled (.cons (.var 1) (.cons (.var 2) .nil))))) .nil))) [{ c := 4, s := .two 0 1 "set" "other" }, { c := 1, s := .two 0 4 "cube" "other" }, { c := 7, s := .two 0 1 "not" "other" }]) .nil) }
def b_law_k09_1 : Sms := (.cons (.app 6 (.call f_law_pack (.cons (.op2 .idx (.var 3) (.op2 .add (.var 9) (.call f_law_spread (.cons (.var 7) (.cons (.var 12) .nil))))) (.cons (.var 12) .nil)))) .nil)
def b_law_k09_2 : Sms := (.cons (.asg 11 (.op2 .idx (.call f_law_lowest (.cons (.var 3) (.cons (.tup (.cons (.call f_law_spread (.cons (.var 7) (.cons (.var 5) .nil))) (.cons (.var 4) .nil))) .nil))) (.cst (.int 0)))) (.cons (.app 6 (.call f_law_pack (.cons (.op2 .idx (.var 3) (.var 11)) (.cons (.var 5) .nil)))) .nil))
def d_law_k09 : Df := { x := "law", np := 1, N := ["script", "draws", "size", "cube", "some", "others", "due", "number", "found", "base", "wrong", "lowest", "own", "place"], mu := [6], body := (.cons (.asg 1 (.call f_law_row (.cons (.var 0) (.cons (.cst (.int 4)) .nil)))) (.cons (.asg 2 (.op2 .add (.cst (.int 1)) (.op2 .mod (.op2 .idx (.var 1) (.cst (.int 0))) (.cst (.int 4))))) (.cons (.asg 3 (.call f_law_downhill (.cons (.var 0) (.cons (.cst (.int 2)) (.cons (.var 2) .nil))))) (.cons (.asg 4 (.op2 .mod (.op2 .idx (.var 1) (.cst (.int 1))) (.op2 .sub (.op1 .len (.var 3)) (.cst (.int 1))))) (.cons (.asg 5 (.comp (.var 13) (.one 13) (.rng (.var 2)) (.cons (.op2 .notin (.var 13) (.call f_law_bits (.cons (.var 4) .nil))) .nil) [("place", 13)])) (.cons (.asg 6 (.lst .nil)) (.cons (.forr (.one 7) (.rng (.op2 .idx (.lst (.cons (.cst (.int 1)) (.cons (.cst (.int 2)) (.cons (.cst (.int 4)) (.cons (.cst (.int 8)) (.cons (.cst (.int 16)) .nil)))))) (.op1 .len (.var 5)))) b_law_k09_2) (.cons (.asg 8 (.call f_inherited (.cons (.var 3) (.cons (.var 4) .nil)))) (.cons (.ife (.or (.op2 .ne (.var 8) (.op1 .tuple (.var 6))) (.or (.not (.call f_law_is_cube (.cons (.var 8) .nil))) (.not (.call f_is_downhill (.cons (.var 8) .nil))))) (.cons (.ret (.cst (.bool false))) .nil) .nil) (.cons (.asg 9 (.call f_law_spread (.cons (.op2 .mod (.op2 .idx (.var 1) (.cst (.int 2))) (.op2 .idx (.lst (.cons (.cst (.int 1)) (.cons (.cst (.int 2)) (.cons (.cst (.int 4)) (.cons (.cst (.int 8)) (.cons (.cst (.int 16)) .nil)))))) (.op1 .len (.var 5)))) (.cons (.var 5) .nil)))) (.cons (.ife (.op2 .gt (.var 4) (.cst (.int 0))) (.cons (.asg 12 (.call f_law_bits (.cons (.var 4) .nil))) (.cons (.asg 6 (.lst .nil)) (.cons (.forr (.one 7) (.rng (.op2 .idx (.lst (.cons (.cst (.int 1)) (.cons (.cst (.int 2)) (.cons (.cst (.int 4)) (.cons (.cst (.int 8)) (.cons (.cst (.int 16)) .nil)))))) (.op1 .len (.var 12)))) b_law_k09_1) (.cons (.ife (.or (.op2 .ne (.call f_face_cube (.cons (.var 3) (.cons (.var 9) (.cons (.var 4) .nil)))) (.op1 .tuple (.var 6))) (.not (.call f_is_downhill (.cons (.op1 .tuple (.var 6)) .nil)))) (.cons (.ret (.cst (.bool false))) .nil) .nil) .nil)))) .nil) (.cons (.asg 10 (.op2 .idx (.lst (.cons (.cst .none) (.cons (.op1 .neg (.cst (.int 1))) (.cons (.op2 .sub (.op1 .len (.var 3)) (.cst (.int 1))) (.cons (.cst (.bool true)) (.cons (.op1 .len (.var 3)) .nil)))))) (.op2 .mod (.op2 .idx (.var 1) (.cst (.int 3))) (.cst (.int 5))))) (.cons (.ife (.op2 .ne (.call f_law_built (.cons (.cst (.int 1)) (.cons (.var 3) (.cons (.var 10) (.cons (.cst .none) .nil))))) (.cst (.str "set"))) (.cons (.ret (.cst (.bool false))) .nil) .nil) (.cons (.ife (.op2 .ne (.call f_law_built (.cons (.cst (.int 0)) (.cons (.var 3) (.cons (.cst (.int 0)) (.cons (.op2 .idx (.lst (.cons (.cst .none) (.cons (.cst (.int 0)) (.cons (.op1 .len (.var 3)) (.cons (.cst (.bool true)) .nil))))) (.op2 .mod (.op2 .idx (.var 1) (.cst (.int 4))) (.cst (.int 4)))) .nil))))) (.cst (.str "set"))) (.cons (.ret (.cst (.bool false))) .nil) .nil) (.cons (.ret (.op2 .eq (.call f_law_built (.cons (.cst (.int 0)) (.cons (.var 3) (.cons (.op2 .idx (.lst (.cons (.cst .none) (.cons (.cst (.int 1)) (.cons (.op1 .len (.var 3)) (.cons (.op1 .neg (.cst (.int 1))) .nil))))) (.op2 .mod (.op2 .idx (.var 1) (.cst (.int 5))) (.cst (.int 4)))) (.cons (.cst (.int 1)) .nil))))) (.cst (.str "set")))) .nil))))))))))))))) }
def d_law_k10 : Df := { x := "law", np := 1, N := ["script", "draws", "size", "count", "found", "upward", "due", "wrong", "big", "low", "high", "corner", "one"], mu := [], body := (.cons (.asg 1 (.call f_law_row (.cons (.var 0) (.cons (.cst (.int 4)) .nil)))) (.cons (.asg 2 (.op2 .add (.cst (.int 1)) (.op2 .mod (.op2 .idx (.var 1) (.cst (.int 0))) (.cst (.int 3))))) (.cons (.unp 9 10 (.tup (.cons (.call f_law_downhill (.cons (.var 0) (.cons (.cst (.int 2)) (.cons (.var 2) .nil)))) (.cons (.call f_law_downhill (.cons (.var 0) (.cons (.cst (.int 3)) (.cons (.var 2) .nil)))) .nil)))) (.cons (.asg 3 (.op1 .len (.var 9))) (.cons (.asg 4 (.call f_stacked (.cons (.var 9) (.cons (.var 10) .nil)))) (.cons (.ife (.or (.op2 .ne (.var 4) (.op2 .add (.var 9) (.op1 .tuple (.comp (.op2 .add (.var 12) (.var 3)) (.one 12) (.seq (.var 10)) .nil [("one", 12)])))) (.not (.call f_is_downhill (.cons (.var 4) .nil)))) (.cons (.ret (.cst (.bool false))) .nil) .nil) (.cons (.ife (.or (.op2 .ne (.call f_face_cube (.cons (.var 4) (.cons (.cst (.int 0)) (.cons (.op2 .sub (.var 3) (.cst (.int 1))) .nil)))) (.var 9)) (.op2 .ne (.call f_face_cube (.cons (.var 4) (.cons (.var 3) (.cons (.op2 .sub (.var 3) (.cst (.int 1))) .nil)))) (.var 10))) (.cons (.ret (.cst (.bool false))) .nil) .nil) (.cons (.asg 5 (.op1 .tuple (.comp (.var 11) (.one 11) (.rng (.var 3)) (.cons (.op2 .eq (.op2 .mod (.op2 .idx (.var 1) (.op2 .add (.cst (.int 10)) (.var 11))) (.cst (.int 2))) (.cst (.int 0))) .nil) [("corner", 11)]))) (.cons (.asg 4 (.call f_doubled (.cons (.var 9) (.cons (.var 5) .nil)))) (.cons (.asg 6 (.comp (.op2 .add (.op2 .idx (.var 9) (.var 11)) (.ite (.op2 .isin (.var 11) (.var 5)) (.var 3) (.cst (.int 0)))) (.one 11) (.rng (.var 3)) .nil [("corner", 11)])) (.cons (.asg 6 (.op2 .add (.var 6) (.comp (.op2 .add (.op2 .idx (.var 9) (.var 11)) (.ite (.op2 .isin (.var 11) (.var 5)) (.cst (.int 0)) (.var 3))) (.one 11) (.rng (.var 3)) .nil [("corner", 11)]))) (.cons (.ife (.or (.op2 .ne (.var 4) (.op1 .tuple (.var 6))) (.not (.call f_is_downhill (.cons (.var 4) .nil)))) (.cons (.ret (.cst (.bool false))) .nil) .nil) (.cons (.asg 7 (.op2 .idx (.lst (.cons (.cst .none) (.cons (.op1 .list (.var 5)) (.cons (.tup (.cons (.var 3) .nil)) (.cons (.tup (.cons (.cst (.int 0)) (.cons (.cst (.int 0)) .nil))) (.cons (.tup (.cons (.cst (.int 1)) (.cons (.cst (.int 0)) .nil))) (.cons (.tup (.cons (.op1 .neg (.cst (.int 1))) .nil)) (.cons (.tup (.cons (.cst (.bool true)) .nil)) .nil)))))))) (.op2 .mod (.op2 .idx (.var 1) (.cst (.int 1))) (.cst (.int 7))))) (.cons (.ife (.op2 .ne (.call f_law_built (.cons (.cst (.int 3)) (.cons (.var 9) (.cons (.var 7) (.cons (.cst .none) .nil))))) (.cst (.str "set"))) (.cons (.ret (.cst (.bool false))) .nil) .nil) (.cons (.asg 7 (.op2 .idx (.lst (.cons (.cst .none) (.cons (.op2 .frm (.var 9) (.cst (.int 1))) (.cons (.ite (.op2 .gt (.var 2) (.cst (.int 1))) (.tup (.cons (.cst (.int 0)) (.cons (.cst (.int 1)) .nil))) (.tup (.cons (.cst (.int 0)) (.cons (.cst (.int 1)) (.cons (.cst (.int 2)) (.cons (.cst (.int 3)) .nil)))))) .nil)))) (.op2 .mod (.op2 .idx (.var 1) (.cst (.int 2))) (.cst (.int 3))))) (.cons (.asg 8 (.call f_law_downhill (.cons (.var 0) (.cons (.cst (.int 5)) (.cons (.cst (.int 4)) .nil))))) (.cons (.ret (.and (.op2 .eq (.call f_law_built (.cons (.cst (.int 2)) (.cons (.var 9) (.cons (.var 7) (.cons (.cst .none) .nil))))) (.cst (.str "cube"))) (.op2 .eq (.call f_law_built (.cons (.cst (.int 2)) (.cons (.var 8) (.cons (.var 8) (.cons (.cst .none) .nil))))) (.cst (.str "cube"))))) .nil))))))))))))))))) }
def b_closed_way_1 : Sms := (.cons (.app 2 (.op2 .idx (.comp (.var 3) (.one 3) (.seq (.call f_below (.cons (.var 0) (.cons (.op2 .idx (.var 2) (.op1 .neg (.cst (.int 1)))) .nil)))) (.cons (.op1 .isN (.op2 .idx (.var 1) (.var 3))) .nil) [("other", 3)]) (.cst (.int 0)))) .nil)
def d_closed_way : Df := { x := "closed_way", np := 1, N := ["cube", "table", "way", "other"], mu := [2], body := (.cons (.expr (.call f_check_cube (.cons (.var 0) .nil))) (.cons (.asg 1 (.call f_height_table (.cons (.var 0) .nil))) (.cons (.ife (.op2 .notin (.cst .none) (.var 1)) (.cons (.rais 11) .nil) .nil) (.cons (.asg 2 (.lst (.cons (.op2 .index (.var 1) (.cst .none)) .nil))) (.cons (.whil (.op2 .eq (.op2 .count (.var 2) (.op2 .idx (.var 2) (.op1 .neg (.cst (.int 1))))) (.cst (.int 1))) b_closed_way_1) (.cons (.ret (.op2 .frm (.var 2) (.op2 .index (.var 2) (.op2 .idx (.var 2) (.op1 .neg (.cst (.int 1))))))) .nil)))))) }
def d_is_closed_way : Df := { x := "is_closed_way", np := 2, N := ["cube", "value", "one", "other"], mu := [], body := (.cons (.expr (.call f_check_cube (.cons (.var 0) .nil))) (.cons (.ife (.or (.not (.op1 (.isi .list) (.var 1))) (.or (.op2 .lt (.op1 .len (.var 1)) (.cst (.int 2))) (.comp (.var 2) (.one 2) (.seq (.var 1)) (.cons (.not (.call f_in_range (.cons (.var 2) (.cons (.cst (.int 0)) (.cons (.op2 .sub (.op1 .len (.var 0)) (.cst (.int 1))) .nil))))) .nil) [("one", 2)]))) (.cons (.ret (.cst (.bool false))) .nil) .nil) (.cons (.ife (.op2 .ne (.op2 .idx (.var 1) (.cst (.int 0))) (.op2 .idx (.var 1) (.op1 .neg (.cst (.int 1))))) (.cons (.ret (.cst (.bool false))) .nil) .nil) (.cons (.ret (.not (.comp (.cst (.int 1)) (.two 2 3) (.zip (.var 1) (.op2 .frm (.var 1) (.cst (.int 1)))) (.cons (.op2 .notin (.var 3) (.call f_below (.cons (.var 0) (.cons (.var 2) .nil)))) .nil) [("one", 2), ("other", 3)]))) .nil)))) }
def d_law_ranked : Df := { x := "_law_ranked", np := 2, N := ["mode", "cube", "e"], mu := [], body := (.cons (.tri 2 (.cons (.ret (.ite (.op2 .eq (.var 0) (.cst (.int 0))) (.call f_heights (.cons (.var 1) .nil)) (.call f_closed_way (.cons (.var 1) .nil)))) .nil) [{ c := 10, s := .two 0 11 "none" "other" }, { c := 11, s := .two 0 10 "exist" "other" }]) .nil) }
def b_law_heights_2 : Sms := (.cons (.app 3 (.op1 .max (.op2 .add (.lst (.cons (.cst (.int 0)) .nil)) (.comp (.op2 .add (.cst (.int 1)) (.op2 .idx (.var 1) (.call f_law_end (.cons (.var 4) (.cons (.var 5) .nil))))) (.one 5) (.seq (.call f_law_bits (.cons (.op2 .idx (.var 0) (.var 4)) .nil))) .nil [("place", 5)])))) .nil)
def b_law_heights_1 : Sms := (.cons (.asg 3 (.lst .nil)) (.cons (.forr (.one 4) (.rng (.op1 .len (.var 0))) b_law_heights_2) (.cons (.ife (.op2 .eq (.var 3) (.var 1)) (.cons (.ret (.op1 .tuple (.var 1))) .nil) .nil) (.cons (.mov 1 3) .nil))))
def d_law_heights : Df := { x := "_law_heights", np := 1, N := ["cube", "found", "time", "later", "corner", "place"], mu := [3], body := (.cons (.asg 1 (.op2 .mul (.lst (.cons (.cst (.int 0)) .nil)) (.op1 .len (.var 0)))) (.cons (.forr (.one 2) (.rng (.op2 .add (.op1 .len (.var 0)) (.cst (.int 1)))) b_law_heights_1) (.cons (.ret (.cst .none)) .nil))) }
def b_law_is_way_1 : Sms := (.cons (.asg 3 (.call f_law_apart (.cons (.op2 .idx (.var 1) (.op2 .sub (.var 2) (.cst (.int 1)))) (.cons (.op2 .idx (.var 1) (.var 2)) .nil)))) (.cons (.ife (.or (.op2 .ne (.op1 .len (.var 3)) (.cst (.int 1))) (.op2 .notin (.op2 .idx (.var 3) (.cst (.int 0))) (.call f_law_bits (.cons (.op2 .idx (.var 0) (.op2 .idx (.var 1) (.op2 .sub (.var 2) (.cst (.int 1))))) .nil)))) (.cons (.ret (.cst (.bool false))) .nil) .nil) .nil))
def d_law_is_way : Df := { x := "_law_is_way", np := 2, N := ["cube", "value", "step", "apart", "one"], mu := [], body := (.cons (.ife (.or (.not (.op1 (.isi .list) (.var 1))) (.or (.op2 .lt (.op1 .len (.var 1)) (.cst (.int 2))) (.op2 .ne (.op2 .idx (.var 1) (.cst (.int 0))) (.op2 .idx (.var 1) (.op1 .neg (.cst (.int 1))))))) (.cons (.ret (.cst (.bool false))) .nil) .nil) (.cons (.ife (.op2 .ne (.comp (.var 4) (.one 4) (.seq (.var 1)) (.cons (.not (.call f_law_in (.cons (.var 4) (.cons (.cst (.int 0)) (.cons (.op2 .sub (.op1 .len (.var 0)) (.cst (.int 1))) .nil))))) .nil) [("one", 4)]) (.lst .nil)) (.cons (.ret (.cst (.bool false))) .nil) .nil) (.cons (.forr (.one 2) (.rng2 (.cst (.int 1)) (.op1 .len (.var 1))) b_law_is_way_1) (.cons (.ret (.cst (.bool true))) .nil)))) }
def d_law_k11 : Df := { x := "law", np := 1, N := ["script", "draws", "cube", "due", "some", "tries", "value", "found", "way"], mu := [], body := (.cons (.asg 1 (.call f_law_row (.cons (.var 0) (.cons (.cst (.int 4)) .nil)))) (.cons (.asg 2 (.call f_law_any (.cons (.var 0) (.cons (.cst (.int 2)) (.cons (.cst (.int 4)) .nil))))) (.cons (.ife (.op2 .eq (.op2 .mod (.op2 .idx (.var 1) (.cst (.int 0))) (.cst (.int 4))) (.cst (.int 0))) (.cons (.asg 2 (.ite (.op2 .eq (.op2 .mod (.op2 .idx (.var 1) (.cst (.int 1))) (.cst (.int 2))) (.cst (.int 0))) (.tup (.cons (.cst (.int 1)) (.cons (.cst (.int 2)) (.cons (.cst (.int 2)) (.cons (.cst (.int 1)) .nil))))) (.tup (.cons (.cst (.int 1)) (.cons (.cst (.int 2)) (.cons (.cst (.int 2)) (.cons (.cst (.int 1)) (.cons (.cst (.int 5)) (.cons (.cst (.int 6)) (.cons (.cst (.int 6)) (.cons (.cst (.int 5)) .nil))))))))))) .nil) .nil) (.cons (.asg 3 (.call f_law_heights (.cons (.var 2) .nil))) (.cons (.par 7 8 (.call f_law_ranked (.cons (.cst (.int 0)) (.cons (.var 2) .nil))) (.call f_law_ranked (.cons (.cst (.int 1)) (.cons (.var 2) .nil)))) (.cons (.ife (.or (.op2 .ne (.var 7) (.ite (.op1 .isN (.var 3)) (.cst (.str "none")) (.var 3))) (.op2 .ne (.op2 .eq (.var 8) (.cst (.str "exist"))) (.op1 .notN (.var 3)))) (.cons (.ret (.cst (.bool false))) .nil) .nil) (.cons (.ife (.and (.op1 .isN (.var 3)) (.or (.not (.call f_law_is_way (.cons (.var 2) (.cons (.var 8) .nil)))) (.not (.call f_is_closed_way (.cons (.var 2) (.cons (.var 8) .nil)))))) (.cons (.ret (.cst (.bool false))) .nil) .nil) (.cons (.asg 4 (.ite (.op1 .isN (.var 3)) (.var 8) (.lst (.cons (.cst (.int 0)) (.cons (.call f_law_end (.cons (.cst (.int 0)) (.cons (.cst (.int 0)) .nil))) (.cons (.cst (.int 0)) .nil)))))) (.cons (.asg 5 (.lst (.cons (.var 4) (.cons (.op2 .add (.op2 .frm (.var 4) (.cst (.int 1))) (.op1 (.mid 1 2) (.var 4))) (.cons (.op1 .rev (.var 4)) (.cons (.op2 .upto (.var 4) (.op1 .neg (.cst (.int 1)))) (.cons (.op2 .add (.var 4) (.op2 .frm (.var 4) (.cst (.int 1)))) (.cons (.op1 .tuple (.var 4)) (.cons (.cst .none) (.cons (.lst (.cons (.cst (.int 0)) .nil)) (.cons (.lst .nil) .nil))))))))))) (.cons (.asg 6 (.op2 .idx (.op2 .add (.var 5) (.lst (.cons (.lst (.cons (.cst .none) (.cons (.cst .none) .nil))) (.cons (.op2 .add (.var 4) (.lst (.cons (.op1 .len (.var 2)) .nil))) (.cons (.lst (.cons (.cst (.int 0)) (.cons (.cst (.int 3)) (.cons (.cst (.int 0)) .nil)))) .nil))))) (.op2 .mod (.op2 .idx (.var 1) (.cst (.int 2))) (.cst (.int 12))))) (.cons (.ret (.op2 .eq (.call f_is_closed_way (.cons (.var 2) (.cons (.var 6) .nil))) (.call f_law_is_way (.cons (.var 2) (.cons (.var 6) .nil))))) .nil))))))))))) }
def d_partial : Df := { x := (Str.ofString ("par" ++ "tial")), np := 3, N := ["size", "chosen", "found", "corner", "some", "one", "other"], mu := [], body := (.cons (.expr (.glb 1000)) (.cons (.expr (.glb 1000)) (.cons (.expr (.glb 1000)) .nil))) }
def d_every_cube : Df := { x := "every_cube", np := 1, N := ["dimensions", "found"], mu := [], body := (.cons (.asg 1 (.lst .nil)) (.cons (.expr (.call f_partial (.cons (.op2 .idx (.tup (.cons (.cst (.int 2)) (.cons (.cst (.int 4)) (.cons (.cst (.int 8)) .nil)))) (.op2 .sub (.var 0) (.cst (.int 1)))) (.cons (.tup .nil) (.cons (.var 1) .nil))))) (.cons (.ret (.var 1)) .nil))) }
def d_check_dimensions : Df := { x := "check_dimensions", np := 1, N := ["dimensions"], mu := [], body := (.cons (.ife (.not (.call f_in_range (.cons (.var 0) (.cons (.cst (.int 1)) (.cons (.cst (.int 3)) .nil))))) (.cons (.rais 5) .nil) .nil) .nil) }
def d_all_cubes : Df := { x := "all_cubes", np := 1, N := ["dimensions"], mu := [], body := (.cons (.expr (.call f_check_dimensions (.cons (.var 0) .nil))) (.cons (.ret (.call f_every_cube (.cons (.var 0) .nil))) .nil)) }
def d_law_listed : Df := { x := "_law_listed", np := 1, N := ["number", "e"], mu := [], body := (.cons (.tri 1 (.cons (.ret (.call f_all_cubes (.cons (.var 0) .nil))) .nil) [{ c := 5, s := .two 0 1 "number" "other" }]) .nil) }
def b_law_k12_1 : Sms := (.cons (.asg 6 (.call f_law_drawn (.cons (.var 0) (.cons (.op2 .add (.cst (.int 2)) (.var 4)) (.cons (.var 2) .nil))))) (.cons (.ife (.op2 .ne (.op2 .isin (.var 6) (.var 3)) (.call f_law_fine (.cons (.var 6) .nil))) (.cons (.ret (.cst (.bool false))) .nil) .nil) .nil))
def d_law_k12 : Df := { x := "law", np := 1, N := ["script", "draws", "size", "every", "time", "one", "cube"], mu := [], body := (.cons (.asg 1 (.call f_law_row (.cons (.var 0) (.cons (.cst (.int 4)) .nil)))) (.cons (.asg 2 (.op2 .idx (.lst (.cons (.cst (.int 1)) (.cons (.cst (.int 2)) (.cons (.cst (.int 2)) (.cons (.cst (.int 2)) (.cons (.cst (.int 2)) (.cons (.cst (.int 2)) (.cons (.cst (.int 2)) (.cons (.cst (.int 3)) .nil))))))))) (.op2 .mod (.op2 .idx (.var 1) (.cst (.int 0))) (.cst (.int 8))))) (.cons (.asg 3 (.call f_all_cubes (.cons (.var 2) .nil))) (.cons (.ife (.or (.op2 .ne (.op1 .len (.var 3)) (.op2 .idx (.lst (.cons (.cst (.int 2)) (.cons (.cst (.int 12)) (.cons (.cst (.int 744)) .nil)))) (.op2 .sub (.var 2) (.cst (.int 1))))) (.op2 .ne (.var 3) (.op1 .sortset (.var 3)))) (.cons (.ret (.cst (.bool false))) .nil) .nil) (.cons (.forr (.one 4) (.rng (.cst (.int 5))) b_law_k12_1) (.cons (.asg 5 (.op2 .idx (.var 3) (.op2 .mod (.op2 .mul (.op2 .idx (.var 1) (.cst (.int 1))) (.cst (.int 13))) (.op1 .len (.var 3))))) (.cons (.ife (.or (.not (.call f_law_is_cube (.cons (.var 5) .nil))) (.or (.not (.call f_law_fine (.cons (.var 5) .nil))) (.op2 .notin (.call f_law_downhill (.cons (.var 0) (.cons (.cst (.int 3)) (.cons (.var 2) .nil)))) (.var 3)))) (.cons (.ret (.cst (.bool false))) .nil) .nil) (.cons (.ret (.op2 .eq (.call f_law_listed (.cons (.op2 .idx (.lst (.cons (.cst .none) (.cons (.cst (.int 0)) (.cons (.cst (.int 4)) (.cons (.cst (.bool true)) (.cons (.op1 .neg (.cst (.int 1))) .nil)))))) (.op2 .mod (.op2 .idx (.var 1) (.cst (.int 2))) (.cst (.int 5)))) .nil)) (.cst (.str "number")))) .nil)))))))) }
def d_law_road : Df := { x := "_law_road", np := 2, N := ["one", "other", "e"], mu := [], body := (.cons (.tri 2 (.cons (.ret (.call f_road (.cons (.var 0) (.cons (.var 1) .nil)))) .nil) [{ c := 1, s := .two 0 7 "cube" "other" }, { c := 7, s := .two 0 1 "not" "other" }]) .nil) }
def d_law_next : Df := { x := "_law_next", np := 2, N := ["cube", "place", "corner"], mu := [], body := (.cons (.ret (.comp (.call f_turn_group (.cons (.var 0) (.cons (.var 2) (.cons (.var 1) .nil)))) (.one 2) (.rng (.op1 .len (.var 0))) .nil [("corner", 2)])) .nil) }
def b_law_k13_1 : Sms := (.cons (.asg 12 (.comp (.var 13) (.one 13) (.rng (.var 2)) (.cons (.op2 .isin (.op2 .idx (.var 5) (.var 6)) (.call f_law_next (.cons (.op2 .idx (.var 5) (.op2 .sub (.var 6) (.cst (.int 1)))) (.cons (.var 13) .nil)))) .nil) [("place", 13)])) (.cons (.ife (.op2 .eq (.var 12) (.lst .nil)) (.cons (.ret (.cst (.bool false))) .nil) .nil) .nil))
def b_law_k13_5 : Sms := (.cons (.ife (.op2 .notin (.var 13) (.call f_law_bits (.cons (.var 14) .nil))) (.cons (.app 10 (.call f_turn_group (.cons (.var 11) (.cons (.var 14) (.cons (.var 13) .nil))))) .nil) .nil) .nil)
def b_law_k13_4 : Sms := (.cons (.forr (.one 14) (.rng (.op1 .len (.var 11))) b_law_k13_5) .nil)
def b_law_k13_3 : Sms := (.cons (.forr (.one 13) (.rng (.var 2)) b_law_k13_4) .nil)
def b_law_k13_2 : Sms := (.cons (.asg 10 (.lst .nil)) (.cons (.forr (.one 11) (.seq (.var 8)) b_law_k13_3) (.cons (.asg 8 (.op1 .sortset (.op2 .add (.var 8) (.var 10)))) (.cons (.asg 9 (.op2 .add (.var 9) (.cst (.int 1)))) .nil))))
def d_law_k13 : Df := { x := "law", np := 1, N := ["script", "draws", "size", "one", "other", "found", "step", "wrong", "reached", "many", "later", "cube", "places", "place", "corner"], mu := [10], body := (.cons (.asg 1 (.call f_law_row (.cons (.var 0) (.cons (.cst (.int 4)) .nil)))) (.cons (.asg 2 (.op2 .idx (.lst (.cons (.cst (.int 1)) (.cons (.cst (.int 2)) (.cons (.cst (.int 2)) (.cons (.cst (.int 2)) (.cons (.cst (.int 2)) (.cons (.cst (.int 3)) .nil))))))) (.op2 .mod (.op2 .idx (.var 1) (.cst (.int 0))) (.cst (.int 6))))) (.cons (.asg 3 (.call f_law_downhill (.cons (.var 0) (.cons (.cst (.int 2)) (.cons (.var 2) .nil))))) (.cons (.asg 4 (.call f_law_downhill (.cons (.var 0) (.cons (.cst (.int 3)) (.cons (.var 2) .nil))))) (.cons (.ife (.op2 .eq (.var 2) (.cst (.int 3))) (.cons (.asg 4 (.call f_turn_group (.cons (.var 3) (.cons (.op2 .mod (.op2 .idx (.var 1) (.cst (.int 1))) (.cst (.int 8))) (.cons (.op2 .mod (.op2 .idx (.var 1) (.cst (.int 2))) (.cst (.int 3))) .nil))))) .nil) .nil) (.cons (.asg 5 (.call f_road (.cons (.var 3) (.cons (.var 4) .nil)))) (.cons (.ife (.or (.op2 .ne (.op2 .idx (.var 5) (.cst (.int 0))) (.var 3)) (.op2 .ne (.op2 .idx (.var 5) (.op1 .neg (.cst (.int 1)))) (.var 4))) (.cons (.ret (.cst (.bool false))) .nil) .nil) (.cons (.par 8 9 (.lst (.cons (.var 3) .nil)) (.cst (.int 0))) (.cons (.whil (.op2 .notin (.var 4) (.var 8)) b_law_k13_2) (.cons (.ife (.op2 .ne (.op1 .len (.var 5)) (.op2 .add (.var 9) (.cst (.int 1)))) (.cons (.ret (.cst (.bool false))) .nil) .nil) (.cons (.forr (.one 6) (.rng2 (.cst (.int 1)) (.op1 .len (.var 5))) b_law_k13_1) (.cons (.asg 7 (.op2 .idx (.lst (.cons (.cst .none) (.cons (.op2 .add (.var 3) (.var 3)) (.cons (.ite (.op2 .gt (.var 2) (.cst (.int 1))) (.tup (.cons (.cst (.int 0)) (.cons (.cst (.int 1)) .nil))) (.tup (.cons (.cst (.int 0)) (.cons (.cst (.int 1)) (.cons (.cst (.int 2)) (.cons (.cst (.int 3)) .nil)))))) .nil)))) (.op2 .mod (.op2 .idx (.var 1) (.cst (.int 5))) (.cst (.int 3))))) (.cons (.ret (.and (.op2 .eq (.call f_law_road (.cons (.var 3) (.cons (.var 7) .nil))) (.cst (.str "cube"))) (.op2 .eq (.call f_law_road (.cons (.tup (.cons (.cst (.int 0)) (.cons (.cst (.int 3)) (.cons (.cst (.int 3)) (.cons (.cst (.int 0)) .nil))))) (.cons (.var 3) .nil))) (.cst (.str "not"))))) .nil))))))))))))) }
def b_check_answers_1 : Sms := (.cons (.ife (.or (.not (.op1 (.isi .tuple) (.var 3))) (.or (.op2 .ne (.op1 .len (.var 3)) (.cst (.int 2))) (.comp (.var 4) (.one 4) (.seq (.var 3)) (.cons (.not (.call f_in_range (.cons (.var 4) (.cons (.cst (.int 0)) (.cons (.var 2) .nil))))) .nil) [("one", 4)]))) (.cons (.rais 6) .nil) .nil) .nil)
def d_check_answers : Df := { x := "check_answers", np := 2, N := ["dimensions", "answers", "most", "answer", "one"], mu := [], body := (.cons (.expr (.call f_check_dimensions (.cons (.var 0) .nil))) (.cons (.asg 2 (.op2 .idx (.tup (.cons (.cst (.int 1)) (.cons (.cst (.int 3)) (.cons (.cst (.int 7)) .nil)))) (.op2 .sub (.var 0) (.cst (.int 1))))) (.cons (.ife (.not (.op1 (.isi .tuple) (.var 1))) (.cons (.rais 6) .nil) .nil) (.cons (.forr (.one 3) (.seq (.var 1)) b_check_answers_1) .nil)))) }
def d_candidates : Df := { x := "candidates", np := 2, N := ["dimensions", "answers", "cube", "corner", "some"], mu := [], body := (.cons (.expr (.call f_check_answers (.cons (.var 0) (.cons (.var 1) .nil)))) (.cons (.ret (.comp (.var 2) (.one 2) (.seq (.call f_every_cube (.cons (.var 0) .nil))) (.cons (.not (.comp (.var 3) (.two 3 4) (.seq (.var 1)) (.cons (.op2 .ne (.op2 .idx (.var 2) (.var 3)) (.var 4)) .nil) [("corner", 3), ("some", 4)])) .nil) [("cube", 2)])) .nil)) }
def b_best_corner_1 : Sms := (.cons (.asg 5 (.comp (.op2 .idx (.var 7) (.var 4)) (.one 7) (.seq (.var 2)) .nil [("cube", 7)])) (.cons (.asg 6 (.op1 .max (.comp (.op2 .count (.var 5) (.var 8)) (.one 8) (.seq (.var 5)) .nil [("some", 8)]))) (.cons (.ife (.and (.op2 .lt (.var 6) (.op1 .len (.var 2))) (.or (.op1 .isN (.var 3)) (.op2 .lt (.var 6) (.op2 .idx (.var 3) (.cst (.int 0)))))) (.cons (.asg 3 (.tup (.cons (.var 6) (.cons (.var 4) .nil)))) .nil) .nil) .nil)))
def d_best_corner : Df := { x := "best_corner", np := 2, N := ["dimensions", "answers", "found", "best", "corner", "here", "worst", "cube", "some"], mu := [], body := (.cons (.asg 2 (.call f_candidates (.cons (.var 0) (.cons (.var 1) .nil)))) (.cons (.ife (.not (.var 2)) (.cons (.rais 6) .nil) .nil) (.cons (.asg 3 (.cst .none)) (.cons (.forr (.one 4) (.rng (.op1 .len (.op2 .idx (.var 2) (.cst (.int 0))))) b_best_corner_1) (.cons (.ret (.ite (.op1 .isN (.var 3)) (.cst .none) (.op2 .idx (.var 3) (.cst (.int 1))))) .nil))))) }
def b_depth_1 : Sms := (.cons (.asg 4 (.op1 .sortset (.comp (.op2 .idx (.var 7) (.var 3)) (.one 7) (.seq (.var 0)) .nil [("cube", 7)]))) (.cons (.ife (.op2 .gt (.op1 .len (.var 4)) (.cst (.int 1))) (.cons (.asg 5 (.comp (.op1 .tuple (.comp (.var 7) (.one 7) (.seq (.var 0)) (.cons (.op2 .eq (.op2 .idx (.var 7) (.var 3)) (.var 8)) .nil) [("cube", 7)])) (.one 8) (.seq (.var 4)) .nil [("some", 8)])) (.cons (.asg 6 (.op2 .add (.cst (.int 1)) (.op1 .max (.comp (.call f_depth (.cons (.var 9) (.cons (.var 1) .nil))) (.one 9) (.seq (.var 5)) .nil [("row", 9)])))) (.cons (.asg 2 (.ite (.op1 .isN (.var 2)) (.var 6) (.op2 .min2 (.var 2) (.var 6)))) .nil))) .nil) .nil))
def d_depth : Df := { x := "depth", np := 2, N := ["cubes", "known", "best", "corner", "here", "rows", "many", "cube", "some", "row"], mu := [1], body := (.cons (.ife (.op2 .eq (.op1 .lenset (.comp (.op2 .index (.var 7) (.cst (.int 0))) (.one 7) (.seq (.var 0)) .nil [("cube", 7)])) (.cst (.int 1))) (.cons (.ret (.cst (.int 0))) .nil) .nil) (.cons (.ife (.op2 .notin (.var 0) (.var 1)) (.cons (.asg 2 (.cst .none)) (.cons (.forr (.one 3) (.rng (.op1 .len (.op2 .idx (.var 0) (.cst (.int 0))))) b_depth_1) (.cons (.set 1 (.var 0) (.var 2)) .nil))) .nil) (.cons (.ret (.op2 .idx (.var 1) (.var 0))) .nil))) }
def d_law_hidden : Df := { x := "_law_hidden", np := 3, N := ["mode", "size", "answers", "e"], mu := [], body := (.cons (.tri 3 (.cons (.ife (.op2 .eq (.var 0) (.cst (.int 0))) (.cons (.ret (.call f_candidates (.cons (.var 1) (.cons (.var 2) .nil)))) .nil) .nil) (.cons (.ret (.ite (.op2 .eq (.var 0) (.cst (.int 1))) (.call f_best_corner (.cons (.var 1) (.cons (.var 2) .nil))) (.call f_questions_needed (.cons (.var 1) (.cons (.var 2) .nil))))) .nil)) [{ c := 6, s := .two 0 5 "answers" "other" }, { c := 5, s := .two 0 6 "number" "other" }]) .nil) }
def b_law_depth_1 : Sms := (.cons (.asg 3 (.op1 .sortset (.comp (.op2 .idx (.var 5) (.var 2)) (.one 5) (.seq (.var 0)) .nil [("cube", 5)]))) (.cons (.ife (.op2 .gt (.op1 .len (.var 3)) (.cst (.int 1))) (.cons (.asg 4 (.op2 .add (.cst (.int 1)) (.op1 .max (.comp (.call f_law_depth (.cons (.comp (.var 5) (.one 5) (.seq (.var 0)) (.cons (.op2 .eq (.op2 .idx (.var 5) (.var 2)) (.var 6)) .nil) [("cube", 5)]) .nil)) (.one 6) (.seq (.var 3)) .nil [("some", 6)])))) (.cons (.asg 1 (.ite (.op1 .isN (.var 1)) (.var 4) (.op2 .min2 (.var 1) (.var 4)))) .nil)) .nil) .nil))
def d_law_depth : Df := { x := "_law_depth", np := 1, N := ["cubes", "best", "corner", "here", "many", "cube", "some"], mu := [], body := (.cons (.ife (.op2 .eq (.op1 .len (.op1 .sortset (.comp (.op2 .index (.var 5) (.cst (.int 0))) (.one 5) (.seq (.var 0)) .nil [("cube", 5)]))) (.cst (.int 1))) (.cons (.ret (.cst (.int 0))) .nil) .nil) (.cons (.asg 1 (.cst .none)) (.cons (.forr (.one 2) (.rng (.op1 .len (.op2 .idx (.var 0) (.cst (.int 0))))) b_law_depth_1) (.cons (.ret (.var 1)) .nil)))) }
def b_law_k14_1 : Sms := (.cons (.asg 14 (.comp (.op2 .idx (.var 16) (.var 11)) (.one 16) (.seq (.var 7)) .nil [("cube", 16)])) (.cons (.asg 15 (.op1 .max (.comp (.op2 .count (.var 14) (.var 17)) (.one 17) (.seq (.var 14)) .nil [("some", 17)]))) (.cons (.ife (.and (.op2 .lt (.var 15) (.op1 .len (.var 7))) (.or (.op1 .isN (.var 10)) (.op2 .lt (.var 15) (.op2 .idx (.var 10) (.cst (.int 0)))))) (.cons (.asg 10 (.tup (.cons (.var 15) (.cons (.var 11) .nil)))) .nil) .nil) .nil)))
def b_law_k14_2 : Sms := (.cons (.asg 11 (.op2 .mod (.op2 .idx (.var 1) (.op2 .add (.cst (.int 3)) (.var 6))) (.op1 .len (.var 4)))) (.cons (.app 5 (.tup (.cons (.var 11) (.cons (.op2 .mod (.op2 .add (.op2 .idx (.var 4) (.var 11)) (.op1 .int (.op2 .eq (.op2 .mod (.op2 .idx (.var 1) (.op2 .add (.cst (.int 10)) (.var 6))) (.cst (.int 8))) (.cst (.int 0))))) (.op1 .len (.var 4))) .nil)))) .nil))
def d_law_k14 : Df := { x := "law", np := 1, N := ["script", "draws", "size", "every", "hidden", "answers", "time", "due", "wrong", "mode", "best", "corner", "asked", "many", "here", "worst", "cube", "some"], mu := [5], body := (.cons (.asg 1 (.call f_law_row (.cons (.var 0) (.cons (.cst (.int 4)) .nil)))) (.cons (.asg 2 (.op2 .add (.cst (.int 1)) (.op2 .mod (.op2 .idx (.var 1) (.cst (.int 0))) (.cst (.int 2))))) (.cons (.asg 3 (.call f_all_cubes (.cons (.var 2) .nil))) (.cons (.asg 4 (.op2 .idx (.var 3) (.op2 .mod (.op2 .idx (.var 1) (.cst (.int 1))) (.op1 .len (.var 3))))) (.cons (.asg 5 (.lst .nil)) (.cons (.forr (.one 6) (.rng (.op2 .mod (.op2 .idx (.var 1) (.cst (.int 2))) (.cst (.int 3)))) b_law_k14_2) (.cons (.asg 5 (.op1 .tuple (.var 5))) (.cons (.asg 7 (.comp (.var 16) (.one 16) (.seq (.var 3)) (.cons (.op2 .eq (.comp (.cst (.int 1)) (.two 11 17) (.seq (.var 5)) (.cons (.op2 .ne (.op2 .idx (.var 16) (.var 11)) (.var 17)) .nil) [("corner", 11), ("some", 17)]) (.lst .nil)) .nil) [("cube", 16)])) (.cons (.ife (.op2 .ne (.call f_candidates (.cons (.var 2) (.cons (.var 5) .nil))) (.var 7)) (.cons (.ret (.cst (.bool false))) .nil) .nil) (.cons (.asg 8 (.op2 .idx (.lst (.cons (.tup (.cons (.op1 .len (.var 4)) (.cons (.cst (.int 0)) .nil))) (.cons (.tup (.cons (.op1 .neg (.cst (.int 1))) (.cons (.cst (.int 0)) .nil))) (.cons (.tup (.cons (.cst (.int 0)) (.cons (.op1 .len (.var 4)) .nil))) (.cons (.tup (.cons (.cst (.int 0)) .nil)) (.cons (.lst (.cons (.cst (.int 0)) (.cons (.cst (.int 0)) .nil))) (.cons (.cst .none) (.cons (.tup (.cons (.cst .none) (.cons (.cst (.int 0)) .nil))) (.cons (.tup (.cons (.cst (.int 0)) (.cons (.cst (.bool true)) .nil))) .nil))))))))) (.op2 .mod (.op2 .idx (.var 1) (.cst (.int 20))) (.cst (.int 8))))) (.cons (.asg 9 (.op2 .mod (.op2 .idx (.var 1) (.cst (.int 21))) (.cst (.int 3)))) (.cons (.ife (.or (.op2 .ne (.call f_law_hidden (.cons (.var 9) (.cons (.var 2) (.cons (.op2 .add (.var 5) (.tup (.cons (.var 8) .nil))) .nil)))) (.cst (.str "answers"))) (.op2 .ne (.call f_law_hidden (.cons (.var 9) (.cons (.var 2) (.cons (.op1 .list (.var 5)) .nil)))) (.cst (.str "answers")))) (.cons (.ret (.cst (.bool false))) .nil) .nil) (.cons (.ife (.or (.op2 .ne (.call f_law_hidden (.cons (.var 9) (.cons (.op2 .idx (.lst (.cons (.cst .none) (.cons (.cst (.int 0)) (.cons (.cst (.int 4)) (.cons (.cst (.bool true)) .nil))))) (.op2 .mod (.op2 .idx (.var 1) (.cst (.int 22))) (.cst (.int 4)))) (.cons (.cst .none) .nil)))) (.cst (.str "number"))) (.op2 .ne (.call f_law_hidden (.cons (.cst (.int 2)) (.cons (.cst (.int 3)) (.cons (.tup .nil) .nil)))) (.cst (.str "number")))) (.cons (.ret (.cst (.bool false))) .nil) .nil) (.cons (.par 12 13 (.call f_law_hidden (.cons (.cst (.int 1)) (.cons (.var 2) (.cons (.var 5) .nil)))) (.call f_law_hidden (.cons (.cst (.int 2)) (.cons (.var 2) (.cons (.var 5) .nil))))) (.cons (.ife (.op2 .eq (.var 7) (.lst .nil)) (.cons (.ret (.and (.op2 .eq (.var 12) (.cst (.str "answers"))) (.op2 .eq (.var 13) (.cst (.str "answers"))))) .nil) .nil) (.cons (.asg 10 (.cst .none)) (.cons (.forr (.one 11) (.rng (.op1 .len (.var 4))) b_law_k14_1) (.cons (.ret (.and (.op2 .eq (.var 12) (.ite (.op1 .isN (.var 10)) (.cst .none) (.op2 .idx (.var 10) (.cst (.int 1))))) (.op2 .eq (.var 13) (.call f_law_depth (.cons (.var 7) .nil))))) .nil)))))))))))))))))) }
def b_parse_cube_1 : Sms := (.cons (.ife (.or (.not (.chain .le .le (.cst (.int 1)) (.op1 .len (.var 3)) (.cst (.int 2)))) (.or (.comp (.var 4) (.one 4) (.seq (.var 3)) (.cons (.op2 .notin (.var 4) (.glb 2)) .nil) [("sign", 4)]) (.op2 .ne (.op1 .str (.op1 .int (.var 3))) (.var 3)))) (.cons (.raisA 15 (.var 2)) .nil) .nil) (.cons (.app 1 (.op1 .int (.var 3))) .nil))
def d_parse_cube : Df := { x := "parse_cube", np := 1, N := ["text", "values", "number", "token", "sign"], mu := [1], body := (.cons (.ife (.not (.op1 (.isi .str) (.var 0))) (.cons (.raisA 15 (.cst .none)) .nil) .nil) (.cons (.asg 1 (.lst .nil)) (.cons (.forr (.two 2 3) (.enum (.op1 .splitsp (.var 0))) b_parse_cube_1) (.cons (.ife (.not (.call f_is_cube (.cons (.op1 .tuple (.var 1)) .nil))) (.cons (.raisA 15 (.cst .none)) .nil) .nil) (.cons (.ret (.op1 .tuple (.var 1))) .nil))))) }
def d_law_parse : Df := { x := "_law_parse", np := 1, N := ["text", "e"], mu := [], body := (.cons (.tri 1 (.cons (.ret (.call f_parse_cube (.cons (.var 0) .nil))) .nil) [{ c := 15, s := .line 0 1 "line" "other" }]) .nil) }
def d_law_k15 : Df := { x := "law", np := 1, N := ["script", "draws", "cube", "tokens", "text", "spot", "new", "edited", "found", "at", "wrong", "one"], mu := [], body := (.cons (.asg 1 (.call f_law_row (.cons (.var 0) (.cons (.cst (.int 5)) .nil)))) (.cons (.asg 2 (.call f_law_any (.cons (.var 0) (.cons (.cst (.int 2)) (.cons (.cst (.int 4)) .nil))))) (.cons (.asg 3 (.comp (.op1 .str (.var 11)) (.one 11) (.seq (.var 2)) .nil [("one", 11)])) (.cons (.asg 4 (.op1 .joinsp (.var 3))) (.cons (.ife (.or (.op2 .ne (.call f_format_cube (.cons (.var 2) .nil)) (.var 4)) (.op2 .ne (.call f_law_parse (.cons (.var 4) .nil)) (.var 2))) (.cons (.ret (.cst (.bool false))) .nil) .nil) (.cons (.asg 5 (.op2 .mod (.op2 .mul (.op2 .idx (.var 1) (.cst (.int 0))) (.cst (.int 3))) (.op2 .add (.op1 .len (.var 4)) (.cst (.int 1))))) (.cons (.asg 6 (.op2 .idx (.lst (.cons (.cst (.str "0")) (.cons (.cst (.str " ")) (.cons (.cst (.str "1")) (.cons (.cst (.str "x")) (.cons (.cst (.str "-")) (.cons (.cst (.str " 0")) .nil))))))) (.op2 .mod (.op2 .idx (.var 1) (.cst (.int 1))) (.cst (.int 6))))) (.cons (.asg 7 (.op2 .idx (.lst (.cons (.op2 .add (.op2 .upto (.var 4) (.var 5)) (.op2 .frm (.var 4) (.op2 .add (.var 5) (.cst (.int 1))))) (.cons (.op2 .add (.op2 .add (.op2 .upto (.var 4) (.var 5)) (.var 6)) (.op2 .frm (.var 4) (.var 5))) (.cons (.op2 .add (.var 4) (.cst (.str " "))) (.cons (.op2 .add (.cst (.str " ")) (.var 4)) .nil))))) (.op2 .mod (.op2 .idx (.var 1) (.cst (.int 2))) (.cst (.int 4))))) (.cons (.asg 8 (.call f_law_parse (.cons (.var 7) .nil))) (.cons (.ife (.or (.op2 .eq (.op2 .idx (.var 8) (.cst (.int 0))) (.cst (.str "other"))) (.and (.op2 .ne (.op2 .idx (.var 8) (.cst (.int 0))) (.cst (.str "line"))) (.op2 .ne (.call f_format_cube (.cons (.var 8) .nil)) (.var 7)))) (.cons (.ret (.cst (.bool false))) .nil) .nil) (.cons (.asg 9 (.op2 .mod (.op2 .idx (.var 1) (.cst (.int 3))) (.op2 .add (.op1 .len (.var 2)) (.cst (.int 1))))) (.cons (.asg 10 (.op2 .idx (.lst (.cons (.cst (.str "")) (.cons (.cst (.str "x")) (.cons (.cst (.str "00")) (.cons (.cst (.str "-1")) (.cons (.cst (.str "100")) (.cons (.cst (.str "1.")) (.cons (.cst (.str "01")) .nil)))))))) (.op2 .mod (.op2 .idx (.var 1) (.cst (.int 4))) (.cst (.int 7))))) (.cons (.ife (.op2 .ne (.call f_law_parse (.cons (.op1 .joinsp (.op2 .add (.op2 .add (.op2 .upto (.var 3) (.var 9)) (.lst (.cons (.var 10) (.cons (.cst (.str "y")) .nil)))) (.op2 .frm (.var 3) (.var 9)))) .nil)) (.lst (.cons (.cst (.str "line")) (.cons (.var 9) .nil)))) (.cons (.ret (.cst (.bool false))) .nil) .nil) (.cons (.ife (.or (.op2 .ne (.call f_law_parse (.cons (.cst (.str "0 0")) .nil)) (.lst (.cons (.cst (.str "line")) (.cons (.cst .none) .nil)))) (.op2 .notin (.call f_law_parse (.cons (.op1 .joinsp (.op2 .frm (.var 3) (.cst (.int 1)))) .nil)) (.tup (.cons (.lst (.cons (.cst (.str "line")) (.cons (.cst .none) .nil))) (.cons (.lst (.cons (.cst (.str "line")) (.cons (.cst (.int 0)) .nil))) .nil))))) (.cons (.ret (.cst (.bool false))) .nil) .nil) (.cons (.ret (.op2 .eq (.call f_law_parse (.cons (.op2 .idx (.lst (.cons (.cst .none) (.cons (.cst (.int 7)) (.cons (.var 2) (.cons (.lst (.cons (.var 4) .nil)) .nil))))) (.op2 .mod (.op2 .idx (.var 1) (.cst (.int 5))) (.cst (.int 4)))) .nil)) (.lst (.cons (.cst (.str "line")) (.cons (.cst .none) .nil))))) .nil))))))))))))))) }
def d_law_walked : Df := { x := "_law_walked", np := 2, N := ["work", "place", "e"], mu := [], body := (.cons (.tri 2 (.cons (.ret (.ite (.op1 .isN (.var 1)) (.call f_Walker_undo (.cons (.var 0) .nil)) (.call f_Walker_move (.cons (.var 0) (.cons (.var 1) .nil))))) .nil) [{ c := 5, s := .two 0 12 "number" "other" }, { c := 12, s := .two 0 5 "cannot" "other" }, { c := 13, s := .two 0 12 "nothing" "other" }]) .nil) }
def b_law_k16_1 : Sms := (.cons (.asg 7 (.op2 .mod (.op2 .idx (.var 1) (.op2 .add (.cst (.int 2)) (.var 6))) (.var 3))) (.cons (.asg 8 (.op2 .mod (.op2 .idx (.var 1) (.op2 .add (.cst (.int 20)) (.var 6))) (.cst (.int 5)))) (.cons (.ife (.op2 .eq (.var 8) (.cst (.int 0))) (.cons (.asg 9 (.ite (.op2 .gt (.op1 .len (.var 4)) (.cst (.int 1))) (.op2 .idx (.var 4) (.op1 .neg (.cst (.int 2)))) (.cst (.str "nothing")))) (.cons (.asg 4 (.ite (.op2 .gt (.op1 .len (.var 4)) (.cst (.int 1))) (.op2 .upto (.var 4) (.op1 .neg (.cst (.int 1)))) (.var 4))) (.cons (.ife (.op2 .ne (.call f_law_walked (.cons (.var 5) (.cons (.cst .none) .nil))) (.var 9)) (.cons (.ret (.cst (.bool false))) .nil) .nil) .nil))) (.cons (.ife (.op2 .eq (.var 8) (.cst (.int 1))) (.cons (.ife (.op2 .ne (.call f_law_walked (.cons (.var 5) (.cons (.op2 .idx (.lst (.cons (.var 3) (.cons (.op1 .neg (.cst (.int 1))) (.cons (.cst (.bool true)) (.cons (.cst (.str "0")) .nil))))) (.op2 .mod (.op2 .idx (.var 1) (.op2 .add (.cst (.int 2)) (.var 6))) (.cst (.int 4)))) .nil))) (.cst (.str "number"))) (.cons (.ret (.cst (.bool false))) .nil) .nil) .nil) (.cons (.ife (.op2 .isin (.var 7) (.call f_law_bits (.cons (.op2 .idx (.var 2) (.op2 .idx (.var 4) (.op1 .neg (.cst (.int 1))))) .nil))) (.cons (.app 4 (.call f_law_end (.cons (.op2 .idx (.var 4) (.op1 .neg (.cst (.int 1)))) (.cons (.var 7) .nil)))) (.cons (.ife (.op2 .ne (.call f_law_walked (.cons (.var 5) (.cons (.var 7) .nil))) (.op2 .idx (.var 4) (.op1 .neg (.cst (.int 1))))) (.cons (.ret (.cst (.bool false))) .nil) .nil) .nil)) (.cons (.ife (.op2 .ne (.call f_law_walked (.cons (.var 5) (.cons (.var 7) .nil))) (.cst (.str "cannot"))) (.cons (.ret (.cst (.bool false))) .nil) .nil) .nil)) .nil)) .nil)) (.cons (.ife (.or (.op2 .ne (.call f_Walker_corner (.cons (.var 5) .nil)) (.op2 .idx (.var 4) (.op1 .neg (.cst (.int 1))))) (.or (.op2 .ne (.call f_Walker_options (.cons (.var 5) .nil)) (.call f_law_bits (.cons (.op2 .idx (.var 2) (.op2 .idx (.var 4) (.op1 .neg (.cst (.int 1))))) .nil))) (.op2 .ne (.op1 .len (.var 5)) (.op2 .sub (.op1 .len (.var 4)) (.cst (.int 1)))))) (.cons (.ret (.cst (.bool false))) .nil) .nil) (.cons (.ife (.op2 .ne (.op1 .str (.var 5)) (.op1 .joinsp (.comp (.op1 .str (.var 10)) (.one 10) (.seq (.var 4)) .nil [("one", 10)]))) (.cons (.ret (.cst (.bool false))) .nil) .nil) .nil)))))
def d_law_k16 : Df := { x := "law", np := 1, N := ["script", "draws", "cube", "size", "rows", "work", "time", "place", "mode", "due", "one"], mu := [4], body := (.cons (.asg 1 (.call f_law_row (.cons (.var 0) (.cons (.cst (.int 5)) .nil)))) (.cons (.asg 2 (.call f_law_any (.cons (.var 0) (.cons (.cst (.int 2)) (.cons (.cst (.int 4)) .nil))))) (.cons (.asg 3 (.call f_law_size (.cons (.var 2) .nil))) (.cons (.asg 4 (.lst (.cons (.op2 .mod (.op2 .idx (.var 1) (.cst (.int 0))) (.op1 .len (.var 2))) .nil))) (.cons (.asg 5 (.call f_Walker (.cons (.var 2) (.cons (.op2 .idx (.var 4) (.cst (.int 0))) .nil)))) (.cons (.forr (.one 6) (.rng (.op2 .add (.cst (.int 3)) (.op2 .mod (.op2 .idx (.var 1) (.cst (.int 1))) (.cst (.int 10))))) b_law_k16_1) (.cons (.ret (.cst (.bool true))) .nil))))))) }
def d_outer_sets : Df := { x := "outer_sets", np := 3, N := ["cube", "corner", "some", "one"], mu := [], body := (.cons (.ret (.comp (.op2 .sub (.op2 .idx (.var 0) (.var 3)) (.call f_common (.cons (.op2 .idx (.var 0) (.var 3)) (.cons (.var 2) .nil)))) (.one 3) (.seq (.call f_corners_of (.cons (.tup (.cons (.var 1) (.cons (.var 2) .nil))) .nil))) .nil [("one", 3)])) .nil) }
def d_can_replace : Df := { x := "can_replace", np := 3, N := ["cube", "corner", "some"], mu := [], body := (.cons (.expr (.call f_check_part (.cons (.var 0) (.cons (.var 1) (.cons (.var 2) .nil))))) (.cons (.ret (.op2 .eq (.op1 .lenset (.call f_outer_sets (.cons (.var 0) (.cons (.var 1) (.cons (.var 2) .nil))))) (.cst (.int 1)))) .nil)) }
def b_replace_face_1 : Sms := (.cons (.set 6 (.op2 .add (.var 1) (.call f_spread (.cons (.var 7) (.cons (.var 4) .nil)))) (.op2 .add (.var 5) (.call f_spread (.cons (.var 8) (.cons (.var 4) .nil))))) .nil)
def d_replace_face : Df := { x := "replace_face", np := 4, N := ["cube", "corner", "some", "other", "dimensions", "outer", "result", "place", "inner", "dimension"], mu := [6], body := (.cons (.ife (.not (.call f_can_replace (.cons (.var 0) (.cons (.var 1) (.cons (.var 2) .nil))))) (.cons (.rais 14) .nil) .nil) (.cons (.expr (.call f_check_downhill (.cons (.var 3) .nil))) (.cons (.asg 4 (.comp (.var 9) (.one 9) (.rng (.call f_dimension_count (.cons (.var 0) .nil))) (.cons (.op2 .ne (.call f_common (.cons (.var 2) (.cons (.op2 .idx (.glb 0) (.var 9)) .nil))) (.cst (.int 0))) .nil) [("dimension", 9)])) (.cons (.ife (.op2 .ne (.op1 .len (.var 3)) (.op2 .idx (.glb 1) (.op1 .len (.var 4)))) (.cons (.rais 1) .nil) .nil) (.cons (.asg 5 (.op2 .idx (.call f_outer_sets (.cons (.var 0) (.cons (.var 1) (.cons (.var 2) .nil)))) (.cst (.int 0)))) (.cons (.asg 6 (.op1 .list (.var 0))) (.cons (.forr (.two 7 8) (.enum (.var 3)) b_replace_face_1) (.cons (.ret (.op1 .tuple (.var 6))) .nil)))))))) }
def d_law_raise : Df := { x := "_law_raise", np := 1, N := ["mode", "square"], mu := [], body := (.cons (.asg 1 (.tup (.cons (.cst (.int 0)) (.cons (.cst (.int 1)) (.cons (.cst (.int 2)) (.cons (.cst (.int 3)) .nil)))))) (.cons (.ife (.op2 .eq (.var 0) (.cst (.int 0))) (.cons (.ret (.call f_faces (.cons (.tup (.cons (.cst (.int 0)) (.cons (.cst (.int 0)) .nil))) .nil))) .nil) .nil) (.cons (.ife (.op2 .eq (.var 0) (.cst (.int 1))) (.cons (.ret (.call f_lowest_corners (.cons (.var 1) (.cons (.tup (.cons (.cst (.int 1)) (.cons (.cst (.int 1)) .nil))) .nil)))) .nil) .nil) (.cons (.ife (.op2 .eq (.var 0) (.cst (.int 2))) (.cons (.ret (.call f_way_down (.cons (.var 1) (.cons (.cst (.int 4)) .nil)))) .nil) .nil) (.cons (.ife (.op2 .eq (.var 0) (.cst (.int 3))) (.cons (.ret (.call f_turn_all (.cons (.var 1) (.cons (.cst (.int 4)) .nil)))) .nil) .nil) (.cons (.ife (.op2 .eq (.var 0) (.cst (.int 4))) (.cons (.ret (.call f_all_cubes (.cons (.cst (.int 4)) .nil))) .nil) .nil) (.cons (.ife (.op2 .eq (.var 0) (.cst (.int 5))) (.cons (.ret (.call f_candidates (.cons (.cst (.int 1)) (.cons (.tup (.cons (.tup (.cons (.cst (.int 2)) (.cons (.cst (.int 0)) .nil))) .nil)) .nil)))) .nil) .nil) (.cons (.ife (.op2 .eq (.var 0) (.cst (.int 6))) (.cons (.ret (.call f_corner_with (.cons (.tup (.cons (.cst (.int 0)) (.cons (.cst (.int 3)) (.cons (.cst (.int 3)) (.cons (.cst (.int 0)) .nil))))) (.cons (.cst (.int 0)) .nil)))) .nil) .nil) (.cons (.ret (.call f_law_raise_more (.cons (.var 0) .nil))) .nil))))))))) }
def d_law_raise_more : Df := { x := "_law_raise_more", np := 1, N := ["mode", "square"], mu := [], body := (.cons (.asg 1 (.tup (.cons (.cst (.int 0)) (.cons (.cst (.int 1)) (.cons (.cst (.int 2)) (.cons (.cst (.int 3)) .nil)))))) (.cons (.ife (.op2 .eq (.var 0) (.cst (.int 7))) (.cons (.ret (.call f_paper (.cons (.var 1) .nil))) .nil) .nil) (.cons (.ife (.op2 .eq (.var 0) (.cst (.int 8))) (.cons (.ret (.call f_turn (.cons (.tup (.cons (.cst (.int 0)) (.cons (.cst (.int 1)) (.cons (.cst (.int 3)) (.cons (.cst (.int 2)) .nil))))) (.cons (.cst (.int 0)) (.cons (.cst (.int 1)) .nil))))) .nil) .nil) (.cons (.ife (.op2 .eq (.var 0) (.cst (.int 9))) (.cons (.ret (.call f_heights (.cons (.tup (.cons (.cst (.int 1)) (.cons (.cst (.int 2)) (.cons (.cst (.int 2)) (.cons (.cst (.int 1)) .nil))))) .nil))) .nil) .nil) (.cons (.ife (.op2 .eq (.var 0) (.cst (.int 10))) (.cons (.ret (.call f_closed_way (.cons (.var 1) .nil))) .nil) .nil) (.cons (.ife (.op2 .eq (.var 0) (.cst (.int 11))) (.cons (.ret (.call f_Walker_move (.cons (.call f_Walker (.cons (.var 1) (.cons (.cst (.int 0)) .nil))) (.cons (.cst (.int 0)) .nil)))) .nil) .nil) (.cons (.ife (.op2 .eq (.var 0) (.cst (.int 12))) (.cons (.ret (.call f_parse_cube (.cons (.cst (.str "0 x")) .nil))) .nil) .nil) (.cons (.ret (.ite (.op2 .eq (.var 0) (.cst (.int 13))) (.call f_replace_face (.cons (.tup (.cons (.cst (.int 0)) (.cons (.cst (.int 1)) (.cons (.cst (.int 3)) (.cons (.cst (.int 2)) .nil))))) (.cons (.cst (.int 0)) (.cons (.cst (.int 2)) (.cons (.tup (.cons (.cst (.int 0)) (.cons (.cst (.int 1)) .nil))) .nil))))) (.call f_Walker_undo (.cons (.call f_Walker (.cons (.var 1) (.cons (.cst (.int 0)) .nil))) .nil)))) .nil)))))))) }
def d_law_k18 : Df := { x := "law", np := 1, N := ["script", "mode", "found", "is_under", "line_here", "e", "at"], mu := [], body := (.cons (.asg 1 (.op2 .mod (.call f_law_cell (.cons (.var 0) (.cons (.cst (.int 0)) .nil))) (.cst (.int 15)))) (.cons (.asg 2 (.lst .nil)) (.cons (.asg 3 (.cst (.bool false))) (.cons (.asg 4 (.cst (.str "none"))) (.cons (.trA 5 (.call f_law_raise (.cons (.var 1) .nil)) { c := 0, f := 2, u := 3, l := 4, m := 1, g0 := [1, 2, 3], gs := [[4, 5, 6], [7, 8, 9], [10, 11, 12], [15, 14, 13]] }) (.cons (.ret (.and (.var 3) (.and (.op2 .eq (.var 4) (.ite (.op2 .eq (.var 1) (.cst (.int 12))) (.cst (.int 1)) (.cst (.str "none")))) (.op2 .eq (.var 2) (.comp (.op2 .eq (.var 6) (.var 1)) (.one 6) (.rng (.cst (.int 15))) .nil [("at", 6)]))))) .nil)))))) }
def b_combed_1 : Sms := (.cons (.asg 3 (.comp (.call f_has_bit (.cons (.var 5) (.cons (.var 2) .nil))) (.two 4 5) (.enum (.var 0)) (.cons (.not (.call f_has_bit (.cons (.var 4) (.cons (.var 2) .nil)))) .nil) [("corner", 4), ("one", 5)])) (.cons (.ife (.op2 .eq (.op1 .lenset (.var 3)) (.cst (.int 1))) (.cons (.app 1 (.var 2)) .nil) .nil) .nil))
def d_combed : Df := { x := "combed", np := 1, N := ["cube", "result", "dimension", "sides", "corner", "one"], mu := [1], body := (.cons (.expr (.call f_check_cube (.cons (.var 0) .nil))) (.cons (.asg 1 (.lst .nil)) (.cons (.forr (.one 2) (.rng (.call f_dimension_count (.cons (.var 0) .nil))) b_combed_1) (.cons (.ret (.var 1)) .nil)))) }
def b_law_k19_1 : Sms := (.cons (.asg 5 (.comp (.op2 .isin (.var 4) (.call f_law_bits (.cons (.op2 .idx (.var 2) (.var 6)) .nil))) (.one 6) (.rng (.op1 .len (.var 2))) (.cons (.op2 .isin (.var 4) (.call f_law_bits (.cons (.var 6) .nil))) .nil) [("corner", 6)])) (.cons (.asg 3 (.op2 .add (.var 3) (.op2 .mul (.lst (.cons (.var 4) .nil)) (.op1 .int (.op2 .eq (.op2 .count (.var 5) (.op2 .idx (.var 5) (.cst (.int 0)))) (.op1 .len (.var 5))))))) .nil))
def d_law_k19 : Df := { x := "law", np := 1, N := ["script", "draws", "cube", "due", "place", "upper", "corner"], mu := [], body := (.cons (.asg 1 (.call f_law_row (.cons (.var 0) (.cons (.cst (.int 4)) .nil)))) (.cons (.asg 2 (.call f_law_any (.cons (.var 0) (.cons (.cst (.int 2)) (.cons (.cst (.int 4)) .nil))))) (.cons (.asg 3 (.lst .nil)) (.cons (.forr (.one 4) (.rng (.call f_law_size (.cons (.var 2) .nil))) b_law_k19_1) (.cons (.ife (.op2 .ne (.call f_combed (.cons (.var 2) .nil)) (.var 3)) (.cons (.ret (.cst (.bool false))) .nil) .nil) (.cons (.ife (.and (.call f_law_fine (.cons (.var 2) .nil)) (.op2 .ne (.call f_combed (.cons (.call f_turn_all (.cons (.var 2) (.cons (.op2 .mod (.op2 .idx (.var 1) (.cst (.int 0))) (.op1 .len (.var 2))) .nil))) .nil)) (.var 3))) (.cons (.ret (.cst (.bool false))) .nil) .nil) (.cons (.ife (.and (.op2 .lt (.op1 .len (.var 2)) (.cst (.int 16))) (.call f_law_fine (.cons (.var 2) .nil))) (.cons (.ret (.op2 .isin (.call f_law_size (.cons (.var 2) .nil)) (.call f_combed (.cons (.call f_stacked (.cons (.var 2) (.cons (.var 2) .nil))) .nil)))) .nil) .nil) (.cons (.ret (.cst (.bool true))) .nil)))))))) }
def d_law_replaced : Df := { x := "_law_replaced", np := 4, N := ["cube", "corner", "some", "other", "e"], mu := [], body := (.cons (.tri 4 (.cons (.ret (.call f_replace_face (.cons (.var 0) (.cons (.var 1) (.cons (.var 2) (.cons (.var 3) .nil)))))) .nil) [{ c := 14, s := .two 0 9 "cannot" "other" }, { c := 1, s := .two 0 14 "cube" "other" }, { c := 4, s := .two 0 14 "set" "other" }]) .nil) }
def b_law_k20_1 : Sms := (.cons (.set 12 (.op2 .idx (.var 8) (.var 13)) (.op2 .add (.op2 .idx (.var 9) (.cst (.int 0))) (.call f_law_spread (.cons (.op2 .idx (.var 10) (.var 13)) (.cons (.var 5) .nil))))) .nil)
def d_law_k20 : Df := { x := "law", np := 1, N := ["script", "draws", "size", "cube", "some", "own", "others", "corner", "inside", "outer", "other", "found", "due", "number", "place", "one"], mu := [12], body := (.cons (.asg 1 (.call f_law_row (.cons (.var 0) (.cons (.cst (.int 4)) .nil)))) (.cons (.asg 2 (.op2 .add (.cst (.int 1)) (.op2 .mod (.op2 .idx (.var 1) (.cst (.int 0))) (.cst (.int 4))))) (.cons (.asg 3 (.call f_law_downhill (.cons (.var 0) (.cons (.cst (.int 2)) (.cons (.var 2) .nil))))) (.cons (.asg 4 (.op2 .add (.cst (.int 1)) (.op2 .mod (.op2 .idx (.var 1) (.cst (.int 1))) (.op2 .sub (.op1 .len (.var 3)) (.cst (.int 1)))))) (.cons (.asg 5 (.call f_law_bits (.cons (.var 4) .nil))) (.cons (.asg 6 (.comp (.var 14) (.one 14) (.rng (.var 2)) (.cons (.op2 .notin (.var 14) (.var 5)) .nil) [("place", 14)])) (.cons (.asg 7 (.call f_law_spread (.cons (.op2 .mod (.op2 .idx (.var 1) (.cst (.int 2))) (.op2 .idx (.lst (.cons (.cst (.int 1)) (.cons (.cst (.int 2)) (.cons (.cst (.int 4)) (.cons (.cst (.int 8)) .nil))))) (.op1 .len (.var 6)))) (.cons (.var 6) .nil)))) (.cons (.asg 8 (.comp (.op2 .add (.var 7) (.call f_law_spread (.cons (.var 13) (.cons (.var 5) .nil)))) (.one 13) (.rng (.op2 .idx (.lst (.cons (.cst (.int 1)) (.cons (.cst (.int 2)) (.cons (.cst (.int 4)) (.cons (.cst (.int 8)) (.cons (.cst (.int 16)) .nil)))))) (.op1 .len (.var 5)))) .nil [("number", 13)])) (.cons (.asg 9 (.op1 .sortset (.comp (.call f_law_spread (.cons (.call f_law_pack (.cons (.op2 .idx (.var 3) (.var 15)) (.cons (.var 6) .nil))) (.cons (.var 6) .nil))) (.one 15) (.seq (.var 8)) .nil [("one", 15)]))) (.cons (.asg 10 (.call f_law_downhill (.cons (.var 0) (.cons (.cst (.int 5)) (.cons (.op1 .len (.var 5)) .nil))))) (.cons (.asg 11 (.call f_law_replaced (.cons (.var 3) (.cons (.var 7) (.cons (.var 4) (.cons (.var 10) .nil)))))) (.cons (.ife (.or (.op2 .ne (.call f_can_replace (.cons (.var 3) (.cons (.var 7) (.cons (.var 4) .nil)))) (.op2 .eq (.op1 .len (.var 9)) (.cst (.int 1)))) (.op2 .ne (.op2 .eq (.var 11) (.cst (.str "cannot"))) (.op2 .gt (.op1 .len (.var 9)) (.cst (.int 1))))) (.cons (.ret (.cst (.bool false))) .nil) .nil) (.cons (.ife (.op2 .ne (.call f_law_replaced (.cons (.var 3) (.cons (.var 7) (.cons (.op2 .idx (.lst (.cons (.cst .none) (.cons (.cst (.int 0)) (.cons (.op1 .len (.var 3)) (.cons (.cst (.bool true)) .nil))))) (.op2 .mod (.op2 .idx (.var 1) (.cst (.int 3))) (.cst (.int 4)))) (.cons (.var 10) .nil))))) (.cst (.str "set"))) (.cons (.ret (.cst (.bool false))) .nil) .nil) (.cons (.ife (.op2 .gt (.op1 .len (.var 9)) (.cst (.int 1))) (.cons (.ret (.cst (.bool true))) .nil) .nil) (.cons (.asg 12 (.op1 .list (.var 3))) (.cons (.forr (.one 13) (.rng (.op1 .len (.var 8))) b_law_k20_1) (.cons (.ife (.or (.op2 .ne (.var 11) (.op1 .tuple (.var 12))) (.or (.not (.call f_law_fine (.cons (.var 11) .nil))) (.op2 .ne (.call f_face_cube (.cons (.var 11) (.cons (.var 7) (.cons (.var 4) .nil)))) (.var 10)))) (.cons (.ret (.cst (.bool false))) .nil) .nil) (.cons (.ret (.op2 .eq (.call f_law_replaced (.cons (.var 3) (.cons (.var 7) (.cons (.var 4) (.cons (.op2 .idx (.lst (.cons (.cst .none) (.cons (.op2 .add (.var 10) (.var 10)) (.cons (.tup (.cons (.cst (.int 0)) .nil)) .nil)))) (.op2 .mod (.op2 .idx (.var 1) (.cst (.int 4))) (.cst (.int 3)))) .nil))))) (.cst (.str "cube")))) .nil)))))))))))))))))) }
def b_least_walk_1 : Sms := (.cons (.asg 3 (.comp (.var 4) (.one 4) (.rng (.call f_dimension_count (.cons (.var 0) .nil))) (.cons (.call f_has_bit (.cons (.op2 .idx (.var 0) (.op2 .idx (.var 2) (.op1 .neg (.cst (.int 1))))) (.cons (.var 4) .nil))) .nil) [("dimension", 4)])) (.cons (.app 2 (.call f_other_end (.cons (.op2 .idx (.var 2) (.op1 .neg (.cst (.int 1)))) (.cons (.op2 .idx (.var 3) (.cst (.int 0))) .nil)))) (.cons (.ife (.op2 .gt (.op2 .count (.var 2) (.op2 .idx (.var 2) (.op1 .neg (.cst (.int 1))))) (.cst (.int 1))) (.cons (.rais 10) .nil) .nil) .nil)))
def d_least_walk : Df := { x := "least_walk", np := 2, N := ["cube", "corner", "result", "dimensions", "dimension"], mu := [2], body := (.cons (.expr (.call f_check_cube (.cons (.var 0) .nil))) (.cons (.expr (.call f_check_corner (.cons (.var 0) (.cons (.var 1) .nil)))) (.cons (.asg 2 (.lst (.cons (.var 1) .nil))) (.cons (.whil (.op2 .ne (.op2 .idx (.var 0) (.op2 .idx (.var 2) (.op1 .neg (.cst (.int 1))))) (.cst (.int 0))) b_least_walk_1) (.cons (.ret (.var 2)) .nil))))) }
def d_law_least : Df := { x := "_law_least", np := 2, N := ["cube", "corner", "e"], mu := [], body := (.cons (.tri 2 (.cons (.ret (.call f_least_walk (.cons (.var 0) (.cons (.var 1) .nil)))) .nil) [{ c := 10, s := .two 0 11 "none" "other" }]) .nil) }
def b_law_k21_1 : Sms := (.cons (.app 4 (.call f_law_end (.cons (.op2 .idx (.var 4) (.op1 .neg (.cst (.int 1)))) (.cons (.op2 .idx (.call f_law_bits (.cons (.op2 .idx (.var 2) (.op2 .idx (.var 4) (.op1 .neg (.cst (.int 1))))) .nil)) (.cst (.int 0))) .nil)))) .nil)
def d_law_k21 : Df := { x := "law", np := 1, N := ["script", "draws", "cube", "corner", "way", "back", "found", "levels"], mu := [4], body := (.cons (.asg 1 (.call f_law_row (.cons (.var 0) (.cons (.cst (.int 4)) .nil)))) (.cons (.asg 2 (.call f_law_any (.cons (.var 0) (.cons (.cst (.int 2)) (.cons (.cst (.int 4)) .nil))))) (.cons (.ife (.op2 .eq (.op2 .mod (.op2 .idx (.var 1) (.cst (.int 0))) (.cst (.int 5))) (.cst (.int 0))) (.cons (.asg 2 (.tup (.cons (.cst (.int 1)) (.cons (.cst (.int 2)) (.cons (.cst (.int 2)) (.cons (.cst (.int 1)) (.cons (.cst (.int 5)) (.cons (.cst (.int 6)) (.cons (.cst (.int 6)) (.cons (.cst (.int 5)) .nil)))))))))) .nil) .nil) (.cons (.asg 3 (.op2 .mod (.op2 .idx (.var 1) (.cst (.int 1))) (.op1 .len (.var 2)))) (.cons (.asg 4 (.lst (.cons (.var 3) .nil))) (.cons (.whil (.and (.op2 .ne (.op2 .idx (.var 2) (.op2 .idx (.var 4) (.op1 .neg (.cst (.int 1))))) (.cst (.int 0))) (.op2 .eq (.op2 .count (.var 4) (.op2 .idx (.var 4) (.op1 .neg (.cst (.int 1))))) (.cst (.int 1)))) b_law_k21_1) (.cons (.asg 5 (.op2 .gt (.op2 .count (.var 4) (.op2 .idx (.var 4) (.op1 .neg (.cst (.int 1))))) (.cst (.int 1)))) (.cons (.asg 6 (.call f_law_least (.cons (.var 2) (.cons (.var 3) .nil)))) (.cons (.ife (.op2 .ne (.var 6) (.ite (.var 5) (.cst (.str "none")) (.var 4))) (.cons (.ret (.cst (.bool false))) .nil) .nil) (.cons (.asg 7 (.call f_law_heights (.cons (.var 2) .nil))) (.cons (.ife (.and (.op1 .notN (.var 7)) (.or (.var 5) (.op2 .gt (.op2 .sub (.op1 .len (.var 4)) (.cst (.int 1))) (.op2 .idx (.var 7) (.var 3))))) (.cons (.ret (.cst (.bool false))) .nil) .nil) (.cons (.ret (.or (.var 5) (.or (.not (.call f_law_fine (.cons (.var 2) .nil))) (.op2 .eq (.op2 .idx (.var 4) (.op1 .neg (.cst (.int 1)))) (.op2 .index (.var 2) (.cst (.int 0))))))) .nil)))))))))))) }
def d_Walker : Df := { kd := .cls f_Walker__init__, x := "Walker", np := 2, N := [], mu := [], body := .nil }
def d_Walker__init__ : Df := { kd := .ini, x := "Walker.__init__", np := 3, N := ["self", "cube", "corner"], mu := [], body := (.cons (.expr (.call f_check_cube (.cons (.var 1) .nil))) (.cons (.expr (.call f_check_corner (.cons (.var 1) (.cons (.var 2) .nil)))) .nil)) }
def d_Walker_corner : Df := { kd := .mth, x := "corner", np := 1, N := ["self"], mu := [], body := (.cons (.ret (.op2 .idx (.op1 (.fld 1) (.var 0)) (.op1 .neg (.cst (.int 1))))) .nil) }
def d_Walker_options : Df := { kd := .mth, x := "options", np := 1, N := ["self", "place"], mu := [], body := (.cons (.ret (.comp (.var 1) (.one 1) (.rng (.call f_dimension_count (.cons (.op1 (.fld 0) (.var 0)) .nil))) (.cons (.call f_has_bit (.cons (.op2 .idx (.op1 (.fld 0) (.var 0)) (.op2 .idx (.op1 (.fld 1) (.var 0)) (.op1 .neg (.cst (.int 1))))) (.cons (.var 1) .nil))) .nil) [("place", 1)])) .nil) }
def d_Walker_move : Df := { kd := .mth, x := "move", np := 2, N := ["self", "dimension"], mu := [], body := (.cons (.ife (.not (.call f_in_range (.cons (.var 1) (.cons (.cst (.int 0)) (.cons (.op2 .sub (.call f_dimension_count (.cons (.op1 (.fld 0) (.var 0)) .nil)) (.cst (.int 1))) .nil))))) (.cons (.rais 5) .nil) .nil) (.cons (.ife (.op2 .notin (.var 1) (.call f_Walker_options (.cons (.var 0) .nil))) (.cons (.rais 12) .nil) .nil) (.cons (.expr (.glb 1000)) (.cons (.ret (.op2 .idx (.op1 (.fld 1) (.var 0)) (.op1 .neg (.cst (.int 1))))) .nil)))) }
def d_Walker_undo : Df := { kd := .mth, x := "undo", np := 1, N := ["self"], mu := [], body := (.cons (.ife (.op2 .le (.op2 .sub (.op1 .len (.op1 (.fld 1) (.var 0))) (.cst (.int 1))) (.op1 (.fld 2) (.var 0))) (.cons (.rais 13) .nil) .nil) (.cons (.expr (.glb 1000)) (.cons (.ret (.op2 .idx (.op1 (.fld 1) (.var 0)) (.op1 .neg (.cst (.int 1))))) .nil))) }
def d_none : Df := { x := "", np := 0, N := [], mu := [], body := .nil }
def prog : List Df := [d_wall, d_in_range, d_has_bit, d_other_end, d_differing, d_common, d_dimension_count, d_is_cube, d_check_cube, d_check_corner, d_corners_of, d_is_face, d_check_face, d_faces, d_lowest_of, d_lowest_corners, d_agreeing_pair, d_check_downhill, d_packed, d_spread, d_inherited, d_is_downhill, d_corner_with, d_format_cube, d_below, d_height_table, d_heights, d_turn_all, d_check_edge, d_tied, d_group_of, d_group, d_law_cell, d_law_whole, d_law_row, d_law_in, d_law_bits, d_law_end, d_law_flip, d_law_size, d_law_drawn, d_law_is_cube, d_law_cube_error, d_law_k01, d_law_apart, d_law_faces, d_law_lowest, d_law_faced, d_law_k02, d_paper, d_is_paper, d_bad_face, d_law_fine, d_law_downhill, d_law_turned, d_law_exchanged, d_law_spun, d_law_decided, d_law_any, d_law_k03, d_law_k04, d_next_down, d_way_down, d_law_found, d_law_k05, d_law_k06, d_turned, d_can_turn, d_turn, d_turn_group, d_law_turning, d_law_with_turned, d_law_k07, d_law_k08, d_check_part, d_face_cube, d_check_two, d_stacked, d_doubled, d_law_pack, d_law_spread, d_law_built, d_law_k09, d_law_k10, d_closed_way, d_is_closed_way, d_law_ranked, d_law_heights, d_law_is_way, d_law_k11, d_partial, d_every_cube, d_check_dimensions, d_all_cubes, d_law_listed, d_law_k12, d_none, d_none, d_law_road, d_law_next, d_law_k13, d_check_answers, d_candidates, d_best_corner, d_depth, d_none, d_law_hidden, d_law_depth, d_law_k14, d_parse_cube, d_law_parse, d_law_k15, d_law_walked, d_law_k16, d_none, d_outer_sets, d_can_replace, d_replace_face, d_law_raise, d_law_raise_more, d_law_k18, d_combed, d_law_k19, d_law_replaced, d_law_k20, d_least_walk, d_law_least, d_law_k21, d_Walker, d_Walker__init__, d_Walker_corner, d_Walker_options, d_Walker_move, d_Walker_undo]
def gd : Gd := { cs := [.tuple [.int 1, .int 2, .int 4, .int 8], .tuple [.int 1, .int 2, .int 4, .int 8, .int 16], .str "0123456789"], ds := [[(2, 1), (4, 2), (8, 3), (16, 4)]] }
end DH
set_option Elab.async false
set_option linter.all false
set_option maxRecDepth 100000
set_option maxHeartbeats 2000000
/-! DH, part W: what the top has written, as one Bool. -/
namespace DH
open PySem L2
open PySem.Spec PyProof.Rows
def adrOf (K : PySem.W.Frag) (x : Str) : Option Addr := match PySem.W.nsIn K mainGlobals x with
  | some (some (.ref A)) => some A
  | _ => none
def clsC (K : PySem.W.Frag) (xs : List Str) (i : Nat) : Option Value := match xs[i]? with
  | some x => if x == ("" : Str) then none else (adrOf K x).map Value.ref
  | none => none
def chkExc (K : PySem.W.Frag) (D : Addr) : Bool :=
  PySem.W.findIn K (.ref D) "__getattribute__" == some (some (.builtin "BaseException.__getattribute__")) && PySem.W.findIn K (.ref D) "__getattr__" == some none && PySem.W.subIn K (.ref D) (.type "BaseException") == some true && PySem.W.hasDictIn K D &&
    PySem.W.findIn K (.ref D) "__class__" == some (some (.builtin "object.__class__")) && PySem.W.specialIn K (.builtin "object.__class__") "__get__" == some (some (.builtin "getset_descriptor.__get__")) && PySem.W.takesIn K (.builtin "object.__class__") == some true &&
    PySem.W.mroIn K D (.type "object") == some true && PySem.W.keepIn K (.ref D) && PySem.W.typeIn K (.ref D) == some (.type "type") && PySem.W.findIn K (.ref D) "line" == some none && PySem.W.kitOne K (.ref D) (.type "ValueError") == some true
def chkPair (K : PySem.W.Frag) (xs : List Str) (i j : Nat) : Bool := match clsC K xs i, clsC K xs j with
  | some (.ref A), some (.ref B) => PySem.W.exmOne K (.ref A) (.ref B) == some (sub i j) && PySem.W.kitOne K (.ref A) (.ref B) == some (sub i j)
  | _, _ => true
def chkXs (K : PySem.W.Frag) (xs : List Str) : Bool :=
  (List.range xs.length).all fun i => (match xs[i]? with
    | some x => x == ("" : Str) || (match adrOf K x with | some A => chkExc K A && (i == 15 || PySem.W.excIn K A veL "ValueError.__new__") | none => false)
    | none => true) && (List.range xs.length).all fun j => chkPair K xs i j
theorem adr_ns {K : PySem.W.Frag} {x : Str} {A : Addr} (h : adrOf K x = some A) : PySem.W.nsIn K mainGlobals x = some (some (.ref A)) := by
  unfold adrOf at h
  split at h
  · rename_i q; cases h; exact q
  · cases h
theorem xok_of {K : PySem.W.Frag} {h : Heap} {mg : Str → Option Value} {xs : List Str} (KX : K.In h) (G : h.Ns mainGlobals mg) (hc : chkXs K xs = true) : XOk K mg (clsC K xs) xs := by
  unfold chkXs at hc
  rw [List.all_eq_true] at hc
  have one : ∀ (i : Nat) (x : Str), xs[i]? = some x → x ≠ "" → ∃ A, clsC K xs i = some (.ref A) ∧ adrOf K x = some A ∧ chkExc K A = true ∧ (i ≠ 15 → PySem.W.excIn K A veL "ValueError.__new__" = true) := fun i x hx ne => by
    have hi : i < xs.length := (List.getElem?_eq_some_iff.mp hx).1
    have q := hc i (List.mem_range.mpr hi)
    rw [Bool.and_eq_true] at q
    have q1 := q.1
    rw [hx] at q1
    have nb : (x == ("" : Str)) = false := by rw [beq_eq_false_iff_ne]; exact ne
    simp only [nb, Bool.false_or] at q1
    cases e : adrOf K x with
    | none => rw [e] at q1; cases q1
    | some A =>
      rw [e] at q1
      simp only [Bool.and_eq_true, Bool.or_eq_true, beq_iff_eq] at q1
      refine ⟨A, ?_, rfl, q1.1, fun ne => q1.2.resolve_left ne⟩
      unfold clsC
      rw [hx]
      simp only [nb, e]
      rfl
  have all : ∀ (i : Nat) (v : Value), clsC K xs i = some v → ∃ x, xs[i]? = some x ∧ x ≠ "" := fun i v hv => by
    unfold clsC at hv
    split at hv
    · rename_i x hx
      by_cases nb : (x == ("" : Str)) = true
      · rw [if_pos nb] at hv; cases hv
      · exact ⟨x, hx, fun e => nb (by rw [e]; rfl)⟩
    · cases hv
  refine ⟨fun i x hx ne => ?_, all, fun i j A B hA hB => ?_, fun i A hA => ?_, fun i A hA n15 => ?_⟩
  · obtain ⟨A, h1, h2, h3, _⟩ := one i x hx ne
    unfold chkExc at h3
    simp only [Bool.and_eq_true, beq_iff_eq] at h3
    obtain ⟨⟨⟨⟨⟨⟨⟨⟨⟨⟨⟨k1, k2⟩, k3⟩, k4⟩, k5⟩, k6⟩, k7⟩, k8⟩, k9⟩, k10⟩, k11⟩, _⟩ := h3
    exact ⟨A, h1, PySem.W.mg_of KX G (adr_ns h2), k9, ⟨k1, k2, k3, k4, k5, k6, k7, k8⟩, k10, k11⟩
  · obtain ⟨x, hx, _⟩ := all i _ hA
    obtain ⟨y, hy, _⟩ := all j _ hB
    have hi : i < xs.length := (List.getElem?_eq_some_iff.mp hx).1
    have hj : j < xs.length := (List.getElem?_eq_some_iff.mp hy).1
    have q := hc i (List.mem_range.mpr hi)
    rw [Bool.and_eq_true, List.all_eq_true] at q
    have q2 := q.2 j (List.mem_range.mpr hj)
    unfold chkPair at q2
    rw [hA, hB] at q2
    simp only [Bool.and_eq_true, beq_iff_eq] at q2
    exact q2
  · obtain ⟨x, hx, ne⟩ := all i _ hA
    obtain ⟨A', h1, h2, h3, h4⟩ := one i x hx ne
    rw [hA] at h1
    cases h1
    unfold chkExc at h3
    simp only [Bool.and_eq_true, beq_iff_eq] at h3
    exact h3.2
  · obtain ⟨x, hx, ne⟩ := all i _ hA
    obtain ⟨A', h1, h2, h3, h4⟩ := one i x hx ne
    rw [hA] at h1
    cases h1
    exact h4 n15
def chkBl (K : PySem.W.Frag) (bl : List Str) : Bool := bl.all fun x => PySem.W.nsIn K mainGlobals x == some none
theorem bl_of {K : PySem.W.Frag} {h : Heap} {mg : Str → Option Value} {bl : List Str} (KX : K.In h) (G : h.Ns mainGlobals mg) (hc : chkBl K bl = true) : ∀ x ∈ bl, mg x = none := fun x hx => by
  have q := List.all_eq_true.mp hc x hx
  exact PySem.W.mg_none_of KX G (beq_iff_eq.mp q)
def intV : List Value → List Int → Bool
  | [], [] => true
  | .int i _ :: r, n :: ns => i == n && intV r ns
  | _, _ => false
theorem intV_ok {K : PySem.W.Frag} : ∀ {us : List Value} {ns : List Int}, intV us ns = true → Vals (ns.map V.int) us ∧ DqAll K (fun _ => none) (ns.map V.int) (ns.map PyData.int)
  | [], [], _ => ⟨.nil, .nil⟩
  | u :: r, n :: ns, h => by
    cases u with
    | int i t =>
      simp only [intV, Bool.and_eq_true, beq_iff_eq] at h
      obtain ⟨rfl, h2⟩ := h
      obtain ⟨a, b⟩ := intV_ok h2
      exact ⟨.cons ⟨t, rfl⟩ a, .cons (.int _) b⟩
    | _ => simp [intV] at h
  | [], _ :: _, h => by simp [intV] at h
  | _ :: _, [], h => by simp [intV] at h
theorem intsD_map : ∀ {ds : List D} {ns : List Int}, intsD ds = some ns → ds = ns.map PyData.int
  | [], ns, h => by cases h; rfl
  | d :: r, ns, h => by
    cases d with
    | int i =>
      unfold intsD at h
      cases q : intsD r with
      | none => rw [q] at h; cases h
      | some ms => rw [q] at h; cases h; rw [intsD_map q]; rfl
    | _ => cases h
def chkC (K : PySem.W.Frag) (x : Str) (d : D) : Bool := match PySem.W.nsIn K mainGlobals x, d with
  | some (some (.ref A)), .tuple ds => (match K.lookup A, intsD ds with
    | some ⟨.type c, none, .seq its _, _⟩, some ns => c == "tuple" && intV its.toList ns && decide (its.size ≤ 1000)
    | _, _ => false)
  | some (some (.str s _)), .str s' => s == s'
  | _, _ => false
theorem c_of {K : PySem.W.Frag} {h : Heap} {mg : Str → Option Value} {x : Str} {d : D} (KX : K.In h) (G : h.Ns mainGlobals mg) (hc : chkC K x d = true) : ∃ v u, mg x = some u ∧ RelV v u ∧ Dq K (fun _ => none) v d := by
  unfold chkC at hc
  split at hc
  · rename_i A ds q
    split at hc
    · rename_i c its n sl ns q2 q3
      simp only [Bool.and_eq_true, beq_iff_eq, decide_eq_true_eq] at hc
      obtain ⟨⟨rfl, h1⟩, h2⟩ := hc
      obtain ⟨v1, v2⟩ := intV_ok (K := K) h1
      rw [intsD_map q3]
      exact ⟨.ref A, .ref A, PySem.W.mg_of KX G q, rfl, .tup (.inr ⟨_, its, n, q2, rfl, rfl, rfl, Nat.le_trans h2 (by decide), v1⟩) v2⟩
    · cases hc
  · rename_i s t s' q
    have e := eq_of_beq hc
    subst e
    exact ⟨.str s, .str s t, PySem.W.mg_of KX G q, ⟨t, rfl⟩, .str s⟩
  · cases hc
def entB : List DictEntry → List (Int × Int) → Bool
  | [], [] => true
  | ⟨hh, .int k _, .int v _⟩ :: es, (k', v') :: r => hh == hashInt k' && k == k' && v == v' && entB es r
  | _, _ => false
def chkD (K : PySem.W.Frag) (x : Str) (t : List (Int × Int)) : Bool := match PySem.W.nsIn K mainGlobals x with
  | some (some (.ref A)) => !(A == sysModules) && (match K.lookup A with
    | some ⟨.type c, none, .dict es _, sl⟩ => c == "dict" && sl.toList.isEmpty && entB es.toList t
    | _ => false)
  | _ => false
theorem entB_ok : ∀ {es : List DictEntry} {t : List (Int × Int)}, entB es t = true → entOk es t
  | [], [], _ => trivial
  | e :: es, p :: r, h => by
    obtain ⟨k', v'⟩ := p
    unfold entB at h
    split at h
    · rename_i q; cases q
    · rename_i hh k t v u es' k1 v1 r' q1 q2
      cases q1
      cases q2
      simp only [Bool.and_eq_true, beq_iff_eq] at h
      obtain ⟨⟨⟨h1, h2⟩, h3⟩, h4⟩ := h
      subst h2 h3
      exact ⟨h1, ⟨_, rfl⟩, ⟨_, rfl⟩, entB_ok h4⟩
    · cases h
  | [], _ :: _, h => by simp [entB] at h
  | _ :: _, [], h => by simp [entB] at h
theorem d_of {K : PySem.W.Frag} {h : Heap} {mg : Str → Option Value} {x : Str} {t : List (Int × Int)} (KX : K.In h) (G : h.Ns mainGlobals mg) (hc : chkD K x t = true) : ∃ A, mg x = some (.ref A) ∧ IntDict K A t := by
  unfold chkD at hc
  split at hc
  · rename_i A q
    rw [Bool.and_eq_true, Bool.not_eq_true'] at hc
    obtain ⟨h1, h2⟩ := hc
    split at h2
    · rename_i c es ep sl q2
      simp only [Bool.and_eq_true, beq_iff_eq] at h2
      obtain ⟨⟨rfl, h3⟩, h4⟩ := h2
      have hs : sl = #[] := by
        have : sl.toList = [] := by simpa using h3
        cases sl
        simp at this
        rw [this]
      exact ⟨A, PySem.W.mg_of KX G q, h1, _, es, ep, q2, ⟨rfl, rfl, hs⟩, rfl, entB_ok h4⟩
    · cases h2
  · cases hc
/-- the class Walker -/
def chkWk (K : PySem.W.Frag) : Bool := match PySem.W.nsIn K mainGlobals "Walker" with
  | some (some (.ref A)) => PySem.W.plainGet K A Str.empty && PySem.W.hasDictIn K A && PySem.W.plainOver K A && PySem.W.findIn K (.ref A) "__setattr__" == some (some (.builtin "object.__setattr__")) && PySem.W.findIn K (.ref A) "cube" == some none && PySem.W.findIn K (.ref A) "steps" == some none && PySem.W.findIn K (.ref A) "kept" == some none
  | _ => true
theorem wk_of {K : PySem.W.Frag} (h : chkWk K = true) : ∀ A, WkC K A → Cls K A ∧ ∀ i, NoAttr K A (fldN i) := fun A w => by
  unfold chkWk at h
  unfold WkC at w
  rw [w] at h
  simp only [Bool.and_eq_true, beq_iff_eq] at h
  obtain ⟨⟨⟨⟨⟨⟨h1, h2⟩, h3⟩, h4⟩, h5⟩, h6⟩, h7⟩ := h
  refine ⟨⟨h1, h2, h3, h4⟩, fun i => ?_⟩
  match i with
  | 0 => exact h5
  | 1 => exact h6
  | _ + 2 => exact h7
def chkTabs (K : PySem.W.Frag) (G : Gd) (T : Tx) : Bool :=
  chkXs K T.xs && chkBl K T.bl && chkWk K && ((List.range T.cs.length).all fun i => match T.cs[i]?, G.cs[i]? with
    | some x, some d => x == ("" : Str) || chkC K x d
    | some x, none => x == ("" : Str)
    | none, _ => true) && (List.range T.dn.length).all fun i => match T.dn[i]?, G.ds[i]? with
    | some x, some d => x == ("" : Str) || chkD K x d
    | some x, none => x == ("" : Str)
    | none, _ => true
theorem top_of {K : PySem.W.Frag} {h : Heap} {mg : Str → Option Value} {G : Gd} {T : Tx} (KX : K.In h) (Gm : h.Ns mainGlobals mg) (hc : chkTabs K G T = true) (hpe : ∀ (P : Program) (w : World) (base : Heap) (v : Value), clsC K T.xs 15 = some v → PErr P w K mg base v) : Top K mg G (clsC K T.xs) T := by
  unfold chkTabs at hc
  simp only [Bool.and_eq_true, List.all_eq_true] at hc
  obtain ⟨⟨⟨⟨h1, h2⟩, h5⟩, h3⟩, h4⟩ := hc
  refine ⟨xok_of KX Gm h1, fun i x hx ne => ?_, fun i x hx ne => ?_, bl_of KX Gm h2, hpe, wk_of h5⟩
  · have q := h3 i (List.mem_range.mpr (List.getElem?_eq_some_iff.mp hx).1)
    rw [hx] at q
    have nb : (x == ("" : Str)) = false := by rw [beq_eq_false_iff_ne]; exact ne
    cases e : G.cs[i]? with
    | none => rw [e] at q; simp only [nb] at q; cases q
    | some d =>
      rw [e] at q
      simp only [nb, Bool.false_or] at q
      obtain ⟨v, u, a, b, c⟩ := c_of KX Gm q
      exact ⟨v, u, d, rfl, a, b, c⟩
  · have q := h4 i (List.mem_range.mpr (List.getElem?_eq_some_iff.mp hx).1)
    rw [hx] at q
    have nb : (x == ("" : Str)) = false := by rw [beq_eq_false_iff_ne]; exact ne
    cases e : G.ds[i]? with
    | none => rw [e] at q; simp only [nb] at q; cases q
    | some d =>
      rw [e] at q
      simp only [nb, Bool.false_or] at q
      obtain ⟨A, a, b⟩ := d_of KX Gm q
      exact ⟨A, d, rfl, a, b⟩
/-- a def of the text -/
theorem dfx {K : PySem.W.Frag} {h : Heap} {mg : Str → Option Value} {T : Tx} {P : List Df} {df : Df} {x : Str} {st : Stmt} {f : Addr} {oc : Value} {od an : Option Addr} {osl : Array (Option Value)} {kV doc pm cdv ct : Value} {ps : List Str} (KX : K.In h) (G : h.Ns mainGlobals mg)
    (hx : df.x = x) (hps : df.N.take df.np = ps) (a : PySem.W.nsIn K mainGlobals x = some (some (.ref f))) (l : K.lookup f = some ⟨oc, od, .func (PySem.W.fnOf x x (defArgs st) (defBody st) (defScope st) .none kV doc pm an cdv ct), osl⟩)
    (c : PySem.W.codeIn K cdv x = true) (k : PySem.W.keepIn K (.ref f) = true) (hb : ∀ (kV doc pm : Value) (an : Option Addr) (cdv ct : Value) (us : List Value), us.length = ps.length → bindArgs (PySem.W.fnOf x x (defArgs st) (defBody st) (defScope st) .none kV doc pm an cdv ct) ⟨us, []⟩ = pure (ps.zip us))
    (hk : df.kd = .fn) (hc : chkDf T P df st = true) : DfTxt K mg T P df := by
  subst hx hps
  have F := fun_mk (st := st) l c k
  exact ⟨fun _ => ⟨st, f, _, PySem.W.mg_of KX G a, F, hb _ _ _ _ _ _, hc⟩, fun j e => (by rw [hk] at e; cases e), fun e => (by rw [hk] at e; cases e)⟩
/-- __init__ by itself is no def -/
theorem dfxI {K : PySem.W.Frag} {mg : Str → Option Value} {T : Tx} {P : List Df} {df : Df} (hk : df.kd = .ini) : DfTxt K mg T P df := ⟨fun e => (by rw [hk] at e; cases e), fun j e => (by rw [hk] at e; cases e), fun e => (by rw [hk] at e; cases e)⟩
/-- a class of the text -/
theorem dfxC {K : PySem.W.Frag} {h : Heap} {mg : Str → Option Value} {T : Tx} {P : List Df} {df di : Df} {j : Nat} {x y : Str} {st : Stmt} {f A : Addr} {oc : Value} {od an : Option Addr} {osl : Array (Option Value)} {kV doc pm cdv ct : Value} {ps : List Str} (KX : K.In h) (G : h.Ns mainGlobals mg)
    (hk : df.kd = .cls j) (hj : P[j]? = some di) (hki : di.kd = .ini) (hnp : di.np = df.np + 1) (hx : df.x = x) (hxw : x = "Walker") (hy : di.x = y) (hps : di.N.take di.np = ps) (a : PySem.W.nsIn K mainGlobals x = some (some (.ref A))) (mk : PySem.W.makesIn K A = true) (ia : PySem.W.findIn K (.ref A) "__init__" = some (some (.ref f))) (ii : PySem.W.isFn K (.ref f) = true) (kA : PySem.W.keepIn K (.ref A) = true)
    (l : K.lookup f = some ⟨oc, od, .func (PySem.W.fnOf "__init__" y (defArgs st) (defBody st) (defScope st) .none kV doc pm an cdv ct), osl⟩)
    (c : PySem.W.codeIn K cdv y = true) (k : PySem.W.keepIn K (.ref f) = true) (hb : ∀ (kV doc pm : Value) (an : Option Addr) (cdv ct : Value) (us : List Value), us.length = ps.length → bindArgs (PySem.W.fnOf "__init__" y (defArgs st) (defBody st) (defScope st) .none kV doc pm an cdv ct) ⟨us, []⟩ = pure (ps.zip us))
    (hc : chkIni T P di st = true) : DfTxt K mg T P df := by
  subst hx hy hps
  have F := fun_mk (st := st) l c k
  refine ⟨fun e => (by rw [hk] at e; cases e), fun j' e => ?_, fun e => (by rw [hk] at e; cases e)⟩
  rw [hk] at e
  cases e
  exact ⟨di, st, A, f, _, hj, hki, hnp, PySem.W.mg_of KX G a, (by rw [hxw] at a; exact a), ⟨mk, ia, ii, kA⟩, F, hb _ _ _ _ _ _, hc⟩
/-- a method of the text -/
theorem dfxM {K : PySem.W.Frag} {mg : Str → Option Value} {T : Tx} {P : List Df} {df : Df} {x y : Str} {st : Stmt} {f A : Addr} {oc : Value} {od an : Option Addr} {osl : Array (Option Value)} {kV doc pm cdv ct : Value} {ps : List Str}
    (hk : df.kd = .mth) (hx : df.x = x) (hps : df.N.take df.np = ps) (a : PySem.W.nsIn K mainGlobals "Walker" = some (some (.ref A))) (ia : PySem.W.findIn K (.ref A) x = some (some (.ref f))) (ii : PySem.W.isFn K (.ref f) = true)
    (l : K.lookup f = some ⟨oc, od, .func (PySem.W.fnOf x y (defArgs st) (defBody st) (defScope st) .none kV doc pm an cdv ct), osl⟩)
    (c : PySem.W.codeIn K cdv y = true) (k : PySem.W.keepIn K (.ref f) = true) (hb : ∀ (kV doc pm : Value) (an : Option Addr) (cdv ct : Value) (us : List Value), us.length = ps.length → bindArgs (PySem.W.fnOf x y (defArgs st) (defBody st) (defScope st) .none kV doc pm an cdv ct) ⟨us, []⟩ = pure (ps.zip us))
    (hc : chkDf T P df st = true) : DfTxt K mg T P df := by
  subst hx hps
  have F := fun_mk (st := st) l c k
  exact ⟨fun e => (by rw [hk] at e; cases e), fun j e => (by rw [hk] at e; cases e), fun _ => ⟨A, st, f, _, y, a, ⟨ia, ii, k⟩, F, hb _ _ _ _ _ _, hc⟩⟩
/-- the error with a line -/
def oexB (K : PySem.W.Frag) (C : Addr) : Bool := match K.lookup C with
  | some ⟨.type "type", _, .cls cd, sl⟩ => (match cd.mro, sl.toList with
    | .ref C' :: bm, [_, _, _, _, some (.builtin n), _] => C' == C && n == "ValueError.__new__" && !cd.hasDel && cd.hasDict && PySem.HandSPX.refsVE bm
    | _, _ => false)
  | _ => false
theorem oex_of {K : PySem.W.Frag} {C : Addr} (h : oexB K C = true) (sa : PySem.W.findIn K (.ref C) "__setattr__" = some (some (.builtin "object.__setattr__"))) (x : ExcC K C) (ty : PySem.W.typeIn K (.ref C) = some (.type "type")) (kC : PySem.W.keepIn K (.ref C) = true) : OexC K C := by
  refine ⟨?_, sa, x.hs, ty, kC⟩
  unfold oexB at h
  split at h
  · rename_i dd cd sl ho
    split at h
    · rename_i C' bm k0 k1 k2 k3 n k5 hm hs
      simp only [Bool.and_eq_true, beq_iff_eq, Bool.not_eq_true'] at h
      obtain ⟨⟨⟨⟨rfl, rfl⟩, hdel⟩, hdi⟩, hb⟩ := h
      obtain ⟨nm, bs, mro, ns, qn, hd, sn, sub, ab, col, del⟩ := cd
      dsimp only at hm hdel hdi
      subst hm hdel hdi
      have e : sl = #[k0, k1, k2, k3, some (.builtin "ValueError.__new__"), k5] := by
        obtain ⟨l⟩ := sl
        simp only at hs
        rw [hs]
      subst e
      exact ⟨nm, qn, ns, bs, bm, sn, sub, ab, col, dd, k0, k1, k2, k3, k5, ho, hb⟩
    · cases h
  · cases h
def chkPe (K : PySem.W.Frag) (C CE : Addr) : Bool := oexB K C && PySem.W.findIn K (.ref C) "__setattr__" == some (some (.builtin "object.__setattr__")) && PySem.W.readsIn K CE (.type "type") && PySem.W.specialIn K (.ref CE) "__getattribute__" == some (some (.builtin "type.__getattribute__")) &&
  (match PySem.W.findCls K (.ref CE) (.type "type") "__init__" with | some (.val (.builtin b)) => b == "ValueError.__init__" | _ => false)
theorem perr_mk {K : PySem.W.Frag} {h : Heap} {mg : Str → Option Value} {T : Tx} {G : Gd} {st : Stmt} {C CE f : Addr} {oc : Value} {od an : Option Addr} {osl : Array (Option Value)} {kV doc pm cdv ct : Value} (KX : K.In h) (Gm : h.Ns mainGlobals mg) (hx : T.xs[15]? = some ("ParseError" : Str)) (hc : chkTabs K G T = true)
    (aC : PySem.W.nsIn K mainGlobals "ParseError" = some (some (.ref C))) (aE : PySem.W.nsIn K mainGlobals "CubeError" = some (some (.ref CE))) (hp : chkPe K C CE = true) (ia : PySem.W.findIn K (.ref C) "__init__" = some (some (.ref f))) (it : PySem.W.typeIn K (.ref f) = some (.type "function"))
    (l : K.lookup f = some ⟨oc, od, .func (PySem.W.fnOf "__init__" "ParseError.__init__" (defArgs st) (defBody st) (defScope st) .none kV doc pm an cdv ct), osl⟩)
    (c : PySem.W.codeIn K cdv "ParseError.__init__" = true) (k : PySem.W.keepIn K (.ref f) = true) (hb : ∀ (kV doc pm : Value) (an : Option Addr) (cdv ct : Value) (us : List Value), us.length = 2 → bindArgs (PySem.W.fnOf "__init__" "ParseError.__init__" (defArgs st) (defBody st) (defScope st) .none kV doc pm an cdv ct) ⟨us, []⟩ = pure ((["self", "line"] : List Str).zip us))
    (h1 : peB (defScope st) = true) (h2 : peS (defBody st) = true) : ∀ (P : Program) (w : World) (base : Heap) (v : Value), clsC K T.xs 15 = some v → PErr P w K mg base v := by
  intro P w base v hv
  unfold chkTabs at hc
  simp only [Bool.and_eq_true] at hc
  have xo := xok_of KX Gm hc.1.1.1.1
  obtain ⟨A, q1, q2, q3, q4, q5, q6⟩ := xo.cls 15 "ParseError" hx (by decide)
  rw [hv] at q1
  have q1 := Option.some.inj q1
  subst q1
  have e := PySem.W.mg_of KX Gm aC
  rw [q2] at e
  cases e
  unfold chkPe at hp
  simp only [Bool.and_eq_true, beq_iff_eq] at hp
  obtain ⟨⟨⟨⟨p1, p2⟩, p3⟩, p4⟩, p5⟩ := hp
  have p5 : PySem.W.findCls K (.ref CE) (.type "type") "__init__" = some (.val (.builtin "ValueError.__init__")) := by
    split at p5
    · rename_i b q
      rw [q, eq_of_beq p5]
    · cases p5
  have T1 := oex_of p1 p2 q4 q5 q3
  have F := fun_mk (st := st) l c k
  exact ⟨C, f, _, rfl, T1, ia, it, .all (fun us hl => hb _ _ _ _ _ _ us hl), perr_fn F h1 h2 T1 q6 (PySem.W.mg_of KX Gm aE) p3 p4 p5, ⟨q4.hg, q4.hk, q4.hs, q4.hd⟩, q6⟩
/-- the law -/
theorem law_fn {prog : Program} {w : World} {K : PySem.W.Frag} {mg : Str → Option Value} {G : Gd} {C : Nat → Option Value} {T : Tx} {P : List Df} {wf n f : Nat} {x p : Str} {fa : Addr} (Tp : Top K mg G C T) (hP : ∀ (f : Nat) (df : Df), P[f]? = some df → T.us.contains f = true → DfTxt K mg T P df)
    (hf : (fnsOf T P)[f]? = some (x, 1)) (ne : x ≠ "") (hp : (P[f]?.map fun df => (df.kd, df.N.take df.np)) = some (.fn, [p])) (hfa : mg x = some (.ref fa)) :
    ∃ fd : FuncData, (∀ (s : Shared) (u : Value), BindsTo s fd ⟨[u], []⟩ [(p, u)]) ∧ ∀ base : Heap, K.In base → base.Ns mainGlobals mg → FnOk prog w K mg base (L2.CX prog w) (n + 2) fa fd [p] (spF K C 1 (call G wf P n f)) := by
  obtain ⟨df, h1, h2, h3, h4, _⟩ := fnsAt_get hf ne
  rw [Nat.zero_add] at h2
  rw [h1] at hp
  have hp := Option.some.inj hp
  have hk : df.kd = .fn := congrArg Prod.fst hp
  have hp : df.N.take df.np = [p] := congrArg Prod.snd hp
  obtain ⟨st, f', fd, hmg, hF, hb, hc⟩ := (hP f df h1 h2).fn hk
  rw [h3, hfa] at hmg
  cases hmg
  rw [hp] at hb
  refine ⟨fd, fun s u => .of_eq (hb [u] rfl), fun base _ _ => ?_⟩
  cases n with
  | zero =>
    refine ⟨fun vs H Q E q => ?_, fun A outer s H args us vs Q E _ _ _ _ q => ?_⟩
    · obtain ⟨_, _, _, _, _, z⟩ := q
      exact z.elim
    · obtain ⟨_, _, _, _, _, z⟩ := q
      exact z.elim
  | succ n =>
    rw [call_fn h1 hk]
    have := df_fn (base := base) Tp hF hc (all_ok (prog := prog) (w := w) (wf := wf) Tp hP n)
    rw [hp, h4] at this
    rw [h4]
    exact this
end DH
set_option Elab.async false
set_option linter.all false
set_option maxRecDepth 100000
/-! DH, part X: the law's promise. -/
namespace DH
open PySem L2
open PySem.Spec PyProof.Rows
def scr (ns : List Int) : D := .dict (ns.map fun i => (PyData.int i, PyData.none))
theorem sp_law {K : PySem.W.Frag} {C : Nat → Option Value} {c : List D → Res D} {H : Hp} {a : Addr} {ns : List Int} (hS : SqL K H a (ns.map V.int)) (hc : c [scr ns] = .ok (.bool true)) : spF K C 1 c [.ref a] H (fun v _ => v = .bl true) fun _ _ _ => False := by
  refine ⟨H, [scr ns], Same.refl _, rfl, .cons (.scr hS) .nil, ?_⟩
  rw [hc]
  intro v H' F' _ q
  cases q
  rfl
end DH
set_option Elab.async false
set_option linter.all false
set_option maxRecDepth 100000
/-! DH, part Y: more fuel changes nothing. -/
namespace DH
open PySem

/-- r says no more than r' -/
def Le {α : Type} (r r' : Res α) : Prop := r = .stuck ∨ r' = r
theorem Le.refl {α : Type} (r : Res α) : Le r r := .inr rfl
theorem Le.bind {α β : Type} {r r' : Res α} {f f' : α → Res β} (h : Le r r') (k : ∀ a, Le (f a) (f' a)) : Le (r.bind f) (r'.bind f') := by
  rcases h with rfl | rfl
  · exact .inl rfl
  · cases r' with
    | ok a => exact k a
    | exc x => exact .inr rfl
    | stuck => exact .inl rfl
theorem Le.noX {α : Type} {r r' : Res α} (h : Le r r') : Le (noX r) (DH.noX r') := by
  rcases h with rfl | rfl
  · exact .inl rfl
  · exact .refl _
theorem Le.ite {α : Type} {b : Bool} {p q p' q' : Res α} (h1 : Le p p') (h2 : Le q q') : Le (if b then p else q) (if b then p' else q') := by
  cases b <;> assumption
theorem Le.compL {f f' : D → Res (Option D)} (h : ∀ x, Le (f x) (f' x)) : ∀ (xs acc : List D), Le (compL f xs acc) (DH.compL f' xs acc)
  | [], acc => .refl _
  | x :: r, acc => by
    unfold DH.compL
    refine (h x).bind fun o => ?_
    cases o with
    | none => exact Le.compL h r acc
    | some y =>
      simp only
      split
      · exact Le.compL h r _
      · exact .refl _
def LeO (c c' : Orc) : Prop := ∀ f ds, Le (c f ds) (c' f ds)
section
variable {c c' : Orc} {G : Gd}
mutual
theorem ev_le (h : LeO c c') : ∀ (e : Ex) (env : Env), Le (ev c G e env) (ev c' G e env)
  | .var i, env => .refl _
  | .cst d, env => .refl _
  | .glb g, env => .refl _
  | .op1 p a, env => (ev_le h a env).bind fun _ => .refl _
  | .op2 p a b, env => (ev_le h a env).bind fun _ => (ev_le h b env).bind fun _ => .refl _
  | .chain p q a b d, env => (ev_le h a env).bind fun x => (ev_le h b env).bind fun y => (Le.refl _).bind fun r => by
    cases r with
    | bool k =>
      cases k
      · exact .refl _
      · exact (ev_le h d env).bind fun _ => .refl _
    | _ => exact .refl _
  | .and a b, env => (ev_le h a env).bind fun x => by
    cases x with
    | bool k =>
      cases k
      · exact .refl _
      · exact ev_le h b env
    | _ => exact .refl _
  | .or a b, env => (ev_le h a env).bind fun x => by
    cases x with
    | bool k =>
      cases k
      · exact ev_le h b env
      · exact .refl _
    | _ => exact .refl _
  | .not a, env => (ev_le h a env).bind fun _ => .refl _
  | .ite t a b, env => (evT_le h t env).bind fun k => .ite (ev_le h a env) (ev_le h b env)
  | .call f as, env => (evs_le h as env).bind fun xs => h f xs
  | .tup as, env => (evs_le h as env).bind fun _ => .refl _
  | .lst as, env => (evs_le h as env).bind fun _ => .refl _
  | .comp elt t it cs own, env => (evI_le h it env).bind fun xs => (Le.noX (Le.compL (fun x => by
      cases bindT t x (wipeD env (own.map (·.2))) with
      | none => exact .refl _
      | some env' => exact (evTs_le h cs env').bind fun k => .ite ((ev_le h elt env').bind fun _ => .refl _) (.refl _)) xs [])).bind fun _ => .refl _
theorem evT_le (h : LeO c c') : ∀ (e : Ex) (env : Env), Le (evT c G e env) (evT c' G e env)
  | .and a b, env => (evT_le h a env).bind fun k => .ite (evT_le h b env) (.refl _)
  | .or a b, env => (evT_le h a env).bind fun k => .ite (.refl _) (evT_le h b env)
  | .not a, env => (evT_le h a env).bind fun _ => .refl _
  | .ite t a b, env => (evT_le h t env).bind fun k => .ite (evT_le h a env) (evT_le h b env)
  | .var i, env => .refl _
  | .cst d, env => .refl _
  | .glb g, env => .refl _
  | .op1 p a, env => ((ev_le h a env).bind fun _ => .refl _).bind fun _ => .refl _
  | .op2 p a b, env => ((ev_le h a env).bind fun _ => (ev_le h b env).bind fun _ => .refl _).bind fun _ => .refl _
  | .chain p q a b d, env => ((ev_le h a env).bind fun x => (ev_le h b env).bind fun y => (Le.refl _).bind fun r => by
    cases r with
    | bool k =>
      cases k
      · exact .refl _
      · exact (ev_le h d env).bind fun _ => .refl _
    | _ => exact .refl _).bind fun _ => .refl _
  | .call f as, env => ((evs_le h as env).bind fun xs => h f xs).bind fun _ => .refl _
  | .tup as, env => (evs_le h as env).bind fun _ => .refl _
  | .lst as, env => (evs_le h as env).bind fun _ => .refl _
  | .comp elt t it cs own, env => (evI_le h it env).bind fun xs => (Le.noX (Le.compL (fun x => by
      cases bindT t x (wipeD env (own.map (·.2))) with
      | none => exact .refl _
      | some env' => exact (evTs_le h cs env').bind fun k => .ite ((ev_le h elt env').bind fun _ => .refl _) (.refl _)) xs [])).bind fun _ => .refl _
theorem evs_le (h : LeO c c') : ∀ (e : Exs) (env : Env), Le (evs c G e env) (evs c' G e env)
  | .nil, env => .refl _
  | .cons a as, env => (ev_le h a env).bind fun _ => (evs_le h as env).bind fun _ => .refl _
theorem evTs_le (h : LeO c c') : ∀ (e : Exs) (env : Env), Le (evTs c G e env) (evTs c' G e env)
  | .nil, env => .refl _
  | .cons a .nil, env => evT_le h a env
  | .cons _ (.cons _ _), env => .refl _
theorem evI_le (h : LeO c c') : ∀ (e : Ir) (env : Env), Le (evI c G e env) (evI c' G e env)
  | .seq a, env => (ev_le h a env).bind fun _ => .refl _
  | .rng a, env => (ev_le h a env).bind fun _ => .refl _
  | .rng2 a b, env => (ev_le h a env).bind fun _ => (ev_le h b env).bind fun _ => .refl _
  | .enum a, env => (ev_le h a env).bind fun _ => .refl _
  | .zip a b, env => (ev_le h a env).bind fun _ => (ev_le h b env).bind fun _ => .refl _
end
def LeF (r r' : Fl) : Prop := r = .stuck ∨ r' = r
theorem LeF.refl (r : Fl) : LeF r r := .inr rfl
theorem Le.fl {α : Type} {r r' : Res α} {env : Env} {f f' : α → Fl} (h : Le r r') (k : ∀ a, LeF (f a) (f' a)) : LeF (r.fl env f) (r'.fl env f') := by
  rcases h with rfl | rfl
  · exact .inl rfl
  · cases r' with
    | ok a => exact k a
    | exc x => exact .inr rfl
    | stuck => exact .inl rfl
theorem LeF.then {r r' : Fl} {f f' : Env → Fl} (h : LeF r r') (k : ∀ a, LeF (f a) (f' a)) : LeF (r.then f) (r'.then f') := by
  rcases h with rfl | rfl
  · exact .inl rfl
  · cases r' with
    | nx a => exact k a
    | _ => exact .inr rfl
theorem LeF.ite {b : Bool} {p q p' q' : Fl} (h1 : LeF p p') (h2 : LeF q q') : LeF (if b then p else q) (if b then p' else q') := by
  cases b <;> assumption
theorem LeF.forL {t : Tg} {f f' : Env → Fl} (h : ∀ env, LeF (f env) (f' env)) : ∀ (xs : List D) (env : Env), LeF (forL t f xs env) (DH.forL t f' xs env)
  | [], env => .refl _
  | x :: r, env => by
    unfold DH.forL
    cases bindT t x env with
    | none => exact .refl _
    | some env1 => exact (h env1).then fun env2 => LeF.forL h r env2
theorem LeF.whileL {t t' : Env → Res Bool} {f f' : Env → Fl} (h1 : ∀ env, Le (t env) (t' env)) (h : ∀ env, LeF (f env) (f' env)) : ∀ (n : Nat) (env : Env), LeF (whileL t f n env) (DH.whileL t' f' n env)
  | 0, env => .refl _
  | n + 1, env => by
    unfold DH.whileL
    exact (h1 env).fl fun k => .ite ((h env).then fun env2 => LeF.whileL h1 h n env2) (.refl _)
theorem LeF.catch {r r' : Fl} {i : Nat} {hs : List Hd} (h : LeF r r') : LeF (r.catch i hs) (r'.catch i hs) := by
  rcases h with rfl | rfl
  · exact .inl rfl
  · exact .refl _
theorem LeF.catchA {r r' : Fl} {i : Nat} {h : HA} (q : LeF r r') : LeF (r.catchA i h) (r'.catchA i h) := by
  rcases q with rfl | rfl
  · exact .inl rfl
  · exact .refl _
mutual
theorem run_le {w : Nat} (h : LeO c c') : ∀ (s : Sm) (env : Env), LeF (run c G w s env) (run c' G w s env)
  | .asg i e, env => (ev_le h e env).fl fun _ => .refl _
  | .mov i j, env => .refl _
  | .par i j a b, env => (ev_le h a env).fl fun _ => (ev_le h b env).fl fun _ => .refl _
  | .unp i j e, env => (ev_le h e env).fl fun _ => .refl _
  | .app i e, env => (Le.refl _).fl fun _ => (Le.refl _).fl fun _ => (ev_le h e env).fl fun _ => .refl _
  | .ext i e, env => (Le.refl _).fl fun _ => (Le.refl _).fl fun _ => (ev_le h e env).fl fun _ => .refl _
  | .pop j i, env => .refl _
  | .pop0 j i, env => .refl _
  | .set i k e, env => (ev_le h e env).fl fun _ => (Le.refl _).fl fun _ => (Le.refl _).fl fun _ => (ev_le h k env).fl fun _ => .refl _
  | .set2 i k1 k2 e1 e2, env => (ev_le h e1 env).fl fun _ => (ev_le h e2 env).fl fun _ => (Le.refl _).fl fun _ => (Le.refl _).fl fun _ => (ev_le h k1 env).fl fun _ => (Le.refl _).fl fun _ => (ev_le h k2 _).fl fun _ => .refl _
  | .ife t a b, env => (evT_le h t env).fl fun _ => .ite (runs_le h a env) (runs_le h b env)
  | .forr t it b, env => (evI_le h it env).fl fun xs => LeF.forL (fun env => runs_le h b env) xs env
  | .whil t b, env => LeF.whileL (fun env => evT_le h t env) (fun env => runs_le h b env) w env
  | .ret e, env => (ev_le h e env).fl fun _ => .refl _
  | .retN, env => .refl _
  | .rais x, env => .refl _
  | .raisA x e, env => (ev_le h e env).fl fun _ => .refl _
  | .expr e, env => (ev_le h e env).fl fun _ => .refl _
  | .pass, env => .refl _
  | .tri i b hs, env => LeF.catch (runs_le h b env)
  | .trA i e hh, env => LeF.catchA ((ev_le h e env).fl fun _ => .refl _)
theorem runs_le {w : Nat} (h : LeO c c') : ∀ (s : Sms) (env : Env), LeF (runs c G w s env) (runs c' G w s env)
  | .nil, env => .refl _
  | .cons s r, env => (run_le h s env).then fun env2 => runs_le h r env2
end
theorem LeF.fin {r r' : Fl} (h : LeF r r') : Le r.fin r'.fin := by
  rcases h with rfl | rfl
  · exact .inl rfl
  · exact .refl _
theorem Le.mkC {c c' : List D → Res D} {ds : List D} (h : Le (c ds) (c' ds)) : Le (DH.mkC c ds) (DH.mkC c' ds) := by
  unfold DH.mkC
  rcases h with h | h
  · rw [h]; exact .inl rfl
  · rw [h]; exact .refl _
theorem call_le {w : Nat} {P : List Df} : ∀ n, LeO (call G w P n) (call G w P (n + 1))
  | 0, f, ds => .inl rfl
  | n + 1, f, ds => by
    cases h : P[f]? with
    | none =>
      have e : ∀ m, call G w P (m + 1) f ds = .stuck := fun m => by unfold call; rw [h]
      rw [e, e]
      exact .refl _
    | some df =>
      cases hk : df.kd with
      | fn =>
        rw [call_fn h hk, call_fn h hk]
        simp only
        split
        · exact LeF.fin (runs_le (call_le n) _ _)
        · exact .refl _
      | ini =>
        rw [call_ini h hk, call_ini h hk]
        simp only
        split
        · exact LeF.fin (runs_le (call_le n) _ _)
        · exact .refl _
      | cls j =>
        rw [call_cls h hk, call_cls h hk]
        simp only
        split
        · exact Le.mkC (call_le n j ds)
        · exact .refl _
      | mth =>
        rw [call_mth h hk, call_mth h hk]
        simp only
        split
        · exact LeF.fin (runs_le (call_le n) _ _)
        · exact .refl _
theorem call_up {w : Nat} {P : List Df} {n m f : Nat} {ds : List D} {r : Res D} (h : call G w P n f ds = r) (hr : r ≠ .stuck) (hm : n ≤ m) : call G w P m f ds = r := by
  obtain ⟨k, rfl⟩ := Nat.exists_eq_add_of_le hm
  clear hm
  induction k with
  | zero => exact h
  | succ k ih =>
    rcases call_le (G := G) (w := w) (P := P) (n + k) f ds with q | q
    · rw [ih] at q; exact absurd q hr
    · exact q.trans ih
theorem call_ok {w : Nat} {P : List Df} {n m f : Nat} {ds : List D} {d : D} (h : call G w P n f ds = .ok d) (hm : n ≤ m) : call G w P m f ds = .ok d := call_up h (fun z => by cases z) hm
theorem call_exc {w : Nat} {P : List Df} {n m f : Nat} {ds : List D} {x : Exn} (h : call G w P n f ds = .exc x) (hm : n ≤ m) : call G w P m f ds = .exc x := call_up h (fun z => by cases z) hm
end
end DH
set_option Elab.async false
set_option linter.all false
set_option maxRecDepth 100000
/-! DH, part Z: tools for reading a text of the language. -/
namespace DH
open PySem

/-! ### equality of data, as a Bool -/
mutual
def eqD : D → D → Bool
  | .none, .none => true
  | .bool a, .bool b => a == b
  | .int a, .int b => a == b
  | .str a, .str b => a == b
  | .list a, .list b => eqDs a b
  | .tuple a, .tuple b => eqDs a b
  | _, _ => false
def eqDs : List D → List D → Bool
  | [], [] => true
  | x :: r, y :: s => eqD x y && eqDs r s
  | _, _ => false
end
mutual
theorem eqD_ok : ∀ {a b : D}, eqD a b = true → a = b
  | .none, b, h => by cases b <;> simp_all [eqD]
  | .bool a, b, h => by cases b <;> simp_all [eqD]
  | .int a, b, h => by cases b <;> simp_all [eqD]
  | .str a, b, h => by cases b <;> simp_all [eqD]
  | .list a, b, h => by
    cases b <;> simp [eqD] at h
    rw [eqDs_ok h]
  | .tuple a, b, h => by
    cases b <;> simp [eqD] at h
    rw [eqDs_ok h]
  | .dict a, b, h => by cases b <;> simp [eqD] at h
theorem eqDs_ok : ∀ {a b : List D}, eqDs a b = true → a = b
  | [], b, h => by cases b <;> simp_all [eqDs]
  | x :: r, b, h => by
    cases b with
    | nil => simp [eqDs] at h
    | cons y s =>
      simp only [eqDs, Bool.and_eq_true] at h
      rw [eqD_ok h.1, eqDs_ok h.2]
end
def isOk (r : Res D) (d : D) : Bool := match r with
  | .ok x => eqD x d
  | _ => false
theorem isOk_ok {r : Res D} {d : D} (h : isOk r d = true) : r = .ok d := by
  cases r with
  | ok x => rw [eqD_ok h]
  | _ => cases h
def isExc (r : Res D) (c : Nat) : Bool := match r with
  | .exc x => x.c == c && x.a.isNone
  | _ => false
theorem isExc_ok {r : Res D} {c : Nat} (h : isExc r c = true) : r = .exc ⟨c, none⟩ := by
  cases r with
  | exc x =>
    obtain ⟨xc, xa⟩ := x
    simp only [isExc, Bool.and_eq_true, beq_iff_eq, Option.isNone_iff_eq_none] at h
    obtain ⟨rfl, rfl⟩ := h
    rfl
  | _ => cases h
abbrev nI (k : Nat) : D := .int (k : Int)
def all1 (m : Nat) (p : Nat → Bool) : Bool := (List.range m).all p
theorem all1_ok {m : Nat} {p : Nat → Bool} (h : all1 m p = true) {a : Nat} (ha : a < m) : p a = true := List.all_eq_true.mp h a (List.mem_range.mpr ha)
def all2 (m k : Nat) (p : Nat → Nat → Bool) : Bool := all1 m fun a => all1 k fun b => p a b
theorem all2_ok {m k : Nat} {p : Nat → Nat → Bool} (h : all2 m k p = true) {a b : Nat} (ha : a < m) (hb : b < k) : p a b = true := all1_ok (all1_ok h ha) hb

/-! ### calls -/
abbrev wf : Nat := 2000
abbrev cal (n f : Nat) (ds : List D) : Res D := call gd wf prog n f ds
theorem cal_eqk {n f : Nat} {df : Df} {ds : List D} (hf : prog[f]? = some df) (hk : df.kd = .fn) (hl : ds.length = df.np) : cal (n + 1) f ds = (runs (call gd wf prog n) gd wf df.body (df.env ds)).fin := by
  show call gd wf prog (n + 1) f ds = _
  rw [call_fn hf hk]
  simp only [if_pos hl]
theorem cal_eq {n f : Nat} {df : Df} {ds : List D} (hf : prog[f]? = some df) (hl : ds.length = df.np) (hk : df.kd = .fn := by rfl) : cal (n + 1) f ds = (runs (call gd wf prog n) gd wf df.body (df.env ds)).fin := cal_eqk hf hk hl

/-! ### the equations -/
section
variable (c : Orc) (G : Gd) (w : Nat) (env : Env)
@[simp] theorem e_var (i : Nat) : ev c G (.var i) env = get env i := id rfl
@[simp] theorem e_cst (d : D) : ev c G (.cst d) env = .ok d := id rfl
@[simp] theorem e_glb (i : Nat) : ev c G (.glb i) env = if i < 1000 then ofO G.cs[i]? else .stuck := id rfl
@[simp] theorem e_op1 (p : P1) (a : Ex) : ev c G (.op1 p a) env = (ev c G a env).bind fun x => ofO (prim1 G p x) := id rfl
@[simp] theorem e_op2 (p : P2) (a b : Ex) : ev c G (.op2 p a b) env = (ev c G a env).bind fun x => (ev c G b env).bind fun y => ofO (prim2 p x y) := id rfl
def chn (r : D) (k : Res D) : Res D := match r with
  | .bool true => k
  | .bool false => .ok (.bool false)
  | _ => .stuck
def orr (r : D) (k : Res D) : Res D := match r with
  | .bool true => .ok (.bool true)
  | .bool false => k
  | _ => .stuck
@[simp] theorem chn_t (k : Res D) : chn (.bool true) k = k := id rfl
@[simp] theorem chn_f (k : Res D) : chn (.bool false) k = .ok (.bool false) := id rfl
@[simp] theorem orr_t (k : Res D) : orr (.bool true) k = .ok (.bool true) := id rfl
@[simp] theorem orr_f (k : Res D) : orr (.bool false) k = k := id rfl
theorem chn_b (b : Bool) (k : Res D) : chn (.bool b) k = if b then k else .ok (.bool false) := by cases b <;> rfl
theorem orr_b (b : Bool) (k : Res D) : orr (.bool b) k = if b then .ok (.bool true) else k := by cases b <;> rfl
def nott (x : D) : Res D := match truth x with
  | some b => .ok (.bool (!b))
  | none => .stuck
@[simp] theorem nott_b (b : Bool) : nott (.bool b) = .ok (.bool (!b)) := id rfl
@[simp] theorem e_chain (p q : P2) (a b d : Ex) : ev c G (.chain p q a b d) env = (ev c G a env).bind fun x => (ev c G b env).bind fun y => (ofO (prim2 p x y)).bind fun r => chn r ((ev c G d env).bind fun z => ofO (prim2 q y z)) := id rfl
@[simp] theorem e_and (a b : Ex) : ev c G (.and a b) env = (ev c G a env).bind fun x => chn x (ev c G b env) := id rfl
@[simp] theorem e_or (a b : Ex) : ev c G (.or a b) env = (ev c G a env).bind fun x => orr x (ev c G b env) := id rfl
@[simp] theorem e_not (a : Ex) : ev c G (.not a) env = (ev c G a env).bind nott := id rfl
@[simp] theorem e_ite (t a b : Ex) : ev c G (.ite t a b) env = (evT c G t env).bind fun k => if k then ev c G a env else ev c G b env := id rfl
@[simp] theorem e_call (f : Nat) (as : Exs) : ev c G (.call f as) env = (evs c G as env).bind fun xs => c f xs := id rfl
@[simp] theorem e_tup (as : Exs) : ev c G (.tup as) env = (evs c G as env).bind fun xs => .ok (.tuple xs) := id rfl
@[simp] theorem e_lst (as : Exs) : ev c G (.lst as) env = (evs c G as env).bind fun xs => .ok (.list xs) := id rfl
@[simp] theorem et_and (a b : Ex) : evT c G (.and a b) env = (evT c G a env).bind fun k => if k then evT c G b env else .ok false := id rfl
@[simp] theorem et_or (a b : Ex) : evT c G (.or a b) env = (evT c G a env).bind fun k => if k then .ok true else evT c G b env := id rfl
@[simp] theorem et_not (a : Ex) : evT c G (.not a) env = (evT c G a env).bind fun k => .ok (!k) := id rfl
@[simp] theorem et_ite (t a b : Ex) : evT c G (.ite t a b) env = (evT c G t env).bind fun k => if k then evT c G a env else evT c G b env := id rfl
@[simp] theorem et_var (i : Nat) : evT c G (.var i) env = (get env i).bind fun x => ofO (truth x) := id rfl
@[simp] theorem et_cst (d : D) : evT c G (.cst d) env = ofO (truth d) := id rfl
@[simp] theorem et_op1 (p : P1) (a : Ex) : evT c G (.op1 p a) env = ((ev c G a env).bind fun x => ofO (prim1 G p x)).bind fun x => ofO (truth x) := id rfl
@[simp] theorem et_op2 (p : P2) (a b : Ex) : evT c G (.op2 p a b) env = ((ev c G a env).bind fun x => (ev c G b env).bind fun y => ofO (prim2 p x y)).bind fun x => ofO (truth x) := id rfl
@[simp] theorem et_chain (p q : P2) (a b d : Ex) : evT c G (.chain p q a b d) env = (ev c G (.chain p q a b d) env).bind fun x => ofO (truth x) := id rfl
@[simp] theorem et_call (f : Nat) (as : Exs) : evT c G (.call f as) env = ((evs c G as env).bind fun xs => c f xs).bind fun x => ofO (truth x) := id rfl
@[simp] theorem es_nil : evs c G .nil env = .ok [] := id rfl
@[simp] theorem es_cons (a : Ex) (as : Exs) : evs c G (.cons a as) env = (ev c G a env).bind fun x => (evs c G as env).bind fun xs => .ok (x :: xs) := id rfl
@[simp] theorem ets_nil : evTs c G .nil env = .ok true := id rfl
@[simp] theorem ets_one (a : Ex) : evTs c G (.cons a .nil) env = evT c G a env := id rfl
@[simp] theorem ei_seq (a : Ex) : evI c G (.seq a) env = (ev c G a env).bind fun x => ofO (seqS x) := id rfl
def rngR (x : D) : Res (List D) := match x with
  | .int n => if n ≤ 100000 ∧ -100000 ≤ n then .ok (rngI 0 n.toNat) else .stuck
  | _ => .stuck
def rngR2 (x y : D) : Res (List D) := match x, y with
  | .int m, .int n => if m ≤ 100000 ∧ -100000 ≤ m ∧ n ≤ 100000 ∧ -100000 ≤ n then .ok (rngI m (n - m).toNat) else .stuck
  | _, _ => .stuck
@[simp] theorem ei_rng (a : Ex) : evI c G (.rng a) env = (ev c G a env).bind rngR := id rfl
@[simp] theorem ei_rng2 (a b : Ex) : evI c G (.rng2 a b) env = (ev c G a env).bind fun x => (ev c G b env).bind fun y => rngR2 x y := id rfl
@[simp] theorem ei_enum (a : Ex) : evI c G (.enum a) env = (ev c G a env).bind fun x => (ofO (seqL x)).bind fun xs => .ok (enumL xs 0) := id rfl
@[simp] theorem rs_nil : runs c G w .nil env = .nx env := id rfl
@[simp] theorem rs_cons (s : Sm) (r : Sms) : runs c G w (.cons s r) env = (run c G w s env).then fun env' => runs c G w r env' := id rfl
@[simp] theorem r_asg (i : Nat) (e : Ex) : run c G w (.asg i e) env = (ev c G e env).fl env fun d => .nx (put env i d) := id rfl
@[simp] theorem r_mov (i j : Nat) : run c G w (.mov i j) env = (get env j).fl env fun d => .nx ((put env i d).set j none) := id rfl
@[simp] theorem r_par (i j : Nat) (a b : Ex) : run c G w (.par i j a b) env = (ev c G a env).fl env fun x => (ev c G b env).fl env fun y => .nx (put (put env i x) j y) := id rfl
@[simp] theorem r_app (i : Nat) (e : Ex) : run c G w (.app i e) env = (get env i).fl env fun l => (ofO (lstOf l)).fl env fun xs => (ev c G e env).fl env fun d => (ofO (appL xs d)).fl env fun z => .nx (put env i (.list z)) := id rfl
@[simp] theorem r_ext (i : Nat) (e : Ex) : run c G w (.ext i e) env = (get env i).fl env fun l => (ofO (lstOf l)).fl env fun xs => (ev c G e env).fl env fun d => (ofO (extL xs d)).fl env fun z => .nx (put env i (.list z)) := id rfl
@[simp] theorem r_set (i : Nat) (k e : Ex) : run c G w (.set i k e) env = (ev c G e env).fl env fun d => (get env i).fl env fun l => (ofO (lstOf l)).fl env fun xs => (ev c G k env).fl env fun n => (ofO (setL xs n d)).fl env fun z => .nx (put env i (.list z)) := id rfl
@[simp] theorem r_ife (t : Ex) (a b : Sms) : run c G w (.ife t a b) env = (evT c G t env).fl env fun k => if k then runs c G w a env else runs c G w b env := id rfl
@[simp] theorem r_forr (t : Tg) (it : Ir) (b : Sms) : run c G w (.forr t it b) env = (evI c G it env).fl env fun xs => forL t (fun env => runs c G w b env) xs env := id rfl
@[simp] theorem r_whil (t : Ex) (b : Sms) : run c G w (.whil t b) env = whileL (fun env => evT c G t env) (fun env => runs c G w b env) w env := id rfl
@[simp] theorem r_ret (e : Ex) : run c G w (.ret e) env = (ev c G e env).fl env fun d => .rt d := id rfl
@[simp] theorem r_retN : run c G w .retN env = .rt .none := id rfl
@[simp] theorem r_rais (x : Nat) : run c G w (.rais x) env = .exc ⟨x, none⟩ env := id rfl
@[simp] theorem r_expr (e : Ex) : run c G w (.expr e) env = (ev c G e env).fl env fun _ => .nx env := id rfl
@[simp] theorem r_pass : run c G w .pass env = .nx env := id rfl
@[simp] theorem r_trA (i : Nat) (e : Ex) (h : HA) : run c G w (.trA i e h) env = ((ev c G e env).fl env fun _ => .nx env).catchA i h := id rfl
@[simp] theorem r_tri (i : Nat) (b : Sms) (hs : List Hd) : run c G w (.tri i b hs) env = (runs c G w b env).catch i hs := id rfl
@[simp] theorem fin_nx : Fl.fin (.nx env) = .ok .none := id rfl
@[simp] theorem fin_rt (d : D) : Fl.fin (.rt d) = .ok d := id rfl
@[simp] theorem fin_exc (x : Exn) : Fl.fin (.exc x env) = .exc x := id rfl
@[simp] theorem catch_nx (i : Nat) (hs : List Hd) : Fl.catch (.nx env) i hs = .nx env := id rfl
@[simp] theorem catch_rt (d : D) (i : Nat) (hs : List Hd) : Fl.catch (.rt d) i hs = .rt d := id rfl
@[simp] theorem g_zero (d : D) (r : Env) : get (some d :: r) 0 = .ok d := id rfl
@[simp] theorem g_succ (o : Option D) (r : Env) (i : Nat) : get (o :: r) (i + 1) = get r i := id rfl
@[simp] theorem p_zero (o : Option D) (r : Env) (d : D) : put (o :: r) 0 d = some d :: r := id rfl
@[simp] theorem p_succ (o : Option D) (r : Env) (i : Nat) (d : D) : put (o :: r) (i + 1) d = o :: put r i d := id rfl
@[simp] theorem bt_one (i : Nat) (d : D) : bindT (.one i) d env = some (put env i d) := id rfl
@[simp] theorem bt_two (i j : Nat) (x y : D) : bindT (.two i j) (.tuple [x, y]) env = some (put (put env i x) j y) := id rfl
@[simp] theorem wp_nil : wipeD env [] = env := id rfl
@[simp] theorem wp_cons (v : Nat) (vs : List Nat) : wipeD env (v :: vs) = (wipeD env vs).set v none := id rfl
@[simp] theorem tr_bool (b : Bool) : truth (.bool b) = some b := id rfl
@[simp] theorem tr_none : truth .none = some false := id rfl
@[simp] theorem tr_list (xs : List D) : truth (.list xs) = some (!xs.isEmpty) := id rfl
@[simp] theorem sq_list (xs : List D) : seqL (.list xs) = some xs := id rfl
@[simp] theorem sq_tuple (xs : List D) : seqL (.tuple xs) = some xs := id rfl
@[simp] theorem sS_list (xs : List D) : seqS (.list xs) = some xs := id rfl
@[simp] theorem sS_tuple (xs : List D) : seqS (.tuple xs) = some xs := id rfl
@[simp] theorem ls_list (xs : List D) : lstOf (.list xs) = some xs := id rfl
@[simp] theorem ite_ok {α : Type} (b : Bool) (x y : α) : (if b then Res.ok x else .ok y) = .ok (if b then x else y) := by cases b <;> rfl
@[simp] theorem q_len_l (xs : List D) : prim1 G .len (.list xs) = some (nI xs.length) := id rfl
@[simp] theorem q_len_t (xs : List D) : prim1 G .len (.tuple xs) = some (nI xs.length) := id rfl
theorem keysI_map (ns : List Int) : keysI (ns.map fun i => (PyData.int i, PyData.none)) = true := by
  unfold keysI
  rw [List.all_map, List.all_eq_true]
  intro x _
  rfl
@[simp] theorem q_len_d (ns : List Int) : prim1 G .len (.dict (ns.map fun i => (PyData.int i, PyData.none))) = some (nI ns.length) := by
  show (if keysI (ns.map fun i => (PyData.int i, PyData.none)) then some (PyData.int (ns.map fun i => (PyData.int i, PyData.none)).length) else none) = _
  rw [keysI_map, List.length_map]
  rfl
@[simp] theorem q_tuple_l (xs : List D) : prim1 G .tuple (.list xs) = some (.tuple xs) := id rfl
@[simp] theorem q_list_t (xs : List D) : prim1 G .list (.tuple xs) = some (.list xs) := id rfl
@[simp] theorem q_isN (d : D) : prim1 G .isN d = some (.bool (isNoneD d)) := id rfl
@[simp] theorem q_notN (d : D) : prim1 G .notN d = some (.bool (!isNoneD d)) := id rfl
@[simp] theorem q_isi (t : Ty) (d : D) : prim1 G (.isi t) d = isi1 t d := id rfl
@[simp] theorem q_add (i j : Int) : prim2 .add (.int i) (.int j) = some (.int (i + j)) := id rfl
@[simp] theorem q_sub (i j : Int) : prim2 .sub (.int i) (.int j) = some (.int (i - j)) := id rfl
@[simp] theorem q_mod (i j : Int) : prim2 .mod (.int i) (.int j) = if 0 < j then some (.int (i % j)) else none := id rfl
@[simp] theorem q_fdiv (i j : Int) : prim2 .fdiv (.int i) (.int j) = if 0 < j ∧ j < 1073741824 then some (.int (i / j)) else none := id rfl
@[simp] theorem q_lt (i j : Int) : prim2 .lt (.int i) (.int j) = some (.bool (decide (i < j))) := id rfl
@[simp] theorem q_le (i j : Int) : prim2 .le (.int i) (.int j) = some (.bool (decide (i ≤ j))) := id rfl
@[simp] theorem q_gt (i j : Int) : prim2 .gt (.int i) (.int j) = some (.bool (decide (j < i))) := id rfl
@[simp] theorem q_ge (i j : Int) : prim2 .ge (.int i) (.int j) = some (.bool (decide (j ≤ i))) := id rfl
@[simp] theorem q_idx_l (xs : List D) (i : Int) : prim2 .idx (.list xs) (.int i) = L2.atI xs i := id rfl
@[simp] theorem q_idx_t (xs : List D) (i : Int) : prim2 .idx (.tuple xs) (.int i) = L2.atI xs i := id rfl
@[simp] theorem q_eq (d e : D) : prim2 .eq d e = if shp d && shp e then some (.bool (PyData.eqv d e)) else none := by cases d <;> cases e <;> rfl
@[simp] theorem q_ne (d e : D) : prim2 .ne d e = if shp d && shp e then some (.bool (!PyData.eqv d e)) else none := by cases d <;> cases e <;> rfl
@[simp] theorem eq_ii (i j : Int) : PyData.eqv (.int i) (.int j) = (i == j) := id rfl
@[simp] theorem eq_bb (i j : Bool) : PyData.eqv (.bool i) (.bool j) = (i == j) := id rfl
@[simp] theorem sh_i (i : Int) : shp (.int i) = true := id rfl
@[simp] theorem sh_b (i : Bool) : shp (.bool i) = true := id rfl
@[simp] theorem sh_n : shp .none = true := id rfl
end
theorem rng0 (n : Nat) : rngI 0 n = (List.range n).map nI := by
  unfold rngI
  simp
theorem rngR_nat {n : Nat} (h : n ≤ 100000) : rngR (nI n) = .ok ((List.range n).map nI) := by
  unfold rngR
  simp only
  rw [if_pos (by omega), ← rng0]
  rfl
theorem shps_nat : ∀ (l : List Nat), PyData.canLayAll0 (l.map nI) = true ∧ PyData.depthAll (l.map nI) = 0
  | [] => ⟨rfl, rfl⟩
  | a :: l => by
    obtain ⟨h1, h2⟩ := shps_nat l
    simp only [List.map_cons, PyData.canLayAll0, PyData.depthAll, PyData.canLay0, PyData.depth, h1, h2]
    exact ⟨rfl, rfl⟩
@[simp] theorem shp_nl (l : List Nat) : shp (.list (l.map nI)) = true := by
  obtain ⟨h1, h2⟩ := shps_nat l
  simp [shp, SeqAt.shaped, PyData.canLay0, PyData.depth, h1, h2]
@[simp] theorem shp_nt (l : List Nat) : shp (.tuple (l.map nI)) = true := by
  obtain ⟨h1, h2⟩ := shps_nat l
  simp [shp, SeqAt.shaped, PyData.canLay0, PyData.depth, h1, h2]
theorem eqvAll_nat : ∀ (l m : List Nat), PyData.eqvAll (l.map nI) (m.map nI) = decide (l = m)
  | [], [] => rfl
  | [], b :: m => by simp [PyData.eqvAll]
  | a :: l, [] => by simp [PyData.eqvAll]
  | a :: l, b :: m => by
    simp only [List.map_cons, PyData.eqvAll, eq_ii, eqvAll_nat l m, List.cons.injEq]
    by_cases h : a = b
    · subst h; simp
    · have : ((a : Int) == (b : Int)) = false := by rw [beq_eq_false_iff_ne]; omega
      simp [this, h]
@[simp] theorem eqv_nl (l m : List Nat) : PyData.eqv (.list (l.map nI)) (.list (m.map nI)) = decide (l = m) := eqvAll_nat l m
@[simp] theorem eqv_nt (l m : List Nat) : PyData.eqv (.tuple (l.map nI)) (.tuple (m.map nI)) = decide (l = m) := eqvAll_nat l m

/-! ### loops -/
theorem compL_eq {α : Type} {f : D → Res (Option D)} {enc : α → D} {p : α → Bool} {v : α → D} : ∀ {L : List α} {acc : List D}, acc.length + L.length ≤ LIM → (∀ a ∈ L, f (enc a) = .ok (if p a then some (v a) else none)) → compL f (L.map enc) acc = .ok (acc ++ (L.filter p).map v)
  | [], acc, _, _ => by simp [compL]
  | a :: L, acc, hl, h => by
    simp only [List.map_cons, compL, h a List.mem_cons_self, bind_ok]
    cases q : p a with
    | true =>
      simp only [if_true, List.filter_cons, q, List.map_cons]
      rw [if_pos (by simp at hl; omega), compL_eq (by simp at hl ⊢; omega) fun b hb => h b (List.mem_cons_of_mem _ hb)]
      simp
    | false =>
      simp only [Bool.false_eq_true, if_false, List.filter_cons, q]
      exact compL_eq (by simp at hl ⊢; omega) fun b hb => h b (List.mem_cons_of_mem _ hb)
theorem ev_comp {α : Type} {c : Orc} {G : Gd} {elt : Ex} {t : Tg} {it : Ir} {cs : Exs} {own : List (Str × Nat)} {env : Env} (L : List α) (enc : α → D) (p : α → Bool) (v : α → D) (hI : evI c G it env = .ok (L.map enc)) (hl : L.length ≤ LIM)
    (h : ∀ a ∈ L, turnC t own (evTs c G cs) (ev c G elt) env (enc a) = .ok (if p a then some (v a) else none)) : ev c G (.comp elt t it cs own) env = .ok (.list ((L.filter p).map v)) := by
  have e : ev c G (.comp elt t it cs own) env = (evI c G it env).bind fun xs => (noX (compL (turnC t own (evTs c G cs) (ev c G elt) env) xs [])).bind fun ys => .ok (.list ys) := rfl
  rw [e, hI, bind_ok, compL_eq (by simpa using hl) h]
  rfl
theorem evT_compL {α : Type} {c : Orc} {G : Gd} {elt : Ex} {t : Tg} {it : Ir} {cs : Exs} {own : List (Str × Nat)} {env : Env} (L : List α) (enc : α → D) (p : α → Bool) (v : α → D) (hI : evI c G it env = .ok (L.map enc)) (hl : L.length ≤ LIM)
    (h : ∀ a ∈ L, turnC t own (evTs c G cs) (ev c G elt) env (enc a) = .ok (if p a then some (v a) else none)) : evT c G (.comp elt t it cs own) env = .ok (!(L.filter p).isEmpty) := by
  rw [evT_comp]
  simp only [ev_comp L enc p v hI hl h, bind_ok, truth, ofO_some]
  cases L.filter p <;> rfl
/-- a loop with a state -/
theorem forL_fold {α σ : Type} {t : Tg} {body : Env → Fl} {enc : α → D} (R : σ → Env → Prop) (step : σ → α → σ) : ∀ {L : List α} {s : σ} {env : Env}, (∀ s a env, a ∈ L → R s env → ∃ env1 env2, bindT t (enc a) env = some env1 ∧ body env1 = .nx env2 ∧ R (step s a) env2) → R s env →
    ∃ env', forL t body (L.map enc) env = .nx env' ∧ R (L.foldl step s) env'
  | [], s, env, _, r => ⟨env, rfl, r⟩
  | a :: L, s, env, h, r => by
    obtain ⟨env1, env2, h1, h2, h3⟩ := h s a env List.mem_cons_self r
    obtain ⟨env', h4, h5⟩ := forL_fold R step (L := L) (fun s b env hb => h s b env (List.mem_cons_of_mem _ hb)) h3
    refine ⟨env', ?_, h5⟩
    simp only [List.map_cons, forL, h1, h2, then_nx]
    exact h4
/-- a loop with an invariant -/
theorem forL_inv {α : Type} {t : Tg} {body : Env → Fl} {enc : α → D} (R : Nat → Env → Prop) : ∀ {L : List α} {k : Nat} {env : Env}, (∀ k a env, a ∈ L → R k env → ∃ env1 env2, bindT t (enc a) env = some env1 ∧ body env1 = .nx env2 ∧ R (k + 1) env2) → R k env →
    ∃ env', forL t body (L.map enc) env = .nx env' ∧ R (k + L.length) env'
  | [], k, env, _, r => ⟨env, rfl, r⟩
  | a :: L, k, env, h, r => by
    obtain ⟨env1, env2, h1, h2, h3⟩ := h k a env List.mem_cons_self r
    obtain ⟨env', h4, h5⟩ := forL_inv R (L := L) (fun k b env hb => h k b env (List.mem_cons_of_mem _ hb)) h3
    refine ⟨env', ?_, by rw [List.length_cons, show k + (L.length + 1) = k + 1 + L.length from by omega]; exact h5⟩
    simp only [List.map_cons, forL, h1, h2, then_nx]
    exact h4
/-- a loop over range(n) -/
theorem forR {t : Tg} {body : Env → Fl} {n : Nat} {env : Env} (R : Nat → Env → Prop) (h : ∀ k env, k < n → R k env → ∃ env1 env2, bindT t (nI k) env = some env1 ∧ body env1 = .nx env2 ∧ R (k + 1) env2) (h0 : R 0 env) :
    ∃ env', forL t body ((List.range n).map nI) env = .nx env' ∧ R n env' := by
  have loop : ∀ (m k : Nat) (env : Env), m + k = n → R k env → ∃ env', forL t body ((List.range' k m).map nI) env = .nx env' ∧ R n env' := by
    intro m
    induction m with
    | zero => intro k env hk hR; rw [Nat.zero_add] at hk; subst hk; exact ⟨env, rfl, hR⟩
    | succ m ih =>
      intro k env hk hR
      obtain ⟨env1, env2, h1, h2, h3⟩ := h k env (by omega) hR
      obtain ⟨env', h4, h5⟩ := ih (k + 1) env2 (by omega) h3
      refine ⟨env', ?_, h5⟩
      simp only [List.range'_succ, List.map_cons, forL, h1, h2, then_nx]
      exact h4
  rw [List.range_eq_range']
  exact loop n 0 env rfl h0
def Ends (r : Fl) (P : Env → Prop) : Prop := match r with
  | .nx e => P e
  | _ => False
@[simp] theorem Ends_nx (e : Env) (P : Env → Prop) : Ends (.nx e) P = P e := id rfl
theorem Ends.ex {r : Fl} {P : Env → Prop} (h : Ends r P) : ∃ e, r = .nx e ∧ P e := by
  cases r with
  | nx e => exact ⟨e, rfl, h⟩
  | _ => exact h.elim
theorem forE {t : Tg} {body : Env → Fl} {n : Nat} {env : Env} (R : Nat → Env → Prop) (h : ∀ k env, k < n → R k env → ∃ env1, bindT t (nI k) env = some env1 ∧ Ends (body env1) (R (k + 1))) (h0 : R 0 env) :
    ∃ env', forL t body ((List.range n).map nI) env = .nx env' ∧ R n env' :=
  forR R (fun k env hk hR => by
    obtain ⟨env1, h1, h2⟩ := h k env hk hR
    obtain ⟨e, h3, h4⟩ := h2.ex
    exact ⟨env1, e, h1, h3, h4⟩) h0
theorem forF {α σ : Type} {t : Tg} {body : Env → Fl} {enc : α → D} {L : List α} {s : σ} {env : Env} (R : σ → Env → Prop) (step : σ → α → σ) (h : ∀ s a env, a ∈ L → R s env → ∃ env1, bindT t (enc a) env = some env1 ∧ Ends (body env1) (R (step s a))) (h0 : R s env) :
    ∃ env', forL t body (L.map enc) env = .nx env' ∧ R (L.foldl step s) env' :=
  forL_fold R step (fun s a env ha hR => by
    obtain ⟨env1, h1, h2⟩ := h s a env ha hR
    obtain ⟨e, h3, h4⟩ := h2.ex
    exact ⟨env1, e, h1, h3, h4⟩) h0
/-- a loop that seeks -/
theorem forL_seek {α : Type} {t : Tg} {body : Env → Fl} {enc : α → D} (R : Env → Prop) (p : α → Option D) : ∀ {L : List α} {env : Env}, (∀ a env, a ∈ L → R env → ∃ env1, bindT t (enc a) env = some env1 ∧ (match p a with | some d => body env1 = .rt d | none => ∃ env2, body env1 = .nx env2 ∧ R env2)) → R env →
    (match L.findSome? p with | some d => forL t body (L.map enc) env = .rt d | none => ∃ env', forL t body (L.map enc) env = .nx env' ∧ R env')
  | [], env, _, r => ⟨env, rfl, r⟩
  | a :: L, env, h, r => by
    obtain ⟨env1, h1, h2⟩ := h a env List.mem_cons_self r
    rw [List.findSome?_cons]
    cases q : p a with
    | some d =>
      rw [q] at h2
      simp only [List.map_cons, forL, h1, h2, then_rt]
    | none =>
      rw [q] at h2
      obtain ⟨env2, h3, h4⟩ := h2
      have ih := forL_seek R p (L := L) (fun b env hb => h b env (List.mem_cons_of_mem _ hb)) h4
      simp only [List.map_cons, forL, h1, h3, then_nx]
      exact ih
theorem enum_eq {α : Type} {enc : α → D} : ∀ (L : List α) (k : Nat), enumL (L.map enc) k = (L.zipIdx k).map fun p => .tuple [nI p.2, enc p.1]
  | [], k => rfl
  | a :: L, k => by
    simp only [List.map_cons, enumL, List.zipIdx_cons]
    rw [enum_eq L (k + 1)]
theorem atI_nat {α : Type} {xs : List α} {i : Nat} (h : i < xs.length) : L2.atI xs (i : Int) = some xs[i] := by
  unfold L2.atI L2.ixN
  rw [if_pos (by omega), if_pos (by omega)]
  simp [h]
def at0 (c : List Nat) (i : Nat) : Nat := c.getD i 0
def tC (c : List Nat) : D := .tuple (c.map nI)
theorem at_nat {l : List Nat} {i : Nat} (h : i < l.length) : L2.atI (l.map nI) (i : Int) = some (nI (at0 l i)) := by
  rw [atI_nat (by simpa using h)]
  simp [at0, List.getD, h]
theorem mem_nat {l : List Nat} {d : Nat} : ((l.map nI).any fun z => PyData.eqv z (nI d)) = l.contains d := by
  induction l with
  | nil => rfl
  | cons a l ih =>
    simp only [List.map_cons, List.any_cons, ih, eq_ii, List.contains_cons]
    congr 1
    by_cases h : a = d
    · subst h; simp
    · have h1 : ((a : Int) == (d : Int)) = false := by rw [beq_eq_false_iff_ne]; omega
      have h2 : (d == a) = false := by rw [beq_eq_false_iff_ne]; omega
      rw [h1, h2]
def memN (l : List Nat) (d : Nat) : Bool := l.contains d
@[simp] theorem q_notin (l : List Nat) (d : Nat) : prim2 .notin (nI d) (.list (l.map nI)) = some (.bool (!memN l d)) := by
  show (if shp (nI d) && shp (.list (l.map nI)) then some (PyData.bool (!(l.map nI).any fun z => PyData.eqv z (nI d))) else none) = _
  rw [mem_nat]
  simp [memN]
@[simp] theorem q_isin (l : List Nat) (d : Nat) : prim2 .isin (nI d) (.list (l.map nI)) = some (.bool (memN l d)) := by
  show (if shp (nI d) && shp (.list (l.map nI)) then some (PyData.bool ((l.map nI).any fun z => PyData.eqv z (nI d))) else none) = _
  rw [mem_nat]
  simp [memN]
theorem setL_nat {l : List Nat} {i v : Nat} (h : i < l.length) : setL (l.map nI) (nI i) (nI v) = some ((l.set i v).map nI) := by
  unfold setL
  simp only
  unfold L2.ixN
  rw [if_pos (by omega), if_pos (by simp; omega)]
  simp
@[simp] theorem nn_eq (a b : Nat) : ((a : Int) == (b : Int)) = (a == b) := by
  rw [Bool.eq_iff_iff]
  simp
  omega
@[simp] theorem nn_eq0 (a : Nat) : ((a : Int) == 0) = (a == 0) := by
  rw [Bool.eq_iff_iff]
  simp
@[simp] theorem nn_eq1 (a : Nat) : ((a : Int) == 1) = (a == 1) := by
  rw [Bool.eq_iff_iff]
  simp
  omega
@[simp] theorem nn_eq2 (a : Nat) : ((a : Int) == 2) = (a == 2) := by
  rw [Bool.eq_iff_iff]
  simp
  omega
@[simp] theorem shp_nil : shp (.list []) = true := id rfl
@[simp] theorem eqv_lnil (l : List Nat) : PyData.eqv (.list (l.map nI)) (.list []) = l.isEmpty := by cases l <;> rfl
theorem extL_lt {xs ys : List D} (h : xs.length + ys.length ≤ 100000) : extL xs (.list ys) = some (xs ++ ys) := if_pos h
theorem appL_lt {xs : List D} {d : D} (h : xs.length < 100000) : appL xs d = some (xs ++ [d]) := if_pos h
def pI (p : Nat × Nat) : D := .tuple [nI p.1, nI p.2]
theorem shps_pair : ∀ (l : List (Nat × Nat)), PyData.canLayAll0 (l.map pI) = true ∧ PyData.depthAll (l.map pI) ≤ 1
  | [] => ⟨rfl, by decide⟩
  | a :: l => by
    obtain ⟨h1, h2⟩ := shps_pair l
    simp only [List.map_cons, PyData.canLayAll0, PyData.depthAll, h1, pI, PyData.canLay0, PyData.depth]
    exact ⟨rfl, Nat.max_le.mpr ⟨by decide, h2⟩⟩
@[simp] theorem shp_pl (l : List (Nat × Nat)) : shp (.list (l.map pI)) = true := by
  obtain ⟨h1, h2⟩ := shps_pair l
  simp only [shp, SeqAt.shaped, PyData.canLay0, PyData.depth, h1, Bool.true_and, decide_eq_true_eq]
  exact decide_eq_true (Nat.le_trans (Nat.add_le_add_right h2 1) (show 1 + 1 ≤ 64 by decide))
theorem eqvAll_pair : ∀ (l m : List (Nat × Nat)), PyData.eqvAll (l.map pI) (m.map pI) = decide (l = m)
  | [], [] => rfl
  | [], b :: m => by simp [PyData.eqvAll]
  | a :: l, [] => by simp [PyData.eqvAll]
  | (a1, a2) :: l, (b1, b2) :: m => by
    simp only [List.map_cons, PyData.eqvAll, eqvAll_pair l m, List.cons.injEq, pI, PyData.eqv, nn_eq, Bool.and_true, Prod.mk.injEq]
    rw [Bool.eq_iff_iff]
    simp [and_assoc]
@[simp] theorem eqv_pl (l m : List (Nat × Nat)) : PyData.eqv (.list (l.map pI)) (.list (m.map pI)) = decide (l = m) := eqvAll_pair l m
end DH
set_option Elab.async false
set_option linter.all false
set_option maxRecDepth 100000
/-! the small defs -/
namespace DH
open PySem
def bitsL (a : Nat) : List Nat := (List.range 4).filter fun d => a.testBit d
theorem t_has_bit : all2 16 4 (fun a d => isOk (cal 1 f_has_bit [nI a, nI d]) (.bool (a.testBit d))) = true := by decide +kernel
theorem t_other_end : all2 16 4 (fun a d => isOk (cal 2 f_other_end [nI a, nI d]) (nI (a ^^^ 2 ^ d))) = true := by decide +kernel
theorem t_common : all2 16 16 (fun a b => isOk (cal 2 f_common [nI a, nI b]) (nI (a &&& b))) = true := by decide +kernel
theorem t_differing : all2 16 16 (fun a b => isOk (cal 2 f_differing [nI a, nI b]) (nI (a ^^^ b))) = true := by decide +kernel
theorem t_law_bits : all1 16 (fun a => isOk (cal 1 f_law_bits [nI a]) (.list ((bitsL a).map nI))) = true := by decide +kernel
theorem t_law_end : all2 16 4 (fun a d => isOk (cal 2 f_law_end [nI a, nI d]) (nI (a ^^^ 2 ^ d))) = true := by decide +kernel
theorem t_law_flip : all2 16 4 (fun a d => isOk (cal 3 f_law_flip [nI a, nI d]) (nI (a ^^^ 2 ^ d))) = true := by decide +kernel
theorem t_law_apart : all2 16 16 (fun a b => isOk (cal 2 f_law_apart [nI a, nI b]) (.list ((bitsL (a ^^^ b)).map nI))) = true := by decide +kernel
section
variable {n a b d : Nat}
theorem m_has_bit (hn : 1 ≤ n) (ha : a < 16) (hd : d < 4) : cal n f_has_bit [nI a, nI d] = .ok (.bool (a.testBit d)) := call_ok (isOk_ok (all2_ok t_has_bit ha hd)) hn
theorem m_other_end (hn : 2 ≤ n) (ha : a < 16) (hd : d < 4) : cal n f_other_end [nI a, nI d] = .ok (nI (a ^^^ 2 ^ d)) := call_ok (isOk_ok (all2_ok t_other_end ha hd)) hn
theorem m_common (hn : 2 ≤ n) (ha : a < 16) (hb : b < 16) : cal n f_common [nI a, nI b] = .ok (nI (a &&& b)) := call_ok (isOk_ok (all2_ok t_common ha hb)) hn
theorem m_differing (hn : 2 ≤ n) (ha : a < 16) (hb : b < 16) : cal n f_differing [nI a, nI b] = .ok (nI (a ^^^ b)) := call_ok (isOk_ok (all2_ok t_differing ha hb)) hn
theorem m_law_bits (hn : 1 ≤ n) (ha : a < 16) : cal n f_law_bits [nI a] = .ok (.list ((bitsL a).map nI)) := call_ok (isOk_ok (all1_ok t_law_bits ha)) hn
theorem m_law_end (hn : 2 ≤ n) (ha : a < 16) (hd : d < 4) : cal n f_law_end [nI a, nI d] = .ok (nI (a ^^^ 2 ^ d)) := call_ok (isOk_ok (all2_ok t_law_end ha hd)) hn
theorem m_law_flip (hn : 3 ≤ n) (ha : a < 16) (hd : d < 4) : cal n f_law_flip [nI a, nI d] = .ok (nI (a ^^^ 2 ^ d)) := call_ok (isOk_ok (all2_ok t_law_flip ha hd)) hn
theorem m_law_apart (hn : 2 ≤ n) (ha : a < 16) (hb : b < 16) : cal n f_law_apart [nI a, nI b] = .ok (.list ((bitsL (a ^^^ b)).map nI)) := call_ok (isOk_ok (all2_ok t_law_apart ha hb)) hn
end
def inR (lo hi : Int) : D → Bool
  | .int i => decide (lo ≤ i) && decide (i ≤ hi)
  | _ => false
def noDict : D → Bool
  | .dict _ => false
  | _ => true
theorem m_in_range {n : Nat} {v : D} {lo hi : Int} (hn : 1 ≤ n) (hv : noDict v = true) : cal n f_in_range [v, .int lo, .int hi] = .ok (.bool (inR lo hi v)) := by
  refine call_ok (n := 1) ?_ hn
  rw [show (1 : Nat) = 0 + 1 from rfl]
  refine (cal_eq (f := f_in_range) (df := d_in_range) rfl rfl).trans ?_
  simp [d_in_range, Df.env]
  cases v <;> simp_all [isi1, isiD, noDict, inR, chn_b]
  rename_i i
  by_cases h : lo ≤ i <;> simp [h]

/-! ### the draws -/
theorem m_law_cell {n k : Nat} {ns : List Int} (hn : 1 ≤ n) : ∃ z, cal n f_law_cell [scr ns, nI k] = .ok (.int z) := by
  obtain ⟨n, rfl⟩ := Nat.exists_eq_add_of_le' hn
  have e : ∃ z, cal 1 f_law_cell [scr ns, nI k] = .ok (.int z) := by
    rw [show cal 1 f_law_cell [scr ns, nI k] = _ from cal_eq (n := 0) (f := f_law_cell) (df := d_law_cell) rfl rfl]
    by_cases h : k < ns.length
    · refine ⟨ns[k], ?_⟩
      have hi : prim2 .idx (scr ns) (nI k) = some (.int ns[k]) := by
        show (if keysI (ns.map fun i => (PyData.int i, PyData.none)) then (L2.atI (ns.map fun i => (PyData.int i, PyData.none)) (k : Int)).map (·.1) else none) = _
        rw [keysI_map, if_pos rfl, atI_nat (by simpa using h)]
        simp
      simp [d_law_cell, Df.env, scr, h]
      have hi' : prim2 .idx (.dict (ns.map fun i => (PyData.int i, PyData.none))) (nI k) = some (.int ns[k]) := hi
      simp [hi']
    · refine ⟨0, ?_⟩
      simp [d_law_cell, Df.env, scr, h]
  obtain ⟨z, hz⟩ := e
  exact ⟨z, call_ok hz (Nat.le_add_left 1 n)⟩
end DH
set_option Elab.async false
set_option linter.all false
set_option maxRecDepth 100000
/-! the law k18 -/
namespace DH
open PySem
def tail18 : Sms := match d_law_k18.body with
  | .cons _ r => r
  | .nil => .nil
theorem t_k18 (ns : List Int) : cal 14 f_law_k18 [scr ns] = .ok (.bool true) := by
  refine (cal_eq (n := 13) (f := f_law_k18) (df := d_law_k18) rfl rfl).trans ?_
  obtain ⟨z, hz⟩ := m_law_cell (n := 13) (k := 0) (ns := ns) (by omega)
  have h0 : 0 ≤ z % 15 := Int.emod_nonneg _ (by decide)
  have h1 : z % 15 < 15 := Int.emod_lt_of_pos _ (by decide)
  obtain ⟨m, hm⟩ : ∃ m : Nat, z % 15 = (m : Int) := ⟨(z % 15).toNat, by omega⟩
  have m15 : m < 15 := by omega
  have un : runs (call gd wf prog 13) gd wf d_law_k18.body (d_law_k18.env [scr ns]) = runs (call gd wf prog 13) gd wf tail18 [some (scr ns), some (nI m), none, none, none, none, none] := by
    show ((((call gd wf prog 13 f_law_cell [scr ns, nI 0]).bind fun x => ofO (prim2 .mod x (.int 15))).fl (d_law_k18.env [scr ns]) fun d => .nx (put (d_law_k18.env [scr ns]) 1 d)).then fun env => runs (call gd wf prog 13) gd wf tail18 env) = _
    have hz : call gd wf prog 13 f_law_cell [scr ns, nI 0] = .ok (.int z) := hz
    rw [hz]
    show (((ofO (if (0 : Int) < 15 then some (PyData.int (z % 15)) else none)).fl (d_law_k18.env [scr ns]) fun d => .nx (put (d_law_k18.env [scr ns]) 1 d)).then fun env => runs (call gd wf prog 13) gd wf tail18 env) = _
    rw [if_pos (by decide), hm]
    rfl
  rw [un]
  match m, m15 with
  | 0, _ => kernel_rfl
  | 1, _ => kernel_rfl
  | 2, _ => kernel_rfl
  | 3, _ => kernel_rfl
  | 4, _ => kernel_rfl
  | 5, _ => kernel_rfl
  | 6, _ => kernel_rfl
  | 7, _ => kernel_rfl
  | 8, _ => kernel_rfl
  | 9, _ => kernel_rfl
  | 10, _ => kernel_rfl
  | 11, _ => kernel_rfl
  | 12, _ => kernel_rfl
  | 13, _ => kernel_rfl
  | 14, _ => kernel_rfl
end DH
open PySem PySem.W PyProof.Rows in
set_option maxRecDepth 100000 in
set_option maxHeartbeats 0 in
open_top hd for PySem.Challenge.rw_downhillcubes_k18_exceptions
namespace DH
open PySem L2
def stt (i : Nat) : Stmt := PySem.Challenge.pw_downhillcubes_k18_exceptions.main.body.getD i (.Pass ⟨0, 0, 0, 0⟩)
def tx : Tx := { us := [0, 1, 2, 3, 4, 5, 6, 7, 8, 9, 10, 11, 12, 13, 14, 15, 16, 17, 19, 74, 115, 116, 117, 49, 22, 61, 62, 109, 24, 25, 26, 84, 27, 28, 66, 67, 68, 90, 91, 92, 93, 101, 102, 32, 118, 119, 120, 128, 129, 130, 131, 132, 133], cs := ["BITS", "POWERS", "DIGITS"], dn := ["SIZES"], bl := ["len", "sum", "sorted", "tuple", "list", "max", "min", "int", "bool", "str", "isinstance", "range", "enumerate", "zip", "set", "ValueError"], xs := ["CubeError", "InvalidCube", "InvalidFace", "InvalidCorner", "InvalidSet", "InvalidNumber", "InvalidAnswers", "NotDownhill", "Downhill", "CannotTurn", "NoHeights", "HeightsExist", "CannotMove", "NothingToUndo", "CannotReplace", "ParseError"] }
theorem ck_wall : chkDf tx prog d_wall (stt 0) = true := by decide +kernel
theorem ck_in_range : chkDf tx prog d_in_range (stt 21) = true := by decide +kernel
theorem ck_has_bit : chkDf tx prog d_has_bit (stt 22) = true := by decide +kernel
theorem ck_other_end : chkDf tx prog d_other_end (stt 23) = true := by decide +kernel
theorem ck_differing : chkDf tx prog d_differing (stt 24) = true := by decide +kernel
theorem ck_common : chkDf tx prog d_common (stt 25) = true := by decide +kernel
theorem ck_dimension_count : chkDf tx prog d_dimension_count (stt 26) = true := by decide +kernel
theorem ck_is_cube : chkDf tx prog d_is_cube (stt 27) = true := by decide +kernel
theorem ck_check_cube : chkDf tx prog d_check_cube (stt 28) = true := by decide +kernel
theorem ck_check_corner : chkDf tx prog d_check_corner (stt 29) = true := by decide +kernel
theorem ck_corners_of : chkDf tx prog d_corners_of (stt 30) = true := by decide +kernel
theorem ck_is_face : chkDf tx prog d_is_face (stt 31) = true := by decide +kernel
theorem ck_check_face : chkDf tx prog d_check_face (stt 32) = true := by decide +kernel
theorem ck_faces : chkDf tx prog d_faces (stt 33) = true := by decide +kernel
theorem ck_lowest_of : chkDf tx prog d_lowest_of (stt 34) = true := by decide +kernel
theorem ck_lowest_corners : chkDf tx prog d_lowest_corners (stt 35) = true := by decide +kernel
theorem ck_agreeing_pair : chkDf tx prog d_agreeing_pair (stt 36) = true := by decide +kernel
theorem ck_check_downhill : chkDf tx prog d_check_downhill (stt 37) = true := by decide +kernel
theorem ck_spread : chkDf tx prog d_spread (stt 42) = true := by decide +kernel
theorem ck_check_part : chkDf tx prog d_check_part (stt 43) = true := by decide +kernel
theorem ck_outer_sets : chkDf tx prog d_outer_sets (stt 44) = true := by decide +kernel
theorem ck_can_replace : chkDf tx prog d_can_replace (stt 45) = true := by decide +kernel
theorem ck_replace_face : chkDf tx prog d_replace_face (stt 46) = true := by decide +kernel
theorem ck_paper : chkDf tx prog d_paper (stt 48) = true := by decide +kernel
theorem ck_corner_with : chkDf tx prog d_corner_with (stt 49) = true := by decide +kernel
theorem ck_next_down : chkDf tx prog d_next_down (stt 50) = true := by decide +kernel
theorem ck_way_down : chkDf tx prog d_way_down (stt 51) = true := by decide +kernel
theorem ck_parse_cube : chkDf tx prog d_parse_cube (stt 54) = true := by decide +kernel
theorem ck_below : chkDf tx prog d_below (stt 56) = true := by decide +kernel
theorem ck_height_table : chkDf tx prog d_height_table (stt 57) = true := by decide +kernel
theorem ck_heights : chkDf tx prog d_heights (stt 58) = true := by decide +kernel
theorem ck_closed_way : chkDf tx prog d_closed_way (stt 59) = true := by decide +kernel
theorem ck_turn_all : chkDf tx prog d_turn_all (stt 61) = true := by decide +kernel
theorem ck_check_edge : chkDf tx prog d_check_edge (stt 62) = true := by decide +kernel
theorem ck_turned : chkDf tx prog d_turned (stt 63) = true := by decide +kernel
theorem ck_can_turn : chkDf tx prog d_can_turn (stt 64) = true := by decide +kernel
theorem ck_turn : chkDf tx prog d_turn (stt 65) = true := by decide +kernel
theorem ck_partial : chkDf tx prog d_partial (stt 67) = true := by decide +kernel
theorem ck_every_cube : chkDf tx prog d_every_cube (stt 68) = true := by decide +kernel
theorem ck_check_dimensions : chkDf tx prog d_check_dimensions (stt 69) = true := by decide +kernel
theorem ck_all_cubes : chkDf tx prog d_all_cubes (stt 70) = true := by decide +kernel
theorem ck_check_answers : chkDf tx prog d_check_answers (stt 71) = true := by decide +kernel
theorem ck_candidates : chkDf tx prog d_candidates (stt 72) = true := by decide +kernel
theorem ck_law_cell : chkDf tx prog d_law_cell (stt 74) = true := by decide +kernel
theorem ck_law_raise : chkDf tx prog d_law_raise (stt 75) = true := by decide +kernel
theorem ck_law_raise_more : chkDf tx prog d_law_raise_more (stt 76) = true := by decide +kernel
theorem ck_law_k18 : chkDf tx prog d_law_k18 (stt 77) = true := by decide +kernel
theorem ck_Walker__init__ : chkIni tx prog d_Walker__init__ (inClass (stt 39) 0) = true := by decide +kernel
theorem ck_Walker_corner : chkDf tx prog d_Walker_corner (inClass (stt 39) 4) = true := by decide +kernel
theorem ck_Walker_options : chkDf tx prog d_Walker_options (inClass (stt 39) 5) = true := by decide +kernel
theorem ck_Walker_move : chkDf tx prog d_Walker_move (inClass (stt 39) 6) = true := by decide +kernel
theorem ck_Walker_undo : chkDf tx prog d_Walker_undo (inClass (stt 39) 7) = true := by decide +kernel
end DH
open PySem PySem.W PyProof.Rows
set_option maxRecDepth 100000 in
set_option maxHeartbeats 0 in
theorem DH.walk (T : ∀ ns : List Int, ns.length ≤ 63 → DH.call DH.gd 2000 DH.prog 14 DH.f_law_k18 [DH.scr ns] = .ok (.bool true)) : PySem.Challenge.rw_downhillcubes_k18_exceptions.Holds := by
  refine hd ?_
  k_fill
  refine L2.walk_of (l := PySem.Challenge.rw_downhillcubes_k18_exceptions) (n := 63) (k := 16) (x := "script") (CX := fun w => L2.CX PySem.Challenge.rw_downhillcubes_k18_exceptions.prog w) (sp := fun w => DH.spF (hd.heap_39 w.params) (DH.clsC (hd.heap_39 w.params) DH.tx.xs) 1 (DH.call DH.gd 2000 DH.prog 14 DH.f_law_k18)) rfl (by decide) rfl ⟨rfl, by decide, by decide⟩ (fun w h Y => PySem.W.kIn_of Y) ?F ?S ?E
  case F =>
    intro w mg fa h KX G hmg
    have ht : DH.chkTabs (hd.heap_39 w.params) DH.gd DH.tx = true := by kernel_rfl
    have hpe : ∀ (P : Program) (w' : World) (base : Heap) (v : Value), DH.clsC (hd.heap_39 w.params) DH.tx.xs 15 = some v → DH.PErr P w' (hd.heap_39 w.params) mg base v := by
      refine' DH.perr_mk (st := L2.inClass (DH.stt 3) 0) KX G rfl ht ?a ?e ?p ?i ?t ?l ?c ?k ?b ?x ?y
      (case a => k_is); (case e => k_is); (case p => kernel_rfl); (case i => k_is); (case t => k_is); (case l => k_is); (case c => k_is); (case k => k_is)
      (case b => exact fun _ _ _ _ _ _ us hl => match us, hl with | [_, _], _ => rfl)
      (case x => decide +kernel); (case y => decide +kernel)
    have tp := DH.top_of (T := DH.tx) (G := DH.gd) KX G ht hpe
    have x0 : DH.DfTxt (hd.heap_39 w.params) mg DH.tx DH.prog DH.d_wall := by
      refine' DH.dfx (x := "_wall") (ps := ["k"]) (st := DH.stt 0) KX G rfl rfl ?a ?l ?c ?k ?b rfl DH.ck_wall
      (case a => k_is); (case l => k_is); (case c => k_is); (case k => k_is)
      (case b => exact fun _ _ _ _ _ _ us hl => match us, hl with | [_], _ => rfl)
    have x1 : DH.DfTxt (hd.heap_39 w.params) mg DH.tx DH.prog DH.d_in_range := by
      refine' DH.dfx (x := "in_range") (ps := ["value", "low", "high"]) (st := DH.stt 21) KX G rfl rfl ?a ?l ?c ?k ?b rfl DH.ck_in_range
      (case a => k_is); (case l => k_is); (case c => k_is); (case k => k_is)
      (case b => exact fun _ _ _ _ _ _ us hl => match us, hl with | [_, _, _], _ => rfl)
    have x2 : DH.DfTxt (hd.heap_39 w.params) mg DH.tx DH.prog DH.d_has_bit := by
      refine' DH.dfx (x := "has_bit") (ps := ["number", "dimension"]) (st := DH.stt 22) KX G rfl rfl ?a ?l ?c ?k ?b rfl DH.ck_has_bit
      (case a => k_is); (case l => k_is); (case c => k_is); (case k => k_is)
      (case b => exact fun _ _ _ _ _ _ us hl => match us, hl with | [_, _], _ => rfl)
    have x3 : DH.DfTxt (hd.heap_39 w.params) mg DH.tx DH.prog DH.d_other_end := by
      refine' DH.dfx (x := "other_end") (ps := ["corner", "dimension"]) (st := DH.stt 23) KX G rfl rfl ?a ?l ?c ?k ?b rfl DH.ck_other_end
      (case a => k_is); (case l => k_is); (case c => k_is); (case k => k_is)
      (case b => exact fun _ _ _ _ _ _ us hl => match us, hl with | [_, _], _ => rfl)
    have x4 : DH.DfTxt (hd.heap_39 w.params) mg DH.tx DH.prog DH.d_differing := by
      refine' DH.dfx (x := "differing") (ps := ["one", "other"]) (st := DH.stt 24) KX G rfl rfl ?a ?l ?c ?k ?b rfl DH.ck_differing
      (case a => k_is); (case l => k_is); (case c => k_is); (case k => k_is)
      (case b => exact fun _ _ _ _ _ _ us hl => match us, hl with | [_, _], _ => rfl)
    have x5 : DH.DfTxt (hd.heap_39 w.params) mg DH.tx DH.prog DH.d_common := by
      refine' DH.dfx (x := "common") (ps := ["one", "other"]) (st := DH.stt 25) KX G rfl rfl ?a ?l ?c ?k ?b rfl DH.ck_common
      (case a => k_is); (case l => k_is); (case c => k_is); (case k => k_is)
      (case b => exact fun _ _ _ _ _ _ us hl => match us, hl with | [_, _], _ => rfl)
    have x6 : DH.DfTxt (hd.heap_39 w.params) mg DH.tx DH.prog DH.d_dimension_count := by
      refine' DH.dfx (x := "dimension_count") (ps := ["cube"]) (st := DH.stt 26) KX G rfl rfl ?a ?l ?c ?k ?b rfl DH.ck_dimension_count
      (case a => k_is); (case l => k_is); (case c => k_is); (case k => k_is)
      (case b => exact fun _ _ _ _ _ _ us hl => match us, hl with | [_], _ => rfl)
    have x7 : DH.DfTxt (hd.heap_39 w.params) mg DH.tx DH.prog DH.d_is_cube := by
      refine' DH.dfx (x := "is_cube") (ps := ["value"]) (st := DH.stt 27) KX G rfl rfl ?a ?l ?c ?k ?b rfl DH.ck_is_cube
      (case a => k_is); (case l => k_is); (case c => k_is); (case k => k_is)
      (case b => exact fun _ _ _ _ _ _ us hl => match us, hl with | [_], _ => rfl)
    have x8 : DH.DfTxt (hd.heap_39 w.params) mg DH.tx DH.prog DH.d_check_cube := by
      refine' DH.dfx (x := "check_cube") (ps := ["cube"]) (st := DH.stt 28) KX G rfl rfl ?a ?l ?c ?k ?b rfl DH.ck_check_cube
      (case a => k_is); (case l => k_is); (case c => k_is); (case k => k_is)
      (case b => exact fun _ _ _ _ _ _ us hl => match us, hl with | [_], _ => rfl)
    have x9 : DH.DfTxt (hd.heap_39 w.params) mg DH.tx DH.prog DH.d_check_corner := by
      refine' DH.dfx (x := "check_corner") (ps := ["cube", "corner"]) (st := DH.stt 29) KX G rfl rfl ?a ?l ?c ?k ?b rfl DH.ck_check_corner
      (case a => k_is); (case l => k_is); (case c => k_is); (case k => k_is)
      (case b => exact fun _ _ _ _ _ _ us hl => match us, hl with | [_, _], _ => rfl)
    have x10 : DH.DfTxt (hd.heap_39 w.params) mg DH.tx DH.prog DH.d_corners_of := by
      refine' DH.dfx (x := "corners_of") (ps := ["face"]) (st := DH.stt 30) KX G rfl rfl ?a ?l ?c ?k ?b rfl DH.ck_corners_of
      (case a => k_is); (case l => k_is); (case c => k_is); (case k => k_is)
      (case b => exact fun _ _ _ _ _ _ us hl => match us, hl with | [_], _ => rfl)
    have x11 : DH.DfTxt (hd.heap_39 w.params) mg DH.tx DH.prog DH.d_is_face := by
      refine' DH.dfx (x := "is_face") (ps := ["cube", "value"]) (st := DH.stt 31) KX G rfl rfl ?a ?l ?c ?k ?b rfl DH.ck_is_face
      (case a => k_is); (case l => k_is); (case c => k_is); (case k => k_is)
      (case b => exact fun _ _ _ _ _ _ us hl => match us, hl with | [_, _], _ => rfl)
    have x12 : DH.DfTxt (hd.heap_39 w.params) mg DH.tx DH.prog DH.d_check_face := by
      refine' DH.dfx (x := "check_face") (ps := ["cube", "face"]) (st := DH.stt 32) KX G rfl rfl ?a ?l ?c ?k ?b rfl DH.ck_check_face
      (case a => k_is); (case l => k_is); (case c => k_is); (case k => k_is)
      (case b => exact fun _ _ _ _ _ _ us hl => match us, hl with | [_, _], _ => rfl)
    have x13 : DH.DfTxt (hd.heap_39 w.params) mg DH.tx DH.prog DH.d_faces := by
      refine' DH.dfx (x := "faces") (ps := ["cube"]) (st := DH.stt 33) KX G rfl rfl ?a ?l ?c ?k ?b rfl DH.ck_faces
      (case a => k_is); (case l => k_is); (case c => k_is); (case k => k_is)
      (case b => exact fun _ _ _ _ _ _ us hl => match us, hl with | [_], _ => rfl)
    have x14 : DH.DfTxt (hd.heap_39 w.params) mg DH.tx DH.prog DH.d_lowest_of := by
      refine' DH.dfx (x := "lowest_of") (ps := ["cube", "face"]) (st := DH.stt 34) KX G rfl rfl ?a ?l ?c ?k ?b rfl DH.ck_lowest_of
      (case a => k_is); (case l => k_is); (case c => k_is); (case k => k_is)
      (case b => exact fun _ _ _ _ _ _ us hl => match us, hl with | [_, _], _ => rfl)
    have x15 : DH.DfTxt (hd.heap_39 w.params) mg DH.tx DH.prog DH.d_lowest_corners := by
      refine' DH.dfx (x := "lowest_corners") (ps := ["cube", "face"]) (st := DH.stt 35) KX G rfl rfl ?a ?l ?c ?k ?b rfl DH.ck_lowest_corners
      (case a => k_is); (case l => k_is); (case c => k_is); (case k => k_is)
      (case b => exact fun _ _ _ _ _ _ us hl => match us, hl with | [_, _], _ => rfl)
    have x16 : DH.DfTxt (hd.heap_39 w.params) mg DH.tx DH.prog DH.d_agreeing_pair := by
      refine' DH.dfx (x := "agreeing_pair") (ps := ["cube"]) (st := DH.stt 36) KX G rfl rfl ?a ?l ?c ?k ?b rfl DH.ck_agreeing_pair
      (case a => k_is); (case l => k_is); (case c => k_is); (case k => k_is)
      (case b => exact fun _ _ _ _ _ _ us hl => match us, hl with | [_], _ => rfl)
    have x17 : DH.DfTxt (hd.heap_39 w.params) mg DH.tx DH.prog DH.d_check_downhill := by
      refine' DH.dfx (x := "check_downhill") (ps := ["cube"]) (st := DH.stt 37) KX G rfl rfl ?a ?l ?c ?k ?b rfl DH.ck_check_downhill
      (case a => k_is); (case l => k_is); (case c => k_is); (case k => k_is)
      (case b => exact fun _ _ _ _ _ _ us hl => match us, hl with | [_], _ => rfl)
    have x19 : DH.DfTxt (hd.heap_39 w.params) mg DH.tx DH.prog DH.d_spread := by
      refine' DH.dfx (x := "spread") (ps := ["number", "dimensions"]) (st := DH.stt 42) KX G rfl rfl ?a ?l ?c ?k ?b rfl DH.ck_spread
      (case a => k_is); (case l => k_is); (case c => k_is); (case k => k_is)
      (case b => exact fun _ _ _ _ _ _ us hl => match us, hl with | [_, _], _ => rfl)
    have x74 : DH.DfTxt (hd.heap_39 w.params) mg DH.tx DH.prog DH.d_check_part := by
      refine' DH.dfx (x := "check_part") (ps := ["cube", "corner", "some"]) (st := DH.stt 43) KX G rfl rfl ?a ?l ?c ?k ?b rfl DH.ck_check_part
      (case a => k_is); (case l => k_is); (case c => k_is); (case k => k_is)
      (case b => exact fun _ _ _ _ _ _ us hl => match us, hl with | [_, _, _], _ => rfl)
    have x115 : DH.DfTxt (hd.heap_39 w.params) mg DH.tx DH.prog DH.d_outer_sets := by
      refine' DH.dfx (x := "outer_sets") (ps := ["cube", "corner", "some"]) (st := DH.stt 44) KX G rfl rfl ?a ?l ?c ?k ?b rfl DH.ck_outer_sets
      (case a => k_is); (case l => k_is); (case c => k_is); (case k => k_is)
      (case b => exact fun _ _ _ _ _ _ us hl => match us, hl with | [_, _, _], _ => rfl)
    have x116 : DH.DfTxt (hd.heap_39 w.params) mg DH.tx DH.prog DH.d_can_replace := by
      refine' DH.dfx (x := "can_replace") (ps := ["cube", "corner", "some"]) (st := DH.stt 45) KX G rfl rfl ?a ?l ?c ?k ?b rfl DH.ck_can_replace
      (case a => k_is); (case l => k_is); (case c => k_is); (case k => k_is)
      (case b => exact fun _ _ _ _ _ _ us hl => match us, hl with | [_, _, _], _ => rfl)
    have x117 : DH.DfTxt (hd.heap_39 w.params) mg DH.tx DH.prog DH.d_replace_face := by
      refine' DH.dfx (x := "replace_face") (ps := ["cube", "corner", "some", "other"]) (st := DH.stt 46) KX G rfl rfl ?a ?l ?c ?k ?b rfl DH.ck_replace_face
      (case a => k_is); (case l => k_is); (case c => k_is); (case k => k_is)
      (case b => exact fun _ _ _ _ _ _ us hl => match us, hl with | [_, _, _, _], _ => rfl)
    have x49 : DH.DfTxt (hd.heap_39 w.params) mg DH.tx DH.prog DH.d_paper := by
      refine' DH.dfx (x := "paper") (ps := ["cube"]) (st := DH.stt 48) KX G rfl rfl ?a ?l ?c ?k ?b rfl DH.ck_paper
      (case a => k_is); (case l => k_is); (case c => k_is); (case k => k_is)
      (case b => exact fun _ _ _ _ _ _ us hl => match us, hl with | [_], _ => rfl)
    have x22 : DH.DfTxt (hd.heap_39 w.params) mg DH.tx DH.prog DH.d_corner_with := by
      refine' DH.dfx (x := "corner_with") (ps := ["cube", "some"]) (st := DH.stt 49) KX G rfl rfl ?a ?l ?c ?k ?b rfl DH.ck_corner_with
      (case a => k_is); (case l => k_is); (case c => k_is); (case k => k_is)
      (case b => exact fun _ _ _ _ _ _ us hl => match us, hl with | [_, _], _ => rfl)
    have x61 : DH.DfTxt (hd.heap_39 w.params) mg DH.tx DH.prog DH.d_next_down := by
      refine' DH.dfx (x := "next_down") (ps := ["cube", "corner", "lowest"]) (st := DH.stt 50) KX G rfl rfl ?a ?l ?c ?k ?b rfl DH.ck_next_down
      (case a => k_is); (case l => k_is); (case c => k_is); (case k => k_is)
      (case b => exact fun _ _ _ _ _ _ us hl => match us, hl with | [_, _, _], _ => rfl)
    have x62 : DH.DfTxt (hd.heap_39 w.params) mg DH.tx DH.prog DH.d_way_down := by
      refine' DH.dfx (x := "way_down") (ps := ["cube", "corner"]) (st := DH.stt 51) KX G rfl rfl ?a ?l ?c ?k ?b rfl DH.ck_way_down
      (case a => k_is); (case l => k_is); (case c => k_is); (case k => k_is)
      (case b => exact fun _ _ _ _ _ _ us hl => match us, hl with | [_, _], _ => rfl)
    have x109 : DH.DfTxt (hd.heap_39 w.params) mg DH.tx DH.prog DH.d_parse_cube := by
      refine' DH.dfx (x := "parse_cube") (ps := ["text"]) (st := DH.stt 54) KX G rfl rfl ?a ?l ?c ?k ?b rfl DH.ck_parse_cube
      (case a => k_is); (case l => k_is); (case c => k_is); (case k => k_is)
      (case b => exact fun _ _ _ _ _ _ us hl => match us, hl with | [_], _ => rfl)
    have x24 : DH.DfTxt (hd.heap_39 w.params) mg DH.tx DH.prog DH.d_below := by
      refine' DH.dfx (x := "below") (ps := ["cube", "corner"]) (st := DH.stt 56) KX G rfl rfl ?a ?l ?c ?k ?b rfl DH.ck_below
      (case a => k_is); (case l => k_is); (case c => k_is); (case k => k_is)
      (case b => exact fun _ _ _ _ _ _ us hl => match us, hl with | [_, _], _ => rfl)
    have x25 : DH.DfTxt (hd.heap_39 w.params) mg DH.tx DH.prog DH.d_height_table := by
      refine' DH.dfx (x := "height_table") (ps := ["cube"]) (st := DH.stt 57) KX G rfl rfl ?a ?l ?c ?k ?b rfl DH.ck_height_table
      (case a => k_is); (case l => k_is); (case c => k_is); (case k => k_is)
      (case b => exact fun _ _ _ _ _ _ us hl => match us, hl with | [_], _ => rfl)
    have x26 : DH.DfTxt (hd.heap_39 w.params) mg DH.tx DH.prog DH.d_heights := by
      refine' DH.dfx (x := "heights") (ps := ["cube"]) (st := DH.stt 58) KX G rfl rfl ?a ?l ?c ?k ?b rfl DH.ck_heights
      (case a => k_is); (case l => k_is); (case c => k_is); (case k => k_is)
      (case b => exact fun _ _ _ _ _ _ us hl => match us, hl with | [_], _ => rfl)
    have x84 : DH.DfTxt (hd.heap_39 w.params) mg DH.tx DH.prog DH.d_closed_way := by
      refine' DH.dfx (x := "closed_way") (ps := ["cube"]) (st := DH.stt 59) KX G rfl rfl ?a ?l ?c ?k ?b rfl DH.ck_closed_way
      (case a => k_is); (case l => k_is); (case c => k_is); (case k => k_is)
      (case b => exact fun _ _ _ _ _ _ us hl => match us, hl with | [_], _ => rfl)
    have x27 : DH.DfTxt (hd.heap_39 w.params) mg DH.tx DH.prog DH.d_turn_all := by
      refine' DH.dfx (x := "turn_all") (ps := ["cube", "some"]) (st := DH.stt 61) KX G rfl rfl ?a ?l ?c ?k ?b rfl DH.ck_turn_all
      (case a => k_is); (case l => k_is); (case c => k_is); (case k => k_is)
      (case b => exact fun _ _ _ _ _ _ us hl => match us, hl with | [_, _], _ => rfl)
    have x28 : DH.DfTxt (hd.heap_39 w.params) mg DH.tx DH.prog DH.d_check_edge := by
      refine' DH.dfx (x := "check_edge") (ps := ["cube", "corner", "dimension"]) (st := DH.stt 62) KX G rfl rfl ?a ?l ?c ?k ?b rfl DH.ck_check_edge
      (case a => k_is); (case l => k_is); (case c => k_is); (case k => k_is)
      (case b => exact fun _ _ _ _ _ _ us hl => match us, hl with | [_, _, _], _ => rfl)
    have x66 : DH.DfTxt (hd.heap_39 w.params) mg DH.tx DH.prog DH.d_turned := by
      refine' DH.dfx (x := "turned") (ps := ["cube", "corners", "dimension"]) (st := DH.stt 63) KX G rfl rfl ?a ?l ?c ?k ?b rfl DH.ck_turned
      (case a => k_is); (case l => k_is); (case c => k_is); (case k => k_is)
      (case b => exact fun _ _ _ _ _ _ us hl => match us, hl with | [_, _, _], _ => rfl)
    have x67 : DH.DfTxt (hd.heap_39 w.params) mg DH.tx DH.prog DH.d_can_turn := by
      refine' DH.dfx (x := "can_turn") (ps := ["cube", "corner", "dimension"]) (st := DH.stt 64) KX G rfl rfl ?a ?l ?c ?k ?b rfl DH.ck_can_turn
      (case a => k_is); (case l => k_is); (case c => k_is); (case k => k_is)
      (case b => exact fun _ _ _ _ _ _ us hl => match us, hl with | [_, _, _], _ => rfl)
    have x68 : DH.DfTxt (hd.heap_39 w.params) mg DH.tx DH.prog DH.d_turn := by
      refine' DH.dfx (x := "turn") (ps := ["cube", "corner", "dimension"]) (st := DH.stt 65) KX G rfl rfl ?a ?l ?c ?k ?b rfl DH.ck_turn
      (case a => k_is); (case l => k_is); (case c => k_is); (case k => k_is)
      (case b => exact fun _ _ _ _ _ _ us hl => match us, hl with | [_, _, _], _ => rfl)
    have x90 : DH.DfTxt (hd.heap_39 w.params) mg DH.tx DH.prog DH.d_partial := by
      refine' DH.dfx (x := (Str.ofString ("par" ++ "tial"))) (ps := ["size", "chosen", "found"]) (st := DH.stt 67) KX G rfl rfl ?a ?l ?c ?k ?b rfl DH.ck_partial
      (case a => k_is); (case l => k_is); (case c => k_is); (case k => k_is)
      (case b => exact fun _ _ _ _ _ _ us hl => match us, hl with | [_, _, _], _ => rfl)
    have x91 : DH.DfTxt (hd.heap_39 w.params) mg DH.tx DH.prog DH.d_every_cube := by
      refine' DH.dfx (x := "every_cube") (ps := ["dimensions"]) (st := DH.stt 68) KX G rfl rfl ?a ?l ?c ?k ?b rfl DH.ck_every_cube
      (case a => k_is); (case l => k_is); (case c => k_is); (case k => k_is)
      (case b => exact fun _ _ _ _ _ _ us hl => match us, hl with | [_], _ => rfl)
    have x92 : DH.DfTxt (hd.heap_39 w.params) mg DH.tx DH.prog DH.d_check_dimensions := by
      refine' DH.dfx (x := "check_dimensions") (ps := ["dimensions"]) (st := DH.stt 69) KX G rfl rfl ?a ?l ?c ?k ?b rfl DH.ck_check_dimensions
      (case a => k_is); (case l => k_is); (case c => k_is); (case k => k_is)
      (case b => exact fun _ _ _ _ _ _ us hl => match us, hl with | [_], _ => rfl)
    have x93 : DH.DfTxt (hd.heap_39 w.params) mg DH.tx DH.prog DH.d_all_cubes := by
      refine' DH.dfx (x := "all_cubes") (ps := ["dimensions"]) (st := DH.stt 70) KX G rfl rfl ?a ?l ?c ?k ?b rfl DH.ck_all_cubes
      (case a => k_is); (case l => k_is); (case c => k_is); (case k => k_is)
      (case b => exact fun _ _ _ _ _ _ us hl => match us, hl with | [_], _ => rfl)
    have x101 : DH.DfTxt (hd.heap_39 w.params) mg DH.tx DH.prog DH.d_check_answers := by
      refine' DH.dfx (x := "check_answers") (ps := ["dimensions", "answers"]) (st := DH.stt 71) KX G rfl rfl ?a ?l ?c ?k ?b rfl DH.ck_check_answers
      (case a => k_is); (case l => k_is); (case c => k_is); (case k => k_is)
      (case b => exact fun _ _ _ _ _ _ us hl => match us, hl with | [_, _], _ => rfl)
    have x102 : DH.DfTxt (hd.heap_39 w.params) mg DH.tx DH.prog DH.d_candidates := by
      refine' DH.dfx (x := "candidates") (ps := ["dimensions", "answers"]) (st := DH.stt 72) KX G rfl rfl ?a ?l ?c ?k ?b rfl DH.ck_candidates
      (case a => k_is); (case l => k_is); (case c => k_is); (case k => k_is)
      (case b => exact fun _ _ _ _ _ _ us hl => match us, hl with | [_, _], _ => rfl)
    have x32 : DH.DfTxt (hd.heap_39 w.params) mg DH.tx DH.prog DH.d_law_cell := by
      refine' DH.dfx (x := "_law_cell") (ps := ["script", "k"]) (st := DH.stt 74) KX G rfl rfl ?a ?l ?c ?k ?b rfl DH.ck_law_cell
      (case a => k_is); (case l => k_is); (case c => k_is); (case k => k_is)
      (case b => exact fun _ _ _ _ _ _ us hl => match us, hl with | [_, _], _ => rfl)
    have x118 : DH.DfTxt (hd.heap_39 w.params) mg DH.tx DH.prog DH.d_law_raise := by
      refine' DH.dfx (x := "_law_raise") (ps := ["mode"]) (st := DH.stt 75) KX G rfl rfl ?a ?l ?c ?k ?b rfl DH.ck_law_raise
      (case a => k_is); (case l => k_is); (case c => k_is); (case k => k_is)
      (case b => exact fun _ _ _ _ _ _ us hl => match us, hl with | [_], _ => rfl)
    have x119 : DH.DfTxt (hd.heap_39 w.params) mg DH.tx DH.prog DH.d_law_raise_more := by
      refine' DH.dfx (x := "_law_raise_more") (ps := ["mode"]) (st := DH.stt 76) KX G rfl rfl ?a ?l ?c ?k ?b rfl DH.ck_law_raise_more
      (case a => k_is); (case l => k_is); (case c => k_is); (case k => k_is)
      (case b => exact fun _ _ _ _ _ _ us hl => match us, hl with | [_], _ => rfl)
    have x120 : DH.DfTxt (hd.heap_39 w.params) mg DH.tx DH.prog DH.d_law_k18 := by
      refine' DH.dfx (x := "law") (ps := ["script"]) (st := DH.stt 77) KX G rfl rfl ?a ?l ?c ?k ?b rfl DH.ck_law_k18
      (case a => k_is); (case l => k_is); (case c => k_is); (case k => k_is)
      (case b => exact fun _ _ _ _ _ _ us hl => match us, hl with | [_], _ => rfl)
    have x128 : DH.DfTxt (hd.heap_39 w.params) mg DH.tx DH.prog DH.d_Walker := by
      refine' DH.dfxC (x := "Walker") (y := "Walker.__init__") (j := DH.f_Walker__init__) (di := DH.d_Walker__init__) (ps := ["self", "cube", "corner"]) (st := L2.inClass (DH.stt 39) 0) KX G rfl rfl rfl rfl rfl rfl rfl rfl ?a ?m ?i ?j ?n ?l ?c ?k ?b DH.ck_Walker__init__
      (case a => k_is); (case m => k_is); (case i => k_is); (case j => k_is); (case n => k_is); (case l => k_is); (case c => k_is); (case k => k_is)
      (case b => exact fun _ _ _ _ _ _ us hl => match us, hl with | [_, _, _], _ => rfl)
    have x130 : DH.DfTxt (hd.heap_39 w.params) mg DH.tx DH.prog DH.d_Walker_corner := by
      refine' DH.dfxM (x := "corner") (y := "Walker.corner") (ps := ["self"]) (st := L2.inClass (DH.stt 39) 4) rfl rfl rfl ?a ?i ?j ?l ?c ?k ?b DH.ck_Walker_corner
      (case a => k_is); (case i => k_is); (case j => k_is); (case l => k_is); (case c => k_is); (case k => k_is)
      (case b => exact fun _ _ _ _ _ _ us hl => match us, hl with | [_], _ => rfl)
    have x131 : DH.DfTxt (hd.heap_39 w.params) mg DH.tx DH.prog DH.d_Walker_options := by
      refine' DH.dfxM (x := "options") (y := "Walker.options") (ps := ["self"]) (st := L2.inClass (DH.stt 39) 5) rfl rfl rfl ?a ?i ?j ?l ?c ?k ?b DH.ck_Walker_options
      (case a => k_is); (case i => k_is); (case j => k_is); (case l => k_is); (case c => k_is); (case k => k_is)
      (case b => exact fun _ _ _ _ _ _ us hl => match us, hl with | [_], _ => rfl)
    have x132 : DH.DfTxt (hd.heap_39 w.params) mg DH.tx DH.prog DH.d_Walker_move := by
      refine' DH.dfxM (x := "move") (y := "Walker.move") (ps := ["self", "dimension"]) (st := L2.inClass (DH.stt 39) 6) rfl rfl rfl ?a ?i ?j ?l ?c ?k ?b DH.ck_Walker_move
      (case a => k_is); (case i => k_is); (case j => k_is); (case l => k_is); (case c => k_is); (case k => k_is)
      (case b => exact fun _ _ _ _ _ _ us hl => match us, hl with | [_, _], _ => rfl)
    have x133 : DH.DfTxt (hd.heap_39 w.params) mg DH.tx DH.prog DH.d_Walker_undo := by
      refine' DH.dfxM (x := "undo") (y := "Walker.undo") (ps := ["self"]) (st := L2.inClass (DH.stt 39) 7) rfl rfl rfl ?a ?i ?j ?l ?c ?k ?b DH.ck_Walker_undo
      (case a => k_is); (case i => k_is); (case j => k_is); (case l => k_is); (case c => k_is); (case k => k_is)
      (case b => exact fun _ _ _ _ _ _ us hl => match us, hl with | [_], _ => rfl)
    have hP : ∀ (f : Nat) (df : DH.Df), DH.prog[f]? = some df → DH.tx.us.contains f = true → DH.DfTxt (hd.heap_39 w.params) mg DH.tx DH.prog df := by
      intro f df hf hu
      have hu : f ∈ [0, 1, 2, 3, 4, 5, 6, 7, 8, 9, 10, 11, 12, 13, 14, 15, 16, 17, 19, 74, 115, 116, 117, 49, 22, 61, 62, 109, 24, 25, 26, 84, 27, 28, 66, 67, 68, 90, 91, 92, 93, 101, 102, 32, 118, 119, 120, 128, 129, 130, 131, 132, 133] := List.contains_iff_mem.mp hu
      simp only [List.mem_cons, List.not_mem_nil, or_false] at hu
      rcases hu with rfl | rfl | rfl | rfl | rfl | rfl | rfl | rfl | rfl | rfl | rfl | rfl | rfl | rfl | rfl | rfl | rfl | rfl | rfl | rfl | rfl | rfl | rfl | rfl | rfl | rfl | rfl | rfl | rfl | rfl | rfl | rfl | rfl | rfl | rfl | rfl | rfl | rfl | rfl | rfl | rfl | rfl | rfl | rfl | rfl | rfl | rfl | rfl | rfl | rfl | rfl | rfl | rfl
      · cases hf; exact x0
      · cases hf; exact x1
      · cases hf; exact x2
      · cases hf; exact x3
      · cases hf; exact x4
      · cases hf; exact x5
      · cases hf; exact x6
      · cases hf; exact x7
      · cases hf; exact x8
      · cases hf; exact x9
      · cases hf; exact x10
      · cases hf; exact x11
      · cases hf; exact x12
      · cases hf; exact x13
      · cases hf; exact x14
      · cases hf; exact x15
      · cases hf; exact x16
      · cases hf; exact x17
      · cases hf; exact x19
      · cases hf; exact x74
      · cases hf; exact x115
      · cases hf; exact x116
      · cases hf; exact x117
      · cases hf; exact x49
      · cases hf; exact x22
      · cases hf; exact x61
      · cases hf; exact x62
      · cases hf; exact x109
      · cases hf; exact x24
      · cases hf; exact x25
      · cases hf; exact x26
      · cases hf; exact x84
      · cases hf; exact x27
      · cases hf; exact x28
      · cases hf; exact x66
      · cases hf; exact x67
      · cases hf; exact x68
      · cases hf; exact x90
      · cases hf; exact x91
      · cases hf; exact x92
      · cases hf; exact x93
      · cases hf; exact x101
      · cases hf; exact x102
      · cases hf; exact x32
      · cases hf; exact x118
      · cases hf; exact x119
      · cases hf; exact x120
      · cases hf; exact x128
      · cases hf; exact DH.dfxI rfl
      · cases hf; exact x130
      · cases hf; exact x131
      · cases hf; exact x132
      · cases hf; exact x133
    exact DH.law_fn tp hP (x := "law") (p := "script") rfl (by decide) rfl hmg
  case S => exact fun w H a ns hl _ hS => DH.sp_law hS (T ns hl)
  case E =>
    intro w H s e s' z
    obtain ⟨_, _, _, _, _, _, _, _, _, _, _, _, z⟩ := z
    exact z.elim
theorem PySem.Challenge.cw_downhillcubes_k18_exceptions_holds : PySem.Challenge.rw_downhillcubes_k18_exceptions.Holds := by
  exact DH.walk fun ns _ => DH.t_k18 ns
#print axioms PySem.Challenge.cw_downhillcubes_k18_exceptions_holds
