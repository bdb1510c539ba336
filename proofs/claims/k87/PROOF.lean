import PyProof.Rows.All
import Wide.All
import OpenK.AllK
import Wide.FinOn
import HandS.Base
import HandS.Call
import HandS.List
import HandS.Exc
import HandS.ExcOwn
import HandS.TupAny
import HandS.Deep
import HandS.Star
import HandS.IsInst
import HandS.Text
import HandS.TupMul
import PyProof.AutoSeq1
import HandS.SortInts
import HandS.Conv
import HandS.Strs
import HandS.SetFor
import PyProof.ReprRoads
import HandS.Words
import HandS.WordsExc
import HandS.Defaults
import HandS.Walk
import HandS.Zip
import KE.GoesMore
import HandS.Comp
import HandS.Style
import HandS.Dict
import HandS.WordsDict
import HandS.Iter
import HandS.Ends
import HandS.HeadEnd
import HandS.HeadHook2
import KE.KStateDown
import Lean
import HandS.Head0
import HandS.Head1
import HandS.Head2
import PySem.Challenge.RW_copymerges_k87_whole_deltas
set_option Elab.async false
set_option linter.all false
set_option maxRecDepth 100000
set_option maxHeartbeats 4000000
namespace Pm
open PySem L2

/-! ### values by structure -/
inductive Val where
  | non | bl (b : Bool) | int (i : Int) | str (s : Str)
  | tup (xs : List Val) | lst (xs : List Val)
  | drw | scr (n : Nat)

abbrev lim : Nat := 100000

mutual
def toD : Val → Option PyData
  | .non => some .none
  | .bl b => some (.bool b)
  | .int i => some (.int i)
  | .str s => some (.str s)
  | .tup xs => (toDs xs).map .tuple
  | .lst xs => (toDs xs).map .list
  | .drw => none
  | .scr _ => none
def toDs : List Val → Option (List PyData)
  | [] => some []
  | x :: xs => match toD x, toDs xs with
    | some d, some ds => some (d :: ds)
    | _, _ => none
end

mutual
/-- no list within -/
def lf : Val → Bool
  | .tup xs => lfs xs
  | .lst _ => false
  | .scr _ => false
  | .non => true | .bl _ => true | .int _ => true | .str _ => true | .drw => true
def lfs : List Val → Bool
  | [] => true
  | x :: xs => lf x && lfs xs
end

/-! ### operators -/
inductive Bop where | add | sub | mul | fdiv | mod | pow
inductive Cop where | eq | ne | lt | le | gt | ge | isin | notin | is | isnot

def mulOk (i j : Int) : Bool := (decide (-(2 ^ 64) < i) && decide (i < 2 ^ 64)) || (decide (-(2 ^ 64) < j) && decide (j < 2 ^ 64))
def rept (xs : List Val) (k : Int) : Option (List Val) := if (-1000 ≤ k ∧ k ≤ 1000) ∧ xs.length ≤ 1000 then some (List.replicate k.toNat xs).flatten else none
def vBin : Bop → Val → Val → Option Val
  | .add, .int i, .int j => some (.int (i + j))
  | .add, .str s, .str t => if s.length + t.length ≤ lim then some (.str (s ++ t)) else none
  | .add, .tup xs, .tup ys => if xs.length + ys.length ≤ lim then some (.tup (xs ++ ys)) else none
  | .add, .lst xs, .lst ys => if xs.length + ys.length ≤ lim then some (.lst (xs ++ ys)) else none
  | .sub, .int i, .int j => some (.int (i - j))
  | .mul, .int i, .int j => if mulOk i j = true then some (.int (i * j)) else none
  | .mul, .tup xs, .int k => if k = 1 then some (.tup xs) else if 2 ≤ k ∧ xs.isEmpty = false then (rept xs k).map .tup else none
  | .mul, .lst xs, .int k => (rept xs k).map .lst
  | .fdiv, .int i, .int j => if 0 < j ∧ j < 1073741824 then some (.int (i / j)) else none
  | .mod, .int i, .int j => if 0 < j then some (.int (i % j)) else none
  | .pow, .int i, .int j => if 0 ≤ j ∧ j ≤ 1000000 ∧ i.natAbs < 2 ^ 64 then some (.int (i ^ j.toNat)) else none
  | _, _, _ => none

def vEq (x y : Val) : Option Bool := match toD x, toD y with
  | some d, some e => if SeqAt.shaped d && SeqAt.shaped e then some (PyData.eqv d e) else none
  | _, _ => none
def items : Val → Option (List Val)
  | .tup xs => some xs
  | .lst xs => some xs
  | _ => none
/-- x in ys: y == x for some y -/
def vMem (x : Val) (ys : List Val) : Option Bool := match toD x, toDs ys with
  | some d, some ds => if SeqAt.shaped d && SeqAt.shaped (.list ds) then some (ds.any fun z => PyData.eqv z d) else none
  | _, _ => none
def vIn (x y : Val) : Option Bool := match y with
  | .tup ys => vMem x ys
  | .lst ys => vMem x ys
  | .str z => match x with
    | .str ⟨⟨[c]⟩⟩ => some (decide (c ∈ z.cps.toList))
    | _ => none
  | _ => none
def isNon : Val → Bool
  | .non => true
  | _ => false
def vCmp : Cop → Val → Val → Option Bool
  | .eq, x, y => vEq x y
  | .ne, x, y => (vEq x y).map (!·)
  | .lt, .int i, .int j => some (decide (i < j))
  | .le, .int i, .int j => some (decide (i ≤ j))
  | .gt, .int i, .int j => some (decide (j < i))
  | .ge, .int i, .int j => some (decide (j ≤ i))
  | .isin, x, y => vIn x y
  | .notin, x, y => (vIn x y).map (!·)
  | .is, x, .non => some (isNon x)
  | .isnot, x, .non => some (!isNon x)
  | _, _, _ => none

def truth : Val → Option Bool
  | .bl b => some b
  | _ => none

def vIx : Val → Val → Option Val
  | .tup xs, .int i => atI xs i
  | .lst xs, .int i => atI xs i
  | .str s, .int i => if s.length ≤ lim then (atI s.cps.toList i).map fun c => .str ⟨#[c]⟩ else none
  | _, _ => none
def cutW (xs : List Val) (lo hi : Option Int) : List Val := (xs.drop (HT.sIx xs.length 0 lo)).take (HT.sIx xs.length xs.length hi - HT.sIx xs.length 0 lo)
def vSlc : Val → Option Int → Option Int → Option Val
  | .tup xs, lo, hi => some (.tup (cutW xs lo hi))
  | .lst xs, lo, hi => some (.lst (cutW xs lo hi))
  | _, _, _ => none

def vLen : Val → Option Val
  | .tup xs => some (.int xs.length)
  | .lst xs => some (.int xs.length)
  | .str s => if s.length ≤ lim then some (.int s.length) else none
  | .scr n => some (.int n)
  | _ => none

inductive Cls where | int | bool | str | tuple | list
def vIsi : Cls → Val → Option Bool
  | _, .drw => none
  | _, .scr _ => none
  | .int, .int _ => some true
  | .int, .bl _ => some true
  | .bool, .bl _ => some true
  | .str, .str _ => some true
  | .tuple, .tup _ => some true
  | .list, .lst _ => some true
  | _, _ => some false

/-! ### sorting -/
def leD (x y : Val) : Option Bool := match x, y with
  | .int i, .int j => some (decide (i ≤ j))
  | _, _ => none
def intsOf : List Val → Option (List Int)
  | [] => some []
  | .int i :: r => (intsOf r).map (i :: ·)
  | _ :: _ => none
def insI (x : Int) : List Int → List Int
  | [] => [x]
  | y :: r => if x ≤ y then x :: y :: r else y :: insI x r
def sortI : List Int → List Int
  | [] => []
  | x :: r => insI x (sortI r)
def dedI : List Int → List Int
  | [] => []
  | x :: r => if x ∈ r then dedI r else x :: dedI r
def boolsOf : List Val → Option (List Bool)
  | [] => some []
  | .bl b :: r => (boolsOf r).map (b :: ·)
  | _ :: _ => none
def maxI : Int → List Int → Int
  | m, [] => m
  | m, x :: r => maxI (if x > m then x else m) r
def minI : Int → List Int → Int
  | m, [] => m
  | m, x :: r => minI (if x < m then x else m) r

/-- whether repr is known, and told -/
def reprOk (d : PyData) : Bool := d.showable && decide (d.shown.length ≤ sizeLine) && decide (d.depth ≤ 64) && d.canLay0

def rangeV (lo hi : Int) : Option (List Val) := if -(2 ^ 62) ≤ lo ∧ lo < 2 ^ 62 ∧ -(2 ^ 62) ≤ hi ∧ hi < 2 ^ 62 ∧ (hi - lo).toNat ≤ lim then some ((List.range (hi - lo).toNat).map fun (k : Nat) => Val.int (lo + (k : Int))) else none

inductive Prim where
  | len | int | tuple | list | sorted | sortedSet | repr | min | max | all | any | rangeT | rangeL | isi (c : Cls) | index
def vPrim : Prim → List Val → Option Val
  | .len, [x] => vLen x
  | .int, [.int i] => some (.int i)
  | .tuple, [.tup xs] => some (.tup xs)
  | .tuple, [.lst xs] => some (.tup xs)
  | .list, [.tup xs] => some (.lst xs)
  | .list, [.lst xs] => some (.lst xs)
  | .sorted, [.lst xs] => (intsOf xs).map fun ns => .lst ((sortI ns).map .int)
  | .sortedSet, [.tup xs] => (intsOf xs).bind fun ns => if ns.length ≤ 1000 ∧ (dedI ns).length < 64 then some (.lst ((sortI (dedI ns)).map .int)) else none
  | .repr, [x] => (toD x).bind fun d => if reprOk d then some (.str d.shown) else none
  | .min, [.int i, .int j] => some (.int (if j < i then j else i))
  | .max, [.int i, .int j] => some (.int (if j > i then j else i))
  | .max, [.lst xs] => (intsOf xs).bind fun ns => match ns with | [] => none | n :: r => some (.int (maxI n r))
  | .min, [.lst xs] => (intsOf xs).bind fun ns => match ns with | [] => none | n :: r => some (.int (minI n r))
  | .all, [.lst xs] => (boolsOf xs).map fun bs => .bl (bs.all id)
  | .any, [.lst xs] => (boolsOf xs).map fun bs => .bl (bs.any id)
  | .isi c, [x] => (vIsi c x).map .bl
  | .rangeT, [.int a, .int b] => (rangeV a b).map .tup
  | .rangeL, [.int a, .int b] => (rangeV a b).map .lst
  | .index, [.lst xs, x] => match toD x, toDs xs with
    | some d, some ds => if SeqAt.shaped d && SeqAt.shaped (.list ds) then (ds.findIdx? fun z => PyData.eqv z d).map fun (k : Nat) => Val.int (k : Int) else none
    | _, _ => none
  | _, _ => none
/-! ### the drawing state -/
structure DrawSt where
  cells : List Int
  great : List Int
  spot : Nat

inductive R (α : Type) where
  | ok (a : α) (g : DrawSt)
  | exc (c : Nat) (fs : List Val) (g : DrawSt)
  | bad
def R.bind {α β : Type} (r : R α) (f : α → DrawSt → R β) : R β := match r with
  | .ok a g => f a g
  | .exc c fs g => .exc c fs g
  | .bad => .bad
/-- where nothing may be raised -/
def R.nox {α : Type} (r : R α) : R α := match r with
  | .exc .. => .bad
  | r => r
def chk : Option Nat → Nat → Bool
  | none, _ => true
  | some b, n => decide (n < b)
def R.of {α : Type} (o : Option α) (g : DrawSt) : R α := match o with
  | some a => .ok a g
  | none => .bad

/-! ### expressions -/
inductive Tgt where
  | nm (i : Nat) | tp (ts : List Tgt)

inductive PX where
  | sl (i : Nat)                -- a slot that is frozen
  | pk (i : Nat)                -- a slot that may be owned: looked at
  | bor (i : Nat)               -- .. lent to a call
  | c (v : Val)
  | bin (o : Bop) (a b : PX)
  | neg (a : PX)
  | nt (a : PX)
  | cmp (o : Cop) (a b : PX)
  | chn (o1 o2 : Cop) (a b c : PX)
  | an (a b : PX)
  | oo (a b : PX)
  | ite (c a b : PX)
  | ix (a i : PX)
  | slc (a lo hi : PX)
  | no
  | part (a : PX)
  | tup (as : PX)
  | lst (as : PX)
  | nil
  | cons (a r : PX)
  | scons (a r : PX)
  | call (f : Nat) (as : PX)
  | callb (f : Nat) (as : PX)   -- lists of slots are lent to it
  | pr (p : Prim) (as : PX)
  | comp (own : List Nat) (t : Tgt) (s : PX) (c : PX) (inner : PX)
  | gen (t : Tgt) (s : PX) (c : PX) (inner : PX)
  | yld (e : PX)
  | it (a : PX)
  | rng (a b : PX)
  | enm (a : PX)
  | zip (a b : PX)
  | draw (m a : PX)
  | idx (o a : PX)
  | callN (f : Nat) (as : PX)

abbrev Env := List (Option Val)
mutual
def bindT : Tgt → Val → Env → Option Env
  | .nm i, v, e => if i < e.length then some (e.set i (some v)) else none
  | .tp ts, v, e => match v with
    | .tup xs => bindTs ts xs e
    | _ => none
def bindTs : List Tgt → List Val → Env → Option Env
  | [], [], e => some e
  | t :: ts, x :: xs, e => match bindT t x e with
    | some e' => bindTs ts xs e'
    | none => none
  | _, _, _ => none
end
def wipeE (e : Env) : List Nat → Env
  | [] => e
  | i :: r => wipeE (e.set i none) r

abbrev CallT := Nat → List Val → DrawSt → R (Val × Bool)
def getE (e : Env) (i : Nat) : Option Val := match e[i]? with
  | some (some v) => some v
  | _ => none

def mixed (cell n : Int) : Int := ((cell * (1 + 2 * n) * 48271) % 2147483647 + 7919 * n * n + 104729 * n) * 69621 % 2147483629 / 7
/-- _law_draw -/
def drawF (d : DrawSt) (l : Int) : Int × DrawSt :=
  let n : Int := d.spot
  let rest : Int × DrawSt := (mixed (mixed (d.cells.getD (d.spot % 64) 0 + 31 * (n / 64)) n) (n + 7) % l, { d with spot := d.spot + 1 })
  if d.great = [] then rest else
    let here := d.spot % d.great.length
    let cell := d.great.getD here 0
    if 0 < cell then (cell % l, ⟨d.cells, d.great.set here (cell / l), d.spot + 1⟩) else rest

def zipV : List Val → List Val → List Val
  | x :: xs, y :: ys => .tup [x, y] :: zipV xs ys
  | _, _ => []
def enumV (k : Nat) : List Val → List Val
  | [] => []
  | x :: xs => .tup [.int k, x] :: enumV (k + 1) xs
/-- the turns of a clause of a comprehension -/
def turns (f : Val → DrawSt → R (List Val)) : List Val → List Val → DrawSt → R (List Val)
  | [], acc, g => .ok acc g
  | x :: xs, acc, g => (f x g).bind fun ys g => if acc.length + ys.length ≤ lim then turns f xs (acc ++ ys) g else .bad

def okBor (v : Val) (fr : Bool) : Bool := lf v || (fr && match v with | .lst xs => lfs xs | _ => false)
def lent (r : R (Val × Bool)) : R (Val × Bool) := r.nox.bind fun r g => if okBor r.1 r.2 = true then .ok r g else .bad
def asInt (x : Val) (g : DrawSt) : R Int := match x with
  | .int i => .ok i g
  | _ => .bad
def isL : Val → Option Unit
  | .lst _ => some ()
  | _ => none
def notLst : Val → Bool
  | .lst _ => false
  | _ => true
def asBl (x : Val) (g : DrawSt) : R Bool := match x with
  | .bl b => .ok b g
  | _ => .bad
section
variable (C : CallT) (B : Option Nat)
mutual
def ev : PX → Env → DrawSt → R Val
  | .sl i, e, g => .of (getE e i) g
  | .pk i, e, g => .of (getE e i) g
  | .bor i, e, g => .of (getE e i) g
  | .c v, _, g => .ok v g
  | .bin o a b, e, g => (ev a e g).bind fun x g => (ev b e g).bind fun y g => .of (vBin o x y) g
  | .neg a, e, g => (ev a e g).bind fun x g => (asInt x g).bind fun i g => .ok (.int (-i)) g
  | .nt a, e, g => (ev a e g).bind fun x g => (asBl x g).bind fun b g => .ok (.bl (!b)) g
  | .cmp o a b, e, g => (ev a e g).bind fun x g => (ev b e g).bind fun y g => .of ((vCmp o x y).map .bl) g
  | .chn o1 o2 a b c, e, g => (ev a e g).bind fun x g => (ev b e g).bind fun y g => (R.of (vCmp o1 x y) g).bind fun k g => match k with
    | true => (ev c e g).bind fun z g => .of ((vCmp o2 y z).map .bl) g
    | false => .ok (.bl false) g
  | .an a b, e, g => (ev a e g).bind fun x g => (asBl x g).bind fun k g => match k with
    | true => ev b e g
    | false => .ok (.bl false) g
  | .oo a b, e, g => (ev a e g).bind fun x g => (asBl x g).bind fun k g => match k with
    | true => .ok (.bl true) g
    | false => ev b e g
  | .ite c a b, e, g => (ev c e g).bind fun x g => (R.of (truth x) g).bind fun k g => match k with
    | true => ev a e g
    | false => ev b e g
  | .ix a i, e, g => (ev a e g).bind fun x g => (ev i e g).bind fun y g => .of (vIx x y) g
  | .slc a lo hi, e, g => (ev a e g).bind fun x g => (evO lo e g).bind fun l g => (evO hi e g).bind fun h g => .of (vSlc x l h) g
  | .tup as, e, g => (evs as e g).bind fun xs g => if xs.length ≤ lim then .ok (.tup xs) g else .bad
  | .lst as, e, g => (evs as e g).bind fun xs g => if xs.length ≤ lim then .ok (.lst xs) g else .bad
  | .call f as, e, g => (evs as e g).bind fun xs g => (C f xs g).bind fun r g => .ok r.1 g
  | .callb f as, e, g => (evs as e g).bind fun xs g => (lent (C f xs g)).bind fun r g => .ok r.1 g
  | .pr p as, e, g => (evs as e g).bind fun xs g => .of (vPrim p xs) g
  | .comp own t s c inner, e, g => (evS s e g).bind fun xs g =>
    (turns (fun x g => (R.of (bindT t x (wipeE e own)) g).bind fun e' g => (ev c e' g).bind fun b g => (R.of (truth b) g).bind fun k g => match k with
        | true => evG inner e' g
        | false => .ok [] g) xs [] g).nox.bind fun ys g => .ok (.lst ys) g
  | .draw m a, e, g => (ev m e g).bind fun x g => (ev a e g).bind fun y g => match x with
    | .drw => (asInt y g).bind fun l g => if 0 < l ∧ l ≤ 1000000 ∧ chk B g.spot = true then .ok (.int (drawF g l).1) (drawF g l).2 else .bad
    | _ => .bad
  | .idx o a, e, g => (ev o e g).bind fun x g => (R.of (isL x) g).bind fun _ g => (ev a e g).bind fun y g => .of (vPrim .index [x, y]) g
  | .callN f as, e, g => (evs as e g).bind fun xs g => (C f xs g).bind fun r g => if (r.2 || notLst r.1) = true then .ok r.1 g else .bad
  | .no, _, _ => .bad
  | .part _, _, _ => .bad
  | .nil, _, _ => .bad
  | .cons .., _, _ => .bad
  | .scons .., _, _ => .bad
  | .gen .., _, _ => .bad
  | .yld _, _, _ => .bad
  | .it _, _, _ => .bad
  | .rng .., _, _ => .bad
  | .enm _, _, _ => .bad
  | .zip .., _, _ => .bad
/-- a part of a slice -/
def evO : PX → Env → DrawSt → R (Option Int)
  | .no, _, g => .ok none g
  | .part a, e, g => (ev a e g).bind fun x g => (asInt x g).bind fun i g => .ok (some i) g
  | _, _, _ => .bad
def evs : PX → Env → DrawSt → R (List Val)
  | .nil, _, g => .ok [] g
  | .scons a r, e, g => (ev a e g).bind fun x g => (R.of (items x) g).bind fun xs g => (evs r e g).bind fun ys g => .ok (xs ++ ys) g
  | .cons a r, e, g => (ev a e g).bind fun x g => (evs r e g).bind fun xs g => .ok (x :: xs) g
  | _, _, _ => .bad
/-- what is walked -/
def evS : PX → Env → DrawSt → R (List Val)
  | .rng a b, e, g => (ev a e g).bind fun x g => (ev b e g).bind fun y g => (asInt x g).bind fun lo g => (asInt y g).bind fun hi g => .of (rangeV lo hi) g
  | .enm a, e, g => (ev a e g).bind fun x g => .of ((items x).map (enumV 0)) g
  | .zip a b, e, g => (ev a e g).bind fun x g => (ev b e g).bind fun y g => (R.of (items x) g).bind fun xs g => (R.of (items y) g).bind fun ys g => .ok (zipV xs ys) g
  | .it a, e, g => (ev a e g).bind fun x g => .of (items x) g
  | _, _, _ => .bad
def evG : PX → Env → DrawSt → R (List Val)
  | .gen t s c inner, e, g => (evS s e g).bind fun xs g =>
    turns (fun x g => (R.of (bindT t x e) g).bind fun e' g => (ev c e' g).bind fun b g => (R.of (truth b) g).bind fun k g => match k with
        | true => evG inner e' g
        | false => .ok [] g) xs [] g
  | .yld a, e, g => (ev a e g).bind fun x g => .ok [x] g
  | _, _, _ => .bad
end
end
end Pm
set_option Elab.async false
set_option linter.all false
set_option maxRecDepth 100000
set_option maxHeartbeats 4000000
namespace Pm
open PySem L2

/-- where the drawing state lies -/
structure DA where
  m : Addr
  c : Addr
  g : Addr
  ne : c ≠ g
def DA.has (D : DA) (a : Addr) : Prop := a = D.m ∨ a = D.c ∨ a = D.g
abbrev AS := Addr → Prop

/-- a tuple of the written part -/
def KT (K : PySem.W.Frag) (a : Addr) (vs : List V) : Prop := ∃ (o : Obj) (its : Array Value) (n : Nat), K.lookup a = some o ∧ o.cls = .type "tuple" ∧ o.data = .seq its n ∧ its.size ≤ sizeLine ∧ Vals vs its.toList
def KL (K : PySem.W.Frag) (a : Addr) (vs : List V) : Prop := ∃ (o : Obj) (its : Array Value) (n : Nat), K.lookup a = some o ∧ o.cls = .type "list" ∧ o.dict = none ∧ o.data = .seq its n ∧ its.size ≤ sizeLine ∧ Vals vs its.toList
def FT (K : PySem.W.Frag) (F : AS) (H : Hp) (a : Addr) (vs : List V) : Prop := (F a ∧ H a = some (.tup vs)) ∨ KT K a vs
def FS (K : PySem.W.Frag) (F : AS) (H : Hp) (a : Addr) (vs : List V) : Prop := (F a ∧ Rd H a (.lst vs)) ∨ KL K a vs
theorem FT.sq {K : PySem.W.Frag} {F : AS} {H : Hp} {a : Addr} {vs : List V} (h : FT K F H a vs) : SqT K H a vs := by
  rcases h with h | h
  · exact SqT.of h.2
  · exact Or.inr h
theorem FS.sq {K : PySem.W.Frag} {F : AS} {H : Hp} {a : Addr} {vs : List V} (h : FS K F H a vs) : SqL K H a vs := by
  rcases h with h | h
  · exact Or.inl h.2
  · exact Or.inr h

section
variable (K : PySem.W.Frag) (D : DA)
mutual
def Rep (F : AS) (H : Hp) : Val → V → Prop
  | .non, v => v = .non
  | .bl b, v => v = .bl b
  | .int i, v => v = .int i
  | .str s, v => v = .str s
  | .tup xs, v => ∃ a vs, v = .ref a ∧ FT K F H a vs ∧ Reps F H xs vs
  | .lst xs, v => ∃ a vs, v = .ref a ∧ F a ∧ H a = some (.lst vs) ∧ Reps F H xs vs
  | .drw, v => v = .ref D.m
  | .scr n, v => ∃ a vs, v = .ref a ∧ FS K F H a vs ∧ vs.length = n
def Reps (F : AS) (H : Hp) : List Val → List V → Prop
  | [], vs => vs = []
  | x :: xs, vs => ∃ v r, vs = v :: r ∧ Rep F H x v ∧ Reps F H xs r
end
/-- at the top a list need not be frozen -/
def RepT (F : AS) (H : Hp) : Val → V → Prop
  | .lst xs, v => ∃ a vs, v = .ref a ∧ ¬ D.has a ∧ H a = some (.lst vs) ∧ Reps K D F H xs vs
  | x, v => Rep K D F H x v
def RepTs (F : AS) (H : Hp) : List Val → List V → Prop
  | [], vs => vs = []
  | x :: xs, vs => ∃ v r, vs = v :: r ∧ RepT K D F H x v ∧ RepTs F H xs r
/-- a list is new since H0, and not frozen -/
def RepN (H0 : Hp) (F : AS) (H : Hp) : Val → V → Prop
  | .lst xs, v => ∃ a vs, v = .ref a ∧ H0 a = none ∧ ¬ F a ∧ ¬ D.has a ∧ H a = some (.lst vs) ∧ Reps K D F H xs vs
  | x, v => Rep K D F H x v
end

/-- from one state of the heap to a later one: what is not the drawing state's stays -/
structure Stp (D : DA) (F F' : AS) (H H' : Hp) : Prop where
  sub : ∀ a, F a → F' a
  new : ∀ a, F' a → F a ∨ H a = none
  keep : ∀ a o, H a = some o → ¬ D.has a → H' a = some o
  live : ∀ a, H' a = none → H a = none
  frz : ∀ a, F' a → H' a ≠ none ∧ ¬ D.has a
/-- .. nothing at all is changed -/
structure PSt (D : DA) (F F' : AS) (H H' : Hp) : Prop where
  sub : ∀ a, F a → F' a
  new : ∀ a, F' a → F a ∨ H a = none
  ext : ∀ a o, H a = some o → H' a = some o
  frz : ∀ a, F' a → H' a ≠ none ∧ ¬ D.has a
def FOk (D : DA) (F : AS) (H : Hp) : Prop := ∀ a, F a → H a ≠ none ∧ ¬ D.has a

structure GRel (D : DA) (g : DrawSt) (H : Hp) : Prop where
  gm : H D.m = some (.dK [(.inr "cells", .ref D.c), (.inr "great", .ref D.g), (.inr "spot", .int g.spot)])
  gc : H D.c = some (.lst (g.cells.map V.int))
  gg : H D.g = some (.lst (g.great.map V.int))
  cl : g.cells.length = 64
  gl : g.great.length ≤ 64
  ce : ∀ x ∈ g.cells, 0 ≤ x ∧ x < 2147483647

section
variable {D : DA} {F F' F1 F2 : AS} {H H' H1 H2 : Hp} {g : DrawSt}
theorem PSt.stp (h : PSt D F F' H H') : Stp D F F' H H' := by
  refine ⟨h.sub, h.new, fun a o e _ => h.ext a o e, fun a e => ?_, h.frz⟩
  cases q : H a with
  | none => rfl
  | some o => rw [h.ext a o q] at e; cases e
theorem PSt.refl (h : FOk D F H) : PSt D F F H H := ⟨fun _ x => x, fun _ x => .inl x, fun _ _ e => e, h⟩
theorem Stp.refl (h : FOk D F H) : Stp D F F H H := (PSt.refl h).stp
theorem Stp.trans (a : Stp D F F1 H H1) (b : Stp D F1 F2 H1 H2) : Stp D F F2 H H2 := by
  refine ⟨fun x h => b.sub x (a.sub x h), fun x h => ?_, fun x o e n => b.keep x o (a.keep x o e n) n, fun x e => a.live x (b.live x e), b.frz⟩
  rcases b.new x h with h | h
  · exact a.new x h
  · exact .inr (a.live x h)
theorem GRel.ext (h : GRel D g H) (k : ∀ a o, H a = some o → H' a = some o) : GRel D g H' := ⟨k _ _ h.gm, k _ _ h.gc, k _ _ h.gg, h.cl, h.gl, h.ce⟩
/-- a new object; it may be frozen -/
theorem PSt.alloc {p : Addr} {o : HO} (h : FOk D F H) (hp : H p = none) (hg : GRel D g H) (Z : Prop) : PSt D F (fun a => F a ∨ (a = p ∧ Z)) H (upd H p o) := by
  refine ⟨fun _ x => .inl x, fun a x => ?_, fun a u e => ?_, fun a x => ?_⟩
  · rcases x with x | ⟨rfl, _⟩
    · exact .inl x
    · exact .inr hp
  · rw [upd_ne (ne_of_none e hp)]; exact e
  · rcases x with x | ⟨rfl, _⟩
    · obtain ⟨h1, h2⟩ := h a x
      refine ⟨fun e => h1 ?_, h2⟩
      cases q : H a with
      | none => rfl
      | some u => rw [upd_ne (ne_of_none q hp), q] at e; cases e
    · refine ⟨by rw [upd_same]; simp, fun z => ?_⟩
      rcases z with z | z | z
      · rw [z, hg.gm] at hp; cases hp
      · rw [z, hg.gc] at hp; cases hp
      · rw [z, hg.gg] at hp; cases hp
theorem nothas {p : Addr} (hg : GRel D g H) (hp : H p = none) : ¬ D.has p := fun z => by
  rcases z with z | z | z
  · rw [z, hg.gm] at hp; cases hp
  · rw [z, hg.gc] at hp; cases hp
  · rw [z, hg.gg] at hp; cases hp
end

section
variable {K : PySem.W.Frag} {D : DA} {F F' : AS} {H H' : Hp}
theorem FT.mono (hF : ∀ a, F a → F' a) (hH : ∀ a o, F a → H a = some o → H' a = some o) {a : Addr} {vs : List V} (h : FT K F H a vs) : FT K F' H' a vs := by
  rcases h with ⟨h, e⟩ | h
  · exact .inl ⟨hF a h, hH a _ h e⟩
  · exact .inr h
theorem FS.mono (hF : ∀ a, F a → F' a) (hH : ∀ a o, F a → H a = some o → H' a = some o) {a : Addr} {vs : List V} (h : FS K F H a vs) : FS K F' H' a vs := by
  rcases h with ⟨h, e | ⟨o, e⟩⟩ | h
  · exact .inl ⟨hF a h, .inl (hH a _ h e)⟩
  · exact .inl ⟨hF a h, .inr ⟨o, hH a _ h e⟩⟩
  · exact .inr h
mutual
theorem Rep.mono (hF : ∀ a, F a → F' a) (hH : ∀ a o, F a → H a = some o → H' a = some o) : ∀ (x : Val) (v : V), Rep K D F H x v → Rep K D F' H' x v
  | .non, _, h => by simpa only [Rep] using h
  | .bl _, _, h => by simpa only [Rep] using h
  | .int _, _, h => by simpa only [Rep] using h
  | .str _, _, h => by simpa only [Rep] using h
  | .drw, _, h => by simpa only [Rep] using h
  | .scr _, _, h => by
    simp only [Rep] at h ⊢
    obtain ⟨a, vs, e, h1, h2⟩ := h
    exact ⟨a, vs, e, h1.mono hF hH, h2⟩
  | .tup xs, _, h => by
    simp only [Rep] at h ⊢
    obtain ⟨a, vs, e, h1, h2⟩ := h
    exact ⟨a, vs, e, h1.mono hF hH, Reps.mono hF hH xs vs h2⟩
  | .lst xs, _, h => by
    simp only [Rep] at h ⊢
    obtain ⟨a, vs, e, h1, h2, h3⟩ := h
    exact ⟨a, vs, e, hF a h1, hH a _ h1 h2, Reps.mono hF hH xs vs h3⟩
theorem Reps.mono (hF : ∀ a, F a → F' a) (hH : ∀ a o, F a → H a = some o → H' a = some o) : ∀ (xs : List Val) (vs : List V), Reps K D F H xs vs → Reps K D F' H' xs vs
  | [], _, h => by simpa only [Reps] using h
  | x :: xs, _, h => by
    simp only [Reps] at h ⊢
    obtain ⟨v, r, e, h1, h2⟩ := h
    exact ⟨v, r, e, Rep.mono hF hH x v h1, Reps.mono hF hH xs r h2⟩
end
theorem Rep.stp {x : Val} {v : V} (s : Stp D F F' H H') (h : Rep K D F H x v) : Rep K D F' H' x v := Rep.mono s.sub (fun a o f e => s.keep a o e (s.frz a (s.sub a f)).2) x v h
theorem Reps.stp {xs : List Val} {vs : List V} (s : Stp D F F' H H') (h : Reps K D F H xs vs) : Reps K D F' H' xs vs := Reps.mono s.sub (fun a o f e => s.keep a o e (s.frz a (s.sub a f)).2) xs vs h
theorem RepT.stp {x : Val} {v : V} (s : Stp D F F' H H') (h : RepT K D F H x v) : RepT K D F' H' x v := by
  cases x with
  | lst xs =>
    obtain ⟨a, vs, e, n, h1, h2⟩ := h
    exact ⟨a, vs, e, n, s.keep a _ h1 n, h2.stp s⟩
  | _ => exact Rep.stp s h
theorem RepTs.stp (s : Stp D F F' H H') : ∀ {xs : List Val} {vs : List V}, RepTs K D F H xs vs → RepTs K D F' H' xs vs
  | [], _, h => h
  | x :: xs, _, h => by
    obtain ⟨v, r, e, h1, h2⟩ := h
    exact ⟨v, r, e, h1.stp s, RepTs.stp s h2⟩
theorem Rep.top {x : Val} {v : V} (f : FOk D F H) (h : Rep K D F H x v) : RepT K D F H x v := by
  cases x with
  | lst xs =>
    simp only [Rep] at h
    obtain ⟨a, vs, e, h1, h2, h3⟩ := h
    exact ⟨a, vs, e, (f a h1).2, h2, h3⟩
  | _ => exact h
theorem RepN.top {H0 : Hp} {x : Val} {v : V} (h : RepN K D H0 F H x v) : RepT K D F H x v := by
  cases x with
  | lst xs =>
    obtain ⟨a, vs, e, h1, h2, h3, h4, h5⟩ := h
    exact ⟨a, vs, e, h3, h4, h5⟩
  | _ => exact h
/-- a new list is frozen -/
theorem RepN.frozen {H0 : Hp} {x : Val} {v : V} {F0 : AS} (s : Stp D F0 F H0 H) (h : RepN K D H0 F H x v) : ∃ F', Stp D F0 F' H0 H ∧ Rep K D F' H x v := by
  cases x with
  | lst xs =>
    obtain ⟨a, vs, e, h1, h2, h3, h4, h5⟩ := h
    refine ⟨fun b => F b ∨ b = a, ⟨fun b z => .inl (s.sub b z), fun b z => ?_, s.keep, s.live, fun b z => ?_⟩, ?_⟩
    · rcases z with z | rfl
      · exact s.new b z
      · exact .inr h1
    · rcases z with z | rfl
      · exact s.frz b z
      · exact ⟨by rw [h4]; simp, h3⟩
    · simp only [Rep]
      exact ⟨a, vs, e, .inr rfl, h4, Reps.mono (fun _ z => .inl z) (fun _ _ _ e => e) xs vs h5⟩
  | _ => exact ⟨F, s, h⟩
theorem Reps.length : ∀ {xs : List Val} {vs : List V}, Reps K D F H xs vs → vs.length = xs.length
  | [], _, h => by simp only [Reps] at h; rw [h]; rfl
  | x :: xs, _, h => by
    simp only [Reps] at h
    obtain ⟨v, r, e, _, h2⟩ := h
    rw [e, List.length_cons, List.length_cons, Reps.length h2]
theorem Reps.get : ∀ {xs : List Val} {vs : List V} {i : Nat} {x : Val}, Reps K D F H xs vs → xs[i]? = some x → ∃ v, vs[i]? = some v ∧ Rep K D F H x v
  | [], _, i, x, _, e => by simp at e
  | y :: xs, _, 0, x, h, e => by
    simp only [Reps] at h
    obtain ⟨v, r, rfl, h1, _⟩ := h
    simp at e; subst e
    exact ⟨v, rfl, h1⟩
  | y :: xs, _, i + 1, x, h, e => by
    simp only [Reps] at h
    obtain ⟨v, r, rfl, _, h2⟩ := h
    obtain ⟨w, e1, e2⟩ := Reps.get (i := i) h2 (by simpa using e)
    exact ⟨w, by simpa using e1, e2⟩
theorem Reps.append : ∀ {xs ys : List Val} {vs ws : List V}, Reps K D F H xs vs → Reps K D F H ys ws → Reps K D F H (xs ++ ys) (vs ++ ws)
  | [], ys, vs, ws, h, k => by simp only [Reps] at h; rw [h]; exact k
  | x :: xs, ys, vs, ws, h, k => by
    simp only [Reps] at h
    obtain ⟨v, r, rfl, h1, h2⟩ := h
    rw [List.cons_append, List.cons_append]
    simp only [Reps]
    exact ⟨v, _, rfl, h1, Reps.append h2 k⟩
theorem Reps.take : ∀ (n : Nat) {xs : List Val} {vs : List V}, Reps K D F H xs vs → Reps K D F H (xs.take n) (vs.take n)
  | 0, xs, vs, _ => by simp only [List.take_zero, Reps]
  | n + 1, [], vs, h => by simp only [Reps] at h; rw [h]; simp only [List.take_nil, Reps]
  | n + 1, x :: xs, vs, h => by
    simp only [Reps] at h
    obtain ⟨v, r, rfl, h1, h2⟩ := h
    simp only [List.take_succ_cons, Reps]
    exact ⟨v, _, rfl, h1, Reps.take n h2⟩
theorem Reps.drop : ∀ (n : Nat) {xs : List Val} {vs : List V}, Reps K D F H xs vs → Reps K D F H (xs.drop n) (vs.drop n)
  | 0, xs, vs, h => h
  | n + 1, [], vs, h => by simp only [Reps] at h; rw [h]; simp only [List.drop_nil, Reps]
  | n + 1, x :: xs, vs, h => by
    simp only [Reps] at h
    obtain ⟨v, r, rfl, h1, h2⟩ := h
    simpa using Reps.drop n h2
theorem Reps.set {y : Val} {w : V} (hy : Rep K D F H y w) : ∀ (n : Nat) {xs : List Val} {vs : List V}, Reps K D F H xs vs → Reps K D F H (xs.set n y) (vs.set n w)
  | _, [], vs, h => by simp only [Reps] at h; rw [h]; simp only [List.set_nil, Reps]
  | 0, x :: xs, vs, h => by
    simp only [Reps] at h
    obtain ⟨v, r, rfl, h1, h2⟩ := h
    simp only [List.set_cons_zero, Reps]
    exact ⟨w, r, rfl, hy, h2⟩
  | n + 1, x :: xs, vs, h => by
    simp only [Reps] at h
    obtain ⟨v, r, rfl, h1, h2⟩ := h
    simp only [List.set_cons_succ, Reps]
    exact ⟨v, _, rfl, h1, Reps.set hy n h2⟩
theorem Reps.replicate {xs : List Val} {vs : List V} (h : Reps K D F H xs vs) : ∀ k : Nat, Reps K D F H (List.replicate k xs).flatten (List.replicate k vs).flatten
  | 0 => by simp only [List.replicate_zero, List.flatten_nil, Reps]
  | k + 1 => by
    rw [List.replicate_succ, List.replicate_succ, List.flatten_cons, List.flatten_cons]
    exact h.append (Reps.replicate h k)
theorem Reps.ints : ∀ {ns : List Int} {vs : List V}, Reps K D F H (ns.map .int) vs ↔ vs = ns.map .int
  | [], vs => by simp only [List.map_nil, Reps]
  | n :: ns, vs => by
    simp only [List.map_cons, Reps, Rep]
    constructor
    · rintro ⟨v, r, rfl, rfl, h⟩
      rw [Reps.ints.mp h]
    · rintro rfl
      exact ⟨_, _, rfl, rfl, Reps.ints.mpr rfl⟩
theorem intsOf_eq : ∀ {xs : List Val} {ns : List Int}, intsOf xs = some ns → xs = ns.map .int
  | [], ns, h => by simp only [intsOf, Option.some.injEq] at h; subst h; rfl
  | .int i :: r, ns, h => by
    simp only [intsOf, Option.map_eq_some_iff] at h
    obtain ⟨l, h1, rfl⟩ := h
    rw [intsOf_eq h1]; rfl
  | .non :: _, _, h => by simp [intsOf] at h
  | .bl _ :: _, _, h => by simp [intsOf] at h
  | .str _ :: _, _, h => by simp [intsOf] at h
  | .tup _ :: _, _, h => by simp [intsOf] at h
  | .lst _ :: _, _, h => by simp [intsOf] at h
  | .drw :: _, _, h => by simp [intsOf] at h
  | .scr _ :: _, _, h => by simp [intsOf] at h
theorem boolsOf_eq : ∀ {xs : List Val} {ns : List Bool}, boolsOf xs = some ns → xs = ns.map .bl
  | [], ns, h => by simp only [boolsOf, Option.some.injEq] at h; subst h; rfl
  | .bl i :: r, ns, h => by
    simp only [boolsOf, Option.map_eq_some_iff] at h
    obtain ⟨l, h1, rfl⟩ := h
    rw [boolsOf_eq h1]; rfl
  | .non :: _, _, h => by simp [boolsOf] at h
  | .int _ :: _, _, h => by simp [boolsOf] at h
  | .str _ :: _, _, h => by simp [boolsOf] at h
  | .tup _ :: _, _, h => by simp [boolsOf] at h
  | .lst _ :: _, _, h => by simp [boolsOf] at h
  | .drw :: _, _, h => by simp [boolsOf] at h
  | .scr _ :: _, _, h => by simp [boolsOf] at h
theorem Reps.bools : ∀ {ns : List Bool} {vs : List V}, Reps K D F H (ns.map .bl) vs → vs = ns.map .bl
  | [], vs, h => by simpa only [List.map_nil, Reps] using h
  | n :: ns, vs, h => by
    simp only [List.map_cons, Reps, Rep] at h
    obtain ⟨v, r, rfl, rfl, h⟩ := h
    rw [Reps.bools h]; rfl
/-! ### as data -/
mutual
theorem Rep.dp : ∀ (x : Val) (v : V) (d : PyData), Rep K D F H x v → toD x = some d → Dp K H v d
  | .non, _, d, h, e => by simp only [toD, Option.some.injEq] at e; simp only [Rep] at h; subst e; subst h; exact .non
  | .bl _, _, d, h, e => by simp only [toD, Option.some.injEq] at e; simp only [Rep] at h; subst e; subst h; exact .bl _
  | .int _, _, d, h, e => by simp only [toD, Option.some.injEq] at e; simp only [Rep] at h; subst e; subst h; exact .int _
  | .str _, _, d, h, e => by simp only [toD, Option.some.injEq] at e; simp only [Rep] at h; subst e; subst h; exact .str _
  | .drw, _, d, h, e => by simp only [toD] at e; cases e
  | .scr _, _, d, h, e => by simp only [toD] at e; cases e
  | .tup xs, _, d, h, e => by
    simp only [toD, Option.map_eq_some_iff] at e
    obtain ⟨ds, e1, rfl⟩ := e
    simp only [Rep] at h
    obtain ⟨a, vs, rfl, h1, h2⟩ := h
    exact .tup h1.sq (Reps.dp xs vs ds h2 e1)
  | .lst xs, _, d, h, e => by
    simp only [toD, Option.map_eq_some_iff] at e
    obtain ⟨ds, e1, rfl⟩ := e
    simp only [Rep] at h
    obtain ⟨a, vs, rfl, h1, h2, h3⟩ := h
    exact .lst (SqL.of h2) (Reps.dp xs vs ds h3 e1)
theorem Reps.dp : ∀ (xs : List Val) (vs : List V) (ds : List PyData), Reps K D F H xs vs → toDs xs = some ds → DpAll K H vs ds
  | [], _, ds, h, e => by simp only [toDs, Option.some.injEq] at e; simp only [Reps] at h; subst e; subst h; exact .nil
  | x :: xs, _, ds, h, e => by
    simp only [Reps] at h
    obtain ⟨v, r, rfl, h1, h2⟩ := h
    simp only [toDs] at e
    split at e
    · rename_i d ds' e1 e2
      simp only [Option.some.injEq] at e
      subst e
      exact .cons (Rep.dp x v d h1 e1) (Reps.dp xs r ds' h2 e2)
    · cases e
end
theorem RepT.dp {x : Val} {v : V} {d : PyData} (h : RepT K D F H x v) (e : toD x = some d) : Dp K H v d := by
  cases x with
  | lst xs =>
    obtain ⟨a, vs, rfl, _, h1, h2⟩ := h
    simp only [toD, Option.map_eq_some_iff] at e
    obtain ⟨ds, e1, rfl⟩ := e
    exact .lst (SqL.of h1) (Reps.dp xs vs ds h2 e1)
  | _ => exact Rep.dp _ _ _ h e
end
end Pm
set_option Elab.async false
set_option linter.all false
set_option maxRecDepth 100000
set_option maxHeartbeats 4000000
namespace Pm
open PySem L2

/-- the fixed things: the written part, where the drawing state lies, what calls give, the bound of draws, the classes of errors with their fields -/
structure Sx where
  K : PySem.W.Frag
  D : DA
  C : CallT
  B : Option Nat
  XT : Nat → Option (Addr × List Str)
  mv : Nat → Bool

abbrev OW := Nat → Option Addr
def RepU (K : PySem.W.Frag) (D : DA) (F : AS) (H : Hp) : Option Addr → Val → V → Prop
  | none, x, v => Rep K D F H x v
  | some a, x, v => ∃ xs vs, x = .lst xs ∧ v = .ref a ∧ H a = some (.lst vs) ∧ Reps K D F H xs vs
structure Sim (K : PySem.W.Frag) (D : DA) (mv : Nat → Bool) (F : AS) (U : OW) (H0 : Hp) (σ : St) (H : Hp) (e : Env) (g : DrawSt) : Prop where
  var : ∀ i x, getE e i = some x → ∃ v, σ[i]? = some (some v) ∧ RepU K D F H (U i) x v
  len : σ.length = e.length
  own : ∀ i a, U i = some a → ¬ F a ∧ H0 a = none ∧ (∃ vs, H a = some (.lst vs)) ∧ ¬ D.has a
  mvs : ∀ i a, U i = some a → mv i = true
  inj : ∀ i j a, U i = some a → U j = some a → i = j
  frz : FOk D F H
  drw : GRel D g H
  base : ∀ a o, H0 a = some o → ¬ D.has a → H a = some o
  bfr : ∀ a, H a = none → H0 a = none

section
variable {K : PySem.W.Frag} {D : DA} {mv : Nat → Bool} {F F' : AS} {U : OW} {H0 H H' : Hp} {σ : St} {e : Env} {g g' : DrawSt}
theorem RepU.stp {o : Option Addr} {x : Val} {v : V} (s : Stp D F F' H H') (h : RepU K D F H o x v) (hn : ∀ a, o = some a → ¬ D.has a) : RepU K D F' H' o x v := by
  cases o with
  | none => exact Rep.stp s h
  | some a =>
    obtain ⟨xs, vs, e1, e2, h1, h2⟩ := h
    exact ⟨xs, vs, e1, e2, s.keep a _ h1 (hn a rfl), h2.stp s⟩
theorem Sim.stp (m : Sim K D mv F U H0 σ H e g) (s : Stp D F F' H H') (gr : GRel D g' H') : Sim K D mv F' U H0 σ H' e g' := by
  refine ⟨fun i x h => ?_, m.len, fun i a h => ?_, m.mvs, m.inj, s.frz, gr, fun a o h n => s.keep a o (m.base a o h n) n, fun a h => m.bfr a (s.live a h)⟩
  · obtain ⟨v, h1, h2⟩ := m.var i x h
    exact ⟨v, h1, h2.stp s fun a q => (m.own i a q).2.2.2⟩
  · obtain ⟨h1, h2, ⟨vs, h3⟩, h4⟩ := m.own i a h
    refine ⟨fun z => ?_, h2, ⟨vs, s.keep a _ h3 h4⟩, h4⟩
    rcases s.new a z with z | z
    · exact h1 z
    · rw [h3] at z; cases z
theorem RepU.top {o : Option Addr} {x : Val} {v : V} (f : FOk D F H) (h : RepU K D F H o x v) (hn : ∀ a, o = some a → ¬ D.has a) : RepT K D F H x v := by
  cases o with
  | none => exact Rep.top f h
  | some a =>
    obtain ⟨xs, vs, rfl, e2, h1, h2⟩ := h
    exact ⟨a, vs, e2, hn a rfl, h1, h2⟩
end

/-- what is wanted of an error -/
def WxP (S : Sx) (W : WX) (c : Nat) (fs : List Val) (g' : DrawSt) (F : AS) (H : Hp) (σ : St) : Prop :=
  ∀ Ca names, S.XT c = some (Ca, names) → ∀ F' H' dx vs, Stp S.D F F' H H' → GRel S.D g' H' → H' dx = some (.xd (names.zip vs)) → Reps S.K S.D F' H' fs vs → W (.ref Ca) (some dx) σ H'
theorem WxP.stp {S : Sx} {W : WX} {c : Nat} {fs : List Val} {g' : DrawSt} {F F1 : AS} {H H1 : Hp} {σ : St} (s : Stp S.D F F1 H H1) (h : WxP S W c fs g' F H σ) : WxP S W c fs g' F1 H1 σ :=
  fun Ca names e F' H' dx vs s' gr hd hr => h Ca names e F' H' dx vs (s.trans s') gr hd hr

abbrev Rel (α β : Type) := OW → Hp → AS → Hp → α → β → Prop
/-- a relation that looks at the start's heap for what is new alone -/
def RelOk {α β : Type} (D : DA) (rel : Rel α β) : Prop := ∀ U F F1 H H1 F' H' x v, Stp D F F1 H H1 → rel U H1 F' H' x v → rel U H F' H' x v
section
variable {α β γ δ : Type} (S : Sx) (W : WX)
def resF (rel : Rel α β) (U : OW) (F : AS) (H : Hp) (σ : St) (r : R α) (Q : α → DrawSt → β → AS → Hp → Prop) : Prop := match r with
  | .ok x g' => ∀ v F' H', Stp S.D F F' H H' → GRel S.D g' H' → rel U H F' H' x v → Q x g' v F' H'
  | .exc c fs g' => WxP S W c fs g' F H σ
  | .bad => False
def tG (rel : Rel α β) (f : Env → DrawSt → R α) : St → Hp → (β → Hp → Prop) → Prop := fun σ H Q =>
  ∃ F U H0 e g, Sim S.K S.D S.mv F U H0 σ H e g ∧ resF S W rel U F H σ (f e g) fun _ _ v _ H' => Q v H'
variable {S W}
theorem resF_mono {rel : Rel α β} {rel' : Rel α δ} {U : OW} {F : AS} {H : Hp} {σ : St} {r : R α} {Q : α → DrawSt → β → AS → Hp → Prop} {Q' : α → DrawSt → δ → AS → Hp → Prop}
    (h : resF S W rel U F H σ r Q) (k : ∀ x g', r = .ok x g' → (∀ v F' H', Stp S.D F F' H H' → GRel S.D g' H' → rel U H F' H' x v → Q x g' v F' H') → ∀ v F' H', Stp S.D F F' H H' → GRel S.D g' H' → rel' U H F' H' x v → Q' x g' v F' H') : resF S W rel' U F H σ r Q' := by
  cases r with
  | ok x g' => exact k x g' rfl h
  | exc c fs g' => exact h
  | bad => exact h
theorem resF_bind {rel : Rel α β} {rel1 : Rel γ δ} {U : OW} {F : AS} {H : Hp} {σ : St} {r : R γ} {k : γ → DrawSt → R α} {Q : α → DrawSt → β → AS → Hp → Prop} (ok : RelOk S.D rel)
    (h : resF S W rel U F H σ (r.bind k) Q) : resF S W rel1 U F H σ r fun x g1 _ F1 H1 => resF S W rel U F1 H1 σ (k x g1) Q := by
  cases r with
  | ok x g1 =>
    intro v F1 H1 st _ _
    change resF S W rel U F H σ (k x g1) Q at h
    cases e : k x g1 with
    | ok y g2 =>
      rw [e] at h
      intro w F' H' st' gr' rl
      exact h w F' H' (st.trans st') gr' (ok U F F1 H H1 F' H' y w st rl)
    | exc c fs g2 =>
      rw [e] at h
      exact WxP.stp st h
    | bad => rw [e] at h; exact h
  | exc c fs g' => exact h
  | bad => exact h
/-- a step of the machine, then what follows -/
theorem tG_then {rel : Rel α β} {rel1 : Rel γ δ} {f : Env → DrawSt → R γ} {k : γ → Env → DrawSt → R α} {σ : St} {H : Hp} {Q : β → Hp → Prop} {T : δ → Hp → Prop} (ok : RelOk S.D rel)
    (h : tG S W rel (fun e g => (f e g).bind fun x g => k x e g) σ H Q)
    (n : ∀ x g1 v F1 U H0 e H1, Sim S.K S.D S.mv F1 U H0 σ H1 e g1 → (∃ H F, Stp S.D F F1 H H1 ∧ rel1 U H F1 H1 x v) → resF S W rel U F1 H1 σ (k x e g1) (fun _ _ v _ H' => Q v H') → T v H1) : tG S W rel1 f σ H T := by
  obtain ⟨F, U, H0, e, g, m, h⟩ := h
  refine ⟨F, U, H0, e, g, m, resF_mono (resF_bind (rel1 := rel1) ok h) fun x g1 _ hk v F1 H1 st gr rl => ?_⟩
  exact n x g1 v F1 U H0 e H1 (m.stp st gr) ⟨H, F, st, rl⟩ (hk v F1 H1 st gr rl)
theorem tG_ret {rel : Rel α β} {x : α} {g : DrawSt} {U : OW} {F : AS} {H : Hp} {σ : St} {Q : α → DrawSt → β → AS → Hp → Prop} {F' : AS} {H' : Hp} {v : β} (h : resF S W rel U F H σ (.ok x g) Q) (st : PSt S.D F F' H H') (gr : GRel S.D g H) (rl : rel U H F' H' x v) : Q x g v F' H' :=
  h v F' H' st.stp (gr.ext st.ext) rl
theorem resF_of {rel : Rel α β} {o : Option α} {g : DrawSt} {U : OW} {F : AS} {H : Hp} {σ : St} {Q : α → DrawSt → β → AS → Hp → Prop} (h : resF S W rel U F H σ (R.of o g) Q) : ∃ x, o = some x ∧ ∀ v F' H', Stp S.D F F' H H' → GRel S.D g H' → rel U H F' H' x v → Q x g v F' H' := by
  cases o with
  | none => exact False.elim h
  | some x => exact ⟨x, rfl, h⟩
end

/-! ### the relations -/
section
variable (S : Sx)
def rE : Rel Val V := fun _ _ F' H' x v => Rep S.K S.D F' H' x v
def rT : Rel Val V := fun _ _ F' H' x v => RepT S.K S.D F' H' x v
def rN : Rel Val V := fun _ H F' H' x v => RepN S.K S.D H F' H' x v
def UF (F : AS) (U : OW) : AS := fun a => F a ∨ ∃ i, U i = some a
def rB : Rel Val V := fun U _ F' H' x v => Rep S.K S.D (UF F' U) H' x v
def rTs : Rel (List Val) (List V) := fun _ _ F' H' x v => RepTs S.K S.D F' H' x v
def rEs : Rel (List Val) (List V) := fun _ _ F' H' x v => Reps S.K S.D F' H' x v
def rBs : Rel (List Val) (List V) := fun U _ F' H' x v => Reps S.K S.D (UF F' U) H' x v
def rId {α : Type} : Rel α α := fun _ _ _ _ x v => x = v
end
section
variable {S : Sx} {D : DA}
theorem rE_ok : RelOk D (rE S) := fun _ _ _ _ _ _ _ _ _ _ h => h
theorem rT_ok : RelOk D (rT S) := fun _ _ _ _ _ _ _ _ _ _ h => h
theorem rB_ok : RelOk D (rB S) := fun _ _ _ _ _ _ _ _ _ _ h => h
theorem rTs_ok : RelOk D (rTs S) := fun _ _ _ _ _ _ _ _ _ _ h => h
theorem rEs_ok : RelOk D (rEs S) := fun _ _ _ _ _ _ _ _ _ _ h => h
theorem rBs_ok : RelOk D (rBs S) := fun _ _ _ _ _ _ _ _ _ _ h => h
theorem rId_ok {α : Type} : RelOk D (rId (α := α)) := fun _ _ _ _ _ _ _ _ _ _ h => h
theorem rN_ok : RelOk D (rN S) := fun U F F1 H H1 F' H' x v st h => by
  cases x with
  | lst xs =>
    obtain ⟨a, vs, e, h1, h2⟩ := h
    exact ⟨a, vs, e, st.live a h1, h2⟩
  | _ => exact h
end

/-! ### from one reading to another -/
section
variable {X : Cx} {S : Sx} {W : WX}
theorem PE.imp {e : Expr} {t t' : TE} (h : PE X e t) (k : ∀ σ H Q, t' σ H Q → t σ H Q) : PE X e t' := ⟨fun pins s σ H Q I q => h.run pins s σ H Q I (k σ H Q q)⟩
theorem PT.imp {e : Expr} {t t' : TT} (h : PT X e t) (k : ∀ σ H Q, t' σ H Q → t σ H Q) : PT X e t' := ⟨fun pins s σ H Q I q => h.run pins s σ H Q I (k σ H Q q)⟩
theorem PA.imp {e : List Expr} {t t' : TA} (h : PA X e t) (k : ∀ σ H Q, t' σ H Q → t σ H Q) : PA X e t' := ⟨fun pos pins s σ H Q I q => h.run pos pins s σ H Q I (k σ H Q q)⟩
theorem PO.imp {e : Option Expr} {t t' : TO} (h : PO X e t) (k : ∀ σ H Q, t' σ H Q → t σ H Q) : PO X e t' := ⟨fun pins s σ H Q I q => h.run pins s σ H Q I (k σ H Q q)⟩
theorem PSs.imp {st : List Stmt} {t t' : TS} (h : PSs X st t) (k : ∀ Dn σ H, t' Dn σ H → t Dn σ H) : PSs X st t' := ⟨fun pins s σ H Dn I q => h.run pins s σ H Dn I (k Dn σ H q)⟩
theorem PS.imp {st : Stmt} {t t' : TS} (h : PS X st t) (k : ∀ Dn σ H, t' Dn σ H → t Dn σ H) : PS X st t' := ⟨fun pins s σ H Dn I q => h.run pins s σ H Dn I (k Dn σ H q)⟩
theorem e_of_n {e : Expr} {f : Pm.Env → DrawSt → R Val} (h : PE X e (tG S W (rN S) f)) : PE X e (tG S W (rE S) f) := PE.imp h fun σ H Q ⟨F, U, H0, en, g, m, r⟩ =>
  ⟨F, U, H0, en, g, m, resF_mono r fun x g' _ hk v F' H' st gr rl => by
    obtain ⟨F2, st2, rp⟩ := RepN.frozen st rl
    exact hk v F2 H' st2 gr rp⟩
theorem t_of_e {e : Expr} {f : Pm.Env → DrawSt → R Val} (h : PE X e (tG S W (rE S) f)) : PE X e (tG S W (rT S) f) := by
  refine PE.imp h fun σ H Q ⟨F, U, H0, en, g, m, r⟩ => ⟨F, U, H0, en, g, m, resF_mono r fun x g' _ hk v F' H' st gr rl => ?_⟩
  exact hk v F' H' st gr (Rep.top (F := F') st.frz rl)
theorem b_of_e {e : Expr} {f : Pm.Env → DrawSt → R Val} (h : PE X e (tG S W (rE S) f)) : PE X e (tG S W (rB S) f) := by
  refine PE.imp h fun σ H Q ⟨F, U, H0, en, g, m, r⟩ => ⟨F, U, H0, en, g, m, resF_mono r fun x g' _ hk v F' H' st gr rl => ?_⟩
  exact hk v F' H' st gr (Rep.mono (fun _ z => .inl z) (fun _ _ _ q => q) x v rl)
end
end Pm
set_option Elab.async false
set_option linter.all false
set_option maxRecDepth 100000
set_option maxHeartbeats 4000000
namespace Pm
open PySem L2 PyProof.Rows

section
variable {K : PySem.W.Frag} {D : DA} {F : AS} {H : Hp} {g : DrawSt}
theorem RepT_int {i : Int} {v : V} : RepT K D F H (.int i) v ↔ v = .int i := by simp only [RepT, Rep]
theorem RepT_str {i : Str} {v : V} : RepT K D F H (.str i) v ↔ v = .str i := by simp only [RepT, Rep]
theorem RepT_bl {i : Bool} {v : V} : RepT K D F H (.bl i) v ↔ v = .bl i := by simp only [RepT, Rep]
theorem RepT_non {v : V} : RepT K D F H .non v ↔ v = .non := by simp only [RepT, Rep]
theorem RepT_drw {v : V} : RepT K D F H .drw v ↔ v = .ref D.m := by simp only [RepT, Rep]
theorem RepT_tup {xs : List Val} {v : V} : RepT K D F H (.tup xs) v ↔ ∃ a vs, v = .ref a ∧ FT K F H a vs ∧ Reps K D F H xs vs := by simp only [RepT, Rep]
theorem RepT_lst {xs : List Val} {v : V} : RepT K D F H (.lst xs) v ↔ ∃ a vs, v = .ref a ∧ ¬ D.has a ∧ H a = some (.lst vs) ∧ Reps K D F H xs vs := Iff.rfl
theorem RepN_int {H0 : Hp} {i : Int} {v : V} : RepN K D H0 F H (.int i) v ↔ v = .int i := by simp only [RepN, Rep]
theorem RepN_str {H0 : Hp} {i : Str} {v : V} : RepN K D H0 F H (.str i) v ↔ v = .str i := by simp only [RepN, Rep]
theorem RepN_bl {H0 : Hp} {i : Bool} {v : V} : RepN K D H0 F H (.bl i) v ↔ v = .bl i := by simp only [RepN, Rep]
theorem RepN_tup {H0 : Hp} {xs : List Val} {v : V} : RepN K D H0 F H (.tup xs) v ↔ ∃ a vs, v = .ref a ∧ FT K F H a vs ∧ Reps K D F H xs vs := by simp only [RepN, Rep]
theorem Rep_tup {xs : List Val} {v : V} : Rep K D F H (.tup xs) v ↔ ∃ a vs, v = .ref a ∧ FT K F H a vs ∧ Reps K D F H xs vs := by simp only [Rep]
theorem Rep_bl {i : Bool} {v : V} : Rep K D F H (.bl i) v ↔ v = .bl i := by simp only [Rep]
theorem Rep_int {i : Int} {v : V} : Rep K D F H (.int i) v ↔ v = .int i := by simp only [Rep]
theorem upd_keeps {p : Addr} {o : HO} (hp : H p = none) : ∀ a u, H a = some u → upd H p o a = some u := fun a u e => by
  rw [upd_ne (ne_of_none e hp)]; exact e
theorem new_tup {p : Addr} {xs : List Val} {vs : List V} (f : FOk D F H) (gr : GRel D g H) (hp : H p = none) (h : Reps K D F H xs vs) :
    ∃ F', PSt D F F' H (upd H p (.tup vs)) ∧ RepN K D H F' (upd H p (.tup vs)) (.tup xs) (.ref p) :=
  ⟨_, PSt.alloc f hp gr True, RepN_tup.mpr ⟨p, vs, rfl, .inl ⟨.inr ⟨rfl, trivial⟩, upd_same⟩, Reps.mono (fun _ z => .inl z) (fun a u _ e => upd_keeps hp a u e) xs vs h⟩⟩
theorem new_lst {p : Addr} {xs : List Val} {vs : List V} (f : FOk D F H) (gr : GRel D g H) (hp : H p = none) (h : Reps K D F H xs vs) :
    PSt D F F H (upd H p (.lst vs)) ∧ RepN K D H F (upd H p (.lst vs)) (.lst xs) (.ref p) := by
  have st := PSt.alloc (o := .lst vs) f hp gr False
  have e : (fun a => F a ∨ (a = p ∧ False)) = F := by funext a; simp
  rw [e] at st
  exact ⟨st, p, vs, rfl, hp, fun z => (f p z).1 hp, nothas gr hp, upd_same, Reps.mono (fun _ z => z) (fun a u _ e => upd_keeps hp a u e) xs vs h⟩
end

/-- a two-place operation on values keeps what the function tells -/
def OpS (K : PySem.W.Frag) (D : DA) (f : Val → Val → Option Val) (r : R2) : Prop := ∀ F H g x y z v w (Q : VK), FOk D F H → GRel D g H → RepT K D F H x v → RepT K D F H y w → f x y = some z →
  (∀ v' F' H', PSt D F F' H H' → RepN K D H F' H' z v' → Q v' H') → r v w H Q

section
variable {X : Cx} {K : PySem.W.Frag} {D : DA}
abbrev rInt (f : Int → Int → Int) : R2 := rI0 fun i j => .int (f i j)
abbrev rCatS : R2 := fun x y H Q => ∃ i j, x = .str i ∧ y = .str j ∧ i.length + j.length ≤ sizeLine ∧ Q (.str (i ++ j)) H
def rAddV (K : PySem.W.Frag) : R2 := fun x y H Q => (rInt (· + ·) x y H Q ∨ rCatS x y H Q) ∨ (rCatA K x y H Q ∨ rCat x y H Q)
theorem addV_op : OpR X (binaryOp .Add) (rAddV X.K) := OpR.or (OpR.or op_add op_add_str) (OpR.or op_catA op_cat)
theorem lim_le {n : Nat} (h : n ≤ lim) : n ≤ sizeLine := Nat.le_trans h (by decide)
theorem addV_s : OpS K D (vBin .add) (rAddV K) := by
  intro F H g x y z v w Q f gr hx hy h q
  cases x <;> cases y <;> try exact nomatch (show (none : Option Val) = some z from h)
  · rename_i i j
    have e : z = .int (i + j) := (Option.some.inj h).symm
    subst e
    rw [RepT_int] at hx hy
    subst hx hy
    exact .inl (.inl ⟨i, j, rfl, rfl, q _ F H (PSt.refl f) (RepN_int.mpr rfl)⟩)
  · rename_i s t
    rw [RepT_str] at hx hy
    subst hx hy
    simp only [vBin] at h
    split at h
    · rename_i hl
      simp only [Option.some.injEq] at h
      subst h
      exact .inl (.inr ⟨s, t, rfl, rfl, lim_le hl, q _ F H (PSt.refl f) (RepN_str.mpr rfl)⟩)
    · cases h
  · rename_i xs ys
    obtain ⟨a, vs, rfl, h1, h2⟩ := RepT_tup.mp hx
    obtain ⟨b, ws, rfl, h3, h4⟩ := RepT_tup.mp hy
    simp only [vBin] at h
    split at h
    · rename_i hl
      simp only [Option.some.injEq] at h
      subst h
      refine .inr (.inl ⟨a, b, vs, ws, rfl, rfl, h1.sq, h3.sq, by rw [h2.length, h4.length]; exact lim_le hl, fun e => ?_, fun e1 e2 => ?_, fun e1 e2 p hp => ?_⟩)
      · subst e
        have : xs = [] := List.eq_nil_of_length_eq_zero h2.length.symm
        subst this
        exact q _ F H (PSt.refl f) (RepN_tup.mpr ⟨b, ws, rfl, h3, h4⟩)
      · subst e2
        have : ys = [] := List.eq_nil_of_length_eq_zero h4.length.symm
        subst this
        rw [List.append_nil] at q
        exact q _ F H (PSt.refl f) (RepN_tup.mpr ⟨a, vs, rfl, h1, h2⟩)
      · obtain ⟨F', s1, s2⟩ := new_tup f gr hp (h2.append h4)
        exact q _ F' _ s1 s2
    · cases h
  · rename_i xs ys
    obtain ⟨a, vs, rfl, _, h1, h2⟩ := RepT_lst.mp hx
    obtain ⟨b, ws, rfl, _, h3, h4⟩ := RepT_lst.mp hy
    simp only [vBin] at h
    split at h
    · rename_i hl
      simp only [Option.some.injEq] at h
      subst h
      refine .inr (.inr ⟨a, b, vs, ws, rfl, rfl, h1, h3, by rw [h2.length, h4.length]; exact lim_le hl, fun p hp => ?_⟩)
      obtain ⟨s1, s2⟩ := new_lst f gr hp (h2.append h4)
      exact q _ F _ s1 s2
    · cases h
theorem subV_s : OpS K D (vBin .sub) (rInt (· - ·)) := by
  intro F H g x y z v w Q f gr hx hy h q
  cases x <;> cases y <;> try exact nomatch (show (none : Option Val) = some z from h)
  rename_i i j
  have e : z = .int (i - j) := (Option.some.inj h).symm
  subst e
  rw [RepT_int] at hx hy
  subst hx hy
  exact ⟨i, j, rfl, rfl, q _ F H (PSt.refl f) (RepN_int.mpr rfl)⟩
theorem fdivV_s : OpS K D (vBin .fdiv) (rI CDiv fun i j => .int (i / j)) := by
  intro F H g x y z v w Q f gr hx hy h q
  cases x <;> cases y <;> try exact nomatch (show (none : Option Val) = some z from h)
  rename_i i j
  simp only [vBin] at h
  split at h
  · rename_i hc
    simp only [Option.some.injEq] at h
    subst h
    rw [RepT_int] at hx hy
    subst hx hy
    exact ⟨i, j, rfl, rfl, hc, q _ F H (PSt.refl f) (RepN_int.mpr rfl)⟩
  · cases h
theorem modV_s : OpS K D (vBin .mod) (rI (fun _ j => 0 < j) fun i j => .int (i % j)) := by
  intro F H g x y z v w Q f gr hx hy h q
  cases x <;> cases y <;> try exact nomatch (show (none : Option Val) = some z from h)
  rename_i i j
  simp only [vBin] at h
  split at h
  · rename_i hc
    simp only [Option.some.injEq] at h
    subst h
    rw [RepT_int] at hx hy
    subst hx hy
    exact ⟨i, j, rfl, rfl, hc, q _ F H (PSt.refl f) (RepN_int.mpr rfl)⟩
  · cases h
theorem powV_s : OpS K D (vBin .pow) (rI CPow fun i j => .int (i ^ j.toNat)) := by
  intro F H g x y z v w Q f gr hx hy h q
  cases x <;> cases y <;> try exact nomatch (show (none : Option Val) = some z from h)
  rename_i i j
  simp only [vBin] at h
  split at h
  · rename_i hc
    simp only [Option.some.injEq] at h
    subst h
    rw [RepT_int] at hx hy
    subst hx hy
    exact ⟨i, j, rfl, rfl, hc, q _ F H (PSt.refl f) (RepN_int.mpr rfl)⟩
  · cases h
/-! #### a tuple times 1 -/
theorem tuple_once (l : Addr) (its : Array Value) (n : Nat) (dd : Option Addr) (sl : Array (Option Value)) (u : Tok) :
    Meets (Builtin.«tuple.__mul__» ⟨[.ref l, .int 1 u], []⟩) (fun _ R s => s.heap.get? l = some { cls := .type "tuple", dict := dd, data := .seq its n, slots := sl } ∧ R (.ok (.ret (Value.ref l))) s) :=
  .of_wp fun prog w A R s h => by
    obtain ⟨hp, g, d, tk, os⟩ := s
    obtain ⟨hl, h⟩ := h
    have ix := AutoSeq1.idx_int
    have one : (its.isEmpty || (1 : Int) == 1) = true := by simp
    wp_walk using wpAny_loadPart' hl
    repeat (first
      | (refine wpAny_ite_false (by decide) ?_; wp_walk using wpAny_loadPart' hl)
      | (refine wpAny_ite_true (decide_eq_true one) ?_; wp_walk using wpAny_loadPart' hl))
    exact ⟨_, rfl, h⟩
def rOnce (K : PySem.W.Frag) : R2 := fun x y H Q => ∃ l xs, x = .ref l ∧ y = .int 1 ∧ SqT K H l xs ∧ Q (.ref l) H
theorem op_once : OpR X (binaryOp .Mult) (rOnce X.K) := by
  intro pins s σ H x y v u Q I rx ry h
  obtain ⟨l, xs, rfl, rfl, hT, q⟩ := h
  cases rx
  obtain ⟨t, rfl⟩ := ry
  obtain ⟨its, r, ⟨⟨cls, dd, data, sl⟩, ho, hc, n, hd⟩, hs⟩ := I.tuple hT
  simp only at hc hd
  subst hc hd
  refine wpAny_binaryOp_repeat_ref (T := "tuple") (U := "int") (by decide) ⟨_, ho, rfl⟩ (fun s' => typeIs_int s' 1 t) noFill_tuple_mul F.fills_int_mul F.slot_int_rmul repeat_tuple F.slot_int_index.lookup (call_meets F.slot_int_rmul (typeIs_int s 1 t) F.entry_int_rmul (F.args_int_rmul_2 _ _) (int_rmul_tuple 1 t l its.toArray n dd sl) ⟨ho, rfl, ⟨_, ho, rfl⟩, ?_⟩)
  refine call_meets F.slot_tuple_mul ⟨_, ho, rfl⟩ F.entry_tuple_mul (F.args_tuple_mul_2 _ _) (tuple_once l its.toArray n dd sl t) ⟨ho, ?_⟩
  exact ⟨.ref l, H, I, rfl, q⟩
def rMulV (K : PySem.W.Frag) : R2 := fun x y H Q => (rI CMul (fun i j => .int (i * j)) x y H Q ∨ rRep x y H Q) ∨ (rOnce K x y H Q ∨ rRepT K x y H Q)
theorem mulV_op : OpR X (binaryOp .Mult) (rMulV X.K) := OpR.or (OpR.or op_mul op_rep) (OpR.or op_once op_repT)
theorem mulV_s : OpS K D (vBin .mul) (rMulV K) := by
  intro F H g x y z v w Q f gr hx hy h q
  cases x <;> cases y <;> try exact nomatch (show (none : Option Val) = some z from h)
  · rename_i i j
    rw [RepT_int] at hx hy
    subst hx hy
    simp only [vBin] at h
    split at h
    · rename_i hc
      simp only [Option.some.injEq] at h
      subst h
      refine .inl (.inl ⟨i, j, rfl, rfl, ?_, q _ F H (PSt.refl f) (RepN_int.mpr rfl)⟩)
      simp only [mulOk, Bool.or_eq_true, Bool.and_eq_true, decide_eq_true_eq] at hc
      exact hc
    · cases h
  · rename_i xs k
    obtain ⟨a, vs, rfl, h1, h2⟩ := RepT_tup.mp hx
    rw [RepT_int] at hy
    subst hy
    simp only [vBin] at h
    split at h
    · rename_i hk
      subst hk
      simp only [Option.some.injEq] at h
      subst h
      exact .inr (.inl ⟨a, vs, rfl, rfl, h1.sq, q _ F H (PSt.refl f) (RepN_tup.mpr ⟨a, vs, rfl, h1, h2⟩)⟩)
    · split at h
      · rename_i hk
        simp only [rept, Option.map_eq_some_iff] at h
        obtain ⟨ys, h, rfl⟩ := h
        split at h
        · rename_i hl
          simp only [Option.some.injEq] at h
          subst h
          have hne : vs ≠ [] := fun z => by
            subst z
            have : xs = [] := List.eq_nil_of_length_eq_zero h2.length.symm
            subst this
            exact absurd hk.2 (by simp)
          refine .inr (.inr ⟨a, k, vs, rfl, rfl, h1.sq, hne, hk.1, hl.1.2, by rw [h2.length]; exact hl.2, fun p hp => ?_⟩)
          obtain ⟨F', s1, s2⟩ := new_tup f gr hp (h2.replicate k.toNat)
          exact q _ F' _ s1 s2
        · cases h
      · cases h
  · rename_i xs k
    obtain ⟨a, vs, rfl, _, h1, h2⟩ := RepT_lst.mp hx
    rw [RepT_int] at hy
    subst hy
    simp only [vBin, rept, Option.map_eq_some_iff] at h
    obtain ⟨ys, h, rfl⟩ := h
    split at h
    · rename_i hl
      simp only [Option.some.injEq] at h
      subst h
      refine .inl (.inr ⟨a, k, vs, rfl, rfl, h1, by omega, by omega, ?_, fun p hp => ?_⟩)
      · rw [h2.length]
        have a1 : xs.length * k.toNat ≤ 1000 * 1000 := Nat.mul_le_mul hl.2 (by omega)
        exact Nat.le_trans a1 (by decide)
      · obtain ⟨s1, s2⟩ := new_lst f gr hp (h2.replicate k.toNat)
        exact q _ F _ s1 s2
    · cases h
end
end Pm
set_option Elab.async false
set_option linter.all false
set_option maxRecDepth 100000
set_option maxHeartbeats 4000000
namespace Pm
open PySem L2 PyProof.Rows

/-! ### comparisons -/
section
variable {X : Cx} {K : PySem.W.Frag} {D : DA}
def cmpV (o : Cop) : Val → Val → Option Val := fun x y => (vCmp o x y).map .bl
theorem vEq_some {x y : Val} {b : Bool} (h : vEq x y = some b) : ∃ d e, toD x = some d ∧ toD y = some e ∧ SeqAt.shaped d = true ∧ SeqAt.shaped e = true ∧ b = PyData.eqv d e := by
  unfold vEq at h
  split at h
  · rename_i d e h1 h2
    split at h
    · rename_i hs
      rw [Bool.and_eq_true] at hs
      exact ⟨d, e, h1, h2, hs.1, hs.2, (Option.some.inj h).symm⟩
    · cases h
  · cases h
theorem eqV_s : OpS K D (cmpV .eq) (rEqD K) := by
  intro F H g x y z v w Q f gr hx hy h q
  simp only [cmpV, vCmp, Option.map_eq_some_iff] at h
  obtain ⟨b, h, rfl⟩ := h
  obtain ⟨d, e, h1, h2, h3, h4, rfl⟩ := vEq_some h
  exact ⟨d, e, hx.dp h1, hy.dp h2, h3, h4, q _ F H (PSt.refl f) (RepN_bl.mpr rfl)⟩
theorem neV_s : OpS K D (cmpV .ne) (rNeD K) := by
  intro F H g x y z v w Q f gr hx hy h q
  simp only [cmpV, vCmp, Option.map_map, Option.map_eq_some_iff] at h
  obtain ⟨b, h, rfl⟩ := h
  obtain ⟨d, e, h1, h2, h3, h4, rfl⟩ := vEq_some h
  exact ⟨d, e, hx.dp h1, hy.dp h2, h3, h4, q _ F H (PSt.refl f) (RepN_bl.mpr rfl)⟩
theorem ordV_s {o : Cop} {p : Int → Int → Bool} (hi : ∀ i j, vCmp o (.int i) (.int j) = some (p i j)) (hn : ∀ x y b, vCmp o x y = some b → ∃ i j, x = .int i ∧ y = .int j) : OpS K D (cmpV o) (rI0 fun i j => .bl (p i j)) := by
  intro F H g x y z v w Q f gr hx hy h q
  simp only [cmpV, Option.map_eq_some_iff] at h
  obtain ⟨b, h, rfl⟩ := h
  obtain ⟨i, j, rfl, rfl⟩ := hn x y b h
  rw [hi] at h
  cases h
  rw [RepT_int] at hx hy
  subst hx hy
  exact ⟨i, j, rfl, rfl, q _ F H (PSt.refl f) (RepN_bl.mpr rfl)⟩
theorem ltV_s : OpS K D (cmpV .lt) (rI0 fun i j => .bl (decide (i < j))) := ordV_s (fun _ _ => rfl) fun x y b h => by
  cases x <;> cases y <;> first | exact ⟨_, _, rfl, rfl⟩ | exact nomatch (show (none : Option Bool) = some b from h)
theorem leV_s : OpS K D (cmpV .le) (rI0 fun i j => .bl (decide (i ≤ j))) := ordV_s (fun _ _ => rfl) fun x y b h => by
  cases x <;> cases y <;> first | exact ⟨_, _, rfl, rfl⟩ | exact nomatch (show (none : Option Bool) = some b from h)
theorem gtV_s : OpS K D (cmpV .gt) (rI0 fun i j => .bl (decide (j < i))) := ordV_s (fun _ _ => rfl) fun x y b h => by
  cases x <;> cases y <;> first | exact ⟨_, _, rfl, rfl⟩ | exact nomatch (show (none : Option Bool) = some b from h)
theorem geV_s : OpS K D (cmpV .ge) (rI0 fun i j => .bl (decide (j ≤ i))) := ordV_s (fun _ _ => rfl) fun x y b h => by
  cases x <;> cases y <;> first | exact ⟨_, _, rfl, rfl⟩ | exact nomatch (show (none : Option Bool) = some b from h)
/-- in a tuple of data -/
def rInU (K : PySem.W.Frag) (neg : Bool) : R2 := fun x y H Q => ∃ d ds, Dp K H x d ∧ Dp K H y (.tuple ds) ∧ SeqAt.shaped d = true ∧ SeqAt.shaped (.list ds) = true ∧ Q (.bl (if neg then !(ds.any fun z => PyData.eqv z d) else ds.any fun z => PyData.eqv z d)) H
theorem op_inU (hu : X.A.units + 65 < cLine) : OpR X (compareOp .In) (rInU X.K false) := by
  intro pins s σ H x y v u Q I rx ry h
  obtain ⟨d, ds, hd, he, sd, se, q⟩ := h
  obtain ⟨as, r1⟩ := Dp.reads I d x v hd rx
  obtain ⟨bs, r2⟩ := Dp.reads I (.tuple ds) y u he ry
  have cl : PyData.canLayAll0 ds = true := SeqAt.canLay_of_shaped se
  exact SeqAt.in_tuple_reads r2 r1 cl (SeqAt.canLay_of_shaped sd) (room_in_shaped sd hu) ⟨.bl _, H, I, rfl, q⟩
theorem op_notInU (hu : X.A.units + 65 < cLine) : OpR X (compareOp .NotIn) (rInU X.K true) := by
  intro pins s σ H x y v u Q I rx ry h
  obtain ⟨d, ds, hd, he, sd, se, q⟩ := h
  obtain ⟨as, r1⟩ := Dp.reads I d x v hd rx
  obtain ⟨bs, r2⟩ := Dp.reads I (.tuple ds) y u he ry
  have cl : PyData.canLayAll0 ds = true := SeqAt.canLay_of_shaped se
  exact SeqAt.notIn_tuple_reads r2 r1 cl (SeqAt.canLay_of_shaped sd) (room_in_shaped sd hu) ⟨.bl _, H, I, rfl, q⟩
def rInV (K : PySem.W.Frag) : R2 := fun x y H Q => (rInD K x y H Q ∨ rInU K false x y H Q) ∨ (∃ (c : Nat) (z : Str), x = .str ⟨#[c]⟩ ∧ y = .str z ∧ Q (.bl (decide (c ∈ z.cps.toList))) H)
def rNotInV (K : PySem.W.Frag) : R2 := fun x y H Q => (rNotInD K x y H Q ∨ rInU K true x y H Q) ∨ (∃ (c : Nat) (z : Str), x = .str ⟨#[c]⟩ ∧ y = .str z ∧ Q (.bl (!decide (c ∈ z.cps.toList))) H)
theorem inV_op (hu : X.A.units + 65 < cLine) : OpR X (compareOp .In) (rInV X.K) := OpR.or (OpR.or (op_inD hu) (op_inU hu)) op_in_sign
theorem notInV_op (hu : X.A.units + 65 < cLine) : OpR X (compareOp .NotIn) (rNotInV X.K) := OpR.or (OpR.or (op_notInD hu) (op_notInU hu)) op_notIn_sign
theorem vMem_some {x : Val} {ys : List Val} {b : Bool} (h : vMem x ys = some b) : ∃ d ds, toD x = some d ∧ toDs ys = some ds ∧ SeqAt.shaped d = true ∧ SeqAt.shaped (.list ds) = true ∧ b = ds.any fun z => PyData.eqv z d := by
  unfold vMem at h
  split at h
  · rename_i d ds h1 h2
    split at h
    · rename_i hs
      rw [Bool.and_eq_true] at hs
      exact ⟨d, ds, h1, h2, hs.1, hs.2, (Option.some.inj h).symm⟩
    · cases h
  · cases h
theorem vIn_cases {K : PySem.W.Frag} {D : DA} {F : AS} {H : Hp} {x y : Val} {v w : V} {b : Bool} (hx : RepT K D F H x v) (hy : RepT K D F H y w) (h : vIn x y = some b) :
    (∃ d ds, Dp K H v d ∧ Dp K H w (.list ds) ∧ SeqAt.shaped d = true ∧ SeqAt.shaped (.list ds) = true ∧ b = ds.any fun z => PyData.eqv z d) ∨
    (∃ d ds, Dp K H v d ∧ Dp K H w (.tuple ds) ∧ SeqAt.shaped d = true ∧ SeqAt.shaped (.list ds) = true ∧ b = ds.any fun z => PyData.eqv z d) ∨
    (∃ (c : Nat) (z : Str), v = .str ⟨#[c]⟩ ∧ w = .str z ∧ b = decide (c ∈ z.cps.toList)) := by
  unfold vIn at h
  split at h
  · rename_i ys
    obtain ⟨d, ds, h1, h2, h3, h4, rfl⟩ := vMem_some h
    exact .inr (.inl ⟨d, ds, hx.dp h1, hy.dp (by simp only [toD, h2]; rfl), h3, h4, rfl⟩)
  · rename_i ys
    obtain ⟨d, ds, h1, h2, h3, h4, rfl⟩ := vMem_some h
    exact .inl ⟨d, ds, hx.dp h1, hy.dp (by simp only [toD, h2]; rfl), h3, h4, rfl⟩
  · rename_i z
    split at h
    · rename_i c
      cases h
      exact .inr (.inr ⟨c, z, RepT_str.mp hx, RepT_str.mp hy, rfl⟩)
    · cases h
  · cases h
theorem inV_s : OpS K D (cmpV .isin) (rInV K) := by
  intro F H g x y z v w Q f gr hx hy h q
  simp only [cmpV, vCmp, Option.map_eq_some_iff] at h
  obtain ⟨b, h, rfl⟩ := h
  have qq := q _ F H (PSt.refl f) (RepN_bl.mpr rfl)
  rcases vIn_cases hx hy h with ⟨d, ds, h1, h2, h3, h4, rfl⟩ | ⟨d, ds, h1, h2, h3, h4, rfl⟩ | ⟨c, z, h1, h2, rfl⟩
  · exact .inl (.inl ⟨d, ds, h1, h2, h3, h4, qq⟩)
  · exact .inl (.inr ⟨d, ds, h1, h2, h3, h4, qq⟩)
  · exact .inr ⟨c, z, h1, h2, qq⟩
theorem notInV_s : OpS K D (cmpV .notin) (rNotInV K) := by
  intro F H g x y z v w Q f gr hx hy h q
  simp only [cmpV, vCmp, Option.map_map, Option.map_eq_some_iff] at h
  obtain ⟨b, h, rfl⟩ := h
  have qq := q _ F H (PSt.refl f) (RepN_bl.mpr rfl)
  rcases vIn_cases hx hy h with ⟨d, ds, h1, h2, h3, h4, rfl⟩ | ⟨d, ds, h1, h2, h3, h4, rfl⟩ | ⟨c, z, h1, h2, rfl⟩
  · exact .inl (.inl ⟨d, ds, h1, h2, h3, h4, qq⟩)
  · exact .inl (.inr ⟨d, ds, h1, h2, h3, h4, qq⟩)
  · exact .inr ⟨c, z, h1, h2, qq⟩
theorem isN_of {F : AS} {H : Hp} {x : Val} {v : V} (hx : RepT K D F H x v) : decide (v = .non) = isNon x := by
  cases x with
  | non => rw [RepT_non] at hx; subst hx; rfl
  | bl b => rw [RepT_bl] at hx; subst hx; rfl
  | int b => rw [RepT_int] at hx; subst hx; rfl
  | str b => rw [RepT_str] at hx; subst hx; rfl
  | tup b => obtain ⟨a, vs, rfl, _⟩ := RepT_tup.mp hx; rfl
  | lst b => obtain ⟨a, vs, rfl, _⟩ := RepT_lst.mp hx; rfl
  | drw => rw [RepT_drw] at hx; subst hx; rfl
  | scr n => simp only [RepT, Rep] at hx; obtain ⟨a, vs, rfl, _⟩ := hx; rfl
theorem isV_s : OpS K D (cmpV .is) (fun x y H Q => y = .non ∧ Q (.bl (decide (x = .non))) H) := by
  intro F H g x y z v w Q f gr hx hy h q
  simp only [cmpV, Option.map_eq_some_iff] at h
  obtain ⟨b, h, rfl⟩ := h
  cases y <;> try exact nomatch (show (none : Option Bool) = some b from h)
  have e : b = isNon x := (Option.some.inj h).symm
  refine ⟨RepT_non.mp hy, ?_⟩
  rw [isN_of hx, ← e]
  exact q _ F H (PSt.refl f) (RepN_bl.mpr rfl)
theorem isnotV_s : OpS K D (cmpV .isnot) (fun x y H Q => y = .non ∧ Q (.bl (!decide (x = .non))) H) := by
  intro F H g x y z v w Q f gr hx hy h q
  simp only [cmpV, Option.map_eq_some_iff] at h
  obtain ⟨b, h, rfl⟩ := h
  cases y <;> try exact nomatch (show (none : Option Bool) = some b from h)
  have e : b = !isNon x := (Option.some.inj h).symm
  refine ⟨RepT_non.mp hy, ?_⟩
  have e2 : (!decide (v = .non)) = b := by rw [isN_of hx, e]
  rw [e2]
  exact q _ F H (PSt.refl f) (RepN_bl.mpr rfl)
end

/-- the operators and comparisons of the text -/
def bopR (K : PySem.W.Frag) : Bop → R2
  | .add => rAddV K
  | .sub => rInt (· - ·)
  | .mul => rMulV K
  | .fdiv => rI CDiv fun i j => .int (i / j)
  | .mod => rI (fun _ j => 0 < j) fun i j => .int (i % j)
  | .pow => rI CPow fun i j => .int (i ^ j.toNat)
def bopO : Bop → Operator
  | .add => .Add | .sub => .Sub | .mul => .Mult | .fdiv => .FloorDiv | .mod => .Mod | .pow => .Pow
theorem bop_op {X : Cx} : ∀ o : Bop, OpR X (binaryOp (bopO o)) (bopR X.K o)
  | .add => addV_op | .sub => op_sub | .mul => mulV_op | .fdiv => op_fdiv | .mod => op_mod | .pow => op_pow
theorem bop_s {K : PySem.W.Frag} {D : DA} : ∀ o : Bop, OpS K D (vBin o) (bopR K o)
  | .add => addV_s | .sub => subV_s | .mul => mulV_s | .fdiv => fdivV_s | .mod => modV_s | .pow => powV_s
def copR (K : PySem.W.Frag) : Cop → R2
  | .eq => rEqD K
  | .ne => rNeD K
  | .lt => rI0 fun i j => .bl (decide (i < j))
  | .le => rI0 fun i j => .bl (decide (i ≤ j))
  | .gt => rI0 fun i j => .bl (decide (j < i))
  | .ge => rI0 fun i j => .bl (decide (j ≤ i))
  | .isin => rInV K
  | .notin => rNotInV K
  | .is => fun x y H Q => y = .non ∧ Q (.bl (decide (x = .non))) H
  | .isnot => fun x y H Q => y = .non ∧ Q (.bl (!decide (x = .non))) H
def copO : Cop → CmpOp
  | .eq => .Eq | .ne => .NotEq | .lt => .Lt | .le => .LtE | .gt => .Gt | .ge => .GtE | .isin => .In | .notin => .NotIn | .is => .Is | .isnot => .IsNot
theorem cop_op {X : Cx} (hu : X.A.units + 65 < cLine) : ∀ o : Cop, OpR X (compareOp (copO o)) (copR X.K o)
  | .eq => op_eqD (by omega) | .ne => op_neD (by omega) | .lt => op_lt | .le => op_le | .gt => op_gt | .ge => op_ge | .isin => inV_op hu | .notin => notInV_op hu | .is => op_isN | .isnot => op_notN
theorem cop_s {K : PySem.W.Frag} {D : DA} : ∀ o : Cop, OpS K D (cmpV o) (copR K o)
  | .eq => eqV_s | .ne => neV_s | .lt => ltV_s | .le => leV_s | .gt => gtV_s | .ge => geV_s | .isin => inV_s | .notin => notInV_s | .is => isV_s | .isnot => isnotV_s

/-! ### the readings of parts give that of the whole -/
section
variable {X : Cx} {S : Sx} {W : WX}
abbrev evP (S : Sx) (p : PX) : Pm.Env → DrawSt → R Val := fun e g => ev S.C S.B p e g
abbrev tE (S : Sx) (W : WX) (p : PX) : TE := tG S W (rE S) (evP S p)
abbrev tP (S : Sx) (W : WX) (p : PX) : TE := tG S W (rT S) (evP S p)
abbrev tN (S : Sx) (W : WX) (p : PX) : TE := tG S W (rN S) (evP S p)
abbrev tB' (S : Sx) (W : WX) (p : PX) : TE := tG S W (rB S) (evP S p)
def evT (S : Sx) (p : PX) : Pm.Env → DrawSt → R Bool := fun e g => (ev S.C S.B p e g).bind fun x g => R.of (truth x) g
abbrev tT (S : Sx) (W : WX) (p : PX) : TT := tG S W rId (evT S p)
/-- as a test -/
theorem test_of {p : PX} {σ : L2.St} {H : Hp} {Q : Bool → Hp → Prop} (h : tT S W p σ H Q) : tN S W p σ H (fun x H' => ∃ k, x = .bl k ∧ Q k H') := by
  refine tG_then (rel1 := rN S) (k := fun x _ g => R.of (truth x) g) rId_ok h fun x g1 v F1 U H0 e H1 m rl r => ?_
  obtain ⟨b, h1, h2⟩ := resF_of r
  obtain ⟨H', F', st, rl⟩ := rl
  cases x <;> try exact nomatch (show (none : Option Bool) = some b from h1)
  rename_i c
  cases h1
  exact ⟨b, RepN_bl.mp rl, h2 b F1 H1 (Stp.refl m.frz) m.drw rfl⟩
theorem test_ofE {p : PX} {σ : L2.St} {H : Hp} {Q : Bool → Hp → Prop} (h : tT S W p σ H Q) : tE S W p σ H (fun x H' => ∃ k, x = .bl k ∧ Q k H') := by
  refine tG_then (rel1 := rE S) (k := fun x _ g => R.of (truth x) g) rId_ok h fun x g1 v F1 U H0 e H1 m rl r => ?_
  obtain ⟨b, h1, h2⟩ := resF_of r
  obtain ⟨H', F', st, rl⟩ := rl
  cases x <;> try exact nomatch (show (none : Option Bool) = some b from h1)
  rename_i c
  cases h1
  exact ⟨b, Rep_bl.mp rl, h2 b F1 H1 (Stp.refl m.frz) m.drw rfl⟩
theorem bin_i {f : Val → Val → Option Val} {r : R2} {pa pb : PX} {σ : L2.St} {H : Hp} {Q : VK} (hs : OpS S.K S.D f r)
    (h : tG S W (rN S) (fun e g => (ev S.C S.B pa e g).bind fun x g => (ev S.C S.B pb e g).bind fun y g => R.of (f x y) g) σ H Q) : tOp r (tP S W pa) (tP S W pb) σ H Q := by
  refine tG_then (rel1 := rT S) (k := fun x e g => (ev S.C S.B pb e g).bind fun y g => R.of (f x y) g) rN_ok h fun x g1 v F1 U H0 e H1 m rl r1 => ?_
  obtain ⟨_, _, _, rl⟩ := rl
  refine ⟨F1, U, H0, e, g1, m, resF_mono (resF_bind (rel1 := rT S) rN_ok r1) fun y g2 _ hk w F2 H2 st gr rl2 => ?_⟩
  obtain ⟨z, h1, h2⟩ := resF_of (hk w F2 H2 st gr rl2)
  exact hs F2 H2 g2 x y z v w Q st.frz gr (RepT.stp st rl) rl2 h1 fun v' F' H' ps rn => h2 v' F' H' ps.stp (gr.ext ps.ext) rn
theorem pe_binG {a b : Expr} {pa pb : PX} {o : Bop} {pos : Pos} (hK : X.K = S.K) (ha : PE X a (tP S W pa)) (hb : PE X b (tP S W pb)) : PE X (.BinOp a (bopO o) b pos) (tN S W (.bin o pa pb)) :=
  PE.imp (pe_op (bop_op o) ha hb) fun σ H Q h => bin_i (S := S) (by rw [hK]; exact bop_s o) h
theorem nomarkG (o : Cop) (b : Expr) (h : ∀ es k p, b ≠ .Set es k p) : behindInMarks (copO o) b = false := by
  cases b <;> try rfl
  exact absurd rfl (h _ _ _)
theorem pe_cmpG {a b : Expr} {pa pb : PX} {o : Cop} {pos : Pos} (hK : X.K = S.K) (hu : X.A.units + 65 < cLine) (hm : behindInMarks (copO o) b = false) (ha : PE X a (tP S W pa)) (hb : PE X b (tP S W pb)) :
    PE X (.Compare a [copO o] [b] pos) (tN S W (.cmp o pa pb)) :=
  PE.imp (pe_cmpR (cop_op hu o) ha hb hm) fun σ H Q h => bin_i (S := S) (f := cmpV o) (by rw [hK]; exact cop_s o) h
theorem pt_cmpG {a b : Expr} {pa pb : PX} {o : Cop} {pos : Pos} (hK : X.K = S.K) (hu : X.A.units + 65 < cLine) (hm : behindInMarks (copO o) b = false) (ha : PE X a (tP S W pa)) (hb : PE X b (tP S W pb)) :
    PT X (.Compare a [copO o] [b] pos) (tT S W (.cmp o pa pb)) :=
  PT.imp (pt_cmpR (cop_op hu o) ha hb hm) fun σ H Q h => bin_i (S := S) (f := cmpV o) (by rw [hK]; exact cop_s o) (test_of h)
end
end Pm
set_option Elab.async false
set_option linter.all false
set_option maxRecDepth 100000
set_option maxHeartbeats 4000000
namespace Pm
open PySem L2

section
variable {X : Cx} {S : Sx} {W : WX} {pos : Pos}
/-! ### names, constants -/
theorem of_get {o : Option Val} {g : DrawSt} {U : OW} {F : AS} {H : Hp} {σ : L2.St} {rel : Rel Val V} {Q : Val → DrawSt → V → AS → Hp → Prop} (f : FOk S.D F H) (gr : GRel S.D g H) (h : resF S W rel U F H σ (R.of o g) Q) :
    ∃ x, o = some x ∧ ∀ v, rel U H F H x v → Q x g v F H := by
  obtain ⟨x, h1, h2⟩ := resF_of h
  exact ⟨x, h1, fun v r => h2 v F H (Stp.refl f) gr r⟩
theorem pe_sl {i : Nat} {x : Str} (hv : PE X (.Name x pos) (tVar i)) (hm : S.mv i = false) : PE X (.Name x pos) (tE S W (.sl i)) := PE.imp hv fun σ H Q ⟨F, U, H0, e, g, m, r⟩ => by
  obtain ⟨x, h1, h2⟩ := of_get m.frz m.drw (show resF S W (rE S) U F H σ (R.of (getE e i) g) _ from r)
  obtain ⟨v, h3, h4⟩ := m.var i x h1
  have u : U i = none := by
    cases q : U i with
    | none => rfl
    | some a => rw [m.mvs i a q] at hm; cases hm
  rw [u] at h4
  exact ⟨v, h3, h2 v h4⟩
theorem pe_pk {i : Nat} {x : Str} (hv : PE X (.Name x pos) (tVar i)) : PE X (.Name x pos) (tP S W (.pk i)) := PE.imp hv fun σ H Q ⟨F, U, H0, e, g, m, r⟩ => by
  obtain ⟨x, h1, h2⟩ := of_get m.frz m.drw (show resF S W (rT S) U F H σ (R.of (getE e i) g) _ from r)
  obtain ⟨v, h3, h4⟩ := m.var i x h1
  exact ⟨v, h3, h2 v (h4.top m.frz fun a q => (m.own i a q).2.2.2)⟩
theorem pe_bor {i : Nat} {x : Str} (hv : PE X (.Name x pos) (tVar i)) : PE X (.Name x pos) (tB' S W (.bor i)) := PE.imp hv fun σ H Q ⟨F, U, H0, e, g, m, r⟩ => by
  obtain ⟨x, h1, h2⟩ := of_get m.frz m.drw (show resF S W (rB S) U F H σ (R.of (getE e i) g) _ from r)
  obtain ⟨v, h3, h4⟩ := m.var i x h1
  refine ⟨v, h3, h2 v ?_⟩
  show Rep S.K S.D (UF F U) H x v
  cases q : U i with
  | none =>
    rw [q] at h4
    exact Rep.mono (fun _ z => .inl z) (fun _ _ _ e => e) x v h4
  | some a =>
    rw [q] at h4
    obtain ⟨xs, vs, rfl, h5, h6, h7⟩ := h4
    simp only [Rep]
    exact ⟨a, vs, h5, .inr ⟨i, q⟩, h6, Reps.mono (fun _ z => .inl z) (fun _ _ _ e => e) xs vs h7⟩
theorem pe_cG {e : Expr} {x : Val} {v : V} (h : PE X e (tC v)) (hr : ∀ F H, Rep S.K S.D F H x v) : PE X e (tE S W (.c x)) := PE.imp h fun σ H Q ⟨F, U, H0, e, g, m, r⟩ =>
  r v F H (Stp.refl m.frz) m.drw (hr F H)

/-! ### one part -/
theorem one_i {rel rel1 : Rel Val V} {pa : PX} {k : Val → DrawSt → R Val} {σ : L2.St} {H : Hp} {Q : VK} {T : VK} (ok : RelOk S.D rel)
    (h : tG S W rel (fun e g => (ev S.C S.B pa e g).bind k) σ H Q)
    (n : ∀ x g1 v F1 U H1, FOk S.D F1 H1 → GRel S.D g1 H1 → (∃ H F, Stp S.D F F1 H H1 ∧ rel1 U H F1 H1 x v) → resF S W rel U F1 H1 σ (k x g1) (fun _ _ v _ H' => Q v H') → T v H1) : tG S W rel1 (evP S pa) σ H T :=
  tG_then (k := fun x _ g => k x g) ok h fun x g1 v F1 U H0 e H1 m rl r => n x g1 v F1 U H1 m.frz m.drw rl r
theorem asInt_ok {α β : Type} {x : Val} {g : DrawSt} {k : Int → DrawSt → R α} {rel : Rel α β} {U : OW} {F : AS} {H : Hp} {σ : L2.St} {Q : α → DrawSt → β → AS → Hp → Prop} (h : resF S W rel U F H σ ((asInt x g).bind k) Q) : ∃ i, x = .int i ∧ resF S W rel U F H σ (k i g) Q := by
  cases x <;> first | exact ⟨_, rfl, h⟩ | exact False.elim h
theorem asBl_ok {α β : Type} {x : Val} {g : DrawSt} {k : Bool → DrawSt → R α} {rel : Rel α β} {U : OW} {F : AS} {H : Hp} {σ : L2.St} {Q : α → DrawSt → β → AS → Hp → Prop} (h : resF S W rel U F H σ ((asBl x g).bind k) Q) : ∃ i, x = .bl i ∧ resF S W rel U F H σ (k i g) Q := by
  cases x <;> first | exact ⟨_, rfl, h⟩ | exact False.elim h
theorem truth_ok {α β : Type} {x : Val} {g : DrawSt} {k : Bool → DrawSt → R α} {rel : Rel α β} {U : OW} {F : AS} {H : Hp} {σ : L2.St} {Q : α → DrawSt → β → AS → Hp → Prop} (h : resF S W rel U F H σ ((R.of (truth x) g).bind k) Q) : ∃ i, x = .bl i ∧ resF S W rel U F H σ (k i g) Q := by
  cases x <;> first | exact ⟨_, rfl, h⟩ | exact False.elim h
theorem pe_negG {a : Expr} {pa : PX} (ha : PE X a (tP S W pa)) : PE X (.UnaryOp .USub a pos) (tN S W (.neg pa)) := PE.imp (pe_un un_neg ha) fun σ H Q h => by
  refine one_i (rel1 := rT S) (k := fun x g => (asInt x g).bind fun i g => .ok (.int (-i)) g) rN_ok h fun x g1 v F1 U H1 f gr rl r => ?_
  obtain ⟨_, _, _, rl⟩ := rl
  obtain ⟨i, rfl, r⟩ := asInt_ok r
  exact ⟨i, RepT_int.mp rl, r _ F1 H1 (Stp.refl f) gr (RepN_int.mpr rfl)⟩
theorem pe_ntG {a : Expr} {pa : PX} (ha : PE X a (tP S W pa)) : PE X (.UnaryOp .Not a pos) (tN S W (.nt pa)) := PE.imp (pe_not ha) fun σ H Q h => by
  refine one_i (rel1 := rT S) (k := fun x g => (asBl x g).bind fun i g => .ok (.bl (!i)) g) rN_ok h fun x g1 v F1 U H1 f gr rl r => ?_
  obtain ⟨_, _, _, rl⟩ := rl
  obtain ⟨i, rfl, r⟩ := asBl_ok r
  exact ⟨i, RepT_bl.mp rl, r _ F1 H1 (Stp.refl f) gr (RepN_bl.mpr rfl)⟩
theorem bindR_assoc {α β γ : Type} (r : R α) (f : α → DrawSt → R β) (k : β → DrawSt → R γ) : (r.bind f).bind k = r.bind fun x g => (f x g).bind k := by cases r <;> rfl
theorem pt_ntG {a : Expr} {pa : PX} (ha : PT X a (tT S W pa)) : PT X (.UnaryOp .Not a pos) (tT S W (.nt pa)) := PT.imp (pt_not ha) fun σ H Q ⟨F, U, H0, e, g, m, r⟩ => by
  refine ⟨F, U, H0, e, g, m, ?_⟩
  have r' : resF S W rId U F H σ ((ev S.C S.B pa e g).bind fun x g => ((asBl x g).bind fun i g => .ok (.bl (!i)) g).bind fun x g => R.of (truth x) g) (fun _ _ v _ H' => Q v H') := by
    rw [← bindR_assoc]; exact r
  show resF S W rId U F H σ ((ev S.C S.B pa e g).bind fun x g => R.of (truth x) g) _
  cases q : ev S.C S.B pa e g with
  | ok x g1 =>
    rw [q] at r'
    cases x <;> first | exact False.elim r' | skip
    rename_i b
    intro v F' H' st gr rl
    cases (show b = v from rl)
    exact r' _ F' H' st gr rfl
  | exc c fs g1 => rw [q] at r'; exact r'
  | bad => rw [q] at r'; exact r'
/-! ### and, or, if -/
theorem pe_anG {a b : Expr} {rest : List Expr} {pa pb : PX} (ha : PE X a (tE S W pa)) (hb : PE X (.BoolOp .And (b :: rest) pos) (tE S W pb)) : PE X (.BoolOp .And (a :: b :: rest) pos) (tE S W (.an pa pb)) := PE.imp (pe_and ha hb) fun σ H Q h => by
  refine tG_then (rel1 := rE S) (k := fun x e g => (asBl x g).bind fun k g => match k with | true => ev S.C S.B pb e g | false => .ok (.bl false) g) rE_ok h fun x g1 v F1 U H0 e H1 m rl r => ?_
  obtain ⟨_, _, _, rl⟩ := rl
  obtain ⟨i, rfl, r⟩ := asBl_ok r
  refine ⟨i, Rep_bl.mp rl, ?_⟩
  cases i with
  | true => rw [if_pos rfl]; exact ⟨F1, U, H0, e, g1, m, r⟩
  | false => rw [if_neg (by decide)]; exact r _ F1 H1 (Stp.refl m.frz) m.drw (Rep_bl.mpr rfl)
theorem pe_ooG {a b : Expr} {rest : List Expr} {pa pb : PX} (ha : PE X a (tE S W pa)) (hb : PE X (.BoolOp .Or (b :: rest) pos) (tE S W pb)) : PE X (.BoolOp .Or (a :: b :: rest) pos) (tE S W (.oo pa pb)) := PE.imp (pe_or ha hb) fun σ H Q h => by
  refine tG_then (rel1 := rE S) (k := fun x e g => (asBl x g).bind fun k g => match k with | true => .ok (.bl true) g | false => ev S.C S.B pb e g) rE_ok h fun x g1 v F1 U H0 e H1 m rl r => ?_
  obtain ⟨_, _, _, rl⟩ := rl
  obtain ⟨i, rfl, r⟩ := asBl_ok r
  refine ⟨i, Rep_bl.mp rl, ?_⟩
  cases i with
  | true => rw [if_pos rfl]; exact r _ F1 H1 (Stp.refl m.frz) m.drw (Rep_bl.mpr rfl)
  | false => rw [if_neg (by decide)]; exact ⟨F1, U, H0, e, g1, m, r⟩
theorem split_T {pa : PX} {k : Bool → Pm.Env → DrawSt → R Val} {σ : L2.St} {H : Hp} {Q : Bool → Hp → Prop} {T : Bool → Hp → Prop}
    (h : tG S W rId (fun e g => ((ev S.C S.B pa e g).bind fun x g => (asBl x g).bind fun b g => k b e g).bind fun x g => R.of (truth x) g) σ H Q)
    (n : ∀ b g1 F1 U H0 e H1, Sim S.K S.D S.mv F1 U H0 σ H1 e g1 → resF S W rId U F1 H1 σ ((k b e g1).bind fun x g => R.of (truth x) g) (fun _ _ v _ H' => Q v H') → T b H1) : tT S W pa σ H T := by
  refine tG_then (Q := Q) (rel1 := rId) (f := evT S pa) (k := fun b e g => (k b e g).bind fun x g => R.of (truth x) g) rId_ok ?_ fun b g1 v F1 U H0 e H1 m rl r => ?_
  · obtain ⟨F, U, H0, e, g, m, r⟩ := h
    refine ⟨F, U, H0, e, g, m, ?_⟩
    show resF S W rId U F H σ (((ev S.C S.B pa e g).bind fun x g => R.of (truth x) g).bind fun b g => (k b e g).bind fun x g => R.of (truth x) g) _
    dsimp only at r
    rw [bindR_assoc] at r ⊢
    cases q : ev S.C S.B pa e g with
    | ok x g1 =>
      rw [q] at r
      cases x <;> first | exact False.elim r | exact r
    | exc c fs g1 => rw [q] at r; exact r
    | bad => rw [q] at r; exact r
  · obtain ⟨_, _, _, rl⟩ := rl
    cases (show b = v from rl)
    exact n b g1 F1 U H0 e H1 m r
theorem pw_anG {a b : Expr} {rest : List Expr} {pa pb : PX} (ha : PT X a (tT S W pa)) (hb : PW X (.BoolOp .And (b :: rest) pos) (tT S W pb)) : PW X (.BoolOp .And (a :: b :: rest) pos) (tT S W (.an pa pb)) :=
  ⟨fun wh pins s σ H Q I h => (pw_and ha hb).run wh pins s σ H Q I (split_T (k := fun k e g => match k with | true => ev S.C S.B pb e g | false => .ok (.bl false) g) h fun i g1 F1 U H0 e H1 m r => by
    cases i with
    | true => rw [if_pos rfl]; exact ⟨F1, U, H0, e, g1, m, r⟩
    | false => rw [if_neg (by decide)]; exact r _ F1 H1 (Stp.refl m.frz) m.drw rfl)⟩
theorem pw_ooG {a b : Expr} {rest : List Expr} {pa pb : PX} (ha : PT X a (tT S W pa)) (hb : PW X (.BoolOp .Or (b :: rest) pos) (tT S W pb)) : PW X (.BoolOp .Or (a :: b :: rest) pos) (tT S W (.oo pa pb)) :=
  ⟨fun wh pins s σ H Q I h => (pw_or ha hb).run wh pins s σ H Q I (split_T (k := fun k e g => match k with | true => .ok (.bl true) g | false => ev S.C S.B pb e g) h fun i g1 F1 U H0 e H1 m r => by
    cases i with
    | true => rw [if_pos rfl]; exact r _ F1 H1 (Stp.refl m.frz) m.drw rfl
    | false => rw [if_neg (by decide)]; exact ⟨F1, U, H0, e, g1, m, r⟩)⟩
/-- a if c else b, by any relation -/
theorem pe_iteG {c a b : Expr} {pc pa pb : PX} {rel : Rel Val V} (ok : RelOk S.D rel) (hc : PT X c (tT S W pc)) (ha : PE X a (tG S W rel (evP S pa))) (hb : PE X b (tG S W rel (evP S pb))) : PE X (.IfExp c a b pos) (tG S W rel (evP S (.ite pc pa pb))) := PE.imp (pe_ifExp hc ha hb) fun σ H Q h => by
  refine tG_then (Q := Q) (rel1 := rId) (f := evT S pc) (k := fun k e g => match k with | true => ev S.C S.B pa e g | false => ev S.C S.B pb e g) ok ?_ fun i g1 v F1 U H0 e H1 m rl r => ?_
  · obtain ⟨F, U, H0, e, g, m, r⟩ := h
    refine ⟨F, U, H0, e, g, m, ?_⟩
    show resF S W rel U F H σ (((ev S.C S.B pc e g).bind fun x g => R.of (truth x) g).bind _) _
    rw [bindR_assoc]
    exact r
  · obtain ⟨_, _, _, rl⟩ := rl
    cases (show i = v from rl)
    cases i with
    | true => rw [if_pos rfl]; exact ⟨F1, U, H0, e, g1, m, r⟩
    | false => rw [if_neg (by decide)]; exact ⟨F1, U, H0, e, g1, m, r⟩
/-! ### a chain -/
theorem chn_i {o1 o2 : Cop} {pa pb pc : PX} {σ : L2.St} {H : Hp} {Q : VK} (h : tN S W (.chn o1 o2 pa pb pc) σ H Q) : tChain (copR S.K o1) (copR S.K o2) (tP S W pa) (tP S W pb) (tP S W pc) σ H Q := by
  refine tG_then (rel1 := rT S) (k := fun x e g => (ev S.C S.B pb e g).bind fun y g => (R.of (vCmp o1 x y) g).bind fun k g => match k with
    | true => (ev S.C S.B pc e g).bind fun z g => .of ((vCmp o2 y z).map .bl) g
    | false => .ok (.bl false) g) rN_ok h fun x g1 v F1 U H0 e H1 m rl r1 => ?_
  obtain ⟨_, _, _, rl⟩ := rl
  refine ⟨F1, U, H0, e, g1, m, resF_mono (resF_bind (rel1 := rT S) rN_ok r1) fun y g2 _ hk w F2 H2 st gr rl2 => ?_⟩
  have r2 := hk w F2 H2 st gr rl2
  cases q : vCmp o1 x y with
  | none => rw [q] at r2; exact False.elim r2
  | some b =>
    rw [q] at r2
    refine cop_s o1 F2 H2 g2 x y (.bl b) v w _ st.frz gr (RepT.stp st rl) rl2 (by rw [cmpV, q]; rfl) fun v' F3 H3 ps rn => ?_
    refine ⟨b, RepN_bl.mp rn, ?_⟩
    have st3 := ps.stp
    have gr3 := gr.ext ps.ext
    cases b with
    | false =>
      rw [if_neg (by decide)]
      exact r2 _ F3 H3 st3 gr3 (RepN_bl.mpr rfl)
    | true =>
      rw [if_pos rfl]
      have m3 := (m.stp st gr).stp st3 gr3
      have r3 : resF S W (rN S) U F3 H3 σ ((ev S.C S.B pc e g2).bind fun z g => .of ((vCmp o2 y z).map .bl) g) (fun _ _ v _ H' => Q v H') := by
        have r4 : resF S W (rN S) U F2 H2 σ ((ev S.C S.B pc e g2).bind fun z g => .of ((vCmp o2 y z).map .bl) g) (fun _ _ v _ H' => Q v H') := r2
        cases q2 : ((ev S.C S.B pc e g2).bind fun z g => R.of ((vCmp o2 y z).map Val.bl) g) with
        | ok z g3 => rw [q2] at r4; exact fun v F' H' st' gr' rl' => r4 v F' H' (st3.trans st') gr' (rN_ok U F2 F3 H2 H3 F' H' z v st3 rl')
        | exc c fs g3 => rw [q2] at r4; exact WxP.stp st3 r4
        | bad => rw [q2] at r4; exact r4
      refine ⟨F3, U, H0, e, g2, m3, resF_mono (resF_bind (rel1 := rT S) rN_ok r3) fun z g4 _ hk2 u F4 H4 st4 gr4 rl4 => ?_⟩
      obtain ⟨t, h5, h6⟩ := resF_of (hk2 u F4 H4 st4 gr4 rl4)
      exact cop_s o2 F4 H4 g4 y z t w u Q st4.frz gr4 (RepT.stp st4 (RepT.stp st3 rl2)) rl4 h5 fun v' F' H' ps rn => h6 v' F' H' ps.stp (gr4.ext ps.ext) rn
theorem pe_chnG {a b c : Expr} {pa pb pc : PX} {o1 o2 : Cop} (hK : X.K = S.K) (hu : X.A.units + 65 < cLine) (h2 : behindInMarks (copO o2) c = false) (ha : PE X a (tP S W pa)) (hb : PE X b (tP S W pb)) (hc : PE X c (tP S W pc)) :
    PE X (.Compare a [copO o1, copO o2] [b, c] pos) (tN S W (.chn o1 o2 pa pb pc)) := by
  have hk := pe_chain (pos := pos) (cop_op hu o1) (cop_op hu o2) ha hb hc h2
  rw [hK] at hk
  exact PE.imp hk fun σ H Q h => chn_i h
theorem pt_chnG {a b c : Expr} {pa pb pc : PX} {o1 o2 : Cop} (hK : X.K = S.K) (hu : X.A.units + 65 < cLine) (h2 : behindInMarks (copO o2) c = false) (ha : PE X a (tP S W pa)) (hb : PE X b (tP S W pb)) (hc : PE X c (tP S W pc)) :
    PT X (.Compare a [copO o1, copO o2] [b, c] pos) (tT S W (.chn o1 o2 pa pb pc)) := by
  have hk := pt_chain (pos := pos) (cop_op hu o1) (cop_op hu o2) ha hb hc h2
  rw [hK] at hk
  exact PT.imp hk fun σ H Q h => chn_i (test_of h)
end
end Pm
set_option Elab.async false
set_option linter.all false
set_option maxRecDepth 100000
set_option maxHeartbeats 4000000
namespace Pm
open PySem L2

section
variable {X : Cx} {S : Sx} {W : WX} {pos : Pos} {K : PySem.W.Frag} {D : DA} {F : AS} {H : Hp}
/-! ### subscripts -/
theorem atI_reps {xs : List Val} {vs : List V} {i : Int} {x : Val} (h : Reps K D F H xs vs) (e : atI xs i = some x) : ∃ v, atI vs i = some v ∧ Rep K D F H x v := by
  unfold atI at e ⊢
  rw [h.length]
  cases q : ixN xs.length i with
  | none => rw [q] at e; cases e
  | some j =>
    rw [q] at e
    obtain ⟨v, h1, h2⟩ := h.get (show xs[j]? = some x from e)
    exact ⟨v, h1, h2⟩
def rIxV (K : PySem.W.Frag) : R2 := fun x y H Q => (rIxL K x y H Q ∨ rIxT K x y H Q) ∨ rIxS x y H Q
theorem ixV_ix : IxR X (rIxV X.K) := IxR.or (IxR.or ix_list ix_tup) ix_str
/-- as OpS, the value read frozen -/
def OpE (K : PySem.W.Frag) (D : DA) (f : Val → Val → Option Val) (r : R2) : Prop := ∀ F H x y z v w (Q : VK), FOk D F H → RepT K D F H x v → RepT K D F H y w → f x y = some z →
  (∀ v', Rep K D F H z v' → Q v' H) → r v w H Q
theorem ixV_s : OpE K D vIx (rIxV K) := by
  intro F H x y z v w Q f hx hy h q
  cases x <;> cases y <;> try exact nomatch (show (none : Option Val) = some z from h)
  · rename_i s i
    rw [RepT_str] at hx; rw [RepT_int] at hy
    subst hx hy
    simp only [vIx] at h
    split at h
    · rename_i hl
      simp only [Option.map_eq_some_iff] at h
      obtain ⟨c, h1, rfl⟩ := h
      exact .inr ⟨s, i, c, rfl, rfl, lim_le hl, h1, q _ (by simp only [Rep])⟩
    · cases h
  · rename_i xs i
    obtain ⟨a, vs, rfl, h1, h2⟩ := RepT_tup.mp hx
    rw [RepT_int] at hy
    subst hy
    obtain ⟨v, h3, h4⟩ := atI_reps h2 (show atI xs i = some z from h)
    exact .inl (.inr ⟨a, vs, i, v, rfl, rfl, h1.sq, h3, q v h4⟩)
  · rename_i xs i
    obtain ⟨a, vs, rfl, _, h1, h2⟩ := RepT_lst.mp hx
    rw [RepT_int] at hy
    subst hy
    obtain ⟨v, h3, h4⟩ := atI_reps h2 (show atI xs i = some z from h)
    exact .inl (.inl ⟨a, vs, i, v, rfl, rfl, SqL.of h1, h3, q v h4⟩)
theorem bin_e {f : Val → Val → Option Val} {r : R2} {pa pb : PX} {σ : L2.St} {H : Hp} {Q : VK} (hs : OpE S.K S.D f r)
    (h : tG S W (rE S) (fun e g => (ev S.C S.B pa e g).bind fun x g => (ev S.C S.B pb e g).bind fun y g => R.of (f x y) g) σ H Q) : tOp r (tP S W pa) (tP S W pb) σ H Q := by
  refine tG_then (rel1 := rT S) (k := fun x e g => (ev S.C S.B pb e g).bind fun y g => R.of (f x y) g) rE_ok h fun x g1 v F1 U H0 e H1 m rl r1 => ?_
  obtain ⟨_, _, _, rl⟩ := rl
  refine ⟨F1, U, H0, e, g1, m, resF_mono (resF_bind (rel1 := rT S) rE_ok r1) fun y g2 _ hk w F2 H2 st gr rl2 => ?_⟩
  obtain ⟨z, h1, h2⟩ := resF_of (hk w F2 H2 st gr rl2)
  exact hs F2 H2 x y z v w Q st.frz (RepT.stp st rl) rl2 h1 fun v' rn => h2 v' F2 H2 (Stp.refl st.frz) gr rn
theorem pe_ixG {a b : Expr} {pa pb : PX} (hK : X.K = S.K) (hp : PlainIx b) (ha : PE X a (tP S W pa)) (hb : PE X b (tP S W pb)) : PE X (.Subscript a b pos) (tE S W (.ix pa pb)) :=
  PE.imp (pe_ix ixV_ix ha hb hp) fun σ H Q h => bin_e (S := S) (by rw [hK]; exact ixV_s) h
/-! ### slices -/
theorem cut_reps {xs : List Val} {vs : List V} (lo hi : Option Int) (h : Reps K D F H xs vs) : Reps K D F H (cutW xs lo hi) (cutV vs lo hi) := by
  unfold cutW cutV
  rw [h.length]
  exact (h.drop _).take _
abbrev tOG (S : Sx) (W : WX) (p : PX) : TO := tG S W rId (fun e g => evO S.C S.B p e g)
theorem po_noG : PO X none (tOG S W .no) := PO.imp po_none fun σ H Q ⟨F, U, H0, e, g, m, r⟩ => r none F H (Stp.refl m.frz) m.drw rfl
theorem po_partG {a : Expr} {pa : PX} (ha : PE X a (tP S W pa)) : PO X (some a) (tOG S W (.part pa)) := PO.imp (po_some ha) fun σ H Q h => by
  refine tG_then (rel1 := rT S) (k := fun x _ g => (asInt x g).bind fun i g => .ok (some i) g) rId_ok h fun x g1 v F1 U H0 e H1 m rl r => ?_
  obtain ⟨_, _, _, rl⟩ := rl
  cases x <;> first | exact False.elim r | skip
  rename_i i
  exact ⟨i, RepT_int.mp rl, r (some i) F1 H1 (Stp.refl m.frz) m.drw rfl⟩
def rSlV (K : PySem.W.Frag) : V → Option Int → Option Int → Hp → VK → Prop := fun x lo hi H Q => rSlL K x lo hi H Q ∨ rSlA K x lo hi H Q
theorem slV_s {g : DrawSt} {x z : Val} {v : V} {lo hi : Option Int} {Q : VK} (f : FOk D F H) (gr : GRel D g H) (hx : RepT K D F H x v) (h : vSlc x lo hi = some z)
    (q : ∀ v' F' H', PSt D F F' H H' → RepN K D H F' H' z v' → Q v' H') : rSlV K v lo hi H Q := by
  cases x <;> try exact nomatch (show (none : Option Val) = some z from h)
  · rename_i xs
    obtain ⟨a, vs, rfl, h1, h2⟩ := RepT_tup.mp hx
    cases (show some (Val.tup (cutW xs lo hi)) = some z from h)
    refine .inr ⟨a, vs, rfl, h1.sq, fun hw => ?_, fun _ p hp => ?_⟩
    · have e : cutW xs lo hi = xs := by
        unfold cutW
        rw [← h2.length, hw.1, hw.2, List.drop_zero, Nat.sub_zero, h2.length, List.take_length]
      rw [e] at q
      exact q _ F H (PSt.refl f) (RepN_tup.mpr ⟨a, vs, rfl, h1, h2⟩)
    · obtain ⟨F', s1, s2⟩ := new_tup f gr hp (cut_reps lo hi h2)
      exact q _ F' _ s1 s2
  · rename_i xs
    obtain ⟨a, vs, rfl, _, h1, h2⟩ := RepT_lst.mp hx
    cases (show some (Val.lst (cutW xs lo hi)) = some z from h)
    refine .inl ⟨a, vs, rfl, SqL.of h1, fun p hp => ?_⟩
    obtain ⟨s1, s2⟩ := new_lst f gr hp (cut_reps lo hi h2)
    exact q _ F _ s1 s2
theorem pe_slcG {a : Expr} {lo hi : Option Expr} {pa pl ph : PX} {p2 : Pos} (hK : X.K = S.K) (ha : PE X a (tP S W pa)) (hl : PO X lo (tOG S W pl)) (hh : PO X hi (tOG S W ph)) : PE X (.Subscript a (.Slice lo hi none p2) pos) (tN S W (.slc pa pl ph)) := by
  have hk := pe_slice (pos := pos) (p2 := p2) (SlR.or (X := X) sl_list sl_tupA) ha hl hh
  rw [hK] at hk
  refine PE.imp hk fun σ H Q h => ?_
  refine tG_then (rel1 := rT S) (k := fun x e g => (evO S.C S.B pl e g).bind fun l g => (evO S.C S.B ph e g).bind fun h g => .of (vSlc x l h) g) rN_ok h fun x g1 v F1 U H0 e H1 m rl r1 => ?_
  obtain ⟨_, _, _, rl⟩ := rl
  refine ⟨F1, U, H0, e, g1, m, resF_mono (resF_bind (rel1 := rId) rN_ok r1) fun l g2 _ hk w F2 H2 st gr rl2 => ?_⟩
  cases (show l = w from rl2)
  refine ⟨F2, U, H0, e, g2, m.stp st gr, resF_mono (resF_bind (rel1 := rId) rN_ok (hk l F2 H2 st gr rfl)) fun u g3 _ hk2 w F3 H3 st3 gr3 rl3 => ?_⟩
  cases (show u = w from rl3)
  obtain ⟨z, h1, h2⟩ := resF_of (hk2 u F3 H3 st3 gr3 rfl)
  exact slV_s st3.frz gr3 (RepT.stp st3 (RepT.stp st rl)) h1 fun v' F' H' ps rn => h2 v' F' H' ps.stp (gr3.ext ps.ext) rn
/-! ### argument lists -/
abbrev evsP (S : Sx) (p : PX) : Pm.Env → DrawSt → R (List Val) := fun e g => evs S.C S.B p e g
abbrev tA (S : Sx) (W : WX) (p : PX) : TA := tG S W (rEs S) (evsP S p)
abbrev tAT (S : Sx) (W : WX) (p : PX) : TA := tG S W (rTs S) (evsP S p)
abbrev tAB (S : Sx) (W : WX) (p : PX) : TA := tG S W (rBs S) (evsP S p)
def noStar : Expr → Bool
  | .Starred .. => false
  | _ => true
theorem starEach_no {e : Expr} {es : List Expr} {env : PySem.Env} (h : noStar e = true) : starEach (e :: es) env = (false, eval e env) :: starEach es env := by
  cases e <;> first | rfl | cases h
theorem cons_i {rel1 : Rel Val V} {rels : Rel (List Val) (List V)} {pa pr : PX} {σ : L2.St} {H : Hp} {Q : List V → Hp → Prop} (ok : RelOk S.D rels)
    (hc : ∀ U Hs F1 H1 F2 H2 x v xs vs, Stp S.D F1 F2 H1 H2 → rel1 U Hs F1 H1 x v → rels U H1 F2 H2 xs vs → (∀ i a, U i = some a → ¬ S.D.has a) → rels U H2 F2 H2 (x :: xs) (v :: vs))
    (h : tG S W rels (evsP S (.cons pa pr)) σ H Q) : tCons (tG S W rel1 (evP S pa)) (tG S W rels (evsP S pr)) σ H Q := by
  refine tG_then (rel1 := rel1) (k := fun x e g => (evs S.C S.B pr e g).bind fun xs g => .ok (x :: xs) g) ok h fun x g1 v F1 U H0 e H1 m rl r1 => ?_
  obtain ⟨Hs, Fs, _, rl⟩ := rl
  refine ⟨F1, U, H0, e, g1, m, resF_mono (resF_bind (rel1 := rels) ok r1) fun xs g2 _ hk vs F2 H2 st gr rl2 => ?_⟩
  have k2 := hk vs F2 H2 st gr rl2
  exact k2 (v :: vs) F2 H2 (Stp.refl st.frz) gr (hc U Hs F1 H1 F2 H2 x v xs vs st rl rl2 fun i a q => (m.own i a q).2.2.2)
theorem pa_nilG {rels : Rel (List Val) (List V)} (hn : ∀ U H F H', rels U H F H' [] []) : PA X [] (tG S W rels (evsP S .nil)) := PA.imp pa_nil fun σ H Q ⟨F, U, H0, e, g, m, r⟩ => r [] F H (Stp.refl m.frz) m.drw (hn U H F H)
theorem nilE : ∀ U H F H', rEs S U H F H' [] [] := fun _ _ _ _ => by simp only [rEs, Reps]
theorem nilT : ∀ U H F H', rTs S U H F H' [] [] := fun _ _ _ _ => rfl
theorem nilB : ∀ U H F H', rBs S U H F H' [] [] := fun _ _ _ _ => by simp only [rBs, Reps]
theorem pa_consE {e : Expr} {es : List Expr} {pa pr : PX} (hs : noStar e = true) (ha : PE X e (tE S W pa)) (hr : PA X es (tA S W pr)) : PA X (e :: es) (tA S W (.cons pa pr)) :=
  PA.imp (pa_cons ha hr (starEach_no hs)) fun σ H Q h => cons_i rEs_ok (fun U Hs F1 H1 F2 H2 x v xs vs st a b _ => by simp only [rEs, Reps]; exact ⟨v, vs, rfl, Rep.stp st a, b⟩) h
theorem pa_consT {e : Expr} {es : List Expr} {pa pr : PX} (hs : noStar e = true) (ha : PE X e (tP S W pa)) (hr : PA X es (tAT S W pr)) : PA X (e :: es) (tAT S W (.cons pa pr)) :=
  PA.imp (pa_cons ha hr (starEach_no hs)) fun σ H Q h => cons_i rTs_ok (fun U Hs F1 H1 F2 H2 x v xs vs st a b _ => ⟨v, vs, rfl, RepT.stp st a, b⟩) h
theorem pa_consB {e : Expr} {es : List Expr} {pa pr : PX} (hs : noStar e = true) (ha : PE X e (tB' S W pa)) (hr : PA X es (tAB S W pr)) : PA X (e :: es) (tAB S W (.cons pa pr)) :=
  PA.imp (pa_cons ha hr (starEach_no hs)) fun σ H Q h => cons_i rBs_ok (fun U Hs F1 H1 F2 H2 x v xs vs st a b hn => by
    simp only [rBs, Reps]
    refine ⟨v, vs, rfl, Rep.mono (fun c z => ?_) (fun c o z e => ?_) x v a, b⟩
    · rcases z with z | z
      · exact .inl (st.sub c z)
      · exact .inr z
    · rcases z with z | ⟨i, z⟩
      · exact st.keep c o e (st.frz c (st.sub c z)).2
      · exact st.keep c o e (hn i c z)) h
theorem items_rep {x : Val} {v : V} {xs : List Val} (h : RepT K D F H x v) (e : items x = some xs) : ∃ p vs, v = .ref p ∧ (SqT K H p vs ∨ SqL K H p vs) ∧ Reps K D F H xs vs := by
  cases x <;> try exact nomatch (show (none : Option (List Val)) = some xs from e)
  · cases e
    obtain ⟨a, vs, rfl, h1, h2⟩ := RepT_tup.mp h
    exact ⟨a, vs, rfl, .inl h1.sq, h2⟩
  · cases e
    obtain ⟨a, vs, rfl, _, h1, h2⟩ := RepT_lst.mp h
    exact ⟨a, vs, rfl, .inr (SqL.of h1), h2⟩
theorem pa_starE {e : Expr} {es : List Expr} {pa pr : PX} {p : Pos} (hK : X.K = S.K) (ha : PE X e (tP S W pa)) (hr : PA X es (tA S W pr)) : PA X (.Starred e p :: es) (tA S W (.scons pa pr)) := by
  have hk := StX.pa_star (p := p) ha hr
  rw [hK] at hk
  refine PA.imp hk fun σ H Q h => ?_
  refine tG_then (rel1 := rT S) (k := fun x e g => (R.of (items x) g).bind fun xs g => (evs S.C S.B pr e g).bind fun ys g => .ok (xs ++ ys) g) rEs_ok h fun x g1 v F1 U H0 e H1 m rl r1 => ?_
  obtain ⟨_, _, _, rl⟩ := rl
  cases q : items x with
  | none => rw [q] at r1; exact False.elim r1
  | some xs =>
    rw [q] at r1
    obtain ⟨p, vs, rfl, h1, h2⟩ := items_rep rl q
    refine ⟨p, vs, rfl, h1, ?_⟩
    have r2 : resF S W (rEs S) U F1 H1 σ ((evs S.C S.B pr e g1).bind fun ys g => .ok (xs ++ ys) g) (fun _ _ v _ H' => Q v H') := r1
    refine ⟨F1, U, H0, e, g1, m, resF_mono (resF_bind (rel1 := rEs S) rEs_ok r2) fun ys g2 _ hk ws F2 H2 st gr rl2 => ?_⟩
    exact hk ws F2 H2 st gr rl2 (vs ++ ws) F2 H2 (Stp.refl st.frz) gr ((Reps.stp st h2).append rl2)
/-! ### displays -/
theorem pe_tupG {es : List Expr} {pa : PX} {k : Nat} (ha : PA X es (tA S W pa)) : PE X (.Tuple es k pos) (tN S W (.tup pa)) := PE.imp (pe_tup ha) fun σ H Q h => by
  refine tG_then (rel1 := rEs S) (f := evsP S pa) (k := fun xs _ g => if xs.length ≤ lim then .ok (.tup xs) g else .bad) rN_ok h fun xs g1 vs F1 U H0 e H1 m rl r => ?_
  obtain ⟨_, _, _, rl⟩ := rl
  by_cases hl : xs.length ≤ lim
  · rw [if_pos hl] at r
    have rl : Reps S.K S.D F1 H1 xs vs := rl
    refine ⟨by rw [rl.length]; exact lim_le hl, fun p hp => ?_⟩
    obtain ⟨F', s1, s2⟩ := new_tup m.frz m.drw hp rl
    exact r _ F' _ s1.stp (m.drw.ext s1.ext) s2
  · rw [if_neg hl] at r
    exact False.elim r
theorem pe_lstG {es : List Expr} {pa : PX} (ha : PA X es (tA S W pa)) : PE X (.List es pos) (tN S W (.lst pa)) := PE.imp (pe_lst ha) fun σ H Q h => by
  refine tG_then (rel1 := rEs S) (f := evsP S pa) (k := fun xs _ g => if xs.length ≤ lim then .ok (.lst xs) g else .bad) rN_ok h fun xs g1 vs F1 U H0 e H1 m rl r => ?_
  obtain ⟨_, _, _, rl⟩ := rl
  by_cases hl : xs.length ≤ lim
  · rw [if_pos hl] at r
    have rl : Reps S.K S.D F1 H1 xs vs := rl
    refine ⟨by rw [rl.length]; exact lim_le hl, fun p hp => ?_⟩
    obtain ⟨s1, s2⟩ := new_lst m.frz m.drw hp rl
    exact r _ F1 _ s1.stp (m.drw.ext s1.ext) s2
  · rw [if_neg hl] at r
    exact False.elim r
/-! ### built-in functions -/
def PrimS (K : PySem.W.Frag) (D : DA) (p : Prim) (r : List V → Hp → VK → Prop) : Prop := ∀ F H g xs z vs (Q : VK), FOk D F H → GRel D g H → RepTs K D F H xs vs → vPrim p xs = some z →
  (∀ v' F' H', PSt D F F' H H' → RepN K D H F' H' z v' → Q v' H') → r vs H Q
theorem prim_i {p : Prim} {r : List V → Hp → VK → Prop} {pa : PX} {σ : L2.St} {H : Hp} {Q : VK} (hs : PrimS S.K S.D p r) (h : tN S W (.pr p pa) σ H Q) : tCB r (tAT S W pa) σ H Q := by
  refine tG_then (rel1 := rTs S) (f := evsP S pa) (k := fun xs _ g => .of (vPrim p xs) g) rN_ok h fun xs g1 vs F1 U H0 e H1 m rl r1 => ?_
  obtain ⟨_, _, _, rl⟩ := rl
  obtain ⟨z, h1, h2⟩ := resF_of r1
  exact hs F1 H1 g1 xs z vs Q m.frz m.drw rl h1 fun v' F' H' ps rn => h2 v' F' H' ps.stp (m.drw.ext ps.ext) rn
theorem one_T {xs : List Val} {x : Val} {vs : List V} (e : xs = [x]) (h : RepTs K D F H xs vs) : ∃ v, vs = [v] ∧ RepT K D F H x v := by
  subst e
  obtain ⟨v, r, rfl, h1, h2⟩ := h
  cases (show r = [] from h2)
  exact ⟨v, rfl, h1⟩
theorem two_T {x y : Val} {vs : List V} (h : RepTs K D F H [x, y] vs) : ∃ v w, vs = [v, w] ∧ RepT K D F H x v ∧ RepT K D F H y w := by
  obtain ⟨v, r, rfl, h1, w, r2, rfl, h2, h3⟩ := h
  cases (show r2 = [] from h3)
  exact ⟨v, w, rfl, h1, h2⟩
theorem len_s : PrimS K D .len (fun xs H Q => ∃ x n, xs = [x] ∧ LenV K x H n ∧ Q (.int n) H) := by
  intro F H g xs z vs Q f gr hx h q
  cases xs with
  | nil => exact nomatch (show (none : Option Val) = some z from h)
  | cons x r =>
    cases r with
    | cons y r => cases x <;> exact nomatch (show (none : Option Val) = some z from h)
    | nil =>
      obtain ⟨v, rfl, hv⟩ := one_T rfl hx
      refine ⟨v, ?_⟩
      replace h : vLen x = some z := h
      cases x <;> try exact nomatch (show (none : Option Val) = some z from h)
      · rename_i s
        rw [RepT_str] at hv
        subst hv
        simp only [vLen] at h
        split at h
        · rename_i hl
          cases h
          exact ⟨s.length, rfl, ⟨lim_le hl, rfl⟩, q _ F H (PSt.refl f) (RepN_int.mpr rfl)⟩
        · cases h
      · rename_i xs
        cases h
        obtain ⟨a, vs, rfl, h1, h2⟩ := RepT_tup.mp hv
        exact ⟨xs.length, rfl, .inr ⟨vs, h1.sq, h2.length.symm⟩, q _ F H (PSt.refl f) (RepN_int.mpr rfl)⟩
      · rename_i xs
        cases h
        obtain ⟨a, vs, rfl, _, h1, h2⟩ := RepT_lst.mp hv
        exact ⟨xs.length, rfl, .inl ⟨vs, SqL.of h1, h2.length.symm⟩, q _ F H (PSt.refl f) (RepN_int.mpr rfl)⟩
      · rename_i n
        cases h
        simp only [RepT, Rep] at hv
        obtain ⟨a, vs, rfl, h1, h2⟩ := hv
        exact ⟨n, rfl, .inl ⟨vs, h1.sq, h2.symm⟩, q _ F H (PSt.refl f) (RepN_int.mpr rfl)⟩
end
end Pm
set_option Elab.async false
set_option linter.all false
set_option maxRecDepth 100000
set_option maxHeartbeats 4000000
namespace Pm
open PySem L2

/-! ### sorted lists of ints -/
theorem insI_perm (x : Int) : ∀ l : List Int, (insI x l).Perm (x :: l)
  | [] => .refl _
  | y :: r => by
    unfold insI
    split
    · exact .refl _
    · exact ((insI_perm x r).cons y).trans (.swap x y r)
theorem sortI_perm : ∀ l : List Int, (sortI l).Perm l
  | [] => .refl _
  | x :: r => (insI_perm x _).trans ((sortI_perm r).cons x)
theorem insI_sorted (x : Int) : ∀ {l : List Int}, l.Pairwise (· ≤ ·) → (insI x l).Pairwise (· ≤ ·)
  | [], _ => by simp [insI]
  | y :: r, h => by
    unfold insI
    have h1 := List.pairwise_cons.mp h
    split
    · rename_i hx
      refine List.pairwise_cons.mpr ⟨fun z hz => ?_, h⟩
      rcases List.mem_cons.mp hz with rfl | hz
      · exact hx
      · exact Int.le_trans hx (h1.1 z hz)
    · rename_i hx
      refine List.pairwise_cons.mpr ⟨fun z hz => ?_, insI_sorted x h1.2⟩
      rcases List.mem_cons.mp ((insI_perm x r).mem_iff.mp hz) with rfl | hz
      · omega
      · exact h1.1 z hz
theorem sortI_sorted : ∀ l : List Int, (sortI l).Pairwise (· ≤ ·)
  | [] => .nil
  | x :: r => insI_sorted x (sortI_sorted r)
theorem sortI_of {l m : List Int} (hp : m.Perm l) (hs : m.Pairwise (· ≤ ·)) : m = sortI l :=
  List.Perm.eq_of_pairwise (le := (· ≤ ·)) (fun _ _ _ _ h1 h2 => Int.le_antisymm h1 h2) hs (sortI_sorted l) (hp.trans (sortI_perm l).symm)
theorem dedI_mem : ∀ {l : List Int} {k : Int}, k ∈ dedI l ↔ k ∈ l
  | [], k => by simp [dedI]
  | x :: r, k => by
    unfold dedI
    split
    · rename_i hx
      rw [dedI_mem, List.mem_cons]
      exact ⟨.inr, fun h => h.elim (fun e => e ▸ hx) id⟩
    · rw [List.mem_cons, List.mem_cons, dedI_mem]
theorem dedI_nodup : ∀ l : List Int, (dedI l).Nodup
  | [] => by simp [dedI]
  | x :: r => by
    unfold dedI
    split
    · exact dedI_nodup r
    · rename_i hx
      exact List.nodup_cons.mpr ⟨fun h => hx (dedI_mem.mp h), dedI_nodup r⟩
theorem lt_nodup {l : List Int} (h : l.Pairwise (· < ·)) : l.Nodup := h.imp fun a => Int.ne_of_lt a
theorem sortI_ded {l m : List Int} (hs : m.Pairwise (· < ·)) (hm : ∀ k, k ∈ m ↔ k ∈ l) : m = sortI (dedI l) :=
  sortI_of ((List.perm_ext_iff_of_nodup (lt_nodup hs) (dedI_nodup l)).mpr fun k => by rw [hm, dedI_mem]) (hs.imp fun a => Int.le_of_lt a)
theorem maxI_spec : ∀ (r : List Int) (n : Int), maxI n r ∈ n :: r ∧ ∀ y ∈ n :: r, y ≤ maxI n r
  | [], n => by simp [maxI]
  | x :: r, n => by
    unfold maxI
    obtain ⟨h1, h2⟩ := maxI_spec r (if x > n then x else n)
    have hb := h2 _ List.mem_cons_self
    have hM : n ≤ (if x > n then x else n) ∧ x ≤ (if x > n then x else n) := by split <;> omega
    constructor
    · rcases List.mem_cons.mp h1 with e | e
      · rw [e]; split <;> simp
      · exact List.mem_cons_of_mem _ (List.mem_cons_of_mem _ e)
    · intro y hy
      rcases List.mem_cons.mp hy with rfl | hy
      · omega
      · rcases List.mem_cons.mp hy with rfl | hy
        · omega
        · exact h2 y (List.mem_cons_of_mem _ hy)
theorem minI_spec : ∀ (r : List Int) (n : Int), minI n r ∈ n :: r ∧ ∀ y ∈ n :: r, minI n r ≤ y
  | [], n => by simp [minI]
  | x :: r, n => by
    unfold minI
    obtain ⟨h1, h2⟩ := minI_spec r (if x < n then x else n)
    have hb := h2 _ List.mem_cons_self
    have hM : (if x < n then x else n) ≤ n ∧ (if x < n then x else n) ≤ x := by split <;> omega
    constructor
    · rcases List.mem_cons.mp h1 with e | e
      · rw [e]; split <;> simp
      · exact List.mem_cons_of_mem _ (List.mem_cons_of_mem _ e)
    · intro y hy
      rcases List.mem_cons.mp hy with rfl | hy
      · omega
      · rcases List.mem_cons.mp hy with rfl | hy
        · omega
        · exact h2 y (List.mem_cons_of_mem _ hy)

/-! ### set of a tuple of ints -/
section
variable {X : Cx}
def rSetTup (K : PySem.W.Frag) (w : World) : List V → Hp → VK → Prop := fun xs H Q => ∃ (a : Addr) (ns : List Int), xs = [V.ref a] ∧ SqT K H a (ns.map V.int) ∧ ns.length ≤ 1000 ∧
  ∀ p, H p = none → Q (.ref p) (upd H p (SetO w p (fun j => decide (j ∈ ns)) (dedI ns).length))
theorem SetR_count {w : World} {h : Heap} {a : Addr} {ns : List Int} {c : Nat} (r : SetR w h a (fun j => decide (j ∈ ns)) c) : c = (dedI ns).length := by
  obtain ⟨o, es, ep, t, _, _, _, _, nd, mem, _, _, hc, _⟩ := r
  rw [← hc, ← Array.length_toList]
  have p : (es.toList.map keyOf).Perm (dedI ns) := (List.perm_ext_iff_of_nodup nd (dedI_nodup ns)).mpr fun k => by
    rw [dedI_mem, ← mem k, decide_eq_true_eq]
  rw [← p.length_eq, List.length_map]
theorem cr_setTup (hc : X.calm = true) : CallR X (.type "set") (rSetTup X.K X.w) := by
  intro pins s σ H vs us Q I r h
  obtain ⟨a, ns, rfl, hs, hl, q⟩ := h
  obtain ⟨its, rv, ht, hz⟩ := I.tuple hs
  rw [Vals.ref1 r]
  have sb : ns.length + 1 < scanBound := Nat.lt_of_le_of_lt (Nat.succ_le_succ hl) (by decide)
  refine call_set_tupI ns (I.ok.hd hc) ht (by simpa using rv.ints) sb fun h' tk c R _ k => ?_
  have e := SetR_count R
  subst e
  exact ⟨.ref _, _, I.laid (t' := tk) k (Nat.le_refl _) (setO_new R), rfl, q _ (I.hok.fresh (Nat.le_refl _))⟩
/-! ### repr -/
def rRepr (K : PySem.W.Frag) : List V → Hp → VK → Prop := fun xs H Q => ∃ (x : V) (d : PyData), xs = [x] ∧ Dp K H x d ∧ reprOk d = true ∧ Q (.str d.shown) H
theorem cr_repr (hg : X.A.guards = some []) (hu : X.A.units + 66 < cLine) : CallR X (.builtin "repr") (rRepr X.K) := by
  intro pins s σ H vs us Q I r h
  obtain ⟨x, d, rfl, hd, ok, q⟩ := h
  simp only [reprOk, Bool.and_eq_true, decide_eq_true_eq] at ok
  obtain ⟨⟨⟨o1, o2⟩, o3⟩, o4⟩ := ok
  obtain ⟨u, rfl, ru⟩ := vals1 r
  obtain ⟨as, rd⟩ := Dp.reads I d x u hd ru
  cases x with
  | ref a =>
    cases ru
    exact repr_of_reads' rd o1 (PyData.noDict_hsm (PyData.hasDict_of_canLay d o4)) hg (by omega) (fun _ _ e => e) (fun h' t tk k => ⟨.str d.shown, H, I.kept k, ⟨_, rfl⟩, q⟩) o2
  | non => cases hd; cases ru; exact PySem.P.repr_of_none ⟨.str _, H, I.tok _, ⟨_, rfl⟩, q⟩
  | bl b => cases hd; cases ru; exact PySem.P.repr_of_bool ⟨.str _, H, I.tok _, ⟨_, rfl⟩, q⟩
  | int i => cases hd; obtain ⟨t, rfl⟩ := ru; exact PySem.P.repr_of_int (of_decide_eq_true o1) ⟨.str _, H, I.tok _, ⟨_, rfl⟩, q⟩
  | str z => cases hd; obtain ⟨t, rfl⟩ := ru; exact PySem.P.repr_of_str ⟨.str _, H, I.tok _, ⟨_, rfl⟩, q⟩ o2
  | byt b => cases hd
  | flt b => cases hd
  | ty b => cases hd
end

/-! ### the built-in functions of the text -/
section
variable {X : Cx} {K : PySem.W.Frag} {D : DA}
abbrev RA := List V → Hp → VK → Prop
theorem prim1 {p : Prim} {r : RA} (h1 : ∀ F H g x z v (Q : VK), FOk D F H → GRel D g H → RepT K D F H x v → vPrim p [x] = some z → (∀ v' F' H', PSt D F F' H H' → RepN K D H F' H' z v' → Q v' H') → r [v] H Q)
    (hn : ∀ xs z, vPrim p xs = some z → ∃ x, xs = [x]) : PrimS K D p r := by
  intro F H g xs z vs Q f gr hx h q
  obtain ⟨x, rfl⟩ := hn xs z h
  obtain ⟨v, rfl, hv⟩ := one_T rfl hx
  exact h1 F H g x z v Q f gr hv h q
theorem int_s : PrimS K D .int (fun xs H Q => (∃ i, xs = [.int i] ∧ Q (.int i) H) ∨ ∃ k, xs = [.bl k] ∧ Q (.int (if k then 1 else 0)) H) := by
  refine prim1 (fun F H g x z v Q f gr hv h q => ?_) fun xs z h => ?_
  · cases x <;> try exact nomatch (show (none : Option Val) = some z from h)
    rename_i i
    cases (show some (Val.int i) = some z from h)
    rw [RepT_int] at hv
    subst hv
    exact .inl ⟨i, rfl, q _ F H (PSt.refl f) (RepN_int.mpr rfl)⟩
  · rcases xs with _ | ⟨x, _ | ⟨y, r⟩⟩
    · exact nomatch (show (none : Option Val) = some z from h)
    · exact ⟨x, rfl⟩
    · cases x <;> exact nomatch (show (none : Option Val) = some z from h)
theorem tuple_s : PrimS K D .tuple (fun xs H Q => ∃ p ys, xs = [.ref p] ∧ ((SqL K H p ys ∧ ∀ l, H l = none → Q (.ref l) (upd H l (.tup ys))) ∨ (SqT K H p ys ∧ Q (.ref p) H))) := by
  refine prim1 (fun F H g x z v Q f gr hv h q => ?_) fun xs z h => ?_
  · cases x <;> try exact nomatch (show (none : Option Val) = some z from h)
    · rename_i xs
      cases (show some (Val.tup xs) = some z from h)
      obtain ⟨a, vs, rfl, h1, h2⟩ := RepT_tup.mp hv
      exact ⟨a, vs, rfl, .inr ⟨h1.sq, q _ F H (PSt.refl f) (RepN_tup.mpr ⟨a, vs, rfl, h1, h2⟩)⟩⟩
    · rename_i xs
      cases (show some (Val.tup xs) = some z from h)
      obtain ⟨a, vs, rfl, _, h1, h2⟩ := RepT_lst.mp hv
      refine ⟨a, vs, rfl, .inl ⟨SqL.of h1, fun p hp => ?_⟩⟩
      obtain ⟨F', s1, s2⟩ := new_tup f gr hp h2
      exact q _ F' _ s1 s2
  · rcases xs with _ | ⟨x, _ | ⟨y, r⟩⟩
    · exact nomatch (show (none : Option Val) = some z from h)
    · exact ⟨x, rfl⟩
    · cases x <;> exact nomatch (show (none : Option Val) = some z from h)
theorem list_s : PrimS K D .list (fun xs H Q => ∃ p ys, xs = [.ref p] ∧ (SqL K H p ys ∨ SqT K H p ys) ∧ ∀ l, H l = none → Q (.ref l) (upd H l (.lst ys))) := by
  refine prim1 (fun F H g x z v Q f gr hv h q => ?_) fun xs z h => ?_
  · cases x <;> try exact nomatch (show (none : Option Val) = some z from h)
    · rename_i xs
      cases (show some (Val.lst xs) = some z from h)
      obtain ⟨a, vs, rfl, h1, h2⟩ := RepT_tup.mp hv
      refine ⟨a, vs, rfl, .inr h1.sq, fun p hp => ?_⟩
      obtain ⟨s1, s2⟩ := new_lst f gr hp h2
      exact q _ F _ s1 s2
    · rename_i xs
      cases (show some (Val.lst xs) = some z from h)
      obtain ⟨a, vs, rfl, _, h1, h2⟩ := RepT_lst.mp hv
      refine ⟨a, vs, rfl, .inl (SqL.of h1), fun p hp => ?_⟩
      obtain ⟨s1, s2⟩ := new_lst f gr hp h2
      exact q _ F _ s1 s2
  · rcases xs with _ | ⟨x, _ | ⟨y, r⟩⟩
    · exact nomatch (show (none : Option Val) = some z from h)
    · exact ⟨x, rfl⟩
    · cases x <;> exact nomatch (show (none : Option Val) = some z from h)
theorem sorted_s : PrimS K D .sorted (rSortedI K) := by
  refine prim1 (fun F H g x z v Q f gr hv h q => ?_) fun xs z h => ?_
  · cases x <;> try exact nomatch (show (none : Option Val) = some z from h)
    rename_i xs
    simp only [vPrim, Option.map_eq_some_iff] at h
    obtain ⟨ns, h1, rfl⟩ := h
    cases intsOf_eq h1
    obtain ⟨a, vs, rfl, _, h2, h3⟩ := RepT_lst.mp hv
    cases Reps.ints.mp h3
    refine ⟨a, ns, rfl, SqL.of h2, fun ns' p hp hs hn => ?_⟩
    rw [sortI_of hp hs]
    obtain ⟨s1, s2⟩ := new_lst (xs := (sortI ns).map .int) f gr hn (Reps.ints.mpr rfl)
    exact q _ F _ s1 s2
  · rcases xs with _ | ⟨x, _ | ⟨y, r⟩⟩
    · exact nomatch (show (none : Option Val) = some z from h)
    · exact ⟨x, rfl⟩
    · cases x <;> exact nomatch (show (none : Option Val) = some z from h)
theorem repr_s : PrimS K D .repr (rRepr K) := by
  refine prim1 (fun F H g x z v Q f gr hv h q => ?_) fun xs z h => ?_
  · have h : ((toD x).bind fun d => if reprOk d then some (Val.str d.shown) else none) = some z := h
    cases e : toD x with
    | none => rw [e] at h; cases h
    | some d =>
      rw [e] at h
      replace h : (if reprOk d then some (Val.str d.shown) else none) = some z := h
      split at h
      · rename_i ok
        cases h
        exact ⟨v, d, rfl, hv.dp e, ok, q _ F H (PSt.refl f) (RepN_str.mpr rfl)⟩
      · cases h
  · rcases xs with _ | ⟨x, _ | ⟨y, r⟩⟩
    · exact nomatch (show (none : Option Val) = some z from h)
    · exact ⟨x, rfl⟩
    · exact nomatch (show (none : Option Val) = some z from h)
theorem all_s : PrimS K D .all (rAll K) := by
  refine prim1 (fun F H g x z v Q f gr hv h q => ?_) fun xs z h => ?_
  · cases x <;> try exact nomatch (show (none : Option Val) = some z from h)
    rename_i xs
    simp only [vPrim, Option.map_eq_some_iff] at h
    obtain ⟨ns, h1, rfl⟩ := h
    cases boolsOf_eq h1
    obtain ⟨a, vs, rfl, _, h2, h3⟩ := RepT_lst.mp hv
    cases Reps.bools h3
    exact ⟨a, ns, rfl, SqL.of h2, q _ F H (PSt.refl f) (RepN_bl.mpr rfl)⟩
  · rcases xs with _ | ⟨x, _ | ⟨y, r⟩⟩
    · exact nomatch (show (none : Option Val) = some z from h)
    · exact ⟨x, rfl⟩
    · cases x <;> exact nomatch (show (none : Option Val) = some z from h)
theorem any_s : PrimS K D .any (rAny K) := by
  refine prim1 (fun F H g x z v Q f gr hv h q => ?_) fun xs z h => ?_
  · cases x <;> try exact nomatch (show (none : Option Val) = some z from h)
    rename_i xs
    simp only [vPrim, Option.map_eq_some_iff] at h
    obtain ⟨ns, h1, rfl⟩ := h
    cases boolsOf_eq h1
    obtain ⟨a, vs, rfl, _, h2, h3⟩ := RepT_lst.mp hv
    cases Reps.bools h3
    exact ⟨a, ns, rfl, SqL.of h2, q _ F H (PSt.refl f) (RepN_bl.mpr rfl)⟩
  · rcases xs with _ | ⟨x, _ | ⟨y, r⟩⟩
    · exact nomatch (show (none : Option Val) = some z from h)
    · exact ⟨x, rfl⟩
    · cases x <;> exact nomatch (show (none : Option Val) = some z from h)
theorem min_shape {xs : List Val} {z : Val} (h : vPrim .min xs = some z) : (∃ i j : Int, xs = [.int i, .int j]) ∨ ∃ ys, xs = [.lst ys] := by
  rcases xs with _ | ⟨x, _ | ⟨y, _ | ⟨w, r⟩⟩⟩
  · exact nomatch (show (none : Option Val) = some z from h)
  · cases x <;> first | exact .inr ⟨_, rfl⟩ | exact nomatch (show (none : Option Val) = some z from h)
  · cases x <;> cases y <;> first | exact .inl ⟨_, _, rfl⟩ | exact nomatch (show (none : Option Val) = some z from h)
  · cases x <;> cases y <;> exact nomatch (show (none : Option Val) = some z from h)
theorem max_shape {xs : List Val} {z : Val} (h : vPrim .max xs = some z) : (∃ i j : Int, xs = [.int i, .int j]) ∨ ∃ ys, xs = [.lst ys] := by
  rcases xs with _ | ⟨x, _ | ⟨y, _ | ⟨w, r⟩⟩⟩
  · exact nomatch (show (none : Option Val) = some z from h)
  · cases x <;> first | exact .inr ⟨_, rfl⟩ | exact nomatch (show (none : Option Val) = some z from h)
  · cases x <;> cases y <;> first | exact .inl ⟨_, _, rfl⟩ | exact nomatch (show (none : Option Val) = some z from h)
  · cases x <;> cases y <;> exact nomatch (show (none : Option Val) = some z from h)
theorem min_s : PrimS K D .min (fun xs H Q => (∃ i j, xs = [.int i, .int j] ∧ Q (.int (if j < i then j else i)) H) ∨ rMin K xs H Q) := by
  intro F H g xs z vs Q f gr hx h q
  rcases min_shape h with ⟨i, j, rfl⟩ | ⟨ys, rfl⟩
  · obtain ⟨v, w, rfl, h1, h2⟩ := two_T hx
    cases RepT_int.mp h1
    cases RepT_int.mp h2
    cases (show some (Val.int (if j < i then j else i)) = some z from h)
    exact .inl ⟨i, j, rfl, q _ F H (PSt.refl f) (RepN_int.mpr rfl)⟩
  · obtain ⟨v, rfl, hv⟩ := one_T rfl hx
    obtain ⟨a, vs, rfl, _, h2, h3⟩ := RepT_lst.mp hv
    replace h : ((intsOf ys).bind fun ns => match ns with | [] => none | n :: r => some (Val.int (minI n r))) = some z := h
    cases e : intsOf ys with
    | none => rw [e] at h; cases h
    | some ns =>
      rw [e] at h
      cases intsOf_eq e
      cases Reps.ints.mp h3
      cases ns with
      | nil => cases h
      | cons n r =>
        cases (show some (Val.int (minI n r)) = some z from h)
        obtain ⟨k1, k2⟩ := minI_spec r n
        refine .inr ⟨a, n :: r, rfl, SqL.of h2, Nat.succ_pos _, fun m hm hy => ?_⟩
        rw [Int.le_antisymm (hy _ k1) (k2 m hm)]
        exact q _ F H (PSt.refl f) (RepN_int.mpr rfl)
theorem max_s : PrimS K D .max (fun xs H Q => (∃ i j, xs = [.int i, .int j] ∧ Q (.int (if j > i then j else i)) H) ∨ rMax K xs H Q) := by
  intro F H g xs z vs Q f gr hx h q
  rcases max_shape h with ⟨i, j, rfl⟩ | ⟨ys, rfl⟩
  · obtain ⟨v, w, rfl, h1, h2⟩ := two_T hx
    cases RepT_int.mp h1
    cases RepT_int.mp h2
    cases (show some (Val.int (if j > i then j else i)) = some z from h)
    exact .inl ⟨i, j, rfl, q _ F H (PSt.refl f) (RepN_int.mpr rfl)⟩
  · obtain ⟨v, rfl, hv⟩ := one_T rfl hx
    obtain ⟨a, vs, rfl, _, h2, h3⟩ := RepT_lst.mp hv
    replace h : ((intsOf ys).bind fun ns => match ns with | [] => none | n :: r => some (Val.int (maxI n r))) = some z := h
    cases e : intsOf ys with
    | none => rw [e] at h; cases h
    | some ns =>
      rw [e] at h
      cases intsOf_eq e
      cases Reps.ints.mp h3
      cases ns with
      | nil => cases h
      | cons n r =>
        cases (show some (Val.int (maxI n r)) = some z from h)
        obtain ⟨k1, k2⟩ := maxI_spec r n
        refine .inr ⟨a, n :: r, rfl, SqL.of h2, Nat.succ_pos _, fun m hm hy => ?_⟩
        rw [Int.le_antisymm (k2 m hm) (hy _ k1)]
        exact q _ F H (PSt.refl f) (RepN_int.mpr rfl)
end
end Pm
set_option Elab.async false
set_option linter.all false
set_option maxRecDepth 100000
set_option maxHeartbeats 4000000
namespace Pm
open PySem L2 PySem.Spec
open PyProof.Rows (envOfC)

/-- a def keeps a promise, wherever no guard of repr runs -/
structure FnG (P : Program) (w : World) (K : PySem.W.Frag) (mg : Str → Option Value) (base : Heap) (k : Nat) (f : Addr) (fd : FuncData) (ps : List Str) (sp : Sp) : Prop where
  len : ∀ vs H Q E, sp vs H Q E → vs.length = ps.length
  run : ∀ (A : Around) (outer : List PySem.Env) (s : Shared) (H : Hp) (args : Args) (us : List Value) (vs : List V) (Q : VK) (E : XK), Room k A → A.guards = some [] → Env0 P w K mg base A outer s H →
    BindsTo s fd args (ps.zip us) → Vals vs us → sp vs H Q E → codeAny (model P w) A (.call (.ref f) args) (CR (L2.CX P w) outer P w H s Q E) s
section
variable {P : Program} {w : World} {K : PySem.W.Frag} {mg : Str → Option Value} {base : Heap} {f : Addr} {fd : FuncData} {ps : List Str} {sp : Sp}
theorem FnG.mono {j k : Nat} (F : FnG P w K mg base j f fd ps sp) (h : j ≤ k) : FnG P w K mg base k f fd ps sp :=
  ⟨F.len, fun A outer s H args us vs Q E hr => F.run A outer s H args us vs Q E (hr.mono h)⟩
theorem FnG.imp {k : Nat} {sp' : Sp} (F : FnG P w K mg base k f fd ps sp) (h : ∀ vs H Q E, sp' vs H Q E → sp vs H Q E) : FnG P w K mg base k f fd ps sp' :=
  ⟨fun vs H Q E q => F.len vs H Q E (h vs H Q E q), fun A outer s H args us vs Q E hr hg he hb hv hs => F.run A outer s H args us vs Q E hr hg he hb hv (h vs H Q E hs)⟩
/-- a def by its body -/
theorem FnG.of_body {k : Nat} {x qual : Str} {params : Arguments} {body : List Stmt} {scope : Scope} {dvs : List V} {kws : List (Str × V)} {N : List Str} (Fd : FunD K x qual params body scope dvs kws f fd) (Sc : FnScope N ps scope)
    (len : ∀ vs H Q E, sp vs H Q E → vs.length = ps.length)
    (hbody : ∀ (cdv : Value) (A : Around) (outer : List PySem.Env) (s : Shared) (H : Hp) (vs : List V) (Q : VK) (E : XK), Room k (A.deeper (envOfC qual scope s.heap.objs.size f cdv)) → A.guards = some [] → sp vs H Q E →
      ∃ t, PSs (cxOf (L2.CX P w) P w K mg base N qual scope f cdv A outer s H E) body t ∧ t { nx := fun _ H' => Q .non H', rt := Q } (start N vs) H) : FnG P w K mg base (k + 1) f fd ps sp := by
  obtain ⟨oc, od, dV, kV, doc, pm, an, cdv, ct, osl, rfl, lk, hcd, _, _⟩ := Fd.ex
  refine ⟨len, fun A outer s H args us vs Q E room gd env bnd vals hsp => ?_⟩
  have inK := env.mod.kin.keeps (h' := s.heap) fun b o e => (env.bs b o e).1
  have nolim := env.mod.nolimit.keeps (h' := s.heap) fun b o e => (env.bs b o e).1
  have kinds : ∀ y ∈ ps.zip us, scope.names.lookup y.1 = some .local ∨ (scope.names.lookup y.1 = some .cell ∧ ((cellsFrom (s.heap.objs.size + 1) scope.names []).lookup y.1).isSome = true) := by
    rintro ⟨n, v⟩ hy
    exact (Sc.par n (List.of_mem_zip hy).1).imp id fun q => ⟨q, PySem.W.cellsFrom_some _ _ _ (.inl q)⟩
  refine codeAny_call_function room.depth (inK _ _ lk) rfl Sc.co Sc.gen rfl (PySem.W.codeRec_of inK hcd) (bnd _ _ _ _ ?_)
  refine wpAny_newFunctionEnv_cells Sc.kind kinds fun en hen s1 st => ?_
  subst hen
  obtain ⟨t, walk, start⟩ := hbody cdv A outer s H vs Q E (room.deeper _) gd hsp
  have inv := inv_start (CX := L2.CX P w) (E := E) Sc room.hd env (len _ _ _ _ hsp) vals st
  refine ⟨nolim.keeps st.toInCall.keep, codeAny_func (wpAny_mono (walk.run [] s1 _ H _ inv start) (fun fl s' hs => ?_) fun e s' hs => hs)⟩
  cases fl with
  | ret u => obtain ⟨v, σ', H', J, rv, q⟩ := hs; exact ⟨v, H', J.os, J.bare, J.base, J.hok, rv, q⟩
  | next => obtain ⟨σ', H', J, q⟩ := hs; exact ⟨V.non, H', J.os, J.bare, J.base, J.hok, rfl, q⟩
  | brk => exact absurd hs fun ⟨_, _, _, q⟩ => q
  | cont => exact absurd hs fun ⟨_, _, _, q⟩ => q
end

section
variable {X : Cx} {W : WX} {k : Nat} {f : Addr} {fd : FuncData} {ps : List Str} {sp : Sp} {x : Str} {p pos : Pos}
/-- f(..), what is raised is wished for at the slots -/
def tCallW (sp : Sp) (W : WX) (t : TA) : TE := fun σ H Q => t σ H fun vs H1 => sp vs H1 Q (WE W σ)
theorem run_G {pins : List (Addr × Obj)} {σ : L2.St} {H : Hp} {s : Shared} {Q : VK} {us : List Value} {vs : List V} (F : FnG X.prog X.w X.K X.mg X.base k f fd ps sp) (hr : Room k X.A) (hg : X.A.guards = some []) (hb : Binds X.K fd ps []) (tk : Takes X W)
    (I : Inv X pins σ H s) (r : Vals vs us) (h : sp vs H Q (WE W σ)) : wpAny (model X.prog X.w) X.A (call (.ref f) us) (EP X pins σ Q) X.xe s := by
  have hl : us.length = ps.length := r.length.symm.trans (F.len _ _ _ _ h)
  have bt := hb s us I.kIn (by rw [List.append_nil]; exact hl)
  rw [List.append_nil] at bt
  refine wpAny_call (codeAny_mono (F.run X.A X.stack s H ⟨us, []⟩ us vs Q (WE W σ) hr hg I.env0 bt r h) fun res s' hq => ?_)
  rcases res with e | (u | _ | _ | _)
  · exact passAt tk σ pins H s e s' I hq
  all_goals first | exact I.after hq | exact False.elim hq
theorem pe_callW {e : Expr} {es : List Expr} {t : TA} (F : FnG X.prog X.w X.K X.mg X.base k f fd ps sp) (hr : Room k X.A) (hg : X.A.guards = some []) (hgl : Gl X x) (hm : X.mg x = some (.ref f)) (hk : PySem.W.keepIn X.K (.ref f) = true) (hb : Binds X.K fd ps []) (tk : Takes X W)
    (ha : PA X (e :: es) t) (hdb : (x == ("__debug__" : Str)) = false) (he : starEach (e :: es) X.env = (false, eval e X.env) :: starEach es X.env) (hpl : (backTo pos (starEach es X.env)).any (·.1) = false) :
    PE X (.Call (.Name x p) (e :: es) [] pos) (tCallW sp W t) := by
  refine ⟨fun pins s σ H Q I h => wpAny_Call_Name_kw (ld_glob I hgl hm ?_ hdb)⟩
  refine PySem.W.callWith_K (h₀ := X.base) I.ok.mod.kin hk (thn (ha.run pos pins s σ H _ I h) fun us s1 z => ?_) he hpl
  obtain ⟨vs, H1, I1, r, q⟩ := z
  exact ⟨I1.kIn, run_G F hr hg hb tk I1 r q⟩
end
end Pm
set_option Elab.async false
set_option linter.all false
set_option autoImplicit false
set_option maxRecDepth 100000
set_option maxHeartbeats 4000000
namespace Pm
open PySem L2 PySem.Spec

/-- the promise of the def that C calls f -/
def spF (K : PySem.W.Frag) (C : CallT) (XT : Nat → Option (Addr × List Str)) (f : Nat) : Sp := fun vs H Q E => ∃ (D : DA) (F : AS) (xs : List Val) (g : DrawSt), FOk D F H ∧ GRel D g H ∧ Reps K D F H xs vs ∧ match C f xs g with
  | .ok r g' => ∀ v F' H', Stp D F F' H H' → GRel D g' H' → (match r.2 with | true => RepN K D H F' H' r.1 v | false => Rep K D F' H' r.1 v) → Q v H'
  | .exc c fs g' => ∀ Ca names, XT c = some (Ca, names) → ∀ F' H' dx vs, Stp D F F' H H' → GRel D g' H' → H' dx = some (.xd (names.zip vs)) → Reps K D F' H' fs vs → E (.ref Ca) (some dx) H'
  | .bad => False

section
variable {K : PySem.W.Frag} {D : DA} {F F' F2 : AS} {H H' : Hp}
mutual
theorem Rep.of_lf (ht : ∀ a vs, F a → H a = some (.tup vs) → F' a) : ∀ (x : Val) (v : V), lf x = true → Rep K D F H x v → Rep K D F' H x v
  | .non, _, _, h => by simpa only [Rep] using h
  | .bl _, _, _, h => by simpa only [Rep] using h
  | .int _, _, _, h => by simpa only [Rep] using h
  | .str _, _, _, h => by simpa only [Rep] using h
  | .drw, _, _, h => by simpa only [Rep] using h
  | .scr _, _, l, _ => by simp only [lf] at l; cases l
  | .lst _, _, l, _ => by simp only [lf] at l; cases l
  | .tup xs, _, l, h => by
    simp only [Rep] at h ⊢
    obtain ⟨a, vs, e, h1, h2⟩ := h
    refine ⟨a, vs, e, ?_, Reps.of_lf ht xs vs (by simpa only [lf] using l) h2⟩
    rcases h1 with ⟨h1, h3⟩ | h1
    · exact .inl ⟨ht a vs h1 h3, h3⟩
    · exact .inr h1
theorem Reps.of_lf (ht : ∀ a vs, F a → H a = some (.tup vs) → F' a) : ∀ (xs : List Val) (vs : List V), lfs xs = true → Reps K D F H xs vs → Reps K D F' H xs vs
  | [], _, _, h => by simpa only [Reps] using h
  | x :: xs, _, l, h => by
    simp only [lfs, Bool.and_eq_true] at l
    simp only [Reps] at h ⊢
    obtain ⟨v, r, e, h1, h2⟩ := h
    exact ⟨v, r, e, Rep.of_lf ht x v l.1 h1, Reps.of_lf ht xs r l.2 h2⟩
end
end

section
variable {X : Cx} {S : Sx} {W : WX} {pos : Pos}
theorem RepN.of_notLst {K : PySem.W.Frag} {D : DA} {F : AS} {H0 H : Hp} {x : Val} {v : V} (n : notLst x = true) (h : Rep K D F H x v) : RepN K D H0 F H x v := by
  cases x <;> first | exact h | cases n
/-- what a call's value is: new if the def says so -/
def rC (S : Sx) : Rel (Val × Bool) V := fun _ H F' H' r v => match r.2 with | true => RepN S.K S.D H F' H' r.1 v | false => Rep S.K S.D F' H' r.1 v
theorem rC_ok {D : DA} : RelOk D (rC S) := fun U F F1 H H1 F' H' r v st h => by
  obtain ⟨x, b⟩ := r
  cases b with
  | true => exact rN_ok U F F1 H H1 F' H' x v st h
  | false => exact h
/-- nothing is lent -/
theorem call_i {f : Nat} {pa : PX} {σ : L2.St} {H : Hp} {Q : VK} (h : tG S W (rC S) (fun e g => (evs S.C S.B pa e g).bind fun xs g => S.C f xs g) σ H Q) : tCallW (spF S.K S.C S.XT f) W (tA S W pa) σ H Q := by
  refine tG_then (rel1 := rEs S) (f := evsP S pa) (k := fun xs _ g => S.C f xs g) rC_ok h fun xs g1 vs F1 U H0 e H1 m rl r => ?_
  obtain ⟨_, _, _, rl⟩ := rl
  refine ⟨S.D, F1, xs, g1, m.frz, m.drw, rl, ?_⟩
  cases q : S.C f xs g1 with
  | ok x g' => rw [q] at r; exact r
  | exc c fs g' => rw [q] at r; exact r
  | bad => rw [q] at r; exact r
/-- lists of the slots are lent -/
theorem callB_i {f : Nat} {pa : PX} {σ : L2.St} {H : Hp} {Q : VK} (h : tG S W (rC S) (fun e g => (evs S.C S.B pa e g).bind fun xs g => lent (S.C f xs g)) σ H Q) : tCallW (spF S.K S.C S.XT f) W (tAB S W pa) σ H Q := by
  refine tG_then (rel1 := rBs S) (f := evsP S pa) (k := fun xs _ g => lent (S.C f xs g)) rC_ok h fun xs g1 vs F1 U H0 e H1 m rl r => ?_
  obtain ⟨_, _, _, rl⟩ := rl
  have fok : FOk S.D (UF F1 U) H1 := fun a z => by
    rcases z with z | ⟨i, z⟩
    · exact m.frz a z
    · obtain ⟨_, _, ⟨ws, hw⟩, nh⟩ := m.own i a z
      exact ⟨by rw [hw]; simp, nh⟩
  -- back to what is frozen without the lent lists
  have back : ∀ {F' : AS} {H' : Hp}, Stp S.D (UF F1 U) F' H1 H' → Stp S.D F1 (fun a => F' a ∧ ∀ i, U i ≠ some a) H1 H' ∧ ∀ a vs, F' a → H' a = some (.tup vs) → (F' a ∧ ∀ i, U i ≠ some a) := fun {F' H'} st => by
    refine ⟨⟨fun a z => ⟨st.sub a (.inl z), fun i q => (m.own i a q).1 z⟩, fun a z => ?_, st.keep, st.live, fun a z => st.frz a z.1⟩, fun a vs z e => ⟨z, fun i q => ?_⟩⟩
    · rcases st.new a z.1 with (y | ⟨i, y⟩) | y
      · exact .inl y
      · exact absurd y (z.2 i)
      · exact .inr y
    · obtain ⟨_, _, ⟨ws, hw⟩, nh⟩ := m.own i a q
      rw [st.keep a _ hw nh] at e
      cases e
  refine ⟨S.D, UF F1 U, xs, g1, fok, m.drw, rl, ?_⟩
  cases q : S.C f xs g1 with
  | bad => rw [q] at r; exact r
  | exc c fs g' =>
    rw [q] at r
    exact False.elim r
  | ok x g' =>
    rw [q] at r
    obtain ⟨x, b⟩ := x
    replace r : resF S W (rC S) U F1 H1 σ (if okBor x b = true then R.ok (x, b) g' else .bad) _ := r
    by_cases hk : okBor x b = true
    · rw [if_pos hk] at r
      intro v F' H' st gr rv
      obtain ⟨st2, ht⟩ := back st
      refine r v _ H' st2 gr ?_
      simp only [okBor, Bool.or_eq_true, Bool.and_eq_true] at hk
      cases b with
      | false =>
        rcases hk with hk | hk
        · exact Rep.of_lf ht x v hk rv
        · cases hk.1
      | true =>
        cases x with
        | lst ys =>
          rcases hk with hk | hk
          · simp only [lf] at hk; cases hk
          · obtain ⟨a, ws, e1, h1, h2, h3, h4, h5⟩ := rv
            exact ⟨a, ws, e1, h1, fun z => h2 z.1, h3, h4, Reps.of_lf ht ys ws hk.2 h5⟩
        | _ =>
          rcases hk with hk | hk
          · exact Rep.of_lf ht _ v hk rv
          · cases hk.2
    · rw [if_neg hk] at r
      exact False.elim r
/-- .. the value frozen -/
theorem frozen_of {r0 : Pm.Env → DrawSt → R (Val × Bool)} {σ : L2.St} {H : Hp} {Q : VK} (h : tG S W (rE S) (fun e g => (r0 e g).bind fun r g => .ok r.1 g) σ H Q) : tG S W (rC S) r0 σ H Q := by
  obtain ⟨F, U, H0, e, g, m, r⟩ := h
  refine ⟨F, U, H0, e, g, m, ?_⟩
  dsimp only at r
  cases q : r0 e g with
  | bad => rw [q] at r; exact r
  | exc c fs g' => rw [q] at r; exact r
  | ok x g' =>
    rw [q] at r
    intro v F' H' st gr rv
    obtain ⟨x, b⟩ := x
    cases b with
    | true =>
      obtain ⟨F2, st2, rp⟩ := RepN.frozen st rv
      exact r v F2 H' st2 gr rp
    | false => exact r v F' H' st gr rv
/-- .. the value new -/
theorem new_of {r0 : Pm.Env → DrawSt → R (Val × Bool)} {σ : L2.St} {H : Hp} {Q : VK} (h : tG S W (rN S) (fun e g => (r0 e g).bind fun r g => if (r.2 || notLst r.1) = true then .ok r.1 g else .bad) σ H Q) : tG S W (rC S) r0 σ H Q := by
  obtain ⟨F, U, H0, e, g, m, r⟩ := h
  refine ⟨F, U, H0, e, g, m, ?_⟩
  dsimp only at r
  cases q : r0 e g with
  | bad => rw [q] at r; exact r
  | exc c fs g' => rw [q] at r; exact r
  | ok x g' =>
    rw [q] at r
    obtain ⟨x, b⟩ := x
    replace r : resF S W (rN S) U F H σ (if (b || notLst x) = true then R.ok x g' else .bad) _ := r
    by_cases hk : (b || notLst x) = true
    · rw [if_pos hk] at r
      intro v F' H' st gr rv
      cases b with
      | true => exact r v F' H' st gr rv
      | false => exact r v F' H' st gr (RepN.of_notLst (by simpa using hk) rv)
    · rw [if_neg hk] at r
      exact False.elim r
theorem assoc_call {α : Type} {pa : PX} {c : List Val → DrawSt → R (Val × Bool)} {k : Val × Bool → DrawSt → R α} : (fun e g => (evs S.C S.B pa e g).bind fun xs g => (c xs g).bind k) = fun (e : Pm.Env) g => ((evs S.C S.B pa e g).bind fun xs g => c xs g).bind k := by
  funext e g
  rw [bindR_assoc]
/-- f(..), a new list -/
theorem pe_callNE {f : Nat} {pa : PX} {e : Expr} (hc : PE X e (tCallW (spF S.K S.C S.XT f) W (tA S W pa))) : PE X e (tN S W (.callN f pa)) := PE.imp hc fun σ H Q h => by
  have h' : tG S W (rN S) (fun e g => (evs S.C S.B pa e g).bind fun xs g => (S.C f xs g).bind fun r g => if (r.2 || notLst r.1) = true then .ok r.1 g else .bad) σ H Q := h
  rw [assoc_call] at h'
  exact call_i (new_of h')
/-- f(..) -/
theorem pe_callE {f : Nat} {pa : PX} {e : Expr} (hc : PE X e (tCallW (spF S.K S.C S.XT f) W (tA S W pa))) : PE X e (tE S W (.call f pa)) := PE.imp hc fun σ H Q h => by
  have h' : tG S W (rE S) (fun e g => (evs S.C S.B pa e g).bind fun xs g => (S.C f xs g).bind fun r g => .ok r.1 g) σ H Q := h
  rw [assoc_call] at h'
  exact call_i (frozen_of h')
theorem pe_callbE {f : Nat} {pa : PX} {e : Expr} (hc : PE X e (tCallW (spF S.K S.C S.XT f) W (tAB S W pa))) : PE X e (tE S W (.callb f pa)) := PE.imp hc fun σ H Q h => by
  have h' : tG S W (rE S) (fun e g => (evs S.C S.B pa e g).bind fun xs g => (lent (S.C f xs g)).bind fun r g => .ok r.1 g) σ H Q := h
  rw [assoc_call (c := fun xs g => lent (S.C f xs g))] at h'
  exact callB_i (frozen_of h')
end

/-! ### isinstance -/
def clsN : Cls → String
  | .int => "int" | .bool => "bool" | .str => "str" | .tuple => "tuple" | .list => "list"
section
variable {X : Cx} {S : Sx} {W : WX} {K : PySem.W.Frag} {D : DA}
theorem isi_ty {F : AS} {H : Hp} {x : Val} {v : V} {c : Cls} {b : Bool} (hv : RepT K D F H x v) (h : vIsi c x = some b) : ∃ t, TyX K H v (.type t) ∧ kitB t (clsN c) = some b := by
  cases x with
  | non => cases RepT_non.mp hv; refine ⟨_, .base .non, ?_⟩; cases c <;> cases h <;> decide +kernel
  | bl k => cases RepT_bl.mp hv; refine ⟨_, .base (.bl _), ?_⟩; cases c <;> cases h <;> decide +kernel
  | int k => cases RepT_int.mp hv; refine ⟨_, .base (.int _), ?_⟩; cases c <;> cases h <;> decide +kernel
  | str k => cases RepT_str.mp hv; refine ⟨_, .base (.str _), ?_⟩; cases c <;> cases h <;> decide +kernel
  | tup xs =>
    obtain ⟨a, vs, rfl, h1, h2⟩ := RepT_tup.mp hv
    have ty : TyX K H (.ref a) (.type "tuple") := by
      rcases h1 with ⟨_, h1⟩ | ⟨o, its, n, h1, h3, _⟩
      · exact .base (.tup h1)
      · exact .kTuple h1 h3
    refine ⟨_, ty, ?_⟩
    cases c <;> cases h <;> decide +kernel
  | lst xs =>
    obtain ⟨a, vs, rfl, _, h1, h2⟩ := RepT_lst.mp hv
    refine ⟨_, .base (.lst h1), ?_⟩
    cases c <;> cases h <;> decide +kernel
  | drw => cases c <;> cases h
  | scr n => cases c <;> cases h
theorem pe_isiG {e : Expr} {x : Str} {pa : PX} {c : Cls} {p p2 pos : Pos} (hK : X.K = S.K) (hn : noStar e = true) (hg : Gl X "isinstance") (hm : X.mg "isinstance" = none) (hc : PE X (.Name x p2) (tC (.ty (clsN c)))) (ha : PE X e (tP S W pa)) :
    PE X (.Call (.Name "isinstance" p) [e, .Name x p2] [] pos) (tN S W (.pr (.isi c) (.cons pa .nil))) := by
  have hk := pe_callB (X := X) (pos := pos) (p := p) call_isi hg hm PyProof.Rows.boot_isinstance (pa_cons ha (pa_cons hc pa_nil) (starEach_no hn)) (he := starEach_no hn)
  rw [hK] at hk
  refine PE.imp hk fun σ H Q h => ?_
  have h' : tG S W (rN S) (fun e g => (ev S.C S.B pa e g).bind fun x g => .of (vPrim (.isi c) [x]) g) σ H Q := by
    obtain ⟨F, U, H0, e, g, m, r⟩ := h
    refine ⟨F, U, H0, e, g, m, ?_⟩
    replace r : resF S W (rN S) U F H σ (((ev S.C S.B pa e g).bind fun x g => R.ok [x] g).bind fun xs g => .of (vPrim (.isi c) xs) g) _ := r
    rw [bindR_assoc] at r
    exact r
  refine tG_then (rel1 := rT S) (k := fun x _ g => .of (vPrim (.isi c) [x]) g) rN_ok h' fun x g1 v F1 U H0 e H1 m rl r => ?_
  obtain ⟨_, _, _, rl⟩ := rl
  obtain ⟨z, h1, h2⟩ := resF_of r
  replace h1 : (vIsi c x).map Val.bl = some z := h1
  simp only [Option.map_eq_some_iff] at h1
  obtain ⟨b, h1, rfl⟩ := h1
  obtain ⟨t, ty, kb⟩ := isi_ty rl h1
  exact ⟨v, .ty (clsN c), .type t, .type (clsN c), b, rfl, .ty _, ty, kit_ty kb, h2 _ F1 H1 (Stp.refl m.frz) m.drw (RepN_bl.mpr rfl)⟩
end
end Pm
set_option Elab.async false
set_option linter.all false
set_option autoImplicit false
set_option maxRecDepth 100000
set_option maxHeartbeats 4000000

/-! ### enumerate of a tuple -/
namespace Pm
open PySem L2 PySem.Spec
open AutoSeq1 (wpAny_loadPart')
theorem enumT_new (l : Addr) (its : Array Value) (n : Nat) (dct : Option Addr) (sl : Array (Option Value)) :
    Meets (Builtin.«enumerate.__new__» ⟨[.type "enumerate", .ref l], []⟩) (fun _ R s => s.heap.get? l = some { cls := .type "tuple", dict := dct, data := .seq its n, slots := sl } ∧
      R (.ok (.ret (.ref (s.heap.push { cls := .type "tuple_iterator", data := .fields #[.ref l, .int 0 0] }).objs.size)))
        { s with heap := (s.heap.push { cls := .type "tuple_iterator", data := .fields #[.ref l, .int 0 0] }).push { cls := .type "enumerate", data := .fields #[.none, .bool false, .ref s.heap.objs.size, rawInt 0, .none, .none] } }) :=
  .of_wp fun prog w A R s h => by
    obtain ⟨hp, g, d, tk, os⟩ := s
    obtain ⟨hl, h⟩ := h
    have subE := sub_enumerate
    have isT : Heap.IsTuple (Shared.heap ⟨hp, g, d, tk, os⟩) l its := ⟨_, hl, rfl, n, rfl⟩
    wp_walk using wpAny_loadPart' hl
    refine wpAny_stack_any fun st => wpAny_pure ?_
    split
    · rename_i c _ _ _ _ _
      cases (c == Value.type "enumerate") <;> (wp_walk using wpAny_loadPart' hl, wpAny_pyIter_tuple isT; exact ⟨_, rfl, h⟩)
    · wp_walk using wpAny_loadPart' hl, wpAny_pyIter_tuple isT
      exact ⟨_, rfl, h⟩
theorem enumT_call {prog : Program} {w : World} {A : Around} {E : Value → Shared → Prop} {s : Shared} {l : Addr} {its : Array Value} {Q : Value → Shared → Prop} (hT : s.heap.IsTuple l its)
    (h : ∀ h', IsEnum h' (s.heap.objs.size + 1) s.heap.objs.size 0 .none → h'.IsTupleIter s.heap.objs.size l 0 → (∀ b o, s.heap.get? b = some o → h'.get? b = some o) → Q (.ref (s.heap.objs.size + 1)) { s with heap := h' }) :
    wpAny (model prog w) A (call (.type "enumerate") [.ref l]) Q E s := by
  obtain ⟨⟨c, dct, dt, sl⟩, hl, hc, n, hd⟩ := hT
  replace hc : c = .type "tuple" := hc
  replace hd : dt = .seq its n := hd
  subst hc hd
  refine callType_new F.called_enumerate (by decide) (F.typeCall_enumerate_1 _) (F.newCall_enumerate_1 _) (fun obj => F.args_object_init_2 obj _) F.entry_enumerate_new (enumT_new l its n dct sl) ⟨hl, ?_⟩
  have hz : (s.heap.push { cls := .type "tuple_iterator", data := .fields #[.ref l, .int 0 0] }).objs.size = s.heap.objs.size + 1 := Heap.size_push ..
  show _ ∧ _
  rw [hz]
  have he := Heap.get?_push_size (s.heap.push { cls := .type "tuple_iterator", data := .fields #[.ref l, .int 0 0] }) (o := { cls := .type "enumerate", data := .fields #[.none, .bool false, .ref s.heap.objs.size, rawInt 0, .none, .none] }) rfl
  rw [hz] at he
  exact ⟨⟨_, he, rfl⟩, h _ he ⟨_, Heap.get?_push_of_some _ (Heap.get?_push_size _ rfl), rfl, rfl⟩ fun b o x => Heap.get?_push_of_some _ (Heap.get?_push_of_some _ x)⟩
/-- the tuple at a, each item in a new pair -/
def IteT (K : PySem.W.Frag) (a : Addr) : It :=
  ⟨fun i H => ∃ (xs : List V) (x : V), SqT K H a xs ∧ xs[i]? = some x, fun i H v H' => ∃ T x, v = .ref T ∧ H T = none ∧ H' = upd H T (.tup [.int (i : Nat), x]) ∧ ∀ xs, SqT K H a xs → xs[i]? = some x, fun i H => ∃ xs : List V, SqT K H a xs ∧ xs.length = i⟩
theorem turn_enumT {P : Program} {w : World} {K : PySem.W.Frag} {elts : List Expr} {kk : Nat} {tpos : Pos} (a e it : Addr) (hai : a ≠ it) (hea : e ≠ a) :
    Turn P w K (.Tuple elts kk tpos) (IteT K a) [e, it] e (fun i h => (∃ old, IsEnum h e it ((i : Nat) : Int) old) ∧ h.IsTupleIter it a i ∧ e ≠ it) where
  mem := by simp
  obj := fun i h st b hb => by
    obtain ⟨⟨old, he⟩, ⟨o, ho, hc, hd⟩, _⟩ := st
    rcases (show b = e ∨ b = it by simpa using hb) with rfl | rfl
    · exact ⟨_, he, fun v q => nomatch q⟩
    · exact ⟨o, ho, fun v q => by rw [hd] at q; cases q⟩
  keep := fun i h h' st k => let ⟨⟨old, he⟩, hi, hne⟩ := st; ⟨⟨old, k e (by simp) _ he⟩, hi.at fun o q => k it (by simp) o q, hne⟩
  item := by
    intro X hP hw hK hc i pins s σ H E I hf st hg
    subst hP hw hK
    obtain ⟨⟨old, he⟩, hit, hne⟩ := st
    obtain ⟨xs, x, hq, hx⟩ := hg
    obtain ⟨its, rv, p, hz⟩ := I.tuple hq
    have hlen := rv.length
    have hilt : i < xs.length := (List.getElem?_eq_some_iff.mp hx).1
    obtain ⟨u, hu, ru⟩ := rv.get hx
    have hel : e < s.heap.objs.size := Heap.lt_size he
    have hil : it < s.heap.objs.size := by obtain ⟨_, q, _⟩ := hit; exact Heap.lt_size q
    have isT : s.heap.IsTuple a its.toArray := p
    refine wpAny_pyNext_enum_itemD (Draws.tuple (prog := X.prog) (w := X.w) (A := X.A.in1) (I.ok.hd hc) it a hai its.toArray) he ⟨hit, isT⟩ (by simp; omega) hne (by simp [hne, hea]) fun y h' tk hy ho hst hT hsz hk => ?_
    have ey : y = u := by
      have q : its.toArray[i]? = some y := hy
      have q2 : its[i]? = some y := by simpa using q
      rw [hu] at q2
      exact (Option.some.inj q2).symm
    subst ey
    refine ⟨_, rfl, wpAny_letOwnedTupleGo_enum (s := { s with heap := h', toks := tk + 1 }) ho fun h'' he' sb => ?_⟩
    have hT2 : h''.get? s.heap.objs.size = some { cls := .type "tuple", data := .seq #[.int i tk, y] } := (sb.2 _ (Nat.ne_of_gt hel)).trans hT
    have new : ObjOk X.prog X.w (upd H s.heap.objs.size (.tup [.int (i : Nat), x])) h'' s.heap.objs.size (.tup [.int (i : Nat), x]) := ⟨by show 2 ≤ sizeLine; decide, [.int i tk, y], .cons ⟨_, rfl⟩ (.cons ru .nil), ⟨_, hT2, rfl, _, rfl⟩⟩
    have I1 : Inv X pins σ (upd H s.heap.objs.size (.tup [.int (i : Nat), x])) { s with heap := h'', toks := tk + 1 } :=
      I.turnedNew (ch := [e, it]) (fun b ob hb q => (sb.2 b (fun z => hb (by simp [z]))).trans (hk b ob (fun z => hb (by simp [z])) (fun z => hb (by simp [z])) q)) hf (Nat.le_refl _) new
    refine ⟨.ref s.heap.objs.size, _, I1, rfl, ⟨_, x, rfl, I.hok.fresh (Nat.le_refl _), rfl, fun ys hy => by rw [I.tuple_inj hy hq]; exact hx⟩, ⟨⟨y, ?_⟩, hst.1.at fun o q => (sb.2 it (Ne.symm hne)).trans q, hne⟩, fun b hb => ?_⟩
    · have e1 : ((i + 1 : Nat) : Int) = (i : Int) + 1 := by omega
      rw [e1]; exact he'
    · have hb' : b < s.heap.objs.size := by
        rcases (show b = e ∨ b = it by simpa using hb) with rfl | rfl
        · exact hel
        · exact hil
      rw [upd_ne (Nat.ne_of_lt hb')]
      exact (hf b hb).1
  done := by
    intro X hP hw hK hc i pins s σ H E I hf st hg
    subst hP hw hK
    obtain ⟨⟨old, he⟩, hit, hne⟩ := st
    obtain ⟨xs, hq, hx⟩ := hg
    obtain ⟨its, rv, p, hz⟩ := I.tuple hq
    obtain ⟨f0, f1, f2, f3, f4, f5⟩ := hf it (by simp)
    have hl := rv.length
    have isT : s.heap.IsTuple a its.toArray := p
    have hn : its.toArray.size = i := by simp; omega
    refine wpAny_pyNext_enum_endD (Draws.tuple (prog := X.prog) (w := X.w) (A := X.A.in1) (I.ok.hd hc) it a hai its.toArray) he ⟨by rw [hn]; exact hit, isT⟩ fun h' eb => ⟨rfl, I.turned (t' := s.toks) (fun b o hb q => eb b o hb q) f0 f1 f3 f4 f5⟩
  self := fun A i s Q E st h => let ⟨⟨_, he⟩, _⟩ := st; wpAny_pyIter_enum he h
/-- enumerate of a list or a tuple -/
def iEnumA (K : PySem.W.Frag) (ta : TA) : TI := fun σ H R => ta σ H fun vs H1 => ∃ a xs, vs = [.ref a] ∧ ((SqL K H1 a xs ∧ R (Ite K a) H1) ∨ (SqT K H1 a xs ∧ R (IteT K a) H1))
theorem pi_enumA {X : Cx} {e : Expr} {ta : TA} {p pos tpos : Pos} {elts : List Expr} {kk : Nat} (hg : Gl X "enumerate") (hm : X.mg "enumerate" = none) (ha : PA X [e] ta) (hs : starEach [e] X.env = [(false, eval e X.env)]) :
    PI X (.Tuple elts kk tpos) (.Call (.Name "enumerate" p) [e] [] pos) (iEnumA X.K ta) := by
  refine ⟨fun pins s σ H R I h => ?_⟩
  refine PyProof.Rows.Call_ (ld_blt I hg hm PyProof.Rows.boot_enumerate (PyProof.Rows.callWith_type1 (thn (ha.run pos pins s σ H _ I h) fun us s1 z => ?_) hs rfl))
  obtain ⟨vs, H1, I1, r1, a, xs, rfl, q1⟩ := z
  obtain ⟨u, rfl, ru⟩ := vals1 r1
  cases ru
  have fr : ∀ b, b ∈ [s1.heap.objs.size + 1, s1.heap.objs.size] → FpOk X pins H1 b := fun b hb => by
    have hle : s1.heap.objs.size ≤ b := by
      rcases (show b = s1.heap.objs.size + 1 ∨ b = s1.heap.objs.size by simpa using hb) with rfl | rfl
      · exact Nat.le_succ _
      · exact Nat.le_refl _
    exact I1.fpOk hle (I1.hok.fresh hle)
  rcases q1 with ⟨hq, q⟩ | ⟨hq, q⟩
  · obtain ⟨its, rv, pl, hz⟩ := I1.list hq
    exact call_enumerate_list pl.isList fun h' he hit hsz hk => wpAny_pyIter_enum he ⟨s1.heap.objs.size + 1, [s1.heap.objs.size + 1, s1.heap.objs.size], _, _, H1, rfl, I1.kept (t' := s1.toks) hk, turn_enum a (s1.heap.objs.size + 1) s1.heap.objs.size, ⟨⟨.none, he⟩, hit, Nat.succ_ne_self _⟩, fr, q⟩
  · obtain ⟨its, rv, pt, hz⟩ := I1.tuple hq
    obtain ⟨o, ho, _⟩ := id pt
    have lt := Heap.lt_size ho
    exact enumT_call (show s1.heap.IsTuple a its.toArray from pt) fun h' he hit hk => wpAny_pyIter_enum he ⟨s1.heap.objs.size + 1, [s1.heap.objs.size + 1, s1.heap.objs.size], _, _, H1, rfl, I1.kept (t' := s1.toks) hk,
      turn_enumT a (s1.heap.objs.size + 1) s1.heap.objs.size (Nat.ne_of_lt lt) (Nat.ne_of_gt (Nat.lt_succ_of_lt lt)), ⟨⟨.none, he⟩, hit, Nat.succ_ne_self _⟩, fr, q⟩
/-- a list or a tuple, walked -/
def iSeq (K : PySem.W.Frag) (tl : TE) : TI := fun σ H R => tl σ H fun x H1 => ∃ a, x = .ref a ∧ (((∃ xs, SqL K H1 a xs) ∧ R (Itl K a) H1) ∨ ((∃ xs, SqT K H1 a xs) ∧ R (Itt K a) H1))
theorem pi_seq {X : Cx} {tg l : Expr} {tl : TE} (hl : PE X l tl) : PI X tg l (iSeq X.K tl) := by
  refine ⟨fun pins s σ H R I h => thn (hl.run pins s σ H _ I h) fun v s1 z => ?_⟩
  obtain ⟨x, H1, I1, r1, a, rfl, q⟩ := z
  cases r1
  have fr : ∀ b, b ∈ [s1.heap.objs.size] → FpOk X pins H1 b := fun b hb => by
    cases (show b = s1.heap.objs.size by simpa using hb)
    exact I1.fpOk (Nat.le_refl _) (I1.hok.fresh (Nat.le_refl _))
  rcases q with ⟨⟨xs, hq⟩, q⟩ | ⟨⟨xs, hq⟩, q⟩
  · obtain ⟨its, rv, pl, hz⟩ := I1.list hq
    exact wpAny_pyIter_list pl.isList ⟨s1.heap.objs.size, [s1.heap.objs.size], _, _, H1, rfl, I1.kept (t' := s1.toks) fun b o e => Heap.get?_push_of_some _ e, turn_list a _, ⟨_, Heap.get?_push_size _ rfl, rfl, rfl⟩, fr, q⟩
  · obtain ⟨its, rv, pt, hz⟩ := I1.tuple hq
    exact wpAny_pyIter_tuple (show s1.heap.IsTuple a its.toArray from pt) ⟨s1.heap.objs.size, [s1.heap.objs.size], _, _, H1, rfl, I1.kept (t' := s1.toks) fun b o e => Heap.get?_push_of_some _ e, turn_tuple a _, ⟨_, Heap.get?_push_size _ rfl, rfl, rfl⟩, fr, q⟩
end Pm
set_option Elab.async false
set_option linter.all false
set_option autoImplicit false
set_option maxRecDepth 100000
set_option maxHeartbeats 4000000
namespace Pm
open PySem L2 PySem.Spec

/-- what is frozen stays -/
structure Fst (D : DA) (F F' : AS) (H H' : Hp) : Prop where
  sub : ∀ a, F a → F' a
  kp : ∀ a o, F a → H a = some o → H' a = some o
abbrev Md := AS → AS → Hp → Hp → Prop
def MOk (D : DA) (M : Md) : Prop := ∀ F F1 H H1, M F F1 H H1 → Fst D F F1 H H1
theorem Stp.fst {D : DA} {F F' : AS} {H H' : Hp} (s : Stp D F F' H H') : Fst D F F' H H' := ⟨s.sub, fun a o z e => s.keep a o e (s.frz a (s.sub a z)).2⟩
theorem mok_stp (D : DA) : MOk D (Stp D) := fun _ _ _ _ s => s.fst
theorem mok_fst (D : DA) : MOk D (Fst D) := fun _ _ _ _ s => s
section
variable {K : PySem.W.Frag} {D : DA} {F F' : AS} {H H' : Hp}
theorem Rep.fst {x : Val} {v : V} (s : Fst D F F' H H') (h : Rep K D F H x v) : Rep K D F' H' x v := Rep.mono s.sub s.kp x v h
theorem Reps.fst {xs : List Val} {vs : List V} (s : Fst D F F' H H') (h : Reps K D F H xs vs) : Reps K D F' H' xs vs := Reps.mono s.sub s.kp xs vs h
theorem Reps.at : ∀ {xs : List Val} {vs : List V} {i : Nat} {v : V}, Reps K D F H xs vs → vs[i]? = some v → ∃ x, xs[i]? = some x ∧ Rep K D F H x v
  | [], vs, i, v, h, e => by simp only [Reps] at h; subst h; simp at e
  | x :: xs, vs, 0, v, h, e => by
    simp only [Reps] at h
    obtain ⟨w, r, rfl, h1, h2⟩ := h
    simp at e; subst e
    exact ⟨x, rfl, h1⟩
  | x :: xs, vs, i + 1, v, h, e => by
    simp only [Reps] at h
    obtain ⟨w, r, rfl, h1, h2⟩ := h
    obtain ⟨y, e1, e2⟩ := Reps.at (i := i) h2 (by simpa using e)
    exact ⟨y, by simpa using e1, e2⟩
end
section
variable (S : Sx) (M : Md)
def WalkOk (xs : List Val) (F : AS) (H : Hp) (J : It) : Prop := ∃ G Y, Walk J xs.length G Y ∧ (∀ F1 H1, M F F1 H H1 → G H1) ∧
  ∀ i F1 H1 v H2 g1, i < xs.length → M F F1 H H1 → FOk S.D F1 H1 → GRel S.D g1 H1 → Y i H1 v H2 → ∃ F2 x, PSt S.D F1 F2 H1 H2 ∧ xs[i]? = some x ∧ Rep S.K S.D F2 H2 x v
def rW : Rel (List Val) It := fun _ _ F' H' xs J => WalkOk S M xs F' H' J
theorem rW_ok : RelOk S.D (rW S M) := fun _ _ _ _ _ _ _ _ _ _ h => h
abbrev evSP (p : PX) : Pm.Env → DrawSt → R (List Val) := fun e g => evS S.C S.B p e g
abbrev tI (W : WX) (p : PX) : TI := tG S W (rW S M) (evSP S p)
end
section
variable {X : Cx} {S : Sx} {W : WX} {M : Md}
theorem PI.imp {tg it : Expr} {t t' : TI} (h : PI X tg it t) (k : ∀ σ H R, t' σ H R → t σ H R) : PI X tg it t' := ⟨fun pins s σ H R I q => h.run pins s σ H R I (k σ H R q)⟩
theorem walkE {F : AS} {H : Hp} {x : Val} {v : V} {xs : List Val} (ok : MOk S.D M) (h : Rep S.K S.D F H x v) (e : items x = some xs) :
    ∃ a, v = .ref a ∧ (((∃ vs, SqL S.K H a vs) ∧ WalkOk S M xs F H (Itl S.K a)) ∨ ((∃ vs, SqT S.K H a vs) ∧ WalkOk S M xs F H (Itt S.K a))) := by
  cases x <;> try exact nomatch (show (none : Option (List Val)) = some xs from e)
  · cases e
    obtain ⟨a, vs, rfl, h1, h2⟩ := Rep_tup.mp h
    refine ⟨a, rfl, .inr ⟨⟨vs, h1.sq⟩, _, _, by rw [← h2.length]; exact walk_tup (K := S.K) (a := a) (xs := vs), fun F1 H1 m => (h1.mono (ok _ _ _ _ m).sub (ok _ _ _ _ m).kp).sq, fun i F1 H1 w H2 g1 hi m f gr y => ?_⟩⟩
    obtain ⟨rfl, y⟩ := y
    obtain ⟨z, e1, e2⟩ := Reps.at (h2.fst (ok _ _ _ _ m)) y
    exact ⟨F1, z, PSt.refl f, e1, e2⟩
  · cases e
    simp only [Rep] at h
    obtain ⟨a, vs, rfl, h0, h1, h2⟩ := h
    refine ⟨a, rfl, .inl ⟨⟨vs, SqL.of h1⟩, _, _, by rw [← h2.length]; exact walk_list (K := S.K) (a := a) (xs := vs), fun F1 H1 m => SqL.of ((ok _ _ _ _ m).kp a _ h0 h1), fun i F1 H1 w H2 g1 hi m f gr y => ?_⟩⟩
    obtain ⟨rfl, y⟩ := y
    obtain ⟨z, e1, e2⟩ := Reps.at (h2.fst (ok _ _ _ _ m)) y
    exact ⟨F1, z, PSt.refl f, e1, e2⟩
theorem walkT {F : AS} {H : Hp} {x : Val} {v : V} {xs : List Val} (h : RepT S.K S.D F H x v) (e : items x = some xs) :
    ∃ a, v = .ref a ∧ (((∃ vs, SqL S.K H a vs) ∧ WalkOk S (Stp S.D) xs F H (Itl S.K a)) ∨ ((∃ vs, SqT S.K H a vs) ∧ WalkOk S (Stp S.D) xs F H (Itt S.K a))) := by
  cases x with
  | lst ys =>
    cases e
    obtain ⟨a, vs, rfl, h0, h1, h2⟩ := RepT_lst.mp h
    refine ⟨a, rfl, .inl ⟨⟨vs, SqL.of h1⟩, _, _, by rw [← h2.length]; exact walk_list (K := S.K) (a := a) (xs := vs), fun F1 H1 m => SqL.of (m.keep a _ h1 h0), fun i F1 H1 w H2 g1 hi m f gr y => ?_⟩⟩
    obtain ⟨rfl, y⟩ := y
    obtain ⟨z, e1, e2⟩ := Reps.at (h2.stp m) y
    exact ⟨F1, z, PSt.refl f, e1, e2⟩
  | tup ys => exact walkE (mok_stp S.D) (x := .tup ys) h e
  | _ => exact nomatch (show (none : Option (List Val)) = some xs from e)
theorem it_i {rel : Rel Val V} {pa : PX} {σ : L2.St} {H : Hp} {Q : It → Hp → Prop} (hw : ∀ U Hs F H x v xs, FOk S.D F H → rel U Hs F H x v → items x = some xs → ∃ a, v = .ref a ∧ (((∃ vs, SqL S.K H a vs) ∧ WalkOk S M xs F H (Itl S.K a)) ∨ ((∃ vs, SqT S.K H a vs) ∧ WalkOk S M xs F H (Itt S.K a))))
    (h : tI S M W (.it pa) σ H Q) : iSeq S.K (tG S W rel (evP S pa)) σ H Q := by
  refine tG_then (rel1 := rel) (f := evP S pa) (k := fun x _ g => .of (items x) g) (rW_ok S M) h fun x g1 v F1 U H0 e H1 m rl r => ?_
  obtain ⟨Hs, _, _, rl⟩ := rl
  obtain ⟨xs, h1, h2⟩ := resF_of r
  obtain ⟨a, rfl, q⟩ := hw U Hs F1 H1 x v xs m.frz rl h1
  refine ⟨a, rfl, ?_⟩
  rcases q with ⟨q1, q2⟩ | ⟨q1, q2⟩
  · exact .inl ⟨q1, h2 _ F1 H1 (Stp.refl m.frz) m.drw q2⟩
  · exact .inr ⟨q1, h2 _ F1 H1 (Stp.refl m.frz) m.drw q2⟩
theorem pi_itE {tg l : Expr} {pa : PX} (hK : X.K = S.K) (ok : MOk S.D M) (ha : PE X l (tE S W pa)) : PI X tg l (tI S M W (.it pa)) := by
  have hk := pi_seq (tg := tg) ha
  rw [hK] at hk
  exact PI.imp hk fun σ H R h => it_i (rel := rE S) (fun U Hs F H x v xs _ r e => walkE ok r e) h
theorem pi_itT {tg l : Expr} {pa : PX} (hK : X.K = S.K) (ha : PE X l (tP S W pa)) : PI X tg l (tI S (Stp S.D) W (.it pa)) := by
  have hk := pi_seq (tg := tg) ha
  rw [hK] at hk
  exact PI.imp hk fun σ H R h => it_i (rel := rT S) (fun U Hs F H x v xs _ r e => walkT r e) h
/-! ### range -/
theorem walkR {F : AS} {H : Hp} {lo hi : Int} {xs : List Val} (e : rangeV lo hi = some xs) : (-(2 ^ 62) ≤ lo ∧ lo < 2 ^ 62 ∧ -(2 ^ 62) ≤ hi ∧ hi < 2 ^ 62) ∧ WalkOk S M xs F H (Itr lo (hi - lo).toNat) := by
  unfold rangeV at e
  split at e
  · rename_i hb
    cases e
    refine ⟨⟨hb.1, hb.2.1, hb.2.2.1, hb.2.2.2.1⟩, _, _, by rw [List.length_map, List.length_range]; exact walk_range, fun _ _ _ => trivial, fun i F1 H1 v H2 g1 hi' _ f gr y => ?_⟩
    obtain ⟨rfl, rfl⟩ := y
    rw [List.length_map, List.length_range] at hi'
    refine ⟨F1, .int (lo + i), PSt.refl f, ?_, by simp only [Rep]⟩
    rw [List.getElem?_map, List.getElem?_range hi']
    rfl
  · cases e
theorem pi_rngG2 {tg a b : Expr} {pa pb : PX} {p pos : Pos} (hg : Gl X "range") (hm : X.mg "range" = none) (na : noStar a = true) (nb : noStar b = true) (ha : PE X a (tP S W pa)) (hb : PE X b (tP S W pb)) : PI X tg (.Call (.Name "range" p) [a, b] [] pos) (tI S M W (.rng pa pb)) := by
  have hk := pi_range2 (tg := tg) (p := p) (pos := pos) hg hm (pa_cons ha (pa_cons hb pa_nil (starEach_no nb)) (starEach_no na)) (by rw [starEach_no na, starEach_no nb]; rfl) (by rw [starEach_no nb]; rfl)
  refine PI.imp hk fun σ H R h => ?_
  refine tG_then (rel1 := rT S) (f := evP S pa) (k := fun x e g => (ev S.C S.B pb e g).bind fun y g => (asInt x g).bind fun lo g => (asInt y g).bind fun hi g => .of (rangeV lo hi) g) (rW_ok S M) h fun x g1 v F1 U H0 e H1 m rl r1 => ?_
  obtain ⟨_, _, _, rl⟩ := rl
  refine ⟨F1, U, H0, e, g1, m, resF_mono (resF_bind (rel1 := rT S) (rW_ok S M) r1) fun y g2 _ hk w F2 H2 st gr rl2 => ?_⟩
  have r2 := hk w F2 H2 st gr rl2
  obtain ⟨lo, rfl, r3⟩ := asInt_ok r2
  obtain ⟨hi, rfl, r4⟩ := asInt_ok r3
  obtain ⟨xs, h1, h2⟩ := resF_of r4
  obtain ⟨b1, b2⟩ := walkR (S := S) (M := M) (F := F2) (H := H2) h1
  cases RepT_int.mp rl
  cases RepT_int.mp rl2
  exact ⟨lo, hi, rfl, b1, h2 _ F2 H2 (Stp.refl st.frz) gr b2⟩
theorem pi_rngG1 {tg b : Expr} {pb : PX} {p pos : Pos} (hg : Gl X "range") (hm : X.mg "range" = none) (nb : noStar b = true) (hb : PE X b (tP S W pb)) : PI X tg (.Call (.Name "range" p) [b] [] pos) (tI S M W (.rng (.c (.int 0)) pb)) := by
  have hk := pi_range1 (tg := tg) (p := p) (pos := pos) hg hm (pa_cons hb pa_nil (starEach_no nb)) (by rw [starEach_no nb]; rfl)
  refine PI.imp hk fun σ H R h => ?_
  refine tG_then (rel1 := rT S) (f := evP S pb) (k := fun y _ g => (asInt y g).bind fun hi g => .of (rangeV 0 hi) g) (rW_ok S M) h fun x g1 v F1 U H0 e H1 m rl r1 => ?_
  obtain ⟨_, _, _, rl⟩ := rl
  obtain ⟨hi, rfl, r1⟩ := asInt_ok r1
  obtain ⟨xs, h1, h2⟩ := resF_of r1
  obtain ⟨b1, b2⟩ := walkR (S := S) (M := M) (F := F1) (H := H1) h1
  rw [Int.sub_zero] at b2
  cases RepT_int.mp rl
  exact ⟨hi, rfl, b1.2.2.1, b1.2.2.2, h2 _ F1 H1 (Stp.refl m.frz) m.drw b2⟩
/-! ### enumerate, zip -/
theorem walk_enumT {K : PySem.W.Frag} {a : Addr} {xs : List V} : Walk (IteT K a) xs.length (fun H => SqT K H a xs) (YPair (fun i => some (.int (i : Nat))) (fun i => xs[i]?)) := by
  refine ⟨fun i _ hi q => ⟨xs, xs[i], q, by simp [hi]⟩, fun _ q => ⟨xs, q, rfl⟩, fun i H v H' _ q y => ?_⟩
  obtain ⟨T, x, h1, h2, h3, h4⟩ := y
  exact ⟨T, .int (i : Nat), x, h1, h2, h3, rfl, h4 xs q⟩
theorem walk_zipT {K : PySem.W.Frag} {a b : Addr} {xs ys : List V} {n : Nat} (hn : n = min xs.length ys.length) : Walk (RZ.ItzT K a b) n (fun H => SqT K H a xs ∧ SqT K H b ys) (YPair (fun i => xs[i]?) (fun i => ys[i]?)) := by
  subst hn
  refine ⟨fun i _ hi q => ?_, fun _ q => ⟨xs, ys, q.1, q.2, by omega⟩, fun i H v H' _ q y => ?_⟩
  · have l1 : i < xs.length := by omega
    have l2 : i < ys.length := by omega
    exact ⟨xs, ys, xs[i], ys[i], q.1, q.2, by simp [l1], by simp [l2]⟩
  · obtain ⟨T, x, z, h1, h2, h3, h4, h5⟩ := y
    exact ⟨T, x, z, h1, h2, h3, h4 xs q.1, h5 ys q.2⟩
theorem enumV_len : ∀ (xs : List Val) (k : Nat), (enumV k xs).length = xs.length
  | [], _ => rfl
  | _ :: xs, k => by simp only [enumV, List.length_cons, enumV_len xs]
theorem enumV_at : ∀ (xs : List Val) (k i : Nat) (x : Val), xs[i]? = some x → (enumV k xs)[i]? = some (.tup [.int (k + i : Nat), x])
  | [], _, _, _, e => by simp at e
  | y :: xs, k, 0, x, e => by simp at e; subst e; simp [enumV]
  | y :: xs, k, i + 1, x, e => by
    have q := enumV_at xs (k + 1) i x (by simpa using e)
    simp only [enumV, List.getElem?_cons_succ, q]
    congr 4
    omega
theorem zipV_len : ∀ (xs ys : List Val), (zipV xs ys).length = min xs.length ys.length
  | [], ys => by simp [zipV]
  | _ :: _, [] => by simp [zipV]
  | x :: xs, y :: ys => by simp only [zipV, List.length_cons, zipV_len xs ys]; omega
theorem zipV_at : ∀ (xs ys : List Val) (i : Nat) (x y : Val), xs[i]? = some x → ys[i]? = some y → (zipV xs ys)[i]? = some (.tup [x, y])
  | [], _, _, _, _, e, _ => by simp at e
  | _ :: _, [], _, _, _, _, e => by simp at e
  | a :: xs, b :: ys, 0, x, y, e1, e2 => by simp at e1 e2; subst e1; subst e2; simp [zipV]
  | a :: xs, b :: ys, i + 1, x, y, e1, e2 => by
    simp only [zipV, List.getElem?_cons_succ]
    exact zipV_at xs ys i x y (by simpa using e1) (by simpa using e2)
/-- a new pair -/
theorem pairNew {F : AS} {H : Hp} {g : DrawSt} {T : Addr} {x y : Val} {v w : V} (f : FOk S.D F H) (gr : GRel S.D g H) (hT : H T = none) (hx : Rep S.K S.D F H x v) (hy : Rep S.K S.D F H y w) :
    ∃ F2, PSt S.D F F2 H (upd H T (.tup [v, w])) ∧ Rep S.K S.D F2 (upd H T (.tup [v, w])) (.tup [x, y]) (.ref T) := by
  obtain ⟨F2, s1, s2⟩ := new_tup (K := S.K) (xs := [x, y]) (vs := [v, w]) f gr hT (by simp only [Reps]; exact ⟨v, _, rfl, hx, w, _, rfl, hy, rfl⟩)
  exact ⟨F2, s1, s2⟩
theorem walkEn {F : AS} {H : Hp} {x : Val} {v : V} {xs : List Val} (ok : MOk S.D M) (h : Rep S.K S.D F H x v) (e : items x = some xs) :
    ∃ a vs, v = .ref a ∧ ((SqL S.K H a vs ∧ WalkOk S M (enumV 0 xs) F H (Ite S.K a)) ∨ (SqT S.K H a vs ∧ WalkOk S M (enumV 0 xs) F H (IteT S.K a))) := by
  have fin : ∀ {vs : List V}, Reps S.K S.D F H xs vs → ∀ i F1 H1 w H2 g1, i < (enumV 0 xs).length → M F F1 H H1 → FOk S.D F1 H1 → GRel S.D g1 H1 → YPair (fun i => some (.int (i : Nat))) (fun i => vs[i]?) i H1 w H2 → ∃ F2 x, PSt S.D F1 F2 H1 H2 ∧ (enumV 0 xs)[i]? = some x ∧ Rep S.K S.D F2 H2 x w := by
    intro vs h2 i F1 H1 w H2 g1 hi m f gr y
    obtain ⟨T, p, q, rfl, hT, rfl, h3, h4⟩ := y
    cases h3
    obtain ⟨z, e1, e2⟩ := Reps.at (h2.fst (ok _ _ _ _ m)) h4
    obtain ⟨F2, s1, s2⟩ := pairNew (x := .int (i : Nat)) (v := .int (i : Nat)) f gr hT (by simp only [Rep]) e2
    exact ⟨F2, _, s1, by rw [enumV_at xs 0 i z e1, Nat.zero_add], s2⟩
  cases x <;> try exact nomatch (show (none : Option (List Val)) = some xs from e)
  · cases e
    obtain ⟨a, vs, rfl, h1, h2⟩ := Rep_tup.mp h
    exact ⟨a, vs, rfl, .inr ⟨h1.sq, _, _, by rw [enumV_len, ← h2.length]; exact walk_enumT (K := S.K) (a := a) (xs := vs), fun F1 H1 m => (h1.mono (ok _ _ _ _ m).sub (ok _ _ _ _ m).kp).sq, fin h2⟩⟩
  · cases e
    simp only [Rep] at h
    obtain ⟨a, vs, rfl, h0, h1, h2⟩ := h
    exact ⟨a, vs, rfl, .inl ⟨SqL.of h1, _, _, by rw [enumV_len, ← h2.length]; exact walk_enum (K := S.K) (a := a) (xs := vs), fun F1 H1 m => SqL.of ((ok _ _ _ _ m).kp a _ h0 h1), fin h2⟩⟩
theorem pi_enmG {b : Expr} {pb : PX} {p pos tpos : Pos} {elts : List Expr} {kk : Nat} (hK : X.K = S.K) (ok : MOk S.D M) (hg : Gl X "enumerate") (hm : X.mg "enumerate" = none) (nb : noStar b = true) (hb : PE X b (tE S W pb)) :
    PI X (.Tuple elts kk tpos) (.Call (.Name "enumerate" p) [b] [] pos) (tI S M W (.enm pb)) := by
  have hk := pi_enumA (p := p) (pos := pos) (tpos := tpos) (elts := elts) (kk := kk) hg hm (pa_cons hb pa_nil (starEach_no nb)) (by rw [starEach_no nb]; rfl)
  rw [hK] at hk
  refine PI.imp hk fun σ H R h => ?_
  refine tG_then (rel1 := rE S) (f := evP S pb) (k := fun x _ g => .of ((items x).map (enumV 0)) g) (rW_ok S M) h fun x g1 v F1 U H0 e H1 m rl r1 => ?_
  obtain ⟨_, _, _, rl⟩ := rl
  obtain ⟨ys, h1, h2⟩ := resF_of r1
  simp only [Option.map_eq_some_iff] at h1
  obtain ⟨xs, h1, rfl⟩ := h1
  obtain ⟨a, vs, rfl, q⟩ := walkEn (M := M) ok rl h1
  refine ⟨a, vs, rfl, ?_⟩
  rcases q with ⟨q1, q2⟩ | ⟨q1, q2⟩
  · exact .inl ⟨q1, h2 _ F1 H1 (Stp.refl m.frz) m.drw q2⟩
  · exact .inr ⟨q1, h2 _ F1 H1 (Stp.refl m.frz) m.drw q2⟩
end
end Pm
set_option Elab.async false
set_option linter.all false
set_option autoImplicit false
set_option maxRecDepth 100000
set_option maxHeartbeats 4000000
namespace Pm
open PySem L2 PySem.Spec PyProof.Rows

/-! ### comprehensions of any number of clauses -/
abbrev nope : Value → Shared → Prop := fun _ _ => False
/-- what a turn does behind its tests -/
def innerW (P : Program) (w : World) (A : Around) (env : PySem.Env) (elt : Expr) (gens : List Comprehension) (scope : Scope) (pos : Pos) (d : Nat) (acc : Value) (Q : Shared → Prop) (s : Shared) : Prop :=
  match gens[d]? with
  | some c => (c.is_async = 0 ∧ ∀ x, foldedSetIterable c.iter env x = pure x) ∧ wpAny (model P w) A (eval c.iter env) (fun x s1 => wpAny (model P w) A (pyIter x) (fun it s2 =>
      codeAny (model P w) A (.compStart (.ListComp elt gens scope pos) d it acc env) (fun r s' => match r with | .ok _ => Q s' | .error _ => False) s2) nope s1) nope s
  | none => wpAny (model P w) A (eval elt env) (fun x s1 => wpAny (model P w) A (call (.builtin "list.append") [acc, x]) (fun _ s2 => Q s2) nope s1) nope s
abbrev testsW (ifs : List Expr) (env : PySem.Env) : Sem Bool := forIn ifs true fun c r => if r = true then do let ok ← isTrue c env (eval c env); pure (ForInStep.yield ok) else pure (ForInStep.yield r)
section
variable {P : Program} {w : World} {A : Around} {R : Result → Shared → Prop} {s : Shared} {elt tg iter : Expr} {ifs : List Expr} {gens : List Comprehension} {scope : Scope} {pos : Pos} {it acc : Value} {env : PySem.Env} {d : Nat}
theorem loopG (hd : gens[d]? = some ⟨tg, iter, ifs, 0⟩) (I : Nat → Shared → Prop)
    (turn : ∀ n s, I n s → wpAny (model P w) A (pyNext it) (fun r s1 => match r with
      | none => R (.ok .next) s1
      | some v => wpAny (model P w) A (letOwnedTupleGo tg it v) (fun _ s2 => wpAny (model P w) A (assign tg env v) (fun _ s3 => wpAny (model P w) A (testsW ifs env) (fun k s4 =>
          if k = true then innerW P w A env elt gens scope pos (d + 1) acc (fun s5 => ∃ m, m < n ∧ I m s5) s4 else ∃ m, m < n ∧ I m s4) nope s3) nope s2) nope s1) nope s)
    (n : Nat) (h : I n s) : codeAny (model P w) A (.compLoop (.ListComp elt gens scope pos) d it acc env) R s := by
  refine codeAny_loop rfl I (fun n s hI => ?_) n h
  show wpAny _ A ((compTurn (.ListComp elt gens scope pos) d it acc env).onRaise (fun x => do noteFrame x env; theTreesLotGoes x)) _ _ s
  refine wpAny_noted ?_
  unfold compTurn
  simp only [hd]
  refine wpAny_bind (wpAny_standAt (wpAny_bind (thnF (turn n s hI) fun r s1 h1 => ?_)))
  cases r with
  | none => exact wpAny_pure h1
  | some v =>
    refine wpAny_bind (thnF h1 fun _ s2 h2 => wpAny_bind (thnF h2 fun _ s3 h3 => wpAny_bind (thnF h3 fun k s4 h4 => ?_)))
    cases k with
    | false => exact wpAny_pure ⟨rfl, h4⟩
    | true =>
      simp only [if_true] at h4 ⊢
      unfold innerW at h4
      cases hq : gens[d + 1]? with
      | none =>
        rw [hq] at h4
        exact wpAny_bind (wpAny_bind (thnF h4 fun x s5 h5 => wpAny_bind (thnF h5 fun _ s6 h6 => wpAny_pure (wpAny_pure ⟨rfl, h6⟩))))
      | some c =>
        rw [hq] at h4
        obtain ⟨⟨ha, hf⟩, h4⟩ := h4
        have hb : (c.is_async != 0) = false := by rw [ha]; rfl
        simp only [hb, Bool.false_eq_true, if_false]
        refine wpAny_bind (thnF h4 fun x s5 h5 => wpAny_bind (wpAny_standAt (wpAny_bind (wpAny_of_eq (hf x) (wpAny_bind (wpAny_holding (thnF h5 fun it1 s6 h6 => ?_)))))))
        refine wpAny_bind (wpAny_runOwn ?_)
        rw [Around.mark_none]
        refine codeAny_mono h6 fun r s' hr => ?_
        cases r with
        | ok f => first | exact wpAny_pure ⟨rfl, hr⟩ | exact wpAny_bind (wpAny_pure (wpAny_pure ⟨rfl, hr⟩))
        | error e => exact hr.elim
theorem startG (hd : gens[d]? = some ⟨tg, iter, ifs, 0⟩) (h0 : codeAny (model P w) A (.compLoop (.ListComp elt gens scope pos) d it acc env) R s)
    (h : wpAny (model P w) A (pyIter it) (fun it' s' => codeAny (model P w) A (.compLoop (.ListComp elt gens scope pos) d it' acc env) R s') (notedBy (model P w) A env fun x s' => R (.error x) s') s) :
    codeAny (model P w) A (.compStart (.ListComp elt gens scope pos) d it acc env) R s := by
  refine codeAny_of_tree ?_
  show wpAny _ _ ((compStart (.ListComp elt gens scope pos) d it acc env).onRaise (fun x => do noteFrame x env; standAt theWindowsPlace)) _ _ s
  refine wpAny_notedAt ?_
  unfold compStart
  have hcl : clausesOf (.ListComp elt gens scope pos) = gens := rfl
  simp only [hcl, hd]
  refine wpAny_bind (wpAny_askSetting (wpAny_ite ?_))
  split
  · first
      | exact wpAny_bind (wpAny_pure (wpAny_pure (And.intro rfl h0)))
      | exact wpAny_pure (And.intro rfl h0)
  · exact wpAny_bind (wpAny_rule (wpAny_bind (wpAny_standAt (wpAny_bind (wpAny_mono h (fun it' s' h' => wpAny_pure (And.intro rfl h')) fun _ _ x => x)))))
end
end Pm
set_option Elab.async false
set_option linter.all false
set_option autoImplicit false
set_option maxRecDepth 100000
set_option maxHeartbeats 4000000
namespace Pm
open PySem L2 PySem.Spec PyProof.Rows
abbrev TC := L2.St → Hp → (Hp → Prop) → Prop
theorem innerW_mono {P : Program} {w : World} {A : Around} {env : PySem.Env} {elt : Expr} {gens : List Comprehension} {scope : Scope} {pos : Pos} {d : Nat} {acc : Value} {Q Q' : Shared → Prop} {s : Shared}
    (h : innerW P w A env elt gens scope pos d acc Q s) (k : ∀ s, Q s → Q' s) : innerW P w A env elt gens scope pos d acc Q' s := by
  unfold innerW at h ⊢
  cases hq : gens[d]? with
  | none =>
    rw [hq] at h
    exact thnF h fun x s1 h1 => thnF h1 fun _ s2 h2 => k s2 h2
  | some c =>
    rw [hq] at h
    refine ⟨h.1, thnF h.2 fun x s1 h1 => thnF h1 fun it s2 h2 => codeAny_mono h2 fun r s' hr => ?_⟩
    cases r with
    | ok _ => exact k s' hr
    | error _ => exact hr
/-- what a clause does, from its source on -/
structure PC (Y : Cx) (elt : Expr) (gens : List Comprehension) (scope : Scope) (pos : Pos) (d : Nat) (L : Addr) (vs : List Nat) (t : TC) : Prop where
  run : ∀ (pins : List (Addr × Obj)) (s : Shared) (σ : L2.St) (H : Hp) (Q : Hp → Prop), Inv Y pins σ H s → t σ H Q →
    innerW Y.prog Y.w Y.A Y.env elt gens scope pos d (.ref L) (fun s' => ∃ σ' H', Inv Y pins σ' H' s' ∧ σ'.length = σ.length ∧ (∀ (j : Nat) v, (wipe σ vs)[j]? = some (some v) → σ'[j]? = some (some v)) ∧ Q H') s
def tEmit (te : TE) (L : Addr) : TC := fun σ H Q => te σ H fun y H1 => ∃ acc, H1 L = some (.lst acc) ∧ acc.length < sizeLine ∧ Q (upd H1 L (.lst (acc ++ [y])))
/-- the turns of a source -/
def tTurns (g : TG) (tt : TT) (body : TC) (vs : List Nat) (σ : L2.St) (J : It) (H1 : Hp) (Nx : Hp → Prop) : Prop :=
  ∃ W : Nat → Nat → Hp → Prop, (∃ m, W 0 m H1) ∧ ∀ i m H, W i m H → (J.stop i H ∧ Nx H) ∨ (J.go i H ∧ ∃ N1 : Hp → Prop, (∀ H', N1 H' → ∃ m', m' < m ∧ W (i + 1) m' H') ∧
    ∀ x H', J.yld i H x H' → g x (wipe σ vs) H' fun σ2 H2 => wipe σ2 vs = wipe σ vs ∧ tt σ2 H2 fun b H3 => if b = true then body σ2 H3 N1 else N1 H3)
def tClause (wi : TI) (g : TG) (tt : TT) (body : TC) (vs : List Nat) : TC := fun σ H Nx => wi σ H fun J H1 => tTurns g tt body vs σ J H1 Nx
section
variable {Y : Cx} {elt tg iter : Expr} {ifs : List Expr} {gens : List Comprehension} {scope : Scope} {pos : Pos} {d : Nat} {L : Addr} {vs vs1 : List Nat} {g : TG} {tt : TT} {te : TE} {body : TC} {wi : TI}
theorem pc_emit (hx : Y.xe = nope) (hd : gens[d]? = none) (he : PE Y elt te) : PC Y elt gens scope pos d L [] (tEmit te L) := by
  refine ⟨fun pins s σ H Q I h => ?_⟩
  unfold innerW
  rw [hd]
  have hr := he.run pins s σ H _ I h
  rw [hx] at hr
  refine thnF hr fun x s1 ⟨y, H1, I1, r1, acc, h1, h2, h3⟩ => ?_
  exact app_ok I1 h1 h2 r1 fun s2 I2 => ⟨σ, _, I2, rfl, fun j v e => e, h3⟩
theorem runLoop (hx : Y.xe = nope) (hc : Y.calm = true) (hd : gens[d]? = some ⟨tg, iter, ifs, 0⟩) {pins : List (Addr × Obj)} {s : Shared} {σ : L2.St} {H : Hp} {it : Addr} {fp : List Addr} {tn : Nat → Heap → Prop} {J : It} {Nx : Hp → Prop}
    (T : Turn Y.prog Y.w Y.K tg J fp it tn) (I : Inv Y pins (wipe σ vs) H s) (st : tn 0 s.heap) (fn : ∀ b ∈ fp, H b = none) (fx : ∀ σ' H' s', Inv Y pins σ' H' s' → (∀ b ∈ fp, H' b = none) → ∀ b ∈ fp, FpOk Y pins H' b)
    (pg : PG Y tg g) (pt : PTs Y ifs tt) (pc : PC Y elt gens scope pos (d + 1) L vs1 body) (hv : ∀ i ∈ vs1, i ∈ vs) (h : tTurns g tt body vs σ J H Nx) :
    codeAny (model Y.prog Y.w) Y.A (.compLoop (.ListComp elt gens scope pos) d (.ref it) (.ref L) Y.env) (fun r s' => r = .ok .next ∧ ∃ H', Inv Y pins (wipe σ vs) H' s' ∧ Nx H') s := by
  obtain ⟨W, ⟨m0, w0⟩, turn⟩ := h
  refine loopG hd (fun n s' => ∃ i H', Inv Y pins (wipe σ vs) H' s' ∧ tn i s'.heap ∧ (∀ b ∈ fp, H' b = none) ∧ W i n H') ?_ m0 ⟨0, H, I, st, fn, w0⟩
  rintro n s5 ⟨i, H5, I5, st5, n5, w5⟩
  rcases turn i n H5 w5 with ⟨stop, qq⟩ | ⟨go, N1, hN1, step⟩
  · refine thnF (T.done Y rfl rfl rfl hc i pins s5 _ H5 nope I5 (fx _ _ _ I5 n5) st5 stop) fun r s6 ⟨hr, I6⟩ => ?_
    subst hr
    exact ⟨rfl, H5, I6, qq⟩
  · refine thnF (T.item Y rfl rfl rfl hc i pins s5 _ H5 nope I5 (fx _ _ _ I5 n5) st5 go) fun r s6 ⟨u, hr, h6⟩ => ?_
    subst hr
    refine thnF h6 fun _ s7 ⟨x, H7, I7, r7, y7, st7, n7⟩ => ?_
    have Ip := I7.pinned (fx _ _ _ I7 n7) (T.obj _ _ st7)
    have h8 := pg.run _ s7 _ H7 x u _ Ip r7 (step x H7 y7)
    rw [hx] at h8
    refine thnF h8 fun _ s8 ⟨σ8, H8, I8, hw8, q8⟩ => ?_
    have h9 := pt.run _ s8 σ8 H8 _ I8 q8
    rw [hx] at h9
    refine thnF h9 fun b s9 ⟨H9, I9, q9⟩ => ?_
    have hl8 : (wipe σ vs).length = σ8.length := by rw [← hw8, wipe_length]
    have back : ∀ {s' : Shared} {σ' : L2.St} {H' : Hp}, Inv Y (pins ++ pinsAt fp s7.heap) σ' H' s' → σ'.length = σ8.length → (∀ (j : Nat) v, (wipe σ8 vs1)[j]? = some (some v) → σ'[j]? = some (some v)) → N1 H' →
        ∃ m, m < n ∧ ∃ i H', Inv Y pins (wipe σ vs) H' s' ∧ tn i s'.heap ∧ (∀ b ∈ fp, H' b = none) ∧ W i m H' := fun {s' σ' H'} I' hl hk nx => by
      obtain ⟨m', hm, w'⟩ := hN1 H' nx
      have stays : ∀ b ∈ fp, ∀ o, s7.heap.get? b = some o → s'.heap.get? b = some o ∧ H' b = none := fun b hb o e =>
        let z := I'.pin (b, o) (List.mem_append_right _ (List.mem_append_right _ (mem_pinsAt hb e)))
        ⟨z.1, z.2.1⟩
      refine ⟨m', hm, i + 1, H', (I'.unpinned (pins := pins)).weak (hl8.trans hl.symm) (fun j v e => ?_), T.keep _ _ _ st7 fun b hb o e => (stays b hb o e).1, fun b hb => ?_, w'⟩
      · rw [← hw8] at e
        obtain ⟨e1, e2⟩ := wipe_some e
        exact hk j v (by rw [wipe_out fun z => e2 (hv j z)]; exact e1)
      · obtain ⟨o, e, _⟩ := T.obj _ _ st7 b hb
        exact (stays b hb o e).2
    cases b with
    | false =>
      simp only [Bool.false_eq_true, if_false] at q9 ⊢
      exact back I9 rfl (fun j v e => (wipe_some e).1) q9
    | true =>
      simp only [if_true] at q9 ⊢
      exact innerW_mono (pc.run _ s9 σ8 H9 N1 I9 q9) fun s' ⟨σ', H', I', hl, hk, nx⟩ => back I' hl hk nx
theorem pc_clause (hx : Y.xe = nope) (hc : Y.calm = true) (hd : gens[d]? = some ⟨tg, iter, ifs, 0⟩) (hf : ∀ x, foldedSetIterable iter Y.env x = pure x) (pi : PI Y tg iter wi) (pg : PG Y tg g) (pt : PTs Y ifs tt) (pc : PC Y elt gens scope pos (d + 1) L vs1 body) (hv : ∀ i ∈ vs1, i ∈ vs) :
    PC Y elt gens scope pos d L vs (tClause wi g tt body vs) := by
  refine ⟨fun pins s σ H Q I h => ?_⟩
  unfold innerW
  rw [hd]
  refine ⟨⟨rfl, hf⟩, ?_⟩
  have h1 := pi.run pins s σ H _ I h
  rw [hx] at h1
  refine thnF h1 fun x s1 h2 => thnF h2 fun itv s2 h3 => ?_
  obtain ⟨it, fp, tn, J, H2, e, I2, T, st2, f2, q⟩ := h3
  subst e
  have Iw : Inv Y pins (wipe σ vs) H2 s2 := I2.weak (wipe_length _ _) fun j v e => (wipe_some e).1
  have loop := runLoop (elt := elt) (scope := scope) (pos := pos) hx hc hd T Iw st2 (fun b hb => (f2 b hb).1) (fun σ' H' s' _ hn b hb => ⟨hn b hb, (f2 b hb).2⟩) pg pt pc hv q
  have fin : codeAny (model Y.prog Y.w) Y.A (.compLoop (.ListComp elt gens scope pos) d (.ref it) (.ref L) Y.env) (fun r s' => match r with | .ok _ => ∃ σ' H', Inv Y pins σ' H' s' ∧ σ'.length = σ.length ∧ (∀ (j : Nat) v, (wipe σ vs)[j]? = some (some v) → σ'[j]? = some (some v)) ∧ Q H' | .error _ => False) s2 :=
    codeAny_mono loop fun r s' ⟨hr, H', I', q'⟩ => by
      subst hr
      exact ⟨_, H', I', wipe_length _ _, fun j v e => e, q'⟩
  exact startG hd fin (T.self Y.A 0 _ _ _ st2 fin)
end
section
variable {X : Cx}
/-- a whole comprehension; L the new list -/
def tLcN (wi : TI) (g : TG) (tt : TT) (body : Addr → TC) (vs : List Nat) : TE := fun σ H Q => wi σ H fun J H1 => ∀ L, H1 L = none → tTurns g tt (body L) vs σ J (upd H1 L (.lst [])) fun H' => Q (.ref L) H'
abbrev inBlk (X : Cx) (scope : Scope) (p : Cx → Prop) : Prop := ∀ (s : Shared) (H : Hp) (C : Addr) (cl : List (Str × Addr)) (fp : List Addr), p (X.blk s H scope (compEnvC scope cl C X.env) fp)
theorem lcN_core {pins : List (Addr × Obj)} {s : Shared} {σ : L2.St} {H : Hp} {Q : VK} {elt tg iter : Expr} {ifs : List Expr} {gens : List Comprehension} {scope : Scope} {own : List (Str × Nat)} {vs1 : List Nat} {pos pos' : Pos} {wi : TI} {g : TG} {tt : TT} {body : Addr → TC} {use : Option (Value → Sem Unit)} {Qf : Value → Shared → Prop}
    (hc : X.calm = true) (hN : X.N.Nodup) (I : Inv X pins σ H s) (hi : PI X tg iter wi) (ok : BlkOk X.N X.env.scope scope own) (hs : ∀ x, foldedSetIterable iter X.env x = pure x)
    (hb : inBlk X scope fun Y => PG Y tg g ∧ PTs Y ifs tt ∧ ∀ L, PC Y elt (⟨tg, iter, ifs, 0⟩ :: gens) scope pos 1 L vs1 (body L)) (hv : ∀ i ∈ vs1, i ∈ own.map (·.2)) (h : tLcN wi g tt body (own.map (·.2)) σ H Q)
    (hRR : ∀ D C s' m H', Inv X pins σ H' s' → Q (.ref D) H' → s'.heap.Ns C m → FpOk X pins H' C → compPost (model X.prog X.w) X.A X.xe use Qf (.ref D) C (.ok .next) s') :
    wpAny (model X.prog X.w) X.A (comprehension (.ListComp elt (⟨tg, iter, ifs, 0⟩ :: gens) scope pos) scope X.env pos' (newList []) false (eval iter X.env) use) Qf X.xe s := by
  have hfree : ∀ y ∈ scope.names, y.2 = .free → ∃ c, X.env.cells.lookup y.1 = some c := fun y hy e => (ok.free y hy e).elim (fun k => I.ok.has _ (.inl k)) fun k => I.ok.has _ (.inr k)
  refine wpAny_comprehension_free (use := use) rfl hs (closure_ok hfree) ok.kind (fun y hy e => by rw [ok.uniq y hy, e]) (thn (hi.run pins s σ H _ I h) fun xv s1 hx => thn hx fun itv s2 h2 => ?_)
  obtain ⟨it, fp, tn, J, H2, e, I2, T, st2, f2, q⟩ := h2
  subst e
  refine wpAny_newObj_type (newEnv_comp ?_) (by show 0 ≤ sizeLine; decide)
  generalize hL : s2.heap.objs.size = L
  replace q := q L (I2.hok.fresh (Nat.le_of_eq hL))
  generalize hs3 : ({ s2 with heap := s2.heap.push { cls := .type "list", data := .seq ([] : List Value).toArray } } : Shared) = s3
  have I3 : Inv X pins σ (upd H2 L (.lst [])) s3 := by
    rw [← hs3]
    exact I2.laid (t' := s2.toks) (fun b o e => Heap.get?_push_of_some _ e) (Nat.le_of_eq hL) ⟨Nat.zero_le _, [], 0, .nil, by rw [← hL]; exact Heap.get?_push_size _ rfl⟩
  have hh : s3.heap = s2.heap.push { cls := .type "list", data := .seq ([] : List Value).toArray } := by rw [← hs3]
  have f3 : ∀ b ∈ fp, FpOk X pins (upd H2 L (.lst [])) b ∧ b < s3.heap.objs.size := fun b hb => by
    obtain ⟨o, e, _⟩ := T.obj _ _ st2 b hb
    have hlt := Heap.lt_size e
    refine ⟨⟨?_, (f2 b hb).2⟩, by rw [hh, Heap.size_push]; exact Nat.lt_succ_of_lt hlt⟩
    rw [upd_ne (by rw [← hL]; exact Nat.ne_of_lt hlt)]
    exact (f2 b hb).1
  have I4 := block_start I3 ok hN f3
  generalize upd H2 L (.lst []) = H3 at q I3 f3 I4 ⊢
  obtain ⟨pg, pt, pcs⟩ := hb s3 H3 s3.heap.objs.size (cellsFrom (s3.heap.objs.size + 1) scope.names (cloFrom X.env.cells scope.names [])) fp
  replace pcs := pcs L
  have st3 : tn 0 (pushCells (s3.heap.push { cls := .type "dict", data := .dict #[] }) scope.names) := T.keep _ _ _ st2 fun b _ o e => pushCells_keeps _ _ _ _ (Heap.get?_push_of_some _ (by rw [hh]; exact Heap.get?_push_of_some _ e))
  show codeAny _ _ (.compStart (.ListComp elt (⟨tg, iter, ifs, 0⟩ :: gens) scope pos) 0 (.ref it) (.ref L) (compEnvC scope (cellsFrom (s3.heap.objs.size + 1) scope.names (cloFrom X.env.cells scope.names [])) s3.heap.objs.size X.env)) (compPost (model X.prog X.w) X.A X.xe use Qf (.ref L) s3.heap.objs.size) { s3 with heap := pushCells (s3.heap.push { cls := .type "dict", data := .dict #[] }) scope.names }
  generalize hce : compEnvC scope (cellsFrom (s3.heap.objs.size + 1) scope.names (cloFrom X.env.cells scope.names [])) s3.heap.objs.size X.env = ce at I4 pg pt pcs ⊢
  have cL : ce.locals = s3.heap.objs.size := by subst hce; rfl
  generalize hs4 : ({ s3 with heap := pushCells (s3.heap.push { cls := .type "dict", data := .dict #[] }) scope.names } : Shared) = s4 at I4 ⊢
  have st4 : tn 0 s4.heap := by rw [← hs4]; exact st3
  have hd : (⟨tg, iter, ifs, 0⟩ :: gens : List Comprehension)[0]? = some ⟨tg, iter, ifs, 0⟩ := rfl
  have stat : ∀ σ' H' s', Inv (X.blk s3 H3 scope ce fp) [] σ' H' s' → (∀ b ∈ fp, H' b = none) → ∀ b ∈ fp, FpOk (X.blk s3 H3 scope ce fp) [] H' b := fun σ' H' s' I' hn b hb =>
    ⟨hn b hb, (I'.ok.exf b hb).1, I'.ok.exfs b hb, .inl hb, fun x c e => (I'.ok.exf b hb).2 x c e, fun p hp => absurd (show p ∈ ([] : List (Addr × Obj)) ++ [] from hp) (by simp)⟩
  have run := runLoop (Y := X.blk s3 H3 scope ce fp) (elt := elt) (scope := scope) (pos := pos) rfl hc hd T I4 st4 (fun b hb => (f3 b hb).1.1) stat pg pt pcs hv q
  have loop : codeAny (model X.prog X.w) X.A (.compLoop (.ListComp elt (⟨tg, iter, ifs, 0⟩ :: gens) scope pos) 0 (.ref it) (.ref L) ce) (compPost (model X.prog X.w) X.A X.xe use Qf (.ref L) s3.heap.objs.size) s4 := by
    refine codeAny_mono run fun r s6 ⟨hr, H5, I6, qq⟩ => ?_
    subst hr
    have I7 : Inv X pins σ H5 s6 := I3.call' (ch := fp) I6.os I6.base I6.hok I6.bare fun b hb => ⟨(f3 b hb).1.2.2.2.1, (f3 b hb).1.2.1, (f3 b hb).1.2.2.2.2.1, (f3 b hb).1.2.2.2.2.2⟩
    have nC : H5 s3.heap.objs.size = none := cL ▸ (show H5 ce.locals = none from I6.free)
    obtain ⟨m, hn, _⟩ := I6.loc
    exact hRR L s3.heap.objs.size s6 m H5 I7 qq (cL ▸ (show s6.heap.Ns ce.locals m from hn)) (I3.fpOk (Nat.le_refl _) nC)
  exact startG hd loop (T.self X.A 0 _ _ _ st4 loop)
theorem pe_lcN {elt tg iter : Expr} {ifs : List Expr} {gens : List Comprehension} {scope : Scope} {own : List (Str × Nat)} {vs1 : List Nat} {pos : Pos} {wi : TI} {g : TG} {tt : TT} {body : Addr → TC} (hc : X.calm = true) (hN : X.N.Nodup) (hi : PI X tg iter wi) (ok : BlkOk X.N X.env.scope scope own) (hs : ∀ x, foldedSetIterable iter X.env x = pure x)
    (hb : inBlk X scope fun Y => PG Y tg g ∧ PTs Y ifs tt ∧ ∀ L, PC Y elt (⟨tg, iter, ifs, 0⟩ :: gens) scope pos 1 L vs1 (body L)) (hv : ∀ i ∈ vs1, i ∈ own.map (·.2)) :
    PE X (.ListComp elt (⟨tg, iter, ifs, 0⟩ :: gens) scope pos) (tLcN wi g tt body (own.map (·.2))) := by
  refine ⟨fun pins s σ H Q I h => ?_⟩
  rw [eval_ListComp]
  refine lcN_core hc hN I hi ok hs hb hv h fun D C s' m H' I' q hn f => ⟨m, hn, fun h'' sb => ?_⟩
  obtain ⟨f0, f1, f2, f3, f4, f5⟩ := f
  exact ⟨.ref D, H', I'.turned (t' := s'.toks) (fun b o hb e => (sb.2 b hb).trans e) f0 f1 f3 f4 f5, rfl, q⟩
/-- y = [..], the name a local, on one line -/
theorem ps_setLcN {i : Nat} {y : Str} {py : Pos} {elt tg iter : Expr} {ifs : List Expr} {gens : List Comprehension} {scope : Scope} {own : List (Str × Nat)} {vs1 : List Nat} {pos spos : Pos} {wi : TI} {g : TG} {tt : TT} {body : Addr → TC} (hc : X.calm = true) (hN : X.N.Nodup) (hy : X.N[i]? = some y) (hyl : X.env.scope.names.lookup y = some .local)
    (hsw : swapsWith (.ListComp elt (⟨tg, iter, ifs, 0⟩ :: gens) scope pos) (some (.Name y py)) spos.line X.env = pure true) (hi : PI X tg iter wi) (ok : BlkOk X.N X.env.scope scope own) (hs : ∀ x, foldedSetIterable iter X.env x = pure x)
    (hb : inBlk X scope fun Y => PG Y tg g ∧ PTs Y ifs tt ∧ ∀ L, PC Y elt (⟨tg, iter, ifs, 0⟩ :: gens) scope pos 1 L vs1 (body L)) (hv : ∀ i ∈ vs1, i ∈ own.map (·.2)) :
    PS X (.Assign [.Name y py] (.ListComp elt (⟨tg, iter, ifs, 0⟩ :: gens) scope pos) spos) (tAsg (tLcN wi g tt body (own.map (·.2))) (gName i)) := by
  refine ⟨fun pins s σ H D I h => ?_⟩
  rw [exec_Assign_Name_used _ _ _ _ hsw]
  refine wpAny_bind (wpAny_standAt (wpAny_bind ?_))
  show wpAny _ X.A (do let _ ← comprehension (.ListComp elt (⟨tg, iter, ifs, 0⟩ :: gens) scope pos) scope X.env (firstIterPos (⟨tg, iter, ifs, 0⟩ :: gens) pos) (newList []) false (eval iter X.env) (some (assign (.Name y py) X.env))) _ _ s
  have h : tLcN wi g tt body (own.map (·.2)) σ H (fun x H1 => gName i x σ H1 D.nx) := h
  refine wpAny_bind (thn (lcN_core (Qf := fun _ s' => SP X pins D .next s') hc hN I hi ok hs hb hv h fun A C s' m H' I' q hn f => ?_) fun _ s' hq => wpAny_pure (wpAny_pure hq))
  show wpAny _ _ (assign (.Name y py) X.env (.ref A)) _ _ _
  refine wpAny_assign_Name (store_ok2 (v := V.ref A) I' hN hy (.inl hyl) rfl (fun s2 I2 ⟨a, sb, ha⟩ => ?_) (.inr hyl))
  obtain ⟨f0, f1, f2, f3, f4, f5⟩ := f
  have haC : C ≠ a := ha.elim (fun z => by rw [z]; exact f1) fun z e => f4 y a z e.symm
  exact ⟨m, hn.sameBut sb haC, fun h3 sb3 => ⟨_, H', I2.turned (t' := s2.toks) (fun b o hb e => (sb3.2 b hb).trans e) f0 f1 f3 f4 f5, q⟩⟩
end
end Pm
set_option Elab.async false
set_option linter.all false
set_option autoImplicit false
set_option maxRecDepth 100000
set_option maxHeartbeats 4000000
namespace Pm
open PySem L2 PySem.Spec PyProof.Rows

/-! ### a heap without one address -/
def mask (L : Addr) (H : Hp) : Hp := fun a => if a = L then none else H a
section
variable {K : PySem.W.Frag} {D : DA} {mv : Nat → Bool} {F F' F1 : AS} {U : OW} {H0 H H' H1 : Hp} {σ σ' : L2.St} {e e' : Pm.Env} {g g' : DrawSt} {L a : Addr} {o u : HO}
theorem mask_ne (h : a ≠ L) : mask L H a = H a := if_neg h
theorem mask_self : mask L H L = none := if_pos rfl
theorem mask_sub (h : mask L H a = some o) : H a = some o := by
  by_cases q : a = L
  · subst q; rw [mask_self] at h; cases h
  · rw [mask_ne q] at h; exact h
theorem mask_neq (h : mask L H a = some o) : a ≠ L := fun q => by subst q; rw [mask_self] at h; cases h
theorem mask_upd : mask L (upd H L o) = mask L H := by
  funext a
  by_cases q : a = L
  · subst q; rw [mask_self, mask_self]
  · rw [mask_ne q, mask_ne q, upd_ne q]
theorem mask_new (h : H L = none) : mask L H = H := by
  funext a
  by_cases q : a = L
  · subst q; rw [mask_self, h]
  · rw [mask_ne q]
theorem Stp.noL (s : Stp D F F' H H') (hL : H L = some o) (nF : ¬ F L) : ¬ F' L := fun z => by
  rcases s.new L z with z | z
  · exact nF z
  · rw [hL] at z; cases z
theorem Stp.masked (s : Stp D F F' H H') (hL : H L = some o) (nF : ¬ F L) : Stp D F F' (mask L H) (mask L H') := by
  refine ⟨s.sub, fun a z => ?_, fun a o q n => ?_, fun a q => ?_, fun a z => ?_⟩
  · rcases s.new a z with z | z
    · exact .inl z
    · refine .inr ?_
      by_cases q : a = L
      · subst q; exact mask_self
      · rw [mask_ne q]; exact z
  · have ne := mask_neq q
    rw [mask_ne ne]; exact s.keep a o (mask_sub q) n
  · by_cases ne : a = L
    · subst ne; exact mask_self
    · rw [mask_ne ne] at q ⊢; exact s.live a q
  · have ne : a ≠ L := fun w => by subst w; exact s.noL hL nF z
    rw [mask_ne ne]; exact s.frz a z
theorem Rep.masked {x : Val} {v : V} (nF : ¬ F L) (h : Rep K D F H x v) : Rep K D F (mask L H) x v := Rep.mono (fun _ z => z) (fun a o z q => by rw [mask_ne (fun w => nF (by rw [← w]; exact z))]; exact q) x v h
theorem Reps.masked {xs : List Val} {vs : List V} (nF : ¬ F L) (h : Reps K D F H xs vs) : Reps K D F (mask L H) xs vs := Reps.mono (fun _ z => z) (fun a o z q => by rw [mask_ne (fun w => nF (by rw [← w]; exact z))]; exact q) xs vs h
theorem Rep.sup {x : Val} {v : V} (k : ∀ a o, H a = some o → H' a = some o) (h : Rep K D F H x v) : Rep K D F H' x v := Rep.mono (fun _ z => z) (fun a o _ q => k a o q) x v h
theorem Reps.sup {xs : List Val} {vs : List V} (k : ∀ a o, H a = some o → H' a = some o) (h : Reps K D F H xs vs) : Reps K D F H' xs vs := Reps.mono (fun _ z => z) (fun a o _ q => k a o q) xs vs h
theorem Sim.sup (m : Sim K D mv F U H0 σ H e g) (k : ∀ a o, H a = some o → H' a = some o) : Sim K D mv F U H0 σ H' e g := by
  have kn : ∀ a, H' a = none → H a = none := fun a q => by
    cases w : H a with
    | none => rfl
    | some o => rw [k a o w] at q; cases q
  refine ⟨fun i x h => ?_, m.len, fun i a h => ?_, m.mvs, m.inj, fun a z => ⟨fun q => (m.frz a z).1 (kn a q), (m.frz a z).2⟩, m.drw.ext k, fun a o h n => k a o (m.base a o h n), fun a q => m.bfr a (kn a q)⟩
  · obtain ⟨v, h1, h2⟩ := m.var i x h
    refine ⟨v, h1, ?_⟩
    cases q : U i with
    | none => rw [q] at h2; exact Rep.sup k h2
    | some b =>
      rw [q] at h2
      obtain ⟨xs, vs, e1, e2, h3, h4⟩ := h2
      exact ⟨xs, vs, e1, e2, k _ _ h3, h4.sup k⟩
  · obtain ⟨h1, h2, ⟨vs, h3⟩, h4⟩ := m.own i a h
    exact ⟨h1, h2, ⟨vs, k _ _ h3⟩, h4⟩
theorem Sim.unmask (m : Sim K D mv F U H0 σ (mask L H) e g) : Sim K D mv F U H0 σ H e g := m.sup fun _ _ q => mask_sub q
/-! ### slots -/
theorem getE_iff {i : Nat} {x : Val} : getE e i = some x ↔ e[i]? = some (some x) := by
  unfold getE
  cases q : e[i]? with
  | none => simp
  | some o => cases o <;> simp
theorem wipeE_length : ∀ (vs : List Nat) (e : Pm.Env), (wipeE e vs).length = e.length
  | [], _ => rfl
  | v :: vs, e => by unfold wipeE; rw [wipeE_length vs, List.length_set]
theorem wipeE_some : ∀ {vs : List Nat} {e : Pm.Env} {i : Nat} {x : Val}, getE (wipeE e vs) i = some x → getE e i = some x ∧ i ∉ vs
  | [], e, i, x, h => ⟨h, by simp⟩
  | v :: vs, e, i, x, h => by
    unfold wipeE at h
    obtain ⟨h1, h2⟩ := wipeE_some h
    rw [getE_iff] at h1 ⊢
    by_cases q : v = i
    · subst q
      by_cases w : v < e.length
      · rw [List.getElem?_set_self w] at h1; cases h1
      · rw [List.getElem?_eq_none (by simpa using w)] at h1; cases h1
    · rw [List.getElem?_set_ne q] at h1
      exact ⟨h1, by simp only [List.mem_cons, not_or]; exact ⟨fun z => q z.symm, h2⟩⟩
theorem Sim.wiped (m : Sim K D mv F U H0 σ H e g) (vs : List Nat) : Sim K D mv F U H0 (wipe σ vs) H (wipeE e vs) g := by
  refine ⟨fun i x h => ?_, by rw [wipe_length, wipeE_length]; exact m.len, m.own, m.mvs, m.inj, m.frz, m.drw, m.base, m.bfr⟩
  obtain ⟨h1, h2⟩ := wipeE_some h
  obtain ⟨v, h3, h4⟩ := m.var i x h1
  exact ⟨v, by rw [wipe_out h2]; exact h3, h4⟩
/-- slots that are empty in e may be forgotten -/
theorem Sim.weaker (m : Sim K D mv F U H0 σ H e g) (hl : σ'.length = σ.length) (hk : ∀ (i : Nat) x, getE e i = some x → σ'[i]? = σ[i]?) : Sim K D mv F U H0 σ' H e g := by
  refine ⟨fun i x h => ?_, hl.trans m.len, m.own, m.mvs, m.inj, m.frz, m.drw, m.base, m.bfr⟩
  obtain ⟨v, h3, h4⟩ := m.var i x h
  exact ⟨v, (hk i x h).trans h3, h4⟩
/-! ### targets -/
mutual
def slots : Tgt → List Nat
  | .nm i => [i]
  | .tp ts => slotss ts
def slotss : List Tgt → List Nat
  | [] => []
  | t :: ts => slots t ++ slotss ts
end
/-- from slots and an environment to later ones: those of T are new, frozen values -/
structure BRel (K : PySem.W.Frag) (D : DA) (F : AS) (H : Hp) (T : List Nat) (σ σ' : L2.St) (e e' : Pm.Env) : Prop where
  sl : σ'.length = σ.length
  el : e'.length = e.length
  at_ : ∀ i : Nat, (σ'[i]? = σ[i]? ∧ e'[i]? = e[i]?) ∨ (i ∈ T ∧ ∃ x v, e'[i]? = some (some x) ∧ σ'[i]? = some (some v) ∧ Rep K D F H x v)
  out : ∀ i : Nat, i ∉ T → σ'[i]? = σ[i]? ∧ e'[i]? = e[i]?
theorem BRel.refl {T : List Nat} : BRel K D F H T σ σ e e := ⟨rfl, rfl, fun _ => .inl ⟨rfl, rfl⟩, fun _ _ => ⟨rfl, rfl⟩⟩
theorem BRel.trans {T1 T2 : List Nat} {σ2 : L2.St} {e2 : Pm.Env} (a : BRel K D F H T1 σ σ' e e') (b : BRel K D F H T2 σ' σ2 e' e2) : BRel K D F H (T1 ++ T2) σ σ2 e e2 := by
  refine ⟨b.sl.trans a.sl, b.el.trans a.el, fun i => ?_, fun i hi => ?_⟩
  · rcases b.at_ i with ⟨q1, q2⟩ | ⟨h, q⟩
    · rcases a.at_ i with ⟨p1, p2⟩ | ⟨h, x, v, p1, p2, p3⟩
      · exact .inl ⟨q1.trans p1, q2.trans p2⟩
      · exact .inr ⟨List.mem_append_left _ h, x, v, q2.trans p1, q1.trans p2, p3⟩
    · exact .inr ⟨List.mem_append_right _ h, q⟩
  · simp only [List.mem_append, not_or] at hi
    exact ⟨(b.out i hi.2).1.trans (a.out i hi.1).1, (b.out i hi.2).2.trans (a.out i hi.1).2⟩
theorem BRel.one {i : Nat} {x : Val} {v : V} (hi : i < e.length) (hl : σ.length = e.length) (h : Rep K D F H x v) : BRel K D F H [i] σ (σ.set i (some v)) e (e.set i (some x)) := by
  refine ⟨by rw [List.length_set], by rw [List.length_set], fun j => ?_, fun j hj => ?_⟩
  · by_cases q : i = j
    · subst q
      exact .inr ⟨by simp, x, v, List.getElem?_set_self hi, List.getElem?_set_self (by omega), h⟩
    · exact .inl ⟨List.getElem?_set_ne q, List.getElem?_set_ne q⟩
  · have q : i ≠ j := fun z => hj (by simp [z])
    exact ⟨List.getElem?_set_ne q, List.getElem?_set_ne q⟩
theorem BRel.wipe {T vs : List Nat} (b : BRel K D F H T σ σ' e e') (hT : ∀ i ∈ T, i ∈ vs) : L2.wipe σ' vs = L2.wipe σ vs := by
  apply List.ext_getElem?
  intro i
  by_cases hi : i ∈ vs
  · have key : ∀ (τ : L2.St), τ.length = σ.length → (L2.wipe τ vs)[i]? = if i < σ.length then some none else none := fun τ hl => by
      clear b hT
      induction vs with
      | nil => cases hi
      | cons v r ih =>
        unfold L2.wipe
        by_cases q : v = i
        · subst q
          by_cases w : v < σ.length
          · rw [List.getElem?_set_self (by rw [wipe_length]; omega), if_pos w]
          · rw [if_neg w, List.getElem?_eq_none (by rw [List.length_set, wipe_length]; omega)]
        · rw [List.getElem?_set_ne q]
          exact ih (by rcases List.mem_cons.mp hi with z | z
                       · exact absurd z.symm q
                       · exact z)
    rw [key σ' b.sl, key σ rfl]
  · rw [wipe_out hi, wipe_out hi]
    exact (b.out i fun z => hi (hT i z)).1
theorem Sim.bound {T : List Nat} (m : Sim K D mv F U H0 σ H e g) (b : BRel K D F H T σ σ' e e') (hm : ∀ i ∈ T, mv i = false) : Sim K D mv F U H0 σ' H e' g := by
  have hU : ∀ i ∈ T, U i = none := fun i hi => by
    cases q : U i with
    | none => rfl
    | some a => have := m.mvs i a q; rw [hm i hi] at this; cases this
  refine ⟨fun i x h => ?_, by rw [b.sl, b.el]; exact m.len, m.own, m.mvs, m.inj, m.frz, m.drw, m.base, m.bfr⟩
  rw [getE_iff] at h
  rcases b.at_ i with ⟨p1, p2⟩ | ⟨hi, y, v, p1, p2, p3⟩
  · obtain ⟨v, h1, h2⟩ := m.var i x (getE_iff.mpr (p2 ▸ h))
    exact ⟨v, p1.trans h1, h2⟩
  · rw [p1] at h
    cases h
    refine ⟨v, p2, ?_⟩
    rw [hU i hi]
    exact p3
end
section
variable {K : PySem.W.Frag} {D : DA}
/-- a store to a target: the value stands by what is kept in Hm -/
def gG (K : PySem.W.Frag) (D : DA) (t : Tgt) : TG := fun v σ H Q => ∃ F Hm x e e', (∀ a o, Hm a = some o → H a = some o) ∧ Rep K D F Hm x v ∧ σ.length = e.length ∧ bindT t x e = some e' ∧ ∀ σ', BRel K D F Hm (slots t) σ σ' e e' → Q σ' H
def gGs (K : PySem.W.Frag) (D : DA) (ts : List Tgt) : TGs := fun vs σ H Q => ∃ F Hm xs e e', (∀ a o, Hm a = some o → H a = some o) ∧ Reps K D F Hm xs vs ∧ σ.length = e.length ∧ bindTs ts xs e = some e' ∧ ∀ σ', BRel K D F Hm (slotss ts) σ σ' e e' → Q σ' H
variable {X : Cx}
theorem PG.imp {tg : Expr} {t t' : TG} (h : PG X tg t) (k : ∀ v σ H Q, t' v σ H Q → t v σ H Q) : PG X tg t' := ⟨fun pins s σ H v u Q I r q => h.run pins s σ H v u Q I r (k v σ H Q q)⟩
theorem PGs.imp {tg : List Expr} {t t' : TGs} (h : PGs X tg t) (k : ∀ v σ H Q, t' v σ H Q → t v σ H Q) : PGs X tg t' := ⟨fun pins s σ H v u Q I r q => h.run pins s σ H v u Q I r (k v σ H Q q)⟩
theorem pg_nm {i : Nat} {x : Str} {pos : Pos} (h : PG X (.Name x pos) (gName i)) : PG X (.Name x pos) (gG K D (.nm i)) := PG.imp h fun v σ H Q ⟨F, Hm, y, e, e', hs, hr, hl, hb, k⟩ => by
  simp only [bindT] at hb
  split at hb
  · cases hb
    exact k _ (by simp only [slots]; exact BRel.one (by assumption) hl hr)
  · cases hb
theorem pgs_nilG : PGs X [] (gGs K D []) := PGs.imp pgs_nil fun vs σ H Q ⟨F, Hm, xs, e, e', hs, hr, hl, hb, k⟩ => by
  cases xs with
  | nil =>
    simp only [bindTs, Option.some.injEq] at hb
    subst hb
    simp only [Reps] at hr
    exact ⟨hr, k σ BRel.refl⟩
  | cons _ _ => simp only [bindTs] at hb; cases hb
theorem pgs_consG {e : Expr} {es : List Expr} {t : Tgt} {ts : List Tgt} (h1 : PG X e (gG K D t)) (h2 : PGs X es (gGs K D ts)) (hs : (assignEach (e :: es) X.env).map (·.2) = assign e X.env :: (assignEach es X.env).map (·.2)) : PGs X (e :: es) (gGs K D (t :: ts)) :=
  PGs.imp (pgs_cons h1 h2 hs) fun vs σ H Q ⟨F, Hm, xs, en, e', hs, hr, hl, hb, k⟩ => by
    cases xs with
    | nil => simp only [bindTs] at hb; cases hb
    | cons x xs =>
      simp only [Reps] at hr
      obtain ⟨v, r, rfl, r1, r2⟩ := hr
      simp only [bindTs] at hb
      split at hb
      · rename_i e1 hb1
        refine ⟨v, r, rfl, F, Hm, x, en, e1, hs, r1, hl, hb1, fun σ1 b1 => ?_⟩
        exact ⟨F, Hm, xs, e1, e', hs, r2, by rw [b1.sl, b1.el]; exact hl, hb, fun σ2 b2 => k σ2 (by simp only [slotss]; exact b1.trans b2)⟩
      · cases hb
theorem bindTs_len : ∀ {ts : List Tgt} {xs : List Val} {e e' : Pm.Env}, bindTs ts xs e = some e' → xs.length = ts.length
  | [], [], _, _, _ => rfl
  | [], _ :: _, _, _, h => by simp only [bindTs] at h; cases h
  | _ :: _, [], _, _, h => by simp only [bindTs] at h; cases h
  | t :: ts, y :: ys, e, e', h => by
    simp only [bindTs] at h
    split at h
    · rw [List.length_cons, List.length_cons, bindTs_len h]
    · cases h
theorem pg_tpG {es : List Expr} {ts : List Tgt} {k : Nat} {pos : Pos} (hK : X.K = K) (hc : X.calm = true) (h : PGs X es (gGs K D ts)) (hn : (assignEach es X.env).length = ts.length) (hst : (assignEach es X.env).findIdx? (·.1) = none) : PG X (.Tuple es k pos) (gG K D (.tp ts)) := by
  refine PG.imp (pg_tup hc h hn hst) fun v σ H Q ⟨F, Hm, x, e, e', hs, hr, hl, hb, kq⟩ => ?_
  cases x <;> simp only [bindT] at hb <;> try (cases hb; done)
  rename_i xs
  simp only [Rep] at hr
  obtain ⟨a, vs, rfl, h1, h2⟩ := hr
  have hlen := bindTs_len hb
  rw [hK]
  exact ⟨a, vs, rfl, (h1.mono (fun _ z => z) fun a o _ q => hs a o q).sq, by rw [h2.length, hlen], F, Hm, xs, e, e', hs, h2, hl, hb, fun σ' b => kq σ' (by simp only [slots]; exact b)⟩
end
end Pm
set_option Elab.async false
set_option linter.all false
set_option autoImplicit false
set_option maxRecDepth 100000
set_option maxHeartbeats 4000000
namespace Pm
open PySem L2 PySem.Spec PyProof.Rows
section
variable {K : PySem.W.Frag} {D : DA} {mv : Nat → Bool} {F F' F1 : AS} {U : OW} {H0 H H' H1 : Hp} {σ σ' : L2.St} {e e' : Pm.Env} {g g' : DrawSt} {L a : Addr} {o u : HO}
theorem GRel.masked (h : GRel D g H) (n : ¬ D.has L) : GRel D g (mask L H) := by
  have q : ∀ a, D.has a → mask L H a = H a := fun a ha => mask_ne fun z => n (z ▸ ha)
  exact ⟨(q _ (.inl rfl)).trans h.gm, (q _ (.inr (.inl rfl))).trans h.gc, (q _ (.inr (.inr rfl))).trans h.gg, h.cl, h.gl, h.ce⟩
theorem GRel.unmask (h : GRel D g (mask L H)) : GRel D g H := h.ext fun _ _ q => mask_sub q
theorem wipe_ext {vs : List Nat} (hl : σ'.length = σ.length) (h : ∀ i : Nat, i ∉ vs → σ'[i]? = σ[i]?) : wipe σ' vs = wipe σ vs := by
  apply List.ext_getElem?
  intro i
  by_cases hi : i ∈ vs
  · have key : ∀ (τ : L2.St), τ.length = σ.length → (L2.wipe τ vs)[i]? = if i < σ.length then some none else none := fun τ hl => by
      clear h
      induction vs with
      | nil => cases hi
      | cons v r ih =>
        unfold L2.wipe
        by_cases q : v = i
        · subst q
          by_cases w : v < σ.length
          · rw [List.getElem?_set_self (by rw [wipe_length]; omega), if_pos w]
          · rw [if_neg w, List.getElem?_eq_none (by rw [List.length_set, wipe_length]; omega)]
        · rw [List.getElem?_set_ne q]
          exact ih (by rcases List.mem_cons.mp hi with z | z
                       · exact absurd z.symm q
                       · exact z)
    rw [key σ' hl, key σ rfl]
  · rw [wipe_out hi, wipe_out hi]
    exact h i hi
theorem Sim.subE (m : Sim K D mv F U H0 σ H e g) (hl : e'.length = e.length) (h : ∀ i x, getE e' i = some x → getE e i = some x) : Sim K D mv F U H0 σ H e' g :=
  ⟨fun i x q => m.var i x (h i x q), by rw [hl]; exact m.len, m.own, m.mvs, m.inj, m.frz, m.drw, m.base, m.bfr⟩
/-- outside the new list nothing is lost -/
def Mc (D : DA) : Md := fun F F' H H' => ∃ L, H L = none ∧ Stp D F F' H (mask L H')
theorem mok_mc : MOk D (Mc D) := fun F F1 H H1 ⟨L, _, s⟩ => ⟨s.sub, fun a o z q => mask_sub (s.keep a o q (s.frz a (s.sub a z)).2)⟩
def MTop (D : DA) (M : Md) : Prop := MOk D M ∧ ∀ F F1 H H1 a vs, M F F1 H H1 → H a = some (.lst vs) → ¬ D.has a → H1 a = some (.lst vs)
theorem mtop_mc : MTop D (Mc D) := ⟨mok_mc, fun F F1 H H1 a vs ⟨L, _, s⟩ q n => mask_sub (s.keep a _ q n)⟩
end
section
variable {X : Cx} {S : Sx} {W : WX} {M : Md}
theorem walkTop (hM : MTop S.D M) {F : AS} {H : Hp} {x : Val} {v : V} {xs : List Val} (h : RepT S.K S.D F H x v) (e : items x = some xs) :
    ∃ a, v = .ref a ∧ (((∃ vs, SqL S.K H a vs) ∧ WalkOk S M xs F H (Itl S.K a)) ∨ ((∃ vs, SqT S.K H a vs) ∧ WalkOk S M xs F H (Itt S.K a))) := by
  cases x with
  | lst ys =>
    cases e
    obtain ⟨a, vs, rfl, h0, h1, h2⟩ := RepT_lst.mp h
    refine ⟨a, rfl, .inl ⟨⟨vs, SqL.of h1⟩, _, _, by rw [← h2.length]; exact walk_list (K := S.K) (a := a) (xs := vs), fun F1 H1 m => SqL.of (hM.2 _ _ _ _ a vs m h1 h0), fun i F1 H1 w H2 g1 hi m f gr y => ?_⟩⟩
    obtain ⟨rfl, y⟩ := y
    obtain ⟨z, e1, e2⟩ := Reps.at (h2.fst (hM.1 _ _ _ _ m)) y
    exact ⟨F1, z, PSt.refl f, e1, e2⟩
  | tup ys => exact walkE hM.1 (x := .tup ys) h e
  | _ => exact nomatch (show (none : Option (List Val)) = some xs from e)
theorem pi_itTop (hM : MTop S.D M) {tg l : Expr} {pa : PX} (hK : X.K = S.K) (ha : PE X l (tP S W pa)) : PI X tg l (tI S M W (.it pa)) := by
  have hk := pi_seq (tg := tg) ha
  rw [hK] at hk
  exact PI.imp hk fun σ H R h => it_i (rel := rT S) (fun U Hs F H x v xs _ r e => walkTop hM r e) h
/-- a clause's part: acc stands at L -/
def tBd (S : Sx) (L : Addr) (vs : List Nat) (f : Pm.Env → DrawSt → R (List Val)) : TC := fun σ H Q => ∃ F U H0 e g acc ws, Sim S.K S.D S.mv F U H0 σ (mask L H) e g ∧ (∀ i ∈ vs, getE e i = none) ∧ H L = some (.lst ws) ∧ ¬ S.D.has L ∧ Reps S.K S.D F (mask L H) acc ws ∧
  ∃ ys g', f e g = .ok ys g' ∧ acc.length + ys.length ≤ lim ∧ ∀ F' H' ws', Stp S.D F F' (mask L H) (mask L H') → GRel S.D g' (mask L H') → H' L = some (.lst ws') → Reps S.K S.D F' (mask L H') (acc ++ ys) ws' → Q H'
theorem bind_ok {α β : Type} {r : R α} {f : α → DrawSt → R β} {y : β} {g' : DrawSt} (h : r.bind f = .ok y g') : ∃ x g1, r = .ok x g1 ∧ f x g1 = .ok y g' := by
  cases r with
  | ok x g1 => exact ⟨x, g1, rfl, h⟩
  | exc c fs g1 => cases h
  | bad => cases h
theorem of_ok {α : Type} {o : Option α} {g g' : DrawSt} {x : α} (h : R.of o g = .ok x g') : o = some x ∧ g = g' := by
  cases o with
  | none => cases h
  | some y => cases h; exact ⟨rfl, rfl⟩
theorem notF {F : AS} {H : Hp} {L : Addr} {D : DA} (f : FOk D F (mask L H)) : ¬ F L := fun z => (f L z).1 mask_self
theorem emit_i {pa : PX} {L : Addr} {vs : List Nat} {σ : L2.St} {H : Hp} {Q : Hp → Prop} (h : tBd S L vs (fun e g => evG S.C S.B (.yld pa) e g) σ H Q) : tEmit (tE S W pa) L σ H Q := by
  obtain ⟨F, U, H0, e, g, acc, ws, m, _, hL, nL, ra, ys, g', hf, hle, k⟩ := h
  replace hf : (ev S.C S.B pa e g).bind (fun x g => R.ok [x] g) = .ok ys g' := hf
  obtain ⟨x, g1, h1, h2⟩ := bind_ok hf
  cases h2
  refine ⟨F, U, H0, e, g, m.unmask, ?_⟩
  have nF := notF m.frz
  show resF S W (rE S) U F H σ (ev S.C S.B pa e g) _
  rw [h1]
  intro v F1 H1 st gr rv
  have stm := st.masked hL nF
  have nF1 := st.noL hL nF
  refine ⟨ws, st.keep L _ hL nL, ?_, ?_⟩
  · have := ra.length
    have : lim < sizeLine := by decide
    simp only [List.length_singleton] at hle
    omega
  · refine k F1 _ (ws ++ [v]) (by rw [mask_upd]; exact stm) (by rw [mask_upd]; exact gr.masked nL) upd_same ?_
    rw [mask_upd]
    refine (ra.stp stm).append ?_
    simp only [Reps]
    exact ⟨v, [], rfl, Rep.masked nF1 rv, rfl⟩
theorem turns_len {f : Val → DrawSt → R (List Val)} : ∀ {xs acc : List Val} {g g' : DrawSt} {ys : List Val}, turns f xs acc g = .ok ys g' → acc.length ≤ ys.length
  | [], acc, g, g', ys, h => by simp only [turns] at h; cases h; exact Nat.le_refl _
  | x :: xs, acc, g, g', ys, h => by
    simp only [turns] at h
    obtain ⟨zs, g1, _, h2⟩ := bind_ok h
    try dsimp only at h2
    split at h2
    · have := turns_len h2
      rw [List.length_append] at this
      omega
    · cases h2
theorem turns_le {f : Val → DrawSt → R (List Val)} : ∀ {xs acc : List Val} {g g' : DrawSt} {ys : List Val}, turns f xs acc g = .ok ys g' → acc.length ≤ lim → ys.length ≤ lim
  | [], acc, g, g', ys, h, k => by simp only [turns] at h; cases h; exact k
  | x :: xs, acc, g, g', ys, h, _ => by
    simp only [turns] at h
    obtain ⟨zs, g1, _, h2⟩ := bind_ok h
    try dsimp only at h2
    split at h2
    · exact turns_le h2 (by rw [List.length_append]; assumption)
    · cases h2
/-- what one turn does -/
abbrev turnF (S : Sx) (t : Tgt) (c inner : PX) (e : Pm.Env) : Val → DrawSt → R (List Val) := fun x g => (R.of (bindT t x e) g).bind fun e' g => (ev S.C S.B c e' g).bind fun b g => (R.of (truth b) g).bind fun k g => match k with
  | true => evG S.C S.B inner e' g
  | false => .ok [] g
theorem turns_i {t : Tgt} {c inner : PX} {L : Addr} {vs vs1 : List Nat} {F1 : AS} {U : OW} {H0 H1 Hs : Hp} {σ : L2.St} {e : Pm.Env} {g1 g' : DrawSt} {xs acc ys : List Val} {ws : List V} {J : It} {Nx : Hp → Prop}
    (ht : ∀ i ∈ slots t, i ∈ vs ∧ S.mv i = false ∧ i ∉ vs1) (hv : ∀ i ∈ vs1, i ∈ vs)
    (hM : ∀ F' H', Stp S.D F1 F' (mask L Hs) (mask L H') → M F1 F' H1 H')
    (m : Sim S.K S.D S.mv F1 U H0 σ (mask L Hs) e g1) (hn : ∀ i ∈ vs, getE e i = none) (hL : Hs L = some (.lst ws)) (nL : ¬ S.D.has L) (ra : Reps S.K S.D F1 (mask L Hs) acc ws)
    (wk : WalkOk S M xs F1 H1 J) (hf : turns (turnF S t c inner e) xs [] g1 = .ok ys g') (hle : acc.length + ys.length ≤ lim)
    (k : ∀ F' H' ws', Stp S.D F1 F' (mask L Hs) (mask L H') → GRel S.D g' (mask L H') → H' L = some (.lst ws') → Reps S.K S.D F' (mask L H') (acc ++ ys) ws' → Nx H') :
    tTurns (gG S.K S.D t) (tT S W c) (tBd S L vs1 fun e g => evG S.C S.B inner e g) vs σ J Hs Nx := by
  obtain ⟨G, Y, w, hG, hY⟩ := wk
  let Iv : Nat → Hp → Prop := fun i H => ∃ F' gi pre ws', Stp S.D F1 F' (mask L Hs) (mask L H) ∧ GRel S.D gi (mask L H) ∧ H L = some (.lst ws') ∧ Reps S.K S.D F' (mask L H) (acc ++ pre) ws' ∧ turns (turnF S t c inner e) (xs.drop i) pre gi = .ok ys g'
  refine ⟨fun i n H => n = xs.length - i ∧ i ≤ xs.length ∧ Iv i H, ⟨xs.length, by simp, Nat.zero_le _, F1, g1, [], ws, Stp.refl m.frz, m.drw, hL, by simpa using ra, hf⟩, ?_⟩
  rintro i n H ⟨rfl, hi, F', gi, pre, ws', st, gr, hw, rp, ht1⟩
  have gG' : G H := hG F' H (hM F' H st)
  by_cases hlt : i < xs.length
  · refine .inr ⟨w.goes i H hlt gG', Iv (i + 1), fun H' q => ⟨xs.length - (i + 1), by omega, rfl, hlt, q⟩, fun v H2 y => ?_⟩
    have nF' := notF st.frz
    have fok : FOk S.D F' H := fun a z => by
      obtain ⟨h1, h2⟩ := st.frz a z
      exact ⟨fun q => h1 (by by_cases z : a = L
                             · subst z; exact mask_self
                             · rw [mask_ne z]; exact q), h2⟩
    obtain ⟨F2, x, ps, hx, rx⟩ := hY i F' H v H2 gi hlt (hM F' H st) fok gr.unmask (w.yields i H v H2 hlt gG' y)
    have stp2 := ps.stp
    have st2 := stp2.masked hw nF'
    have nF2 := stp2.noL hw nF'
    have hw2 : H2 L = some (.lst ws') := ps.ext L _ hw
    have hdrop : xs.drop i = x :: xs.drop (i + 1) := by
      rw [List.drop_eq_getElem_cons hlt]
      rw [List.getElem?_eq_getElem hlt] at hx
      cases hx
      rfl
    rw [hdrop] at ht1
    simp only [turns] at ht1
    obtain ⟨zs, g2, hz, ht2⟩ := bind_ok ht1
    try dsimp only at ht2
    split at ht2
    case isFalse => cases ht2
    case isTrue hlz =>
    obtain ⟨e', g3, hb0, hz1⟩ := bind_ok hz
    obtain ⟨hb, eg3⟩ := of_ok hb0
    subst eg3
    obtain ⟨b, g4, hc, hz2⟩ := bind_ok hz1
    obtain ⟨kk, g5, hk0, hz3⟩ := bind_ok hz2
    obtain ⟨hk, eg5⟩ := of_ok hk0
    subst eg5
    refine ⟨F2, mask L H2, x, e, e', fun a o q => mask_sub q, Rep.masked nF2 rx, by rw [wipe_length]; exact m.len, hb, fun σ2 br => ⟨?_, ?_⟩⟩
    · refine (br.wipe fun i q => (ht i q).1).trans ?_
      exact wipe_ext (wipe_length _ _) fun i q => wipe_out q
    · have m2 : Sim S.K S.D S.mv F2 U H0 σ2 (mask L H2) e' gi := by
        have ma : Sim S.K S.D S.mv F1 U H0 (wipe σ vs) (mask L Hs) e g1 := m.weaker (wipe_length _ _) fun i x q => wipe_out fun z => by rw [hn i z] at q; cases q
        exact (ma.stp (st.trans st2) (gr.ext fun a o q => by rw [mask_ne (mask_neq q)]; exact ps.ext a o (mask_sub q))).bound br fun i q => (ht i q).2.1
      refine ⟨F2, U, H0, e', gi, m2.unmask, ?_⟩
      show resF S W rId U F2 H2 σ2 ((ev S.C S.B c e' gi).bind fun x g => R.of (truth x) g) _
      rw [hc]
      show resF S W rId U F2 H2 σ2 (R.of (truth b) g4) _
      rw [hk]
      intro bb F3 H3 st3 gr3 hbb
      cases hbb
      have st3m := st3.masked hw2 nF2
      have nF3 := st3.noL hw2 nF2
      have hw3 : H3 L = some (.lst ws') := st3.keep L _ hw2 nL
      have rp3 := (rp.stp st2).stp st3m
      have hpz : pre.length + zs.length ≤ ys.length := by have := turns_len ht2; rw [List.length_append] at this; exact this
      cases kk with
      | false =>
        cases hz3
        simp only [Bool.false_eq_true, if_false]
        exact ⟨F3, _, pre, ws', (st.trans st2).trans st3m, gr3.masked nL, hw3, rp3, by simpa using ht2⟩
      | true =>
        simp only [if_true]
        refine ⟨F3, U, H0, e', g4, acc ++ pre, ws', m2.stp st3m (gr3.masked nL), fun j hj => ?_, hw3, nL, rp3, zs, g2, hz3, by rw [List.length_append]; omega, fun F4 H4 ws4 st4 gr4 hw4 rp4 => ?_⟩
        · have := (br.out j fun z => (ht j z).2.2 hj).2
          have h0 := hn j (hv j hj)
          unfold getE at h0 ⊢
          rw [this]; exact h0
        · exact ⟨F4, g2, pre ++ zs, ws4, ((st.trans st2).trans st3m).trans st4, gr4, hw4, by rw [← List.append_assoc]; exact rp4, ht2⟩
  · have hi' : i = xs.length := by omega
    subst hi'
    refine .inl ⟨w.stops H gG', ?_⟩
    rw [List.drop_length] at ht1
    simp only [turns] at ht1
    cases ht1
    exact k F' H ws' st gr hw rp
theorem clause_i {t : Tgt} {s c inner : PX} {L : Addr} {vs vs1 : List Nat} {σ : L2.St} {H : Hp} {Q : Hp → Prop} (ht : ∀ i ∈ slots t, i ∈ vs ∧ S.mv i = false ∧ i ∉ vs1) (hv : ∀ i ∈ vs1, i ∈ vs)
    (h : tBd S L vs (fun e g => evG S.C S.B (.gen t s c inner) e g) σ H Q) : tClause (tI S (Fst S.D) W s) (gG S.K S.D t) (tT S W c) (tBd S L vs1 fun e g => evG S.C S.B inner e g) vs σ H Q := by
  obtain ⟨F, U, H0, e, g, acc, ws, m, hn, hL, nL, ra, ys, g', hf, hle, k⟩ := h
  replace hf : (evS S.C S.B s e g).bind (fun xs g => turns (turnF S t c inner e) xs [] g) = .ok ys g' := hf
  obtain ⟨xs, g1, h1, h2⟩ := bind_ok hf
  refine ⟨F, U, H0, e, g, m.unmask, ?_⟩
  show resF S W (rW S (Fst S.D)) U F H σ (evS S.C S.B s e g) _
  rw [h1]
  intro J F1 H1 st gr wk
  have nF := notF m.frz
  have stm := st.masked hL nF
  have nF1 := st.noL hL nF
  refine turns_i (M := Fst S.D) ht hv (fun F' H' s' => ⟨s'.sub, fun a o z q => ?_⟩) (m.stp stm (gr.masked nL)) hn (st.keep L _ hL nL) nL (ra.stp stm) wk h2 hle fun F' H' ws' s' => k F' H' ws' (stm.trans s')
  have ne : a ≠ L := fun w => nF1 (by rw [← w]; exact z)
  exact mask_sub (s'.keep a o (by rw [mask_ne ne]; exact q) (s'.frz a (s'.sub a z)).2)
theorem comp_i {W' : WX} {t : Tgt} {s c inner : PX} {own vs1 : List Nat} {σ : L2.St} {H : Hp} {Q : VK} (ht : ∀ i ∈ slots t, i ∈ own ∧ S.mv i = false ∧ i ∉ vs1) (hv : ∀ i ∈ vs1, i ∈ own)
    (h : tN S W (.comp own t s c inner) σ H Q) : tLcN (tI S (Mc S.D) W s) (gG S.K S.D t) (tT S W' c) (fun L => tBd S L vs1 fun e g => evG S.C S.B inner e g) own σ H Q := by
  have h' : tG S W (rN S) (fun e g => (evS S.C S.B s e g).bind fun xs g => (turns (turnF S t c inner (wipeE e own)) xs [] g).nox.bind fun ys g => .ok (.lst ys) g) σ H Q := by
    obtain ⟨F, U, H0, e, g, m, r⟩ := h
    refine ⟨F, U, H0, e, g, m, ?_⟩
    exact r
  refine tG_then (rel1 := rW S (Mc S.D)) (k := fun xs e g => (turns (turnF S t c inner (wipeE e own)) xs [] g).nox.bind fun ys g => .ok (.lst ys) g) rN_ok h' fun xs g1 J F1 U H0 e H1 m rl r L hL => ?_
  obtain ⟨_, _, _, wk⟩ := rl
  have nL := nothas m.drw hL
  try dsimp only at r
  cases q : turns (turnF S t c inner (wipeE e own)) xs [] g1 with
  | bad => rw [q] at r; exact False.elim r
  | exc _ _ _ => rw [q] at r; exact False.elim r
  | ok ys g' =>
    rw [q] at r
    replace r : resF S W (rN S) U F1 H1 σ (.ok (.lst ys) g') _ := r
    have hle : ys.length ≤ lim := by
      cases xs with
      | nil => simp only [turns] at q; cases q; exact Nat.zero_le _
      | cons x xs => exact turns_le q (Nat.zero_le _)
    have em : mask L (upd H1 L (.lst [])) = H1 := by rw [mask_upd, mask_new hL]
    refine turns_i (M := Mc S.D) ht hv (fun F' H' s' => ⟨L, hL, by rw [em] at s'; exact s'⟩) (e := wipeE e own) (by rw [em]; exact m.subE (wipeE_length _ _) fun i x z => (wipeE_some z).1) (fun i hi => ?_) upd_same nL (acc := []) (by simp only [Reps]) wk q (by simpa using hle) fun F' H' ws' s' gr' hw' rp' => ?_
    · cases w : getE (wipeE e own) i with
      | none => rfl
      | some x => exact absurd hi (wipeE_some w).2
    · rw [em] at s'
      have nF' := notF s'.frz
      refine r (.ref L) F' H' ⟨s'.sub, s'.new, fun a o z n => mask_sub (s'.keep a o z n), fun a z => s'.live a ?_, fun a z => ⟨fun w => (s'.frz a z).1 ?_, (s'.frz a z).2⟩⟩ gr'.unmask ⟨L, ws', rfl, hL, nF', nL, hw', ?_⟩
      · by_cases ne : a = L
        · subst ne; exact mask_self
        · rw [mask_ne ne]; exact z
      · by_cases ne : a = L
        · subst ne; exact mask_self
        · rw [mask_ne ne]; exact w
      · exact Reps.sup (fun _ _ z => mask_sub z) rp'
end
end Pm
set_option Elab.async false
set_option linter.all false
set_option autoImplicit false
set_option maxRecDepth 100000
set_option maxHeartbeats 4000000
namespace Pm
open PySem L2 PySem.Spec PyProof.Rows

/-! ### statements -/
inductive ST where
  | skip | bad
  | seq (a b : ST)
  | asg (t : Tgt) (a : PX)
  | asgN (i : Nat) (a : PX)
  | par (ts : List (Nat × Bool)) (as : PX)
  | aug (i : Nat) (o : Bool) (a : PX)
  | setI (i : Nat) (k a : PX)
  | app (i : Nat) (a : PX)
  | ext (i : Nat) (a : PX)
  | appPop (i j : Nat) (k : PX)
  | xpr (a : PX)
  | ife (c : PX) (a b : ST)
  | for_ (t : Tgt) (s : PX) (body : ST)
  | whl (c : PX) (body : ST)
  | ret (a : PX)
  | retN (a : PX)
  | retM (i : Nat)
  | brk | cnt
inductive Fl where
  | nx (e : Pm.Env) | bk (e : Pm.Env) | ct (e : Pm.Env) | rt (v : Val) (b : Bool)

def bindP : List (Nat × Bool) → List Val → Pm.Env → Option Pm.Env
  | [], [], e => some e
  | (i, _) :: ts, x :: xs, e => if i < e.length then bindP ts xs (e.set i (some x)) else none
  | _, _, _ => none
def setV (x : Option Val) (k v : Val) : Option Val := match x, k with
  | some (.lst xs), .int k => (ixN xs.length k).map fun j => .lst (xs.set j v)
  | _, _ => none
def appV (x : Option Val) (v : Val) : Option Val := match x with
  | some (.lst xs) => if xs.length < lim then some (.lst (xs ++ [v])) else none
  | _ => none
def extV (x : Option Val) (v : Val) : Option Val := match x, v with
  | some (.lst xs), .lst zs => if xs.length + zs.length ≤ lim then some (.lst (xs ++ zs)) else none
  | _, _ => none
def popV (x : Option Val) (k : Val) : Option (Val × Val) := match x, k with
  | some (.lst xs), .int k => if xs.length ≤ lim then (ixN xs.length k).bind fun j => (xs[j]?).map fun y => (y, .lst (xs.eraseIdx j)) else none
  | _, _ => none
def lstE (x : Option Val) : Option Val := match x with
  | some (.lst xs) => some (.lst xs)
  | _ => none
def augV (o : Bool) (x : Option Val) (y : Val) : Option Val := match x, y with
  | some (.int i), .int j => some (.int (if o then i - j else i + j))
  | _, _ => none
def forT (f : Val → Pm.Env → DrawSt → R Fl) : List Val → Pm.Env → DrawSt → R Fl
  | [], e, g => .ok (.nx e) g
  | x :: xs, e, g => (f x e g).bind fun fl g => match fl with
    | .nx e => forT f xs e g
    | .ct e => forT f xs e g
    | .bk e => .ok (.nx e) g
    | .rt v b => .ok (.rt v b) g
def whlT (c : Pm.Env → DrawSt → R Bool) (f : Pm.Env → DrawSt → R Fl) : Nat → Pm.Env → DrawSt → R Fl
  | 0, _, _ => .bad
  | n + 1, e, g => (c e g).bind fun b g => match b with
    | true => (f e g).bind fun fl g => match fl with
      | .nx e => whlT c f n e g
      | .ct e => whlT c f n e g
      | .bk e => .ok (.nx e) g
      | .rt v b => .ok (.rt v b) g
    | false => .ok (.nx e) g
def whlMost : Nat := 100000
def putE (e : Pm.Env) (i : Nat) (x : Val) (g : DrawSt) : R Fl := if i < e.length then .ok (.nx (e.set i (some x))) g else .bad
section
variable (C : CallT) (B : Option Nat)
def exs : ST → Pm.Env → DrawSt → R Fl
  | .skip, e, g => .ok (.nx e) g
  | .bad, _, _ => .bad
  | .seq a b, e, g => (exs a e g).bind fun fl g => match fl with
    | .nx e => exs b e g
    | .bk e => .ok (.bk e) g
    | .ct e => .ok (.ct e) g
    | .rt v k => .ok (.rt v k) g
  | .asg t a, e, g => (ev C B a e g).bind fun x g => (R.of (bindT t x e) g).bind fun e g => .ok (.nx e) g
  | .asgN i a, e, g => (ev C B a e g).bind fun x g => putE e i x g
  | .par ts as, e, g => (evs C B as e g).bind fun xs g => (R.of (bindP ts xs e) g).bind fun e g => .ok (.nx e) g
  | .aug i o a, e, g => (R.of (getE e i) g).bind fun x g => (ev C B a e g).bind fun y g => (R.of (augV o (some x) y) g).bind fun z g => putE e i z g
  | .setI i k a, e, g => (ev C B a e g).bind fun x g => (R.of (getE e i) g).bind fun y g => (ev C B k e g).bind fun n g => (R.of (setV (some y) n x) g).bind fun z g => putE e i z g
  | .app i a, e, g => (R.of (lstE (getE e i)) g).bind fun y g => (ev C B a e g).bind fun x g => (R.of (appV (some y) x) g).bind fun z g => putE e i z g
  | .ext i a, e, g => (R.of (lstE (getE e i)) g).bind fun y g => (ev C B a e g).bind fun x g => (R.of (extV (some y) x) g).bind fun z g => putE e i z g
  | .appPop i j k, e, g => (R.of (lstE (getE e i)) g).bind fun y g => (R.of (lstE (getE e j)) g).bind fun z g => (ev C B k e g).bind fun n g => (R.of (popV (some z) n) g).bind fun p g => (R.of (appV (some y) p.1) g).bind fun w g =>
    if i < e.length ∧ j < e.length then .ok (.nx ((e.set j (some p.2)).set i (some w))) g else .bad
  | .xpr a, e, g => (ev C B a e g).bind fun _ g => .ok (.nx e) g
  | .ife c a b, e, g => (ev C B c e g).bind fun x g => (R.of (truth x) g).bind fun k g => match k with
    | true => exs a e g
    | false => exs b e g
  | .for_ t s body, e, g => (evS C B s e g).bind fun xs g => forT (fun x e g => (R.of (bindT t x e) g).bind fun e g => exs body e g) xs e g
  | .whl c body, e, g => whlT (fun e g => (ev C B c e g).bind fun x g => R.of (truth x) g) (fun e g => exs body e g) whlMost e g
  | .ret a, e, g => (ev C B a e g).bind fun x g => .ok (.rt x false) g
  | .retN a, e, g => (ev C B a e g).bind fun x g => .ok (.rt x true) g
  | .retM i, e, g => (R.of (getE e i) g).bind fun x g => .ok (.rt x true) g
  | .brk, e, g => .ok (.bk e) g
  | .cnt, e, g => .ok (.ct e) g
end
/-- a def: how many parameters, how many slots, its body -/
structure Fn where
  ar : Nat
  sl : Nat
  body : ST
def enter (d : Fn) (xs : List Val) : Pm.Env := xs.map some ++ List.replicate (d.sl - d.ar) none
def outOf : Fl → DrawSt → R (Val × Bool)
  | .nx _, g => .ok (.non, false) g
  | .rt v b, g => .ok (v, b) g
  | .bk _, _ => .bad
  | .ct _, _ => .bad
def callF (B : Option Nat) (T : Nat → Option Fn) : Nat → CallT
  | 0, _, _, _ => .bad
  | n + 1, f, xs, g => match T f with
    | none => .bad
    | some d => if xs.length = d.ar ∧ d.ar ≤ d.sl then (exs (callF B T n) B d.body (enter d xs) g).bind fun fl g => outOf fl g else .bad

/-! ### what stands between statements -/
structure FX (F0 : AS) (H0 : Hp) (F : AS) : Prop where
  sub : ∀ a, F0 a → F a
  new : ∀ a, F a → F0 a ∨ H0 a = none
def MvL (mv : Nat → Bool) (U : OW) (e : Pm.Env) : Prop := ∀ i xs, mv i = true → getE e i = some (.lst xs) → ∃ a, U i = some a
abbrev BsT := AS → Hp → Prop
def Stable (D : DA) (Bs : BsT) : Prop := ∀ F F' H H', Bs F H → Fst D F F' H H' → Bs F' H'
def SmS (S : Sx) (F0 : AS) (H0 : Hp) (Bs : BsT) (σ : L2.St) (H : Hp) (e : Pm.Env) (g : DrawSt) : Prop := ∃ F U, Sim S.K S.D S.mv F U H0 σ H e g ∧ FX F0 H0 F ∧ MvL S.mv U e ∧ Bs F H
section
variable (S : Sx) (E : XK) (F0 : AS) (H0 : Hp) (Bs : BsT)
def resS (Dn : Ends) : R Fl → Prop
  | .ok (.nx e) g => ∀ σ H, SmS S F0 H0 Bs σ H e g → Dn.nx σ H
  | .ok (.bk e) g => ∀ σ H, SmS S F0 H0 Bs σ H e g → Dn.bk σ H
  | .ok (.ct e) g => ∀ σ H, SmS S F0 H0 Bs σ H e g → Dn.ct σ H
  | .ok (.rt x b) g => ∀ v F H, Stp S.D F0 F H0 H → GRel S.D g H → (match b with | true => RepN S.K S.D H0 F H x v | false => Rep S.K S.D F H x v) → Dn.rt v H
  | .exc c fs g => ∀ Ca names, S.XT c = some (Ca, names) → ∀ F H dx vs, Stp S.D F0 F H0 H → GRel S.D g H → H dx = some (.xd (names.zip vs)) → Reps S.K S.D F H fs vs → E (.ref Ca) (some dx) H
  | .bad => False
def tSt (f : Pm.Env → DrawSt → R Fl) : TS := fun Dn σ H => ∃ e g, SmS S F0 H0 Bs σ H e g ∧ resS S E F0 H0 Bs Dn (f e g)
end
def Wof (E : XK) : WX := fun C dx _ H => E C dx H
section
variable {K : PySem.W.Frag} {D : DA} {mv : Nat → Bool} {F F' F0 F1 : AS} {U : OW} {H0 H H' H1 : Hp} {σ σ' : L2.St} {e e' : Pm.Env} {g g' : DrawSt} {L a : Addr} {o u : HO}
theorem Sim.out (m : Sim K D mv F U H0 σ H e g) (x : FX F0 H0 F) (s : Stp D F F' H H') : Stp D F0 F' H0 H' := by
  refine ⟨fun a z => s.sub a (x.sub a z), fun a z => ?_, fun a o z n => s.keep a o (m.base a o z n) n, fun a z => m.bfr a (s.live a z), s.frz⟩
  rcases s.new a z with z | z
  · exact x.new a z
  · exact .inr (m.bfr a z)
theorem FX.step (m : Sim K D mv F U H0 σ H e g) (x : FX F0 H0 F) (s : Stp D F F' H H') : FX F0 H0 F' := ⟨fun a z => s.sub a (x.sub a z), fun a z => (s.new a z).elim (x.new a) fun q => .inr (m.bfr a q)⟩
theorem UF_ok (m : Sim K D mv F U H0 σ H e g) : FOk D (UF F U) H := fun a z => by
  rcases z with z | ⟨i, z⟩
  · exact m.frz a z
  · obtain ⟨_, _, ⟨ws, hw⟩, nh⟩ := m.own i a z
    exact ⟨by rw [hw]; simp, nh⟩
/-- all that is owned is frozen -/
theorem Sim.freeze (m : Sim K D mv F U H0 σ H e g) : Sim K D (fun _ => false) (UF F U) (fun _ => none) H0 σ H e g := by
  refine ⟨fun i x h => ?_, m.len, fun i a q => (nomatch q), fun i a q => (nomatch q), fun i j a q => (nomatch q), UF_ok m, m.drw, m.base, m.bfr⟩
  obtain ⟨v, h1, h2⟩ := m.var i x h
  refine ⟨v, h1, ?_⟩
  show Rep K D (UF F U) H x v
  cases q : U i with
  | none => rw [q] at h2; exact Rep.mono (fun _ z => .inl z) (fun _ _ _ z => z) x v h2
  | some a =>
    rw [q] at h2
    obtain ⟨xs, vs, rfl, rfl, h3, h4⟩ := h2
    simp only [Rep]
    exact ⟨a, vs, rfl, .inr ⟨i, q⟩, h3, Reps.mono (fun _ z => .inl z) (fun _ _ _ z => z) xs vs h4⟩
theorem FX.freeze (m : Sim K D mv F U H0 σ H e g) (x : FX F0 H0 F) : FX F0 H0 (UF F U) := ⟨fun a z => .inl (x.sub a z), fun a z => z.elim (x.new a) fun ⟨i, q⟩ => .inr (m.own i a q).2.1⟩
theorem getE_set {i j : Nat} {x : Val} (hi : i < e.length) : getE (e.set i (some x)) j = if i = j then some x else getE e j := by
  unfold getE
  by_cases q : i = j
  · subst q; rw [List.getElem?_set_self hi, if_pos rfl]
  · rw [List.getElem?_set_ne q, if_neg q]
def setU (U : OW) (i : Nat) (o : Option Addr) : OW := fun j => if i = j then o else U j
theorem setU_same {i : Nat} {o : Option Addr} : setU U i o i = o := if_pos rfl
theorem setU_ne {i j : Nat} {o : Option Addr} (h : i ≠ j) : setU U i o j = U j := if_neg h
def OwnP (K : PySem.W.Frag) (D : DA) (F : AS) (U : OW) (H0 H : Hp) (x : Val) (v : V) : Prop := match x with
  | .lst xs => ∃ a vs, v = .ref a ∧ H0 a = none ∧ ¬ F a ∧ ¬ D.has a ∧ H a = some (.lst vs) ∧ Reps K D F H xs vs ∧ ∀ j, U j ≠ some a
  | y => Rep K D F H y v
/-- a slot is given a new list, or something that is no list -/
theorem Sim.own1 {i : Nat} {x : Val} {v : V} (m : Sim K D mv F U H0 σ H e g) (hi : i < e.length) (hm : mv i = true) (h : OwnP K D F U H0 H x v) :
    ∃ U', Sim K D mv F U' H0 (σ.set i (some v)) H (e.set i (some x)) g ∧ (MvL mv U e → MvL mv U' (e.set i (some x))) ∧ ∀ j b, U' j = some b → U j = some b ∨ (v = .ref b ∧ ∃ xs, x = .lst xs) := by
  have key : ∀ o : Option Addr, RepU K D F H o x v → (∀ a, o = some a → ¬ F a ∧ H0 a = none ∧ (∃ vs, H a = some (.lst vs)) ∧ ¬ D.has a ∧ ∀ j, U j ≠ some a) → (∀ xs, x = .lst xs → ∃ a, o = some a) →
      ∃ U', Sim K D mv F U' H0 (σ.set i (some v)) H (e.set i (some x)) g ∧ (MvL mv U e → MvL mv U' (e.set i (some x))) ∧ ∀ j b, U' j = some b → U j = some b ∨ (v = .ref b ∧ ∃ xs, x = .lst xs) := fun o hr ho hl => by
    refine ⟨setU U i o, ⟨fun j y hj => ?_, by rw [List.length_set, List.length_set]; exact m.len, fun j a q => ?_, fun j a q => ?_, fun j k a q1 q2 => ?_, m.frz, m.drw, m.base, m.bfr⟩, fun ml j xs hm' hj => ?_, fun j b q => ?_⟩
    · rw [getE_set hi] at hj
      by_cases q : i = j
      · subst q
        rw [if_pos rfl] at hj
        cases hj
        exact ⟨v, List.getElem?_set_self (by rw [m.len]; exact hi), by rw [setU_same]; exact hr⟩
      · rw [if_neg q] at hj
        obtain ⟨w, h1, h2⟩ := m.var j y hj
        exact ⟨w, by rw [List.getElem?_set_ne q]; exact h1, by rw [setU_ne q]; exact h2⟩
    · by_cases w : i = j
      · subst w
        rw [setU_same] at q
        obtain ⟨h1, h2, h3, h4, _⟩ := ho a q
        exact ⟨h1, h2, h3, h4⟩
      · rw [setU_ne w] at q; exact m.own j a q
    · by_cases w : i = j
      · subst w; exact hm
      · rw [setU_ne w] at q; exact m.mvs j a q
    · by_cases w1 : i = j
      · by_cases w2 : i = k
        · exact w1.symm.trans w2
        · rw [← w1, setU_same] at q1
          rw [setU_ne w2] at q2
          exact absurd q2 ((ho a q1).2.2.2.2 k)
      · by_cases w2 : i = k
        · rw [← w2, setU_same] at q2
          rw [setU_ne w1] at q1
          exact absurd q1 ((ho a q2).2.2.2.2 j)
        · rw [setU_ne w1] at q1
          rw [setU_ne w2] at q2
          exact m.inj j k a q1 q2
    · rw [getE_set hi] at hj
      by_cases q : i = j
      · subst q
        rw [if_pos rfl] at hj
        cases hj
        obtain ⟨a, ha⟩ := hl xs rfl
        exact ⟨a, by rw [setU_same]; exact ha⟩
      · rw [if_neg q] at hj
        obtain ⟨a, ha⟩ := ml j xs hm' hj
        exact ⟨a, by rw [setU_ne q]; exact ha⟩
    · by_cases w : i = j
      · subst w
        rw [setU_same] at q
        subst q
        obtain ⟨xs, vs, e1, e2, _⟩ := hr
        exact .inr ⟨e2, xs, e1⟩
      · rw [setU_ne w] at q; exact .inl q
  cases x with
  | lst xs =>
    obtain ⟨a, vs, rfl, h0, hf, hd, hH, hr, hu⟩ := h
    exact key (some a) ⟨xs, vs, rfl, rfl, hH, hr⟩ (fun b q => by cases q; exact ⟨hf, h0, ⟨vs, hH⟩, hd, hu⟩) fun _ _ => ⟨a, rfl⟩
  | _ => exact key none h (fun b q => nomatch q) fun _ q => nomatch q
/-- an owned list is changed -/
theorem Sim.mut {i : Nat} {ys : List Val} {ws : List V} (m : Sim K D mv F U H0 σ H e g) (ml : MvL mv U e) (hi : i < e.length) (hU : U i = some a) (hs : σ[i]? = some (some (.ref a))) (hr : Reps K D F H ys ws) :
    Sim K D mv F U H0 σ (upd H a (.lst ws)) (e.set i (some (.lst ys))) g ∧ MvL mv U (e.set i (some (.lst ys))) ∧ Fst D F F H (upd H a (.lst ws)) := by
  obtain ⟨nF, h0, ⟨us, hH⟩, nD⟩ := m.own i a hU
  have kp : ∀ b o, F b → H b = some o → upd H a (.lst ws) b = some o := fun b o z q => by rw [upd_ne (fun w => nF (by rw [← w]; exact z))]; exact q
  refine ⟨⟨fun j y hj => ?_, by rw [List.length_set]; exact m.len, fun j b q => ?_, m.mvs, m.inj, fun b z => ?_, ?_, fun b o z n => ?_, fun b z => ?_⟩, fun j xs hm' hj => ?_, ⟨fun _ z => z, kp⟩⟩
  · rw [getE_set hi] at hj
    by_cases q : i = j
    · subst q
      rw [if_pos rfl] at hj
      cases hj
      refine ⟨_, hs, ?_⟩
      rw [hU]
      exact ⟨ys, ws, rfl, rfl, upd_same, Reps.mono (fun _ z => z) kp ys ws hr⟩
    · rw [if_neg q] at hj
      obtain ⟨w, h1, h2⟩ := m.var j y hj
      refine ⟨w, h1, ?_⟩
      cases hu : U j with
      | none => rw [hu] at h2; exact Rep.mono (fun _ z => z) kp y w h2
      | some b =>
        rw [hu] at h2
        obtain ⟨xs, vs, e1, e2, h3, h4⟩ := h2
        have ne : b ≠ a := fun w => q (m.inj i j a hU (by rw [← w]; exact hu))
        exact ⟨xs, vs, e1, e2, by rw [upd_ne ne]; exact h3, Reps.mono (fun _ z => z) kp xs vs h4⟩
  · obtain ⟨h1, h2, ⟨vs, h3⟩, h4⟩ := m.own j b q
    refine ⟨h1, h2, ?_, h4⟩
    by_cases w : b = a
    · subst w; exact ⟨ws, upd_same⟩
    · exact ⟨vs, by rw [upd_ne w]; exact h3⟩
  · obtain ⟨h1, h2⟩ := m.frz b z
    exact ⟨by rw [upd_ne (fun w => nF (by rw [← w]; exact z))]; exact h1, h2⟩
  · have q : ∀ b, D.has b → upd H a (.lst ws) b = H b := fun b hb => upd_ne fun w => nD (by rw [← w]; exact hb)
    exact ⟨(q _ (.inl rfl)).trans m.drw.gm, (q _ (.inr (.inl rfl))).trans m.drw.gc, (q _ (.inr (.inr rfl))).trans m.drw.gg, m.drw.cl, m.drw.gl, m.drw.ce⟩
  · rw [upd_ne (ne_of_none z h0)]; exact m.base b o z n
  · by_cases w : b = a
    · subst w; exact h0
    · rw [upd_ne w] at z; exact m.bfr b z
  · rw [getE_set hi] at hj
    by_cases q : i = j
    · subst q; exact ⟨a, hU⟩
    · rw [if_neg q] at hj; exact ml j xs hm' hj
end
end Pm
set_option Elab.async false
set_option linter.all false
set_option autoImplicit false
set_option maxRecDepth 100000
set_option maxHeartbeats 4000000
namespace Pm
open PySem L2 PySem.Spec PyProof.Rows
section
variable {X : Cx} {S : Sx} {W : WX} {E : XK} {F0 : AS} {H0 : Hp} {Bs : BsT}
theorem tN_of_tE {f : Pm.Env → DrawSt → R Val} {σ : L2.St} {H : Hp} {Q : VK} (h : tG S W (rE S) f σ H Q) : tG S W (rN S) f σ H Q := by
  obtain ⟨F, U, H0, en, g, m, r⟩ := h
  refine ⟨F, U, H0, en, g, m, resF_mono r fun x g' _ hk v F' H' st gr rl => ?_⟩
  obtain ⟨F2, st2, rp⟩ := RepN.frozen st rl
  exact hk v F2 H' st2 gr rp
theorem tE_of_tP {f : Pm.Env → DrawSt → R Val} {σ : L2.St} {H : Hp} {Q : VK} (h : tG S W (rT S) f σ H Q) : tG S W (rE S) f σ H Q := by
  obtain ⟨F, U, H0, en, g, m, r⟩ := h
  exact ⟨F, U, H0, en, g, m, resF_mono r fun x g' _ hk v F' H' st gr rl => hk v F' H' st gr (Rep.top (F := F') st.frz rl)⟩
theorem gG_nm {K : PySem.W.Frag} {D : DA} {i : Nat} {v : V} {σ : L2.St} {H : Hp} {Q : L2.St → Hp → Prop} (h : gG K D (.nm i) v σ H Q) : gName i v σ H Q := by
  obtain ⟨F, Hm, y, e, e', hs, hr, hl, hb, k⟩ := h
  simp only [bindT] at hb
  split at hb
  · cases hb
    exact k _ (by simp only [slots]; exact BRel.one (by assumption) hl hr)
  · cases hb
/-- an expression, then what follows -/
theorem go_then {α β : Type} {rel : Rel α β} {f : Pm.Env → DrawSt → R α} {k : α → DrawSt → R Fl} {Dn : Ends} {σ : L2.St} {F : AS} {U : OW} {H : Hp} {e : Pm.Env} {g : DrawSt} {T : β → Hp → Prop} (sb : Stable S.D Bs)
    (m : Sim S.K S.D S.mv F U H0 σ H e g) (fx : FX F0 H0 F) (bs : Bs F H) (r : resS S E F0 H0 Bs Dn ((f e g).bind k))
    (n : ∀ x g1 v F1 H1, f e g = .ok x g1 → Stp S.D F F1 H H1 → Sim S.K S.D S.mv F1 U H0 σ H1 e g1 → FX F0 H0 F1 → Bs F1 H1 → rel U H F1 H1 x v → resS S E F0 H0 Bs Dn (k x g1) → T v H1) : tG S (Wof E) rel f σ H T := by
  refine ⟨F, U, H0, e, g, m, ?_⟩
  cases q : f e g with
  | ok x g1 =>
    rw [q] at r
    intro v F1 H1 st gr rl
    exact n x g1 v F1 H1 q st (m.stp st gr) (fx.step m st) (sb F F1 H H1 bs st.fst) rl r
  | exc c fs g' =>
    rw [q] at r
    intro Ca names hx F' H' dx vs st gr hd hr
    exact r Ca names hx F' H' dx vs (m.out fx st) gr hd hr
  | bad => rw [q] at r; exact r
theorem ofS {α : Type} {o : Option α} {g : DrawSt} {k : α → DrawSt → R Fl} {Dn : Ends} (r : resS S E F0 H0 Bs Dn ((R.of o g).bind k)) : ∃ x, o = some x ∧ resS S E F0 H0 Bs Dn (k x g) := by
  cases o with
  | none => exact False.elim r
  | some x => exact ⟨x, rfl, r⟩
theorem putS {e : Pm.Env} {i : Nat} {x : Val} {g : DrawSt} {Dn : Ends} (r : resS S E F0 H0 Bs Dn (putE e i x g)) : i < e.length ∧ ∀ σ H, SmS S F0 H0 Bs σ H (e.set i (some x)) g → Dn.nx σ H := by
  unfold putE at r
  split at r
  · exact ⟨by assumption, r⟩
  · exact False.elim r
theorem MvL.bound {mv : Nat → Bool} {U : OW} {e e' : Pm.Env} {K : PySem.W.Frag} {D : DA} {F : AS} {H : Hp} {T : List Nat} {σ σ' : L2.St} (ml : MvL mv U e) (b : BRel K D F H T σ σ' e e') (hm : ∀ i ∈ T, mv i = false) : MvL mv U e' := fun i xs h1 h2 => by
  have hi : i ∉ T := fun z => by rw [hm i z] at h1; cases h1
  refine ml i xs h1 ?_
  rw [getE_iff] at h2 ⊢
  rw [← (b.out i hi).2]; exact h2
theorem asg_i {t : Tgt} {a : PX} {Dn : Ends} {σ : L2.St} {H : Hp} (sb : Stable S.D Bs) (hm : ∀ i ∈ slots t, S.mv i = false) (h : tSt S E F0 H0 Bs (exs S.C S.B (.asg t a)) Dn σ H) : tAsg (tE S (Wof E) a) (gG S.K S.D t) Dn σ H := by
  obtain ⟨e, g, ⟨F, U, m, fx, ml, bs⟩, r⟩ := h
  refine go_then (f := evP S a) (k := fun x g => (R.of (bindT t x e) g).bind fun e g => .ok (.nx e) g) sb m fx bs r fun x g1 v F1 H1 _ st m1 fx1 bs1 rl r1 => ?_
  obtain ⟨e', hb, r2⟩ := ofS r1
  exact ⟨F1, H1, x, e, e', fun _ _ q => q, rl, m1.len, hb, fun σ' br => r2 σ' H1 ⟨F1, U, m1.bound br hm, fx1, ml.bound br hm, bs1⟩⟩
/-- new at Hs, for a slot -/
theorem own_of {mv : Nat → Bool} {F F1 : AS} {U : OW} {H H1 : Hp} {σ : L2.St} {e : Pm.Env} {g : DrawSt} {x : Val} {v : V} (m : Sim S.K S.D mv F U H0 σ H e g) (rl : RepN S.K S.D H F1 H1 x v) : OwnP S.K S.D F1 U H0 H1 x v := by
  cases x with
  | lst xs =>
    obtain ⟨a, vs, rfl, h0, hf, hd, hH, hr⟩ := rl
    refine ⟨a, vs, rfl, m.bfr a h0, hf, hd, hH, hr, fun j q => ?_⟩
    obtain ⟨_, _, ⟨ws, hw⟩, _⟩ := m.own j a q
    rw [hw] at h0; cases h0
  | _ => exact rl
theorem asgN_i {i : Nat} {a : PX} {Dn : Ends} {σ : L2.St} {H : Hp} (sb : Stable S.D Bs) (hm : S.mv i = true) (h : tSt S E F0 H0 Bs (exs S.C S.B (.asgN i a)) Dn σ H) : tAsg (tN S (Wof E) a) (gName i) Dn σ H := by
  obtain ⟨e, g, ⟨F, U, m, fx, ml, bs⟩, r⟩ := h
  refine go_then (f := evP S a) (k := fun x g => putE e i x g) sb m fx bs r fun x g1 v F1 H1 _ st m1 fx1 bs1 rl r1 => ?_
  obtain ⟨hi, r2⟩ := putS r1
  obtain ⟨U', m2, ml2, _⟩ := m1.own1 hi hm (own_of m rl)
  exact r2 _ H1 ⟨F1, U', m2, fx1, ml2 ml, bs1⟩
theorem augV_some {o : Bool} {x y z : Val} (h : augV o (some x) y = some z) : ∃ p q, x = .int p ∧ y = .int q ∧ z = .int (if o then p - q else p + q) := by
  unfold augV at h
  split at h
  · rename_i p q h1
    cases h1; cases h; exact ⟨p, q, rfl, rfl, rfl⟩
  · cases h
theorem setV_some {x n v z : Val} (h : setV (some x) n v = some z) : ∃ xs k j, x = .lst xs ∧ n = .int k ∧ ixN xs.length k = some j ∧ z = .lst (xs.set j v) := by
  unfold setV at h
  split at h
  · rename_i xs k h1
    cases h1
    simp only [Option.map_eq_some_iff] at h
    obtain ⟨j, hj, rfl⟩ := h
    exact ⟨xs, k, j, rfl, rfl, hj, rfl⟩
  · cases h
theorem popV_some {xs : List Val} {n : Val} {p : Val × Val} (h : popV (some (.lst xs)) n = some p) : ∃ k j y, n = .int k ∧ xs.length ≤ lim ∧ ixN xs.length k = some j ∧ xs[j]? = some y ∧ p = (y, .lst (xs.eraseIdx j)) := by
  unfold popV at h
  split at h
  · rename_i ys k h1
    cases h1
    split at h
    · simp only [Option.bind_eq_some_iff, Option.map_eq_some_iff] at h
      obtain ⟨j, hj, y, hy, rfl⟩ := h
      exact ⟨k, j, y, rfl, by assumption, hj, hy, rfl⟩
    · cases h
  · cases h
theorem aug_i {i : Nat} {o : Bool} {a : PX} {Dn : Ends} {σ : L2.St} {H : Hp} (sb : Stable S.D Bs) (hm : S.mv i = false) (h : tSt S E F0 H0 Bs (exs S.C S.B (.aug i o a)) Dn σ H) : tAug i (tP S (Wof E) a) (ipI fun i j => if o then i - j else i + j) Dn σ H := by
  obtain ⟨e, g, ⟨F, U, m, fx, ml, bs⟩, r⟩ := h
  obtain ⟨x, hx, r0⟩ := ofS (k := fun x g => (ev S.C S.B a e g).bind fun y g => (R.of (augV o (some x) y) g).bind fun z g => putE e i z g) r
  obtain ⟨v, hv, hr⟩ := m.var i x hx
  refine ⟨v, hv, go_then (f := evP S a) (k := fun y g => (R.of (augV o (some x) y) g).bind fun z g => putE e i z g) (rel := rT S) sb m fx bs r0 fun y g1 w F1 H1 _ st m1 fx1 bs1 rl r1 => ?_⟩
  obtain ⟨z, hz, r2⟩ := ofS r1
  have hU : U i = none := by
    cases q : U i with
    | none => rfl
    | some b => have := m.mvs i b q; rw [hm] at this; cases this
  obtain ⟨p, q, rfl, rfl, rfl⟩ := augV_some hz
  rw [hU] at hr
  have hr : v = .int p := by simpa only [RepU, Rep] using hr
  subst hr
  cases RepT_int.mp rl
  obtain ⟨hi, r3⟩ := putS r2
  refine ⟨p, q, rfl, rfl, r3 _ H1 ⟨F1, U, m1.bound (BRel.one hi m1.len (x := .int (if o then p - q else p + q)) (v := .int (if o then p - q else p + q)) (by simp only [Rep])) (fun j hj => ?_), fx1, ?_, bs1⟩⟩
  · cases (show j = i by simpa using hj); exact hm
  · exact ml.bound (BRel.one (K := S.K) (D := S.D) (F := F1) (H := H1) hi m1.len (x := .int (if o then p - q else p + q)) (v := .int (if o then p - q else p + q)) (by simp only [Rep])) fun j hj => by cases (show j = i by simpa using hj); exact hm
theorem own_at {F : AS} {U : OW} {H : Hp} {σ : L2.St} {e : Pm.Env} {g : DrawSt} {i : Nat} {xs : List Val} (m : Sim S.K S.D S.mv F U H0 σ H e g) (ml : MvL S.mv U e) (hm : S.mv i = true) (hx : getE e i = some (.lst xs)) :
    ∃ a vs, U i = some a ∧ σ[i]? = some (some (.ref a)) ∧ H a = some (.lst vs) ∧ Reps S.K S.D F H xs vs := by
  obtain ⟨a, ha⟩ := ml i xs hm hx
  obtain ⟨v, hv, hr⟩ := m.var i _ hx
  rw [ha] at hr
  obtain ⟨ys, vs, e1, rfl, h3, h4⟩ := hr
  cases e1
  exact ⟨a, vs, ha, hv, h3, h4⟩
theorem Reps.eraseIdx {K : PySem.W.Frag} {D : DA} {F : AS} {H : Hp} : ∀ (n : Nat) {xs : List Val} {vs : List V}, Reps K D F H xs vs → Reps K D F H (xs.eraseIdx n) (vs.eraseIdx n)
  | _, [], vs, h => by simp only [Reps] at h; rw [h]; simp only [List.eraseIdx_nil, Reps]
  | 0, x :: xs, vs, h => by
    simp only [Reps] at h
    obtain ⟨v, r, rfl, h1, h2⟩ := h
    simpa using h2
  | n + 1, x :: xs, vs, h => by
    simp only [Reps] at h
    obtain ⟨v, r, rfl, h1, h2⟩ := h
    simp only [List.eraseIdx_cons_succ, Reps]
    exact ⟨v, _, rfl, h1, Reps.eraseIdx n h2⟩
theorem setI_i {i : Nat} {k a : PX} {Dn : Ends} {σ : L2.St} {H : Hp} (sb : Stable S.D Bs) (hm : S.mv i = true) (h : tSt S E F0 H0 Bs (exs S.C S.B (.setI i k a)) Dn σ H) : tAsg (tE S (Wof E) a) (gSub (tVar i) (tP S (Wof E) k) rSetL) Dn σ H := by
  obtain ⟨e, g, ⟨F, U, m, fx, ml, bs⟩, r⟩ := h
  refine go_then (f := evP S a) (rel := rE S) (k := fun x g => (R.of (getE e i) g).bind fun y g => (ev S.C S.B k e g).bind fun n g => (R.of (setV (some y) n x) g).bind fun z g => putE e i z g) sb m fx bs r fun x g1 v F1 H1 _ st m1 fx1 bs1 rl r1 => ?_
  obtain ⟨y, hy, r2⟩ := ofS r1
  obtain ⟨u, hu, _⟩ := m1.var i y hy
  refine ⟨u, hu, go_then (f := evP S k) (rel := rT S) (k := fun n g => (R.of (setV (some y) n x) g).bind fun z g => putE e i z g) sb m1 fx1 bs1 r2 fun n g2 w F2 H2 _ st2 m2 fx2 bs2 rl2 r3 => ?_⟩
  obtain ⟨z, hz, r4⟩ := ofS r3
  obtain ⟨hi, r5⟩ := putS r4
  obtain ⟨xs, kk, j, rfl, rfl, hj, rfl⟩ := setV_some hz
  cases RepT_int.mp rl2
  obtain ⟨b, vs, hU, hs, hH, hr⟩ := own_at m2 ml hm hy
  rw [hu] at hs
  cases hs
  refine ⟨b, vs, kk, j, rfl, rfl, hH, by rw [hr.length]; exact hj, ?_⟩
  obtain ⟨m3, ml3, fs⟩ := m2.mut ml hi hU hu (Reps.set (Rep.stp st2 rl) j hr)
  exact r5 σ _ ⟨F2, U, m3, fx2, ml3, sb _ _ _ _ bs2 fs⟩
theorem lstE_some {o : Option Val} {y : Val} (h : lstE o = some y) : ∃ xs, o = some (.lst xs) ∧ y = .lst xs := by
  unfold lstE at h
  split at h
  · cases h; exact ⟨_, rfl, rfl⟩
  · cases h
theorem app_i {i : Nat} {a : PX} {Dn : Ends} {σ : L2.St} {H : Hp} (sb : Stable S.D Bs) (hm : S.mv i = true) (h : tSt S E F0 H0 Bs (exs S.C S.B (.app i a)) Dn σ H) : tDrop (tBM S.K "list" rAppend (tVar i) (tA S (Wof E) (.cons a .nil))) Dn σ H := by
  obtain ⟨e, g, ⟨F, U, m, fx, ml, bs⟩, r⟩ := h
  obtain ⟨y, hy0, r0⟩ := ofS (k := fun y g => (ev S.C S.B a e g).bind fun x g => (R.of (appV (some y) x) g).bind fun z g => putE e i z g) r
  obtain ⟨xs, hy, rfl⟩ := lstE_some hy0
  obtain ⟨b, vs, hU, hs, hH, hr⟩ := own_at m ml hm hy
  refine ⟨_, hs, .inl ⟨rfl, vs, SqL.of hH⟩, ?_⟩
  refine go_then (Dn := Dn) (f := evsP S (.cons a .nil)) (rel := rEs S) (k := fun xs' g => match xs' with | [x] => (R.of (appV (some (.lst xs)) x) g).bind fun z g => putE e i z g | _ => .bad) sb m fx bs ?_ fun ys g1 ws F1 H1 _ st m1 fx1 bs1 rl r1 => ?_
  · show resS S E F0 H0 Bs Dn (((ev S.C S.B a e g).bind fun x g => R.ok [x] g).bind _)
    rw [bindR_assoc]
    exact r0
  · match ys, r1, rl with
    | [], r1, _ => exact False.elim r1
    | _ :: _ :: _, r1, _ => exact False.elim r1
    | [x], r1, rl =>
      simp only [rEs, Reps] at rl
      obtain ⟨v, r', rfl, rv, rfl⟩ := rl
      obtain ⟨z, hz, r2⟩ := ofS r1
      obtain ⟨hi, r3⟩ := putS r2
      simp only [appV] at hz
      split at hz
      · cases hz
        obtain ⟨b', vs', hU', hs', hH', hr'⟩ := own_at m1 ml hm hy
        rw [hU] at hU'
        cases hU'
        refine ⟨b, vs', v, rfl, rfl, hH', ?_, ?_⟩
        · have := hr'.length
          have : lim < sizeLine := by decide
          omega
        · obtain ⟨m3, ml3, fs⟩ := m1.mut ml hi hU hs (ys := xs ++ [x]) (ws := vs' ++ [v]) (hr'.append (by simp only [Reps]; exact ⟨v, [], rfl, rv, rfl⟩))
          exact r3 σ _ ⟨F1, U, m3, fx1, ml3, sb _ _ _ _ bs1 fs⟩
      · cases hz
theorem ext_i {i : Nat} {a : PX} {Dn : Ends} {σ : L2.St} {H : Hp} (sb : Stable S.D Bs) (hm : S.mv i = true) (h : tSt S E F0 H0 Bs (exs S.C S.B (.ext i a)) Dn σ H) : tDrop (tBM S.K "list" rExtend (tVar i) (tA S (Wof E) (.cons a .nil))) Dn σ H := by
  obtain ⟨e, g, ⟨F, U, m, fx, ml, bs⟩, r⟩ := h
  obtain ⟨y, hy0, r0⟩ := ofS (k := fun y g => (ev S.C S.B a e g).bind fun x g => (R.of (extV (some y) x) g).bind fun z g => putE e i z g) r
  obtain ⟨xs, hy, rfl⟩ := lstE_some hy0
  obtain ⟨b, vs, hU, hs, hH, hr⟩ := own_at m ml hm hy
  refine ⟨_, hs, .inl ⟨rfl, vs, SqL.of hH⟩, ?_⟩
  refine go_then (Dn := Dn) (f := evsP S (.cons a .nil)) (rel := rEs S) (k := fun xs' g => match xs' with | [x] => (R.of (extV (some (.lst xs)) x) g).bind fun z g => putE e i z g | _ => .bad) sb m fx bs ?_ fun ys g1 ws F1 H1 _ st m1 fx1 bs1 rl r1 => ?_
  · show resS S E F0 H0 Bs Dn (((ev S.C S.B a e g).bind fun x g => R.ok [x] g).bind _)
    rw [bindR_assoc]
    exact r0
  · match ys, r1, rl with
    | [], r1, _ => exact False.elim r1
    | _ :: _ :: _, r1, _ => exact False.elim r1
    | [x], r1, rl =>
      simp only [rEs, Reps] at rl
      obtain ⟨v, r', rfl, rv, rfl⟩ := rl
      obtain ⟨z, hz, r2⟩ := ofS r1
      obtain ⟨hi, r3⟩ := putS r2
      cases x with
      | lst zs =>
        simp only [extV] at hz
        split at hz
        · rename_i hle
          cases hz
          obtain ⟨b', vs', hU', hs', hH', hr'⟩ := own_at m1 ml hm hy
          rw [hU] at hU'
          cases hU'
          simp only [Rep] at rv
          obtain ⟨q, us, rfl, _, hq, hqs⟩ := rv
          refine ⟨b, q, vs', us, rfl, rfl, hH', hq, ?_, ?_⟩
          · have := hr'.length
            have := hqs.length
            have : lim < sizeLine := by decide
            omega
          · obtain ⟨m3, ml3, fs⟩ := m1.mut ml hi hU hs (ys := xs ++ zs) (ws := vs' ++ us) (hr'.append hqs)
            exact r3 σ _ ⟨F1, U, m3, fx1, ml3, sb _ _ _ _ bs1 fs⟩
        · cases hz
      | _ => cases hz
theorem appPop_i {i j : Nat} {k : PX} {Dn : Ends} {σ : L2.St} {H : Hp} (sb : Stable S.D Bs) (hm : S.mv i = true) (hm' : S.mv j = true) (hij : i ≠ j) (h : tSt S E F0 H0 Bs (exs S.C S.B (.appPop i j k)) Dn σ H) :
    tDrop (tBM S.K "list" rAppend (tVar i) (tCons (tBM S.K "list" rPopAt (tVar j) (tAT S (Wof E) (.cons k .nil))) tNil)) Dn σ H := by
  obtain ⟨e, g, ⟨F, U, m, fx, ml, bs⟩, r⟩ := h
  obtain ⟨y, hy0, r0⟩ := ofS (k := fun y g => (R.of (lstE (getE e j)) g).bind fun z g => (ev S.C S.B k e g).bind fun n g => (R.of (popV (some z) n) g).bind fun p g => (R.of (appV (some y) p.1) g).bind fun w g => if i < e.length ∧ j < e.length then .ok (.nx ((e.set j (some p.2)).set i (some w))) g else .bad) r
  obtain ⟨xs, hy, rfl⟩ := lstE_some hy0
  obtain ⟨z, hz0, r1⟩ := ofS r0
  obtain ⟨zs, hz, rfl⟩ := lstE_some hz0
  obtain ⟨b, vs, hU, hs, hH, hr⟩ := own_at m ml hm hy
  obtain ⟨c, us, hU2, hs2, hH2, hr2⟩ := own_at m ml hm' hz
  refine ⟨_, hs, .inl ⟨rfl, vs, SqL.of hH⟩, ?_⟩
  refine ⟨_, hs2, .inl ⟨rfl, us, SqL.of hH2⟩, ?_⟩
  refine go_then (Dn := Dn) (f := evsP S (.cons k .nil)) (rel := rTs S) (k := fun xs' g => match xs' with | [n] => (R.of (popV (some (.lst zs)) n) g).bind fun p g => (R.of (appV (some (.lst xs)) p.1) g).bind fun w g => if i < e.length ∧ j < e.length then .ok (.nx ((e.set j (some p.2)).set i (some w))) g else .bad | _ => .bad) sb m fx bs ?_ fun ys g1 ws F1 H1 _ st m1 fx1 bs1 rl r2 => ?_
  · show resS S E F0 H0 Bs Dn (((ev S.C S.B k e g).bind fun x g => R.ok [x] g).bind _)
    rw [bindR_assoc]
    exact r1
  · match ys, r2, rl with
    | [], r2, _ => exact False.elim r2
    | _ :: _ :: _, r2, _ => exact False.elim r2
    | [n], r2, rl =>
      obtain ⟨v, rfl, rv⟩ := one_T rfl rl
      obtain ⟨p, hp, r3⟩ := ofS r2
      obtain ⟨w, hw, r4⟩ := ofS r3
      obtain ⟨kk, q, y, rfl, hlz, hq, hy1, rfl⟩ := popV_some hp
      dsimp only at hw r4
      split at r4
      case isFalse => exact False.elim r4
      case isTrue hlt =>
      simp only [appV] at hw
      split at hw
      case isFalse => cases hw
      case isTrue hlen =>
      cases hw
      cases RepT_int.mp rv
      obtain ⟨b', vs', hU', hs', hH', hr'⟩ := own_at m1 ml hm hy
      rw [hU] at hU'; cases hU'
      obtain ⟨c', us', hU2', hs2', hH2', hr2'⟩ := own_at m1 ml hm' hz
      rw [hU2] at hU2'; cases hU2'
      obtain ⟨v1, hv1, rv1⟩ := hr2'.get hy1
      have hl2 := hr2'.length
      obtain ⟨sq1, sq2, sq3, sq4⟩ := ixN_seq hq
      have hlz : zs.length ≤ 100000 := hlz
      refine ⟨c, us', kk, q, v1, rfl, rfl, hH2', ?_, ?_, by rw [hl2]; exact sq1, hv1, ?_⟩
      · omega
      · omega
      obtain ⟨m3, ml3, fs⟩ := m1.mut ml hlt.2 hU2 hs2' (Reps.eraseIdx q hr2')
      have hy3 : getE (e.set j (some (.lst (zs.eraseIdx q)))) i = some (.lst xs) := by rw [getE_set hlt.2, if_neg (fun z => hij z.symm)]; exact hy
      obtain ⟨b3, vs3, hU3, hs3, hH3, hr3⟩ := own_at m3 ml3 hm hy3
      rw [hU] at hU3; cases hU3
      refine ⟨b, vs3, v1, rfl, rfl, hH3, ?_, ?_⟩
      · have := hr3.length
        have : lim < sizeLine := by decide
        omega
      · obtain ⟨m4, ml4, fs4⟩ := m3.mut ml3 (by rw [List.length_set]; exact hlt.1) hU hs3 (ys := xs ++ [y]) (ws := vs3 ++ [v1]) (hr3.append (by simp only [Reps]; exact ⟨v1, [], rfl, Rep.mono fs.sub fs.kp y v1 rv1, rfl⟩))
        exact r4 σ _ ⟨F1, U, m4, fx1, ml4, sb _ _ _ _ (sb _ _ _ _ bs1 fs) fs4⟩
end
end Pm
set_option Elab.async false
set_option linter.all false
set_option autoImplicit false
set_option maxRecDepth 100000
set_option maxHeartbeats 4000000
namespace Pm
open PySem L2 PySem.Spec PyProof.Rows
/-! ### several names at once -/
def own1A : Bool → Val → V → List Addr
  | true, .lst _, .ref a => [a]
  | _, _, _ => []
def ownA : List Bool → List Val → List V → List Addr
  | b :: bs, x :: xs, v :: vs => own1A b x v ++ ownA bs xs vs
  | _, _, _ => []
def RP (K : PySem.W.Frag) (D : DA) (H : Hp) (F : AS) (H' : Hp) : List Bool → List Val → List V → Prop
  | [], xs, vs => xs = [] ∧ vs = []
  | b :: bs, xs, vs => ∃ x xr v vr, xs = x :: xr ∧ vs = v :: vr ∧ (match b with | true => RepN K D H F H' x v | false => Rep K D F H' x v) ∧ (∀ a ∈ own1A b x v, a ∉ ownA bs xr vr) ∧ RP K D H F H' bs xr vr
def rP (S : Sx) (fl : List Bool) : Rel (List Val) (List V) := fun _ H F' H' xs vs => RP S.K S.D H F' H' fl xs vs
def setP : List (Nat × Bool) → List V → L2.St → L2.St
  | (i, _) :: ts, v :: vs, σ => setP ts vs (σ.set i (some v))
  | _, _, σ => σ
section
variable {X : Cx} {S : Sx} {W : WX} {E : XK} {F0 : AS} {H0 : Hp} {Bs : BsT}
theorem RP.early {K : PySem.W.Frag} {D : DA} {F F1 F' : AS} {H H1 H' : Hp} (st : Stp D F F1 H H1) : ∀ {fl : List Bool} {xs : List Val} {vs : List V}, RP K D H1 F' H' fl xs vs → RP K D H F' H' fl xs vs
  | [], _, _, h => h
  | b :: bs, _, _, h => by
    obtain ⟨x, xr, v, vr, rfl, rfl, h1, h2, h3⟩ := h
    refine ⟨x, xr, v, vr, rfl, rfl, ?_, h2, h3.early st⟩
    cases b with
    | false => exact h1
    | true => cases x with
      | lst xs =>
        obtain ⟨a, vs, e, h1, h2⟩ := h1
        exact ⟨a, vs, e, st.live a h1, h2⟩
      | _ => exact h1
theorem rP_ok {fl : List Bool} : RelOk S.D (rP S fl) := fun U F F1 H H1 F' H' xs vs st h => RP.early st h
/-- all that is owned within is new -/
theorem RP.fresh {K : PySem.W.Frag} {D : DA} {F : AS} {H H' : Hp} : ∀ {fl : List Bool} {xs : List Val} {vs : List V}, RP K D H F H' fl xs vs → ∀ a ∈ ownA fl xs vs, H a = none
  | [], _, _, h, a, ha => by obtain ⟨rfl, rfl⟩ := h; cases ha
  | b :: bs, _, _, h, a, ha => by
    obtain ⟨x, xr, v, vr, rfl, rfl, h1, h2, h3⟩ := h
    simp only [ownA, List.mem_append] at ha
    rcases ha with ha | ha
    · cases b with
      | false => simp only [own1A] at ha; cases ha
      | true =>
        cases x with
        | lst xs =>
          obtain ⟨c, vs, rfl, h0, _⟩ := h1
          cases (show a = c by simpa only [own1A, List.mem_singleton] using ha)
          exact h0
        | _ => simp only [own1A] at ha; cases ha
    · exact h3.fresh a ha
theorem RP.cons {b : Bool} {rel1 : Rel Val V} (hr : ∀ U Hs F1 H1 x v, rel1 U Hs F1 H1 x v → (match b with | true => RepN S.K S.D Hs F1 H1 x v | false => Rep S.K S.D F1 H1 x v)) {fl : List Bool} {Hs : Hp} {F1 F2 : AS} {H1 H2 : Hp} {U : OW} {x : Val} {v : V} {xs : List Val} {vs : List V}
    (s0 : ∃ F, Stp S.D F F1 Hs H1) (st : Stp S.D F1 F2 H1 H2) (h1 : rel1 U Hs F1 H1 x v) (h2 : RP S.K S.D H1 F2 H2 fl xs vs) : RP S.K S.D Hs F2 H2 (b :: fl) (x :: xs) (v :: vs) := by
  obtain ⟨Fs, s0⟩ := s0
  have h1 := hr _ _ _ _ _ _ h1
  refine ⟨x, xs, v, vs, rfl, rfl, ?_, fun a ha hb => ?_, h2.early s0⟩
  · cases b with
    | false => exact Rep.stp st h1
    | true => cases x with
      | lst ys =>
        obtain ⟨a, us, e, h3, h4, h5, h6, h7⟩ := h1
        refine ⟨a, us, e, h3, fun z => ?_, h5, st.keep a _ h6 h5, h7.stp st⟩
        rcases st.new a z with z | z
        · exact h4 z
        · rw [h6] at z; cases z
      | _ => exact Rep.stp st h1
  · have q := h2.fresh a hb
    cases b with
    | false => simp only [own1A] at ha; cases ha
    | true => cases x with
      | lst ys =>
        obtain ⟨c, us, rfl, h3, h4, h5, h6, h7⟩ := h1
        cases (show a = c by simpa only [own1A, List.mem_singleton] using ha)
        rw [h6] at q; cases q
      | _ => simp only [own1A] at ha; cases ha
theorem consP {b : Bool} {fl : List Bool} {rel1 : Rel Val V} (hr : ∀ U Hs F1 H1 x v, rel1 U Hs F1 H1 x v → (match b with | true => RepN S.K S.D Hs F1 H1 x v | false => Rep S.K S.D F1 H1 x v)) {pa pr : PX} {σ : L2.St} {H : Hp} {Q : List V → Hp → Prop}
    (h : tG S W (rP S (b :: fl)) (evsP S (.cons pa pr)) σ H Q) : tCons (tG S W rel1 (evP S pa)) (tG S W (rP S fl) (evsP S pr)) σ H Q := by
  obtain ⟨F, U, H0, e, g, m, r⟩ := h
  replace r : resF S W (rP S (b :: fl)) U F H σ ((ev S.C S.B pa e g).bind fun x g => (evs S.C S.B pr e g).bind fun xs g => .ok (x :: xs) g) (fun _ _ v _ H' => Q v H') := r
  refine ⟨F, U, H0, e, g, m, ?_⟩
  show resF S W rel1 U F H σ (ev S.C S.B pa e g) _
  cases q : ev S.C S.B pa e g with
  | bad => rw [q] at r; exact r
  | exc _ _ _ => rw [q] at r; exact r
  | ok x g1 =>
    rw [q] at r
    intro v F1 H1 st gr rl
    refine ⟨F1, U, H0, e, g1, m.stp st gr, ?_⟩
    replace r : resF S W (rP S (b :: fl)) U F H σ ((evs S.C S.B pr e g1).bind fun xs g => .ok (x :: xs) g) (fun _ _ v _ H' => Q v H') := r
    show resF S W (rP S fl) U F1 H1 σ (evs S.C S.B pr e g1) _
    cases q2 : evs S.C S.B pr e g1 with
    | bad => rw [q2] at r; exact r
    | exc _ _ _ => rw [q2] at r; exact WxP.stp st r
    | ok xs g2 =>
      rw [q2] at r
      intro vs F2 H2 st2 gr2 rl2
      exact r (v :: vs) F2 H2 (st.trans st2) gr2 (RP.cons hr ⟨F, st⟩ st2 rl rl2)
theorem pa_nilP : PA X [] (tG S W (rP S []) (evsP S .nil)) := pa_nilG fun _ _ _ _ => ⟨rfl, rfl⟩
theorem pa_consPN {e : Expr} {es : List Expr} {pa pr : PX} {fl : List Bool} (hs : noStar e = true) (ha : PE X e (tN S W pa)) (hr : PA X es (tG S W (rP S fl) (evsP S pr))) : PA X (e :: es) (tG S W (rP S (true :: fl)) (evsP S (.cons pa pr))) :=
  PA.imp (pa_cons ha hr (starEach_no hs)) fun σ H Q h => consP (b := true) (fun _ _ _ _ _ _ z => z) h
theorem pa_consPE {e : Expr} {es : List Expr} {pa pr : PX} {fl : List Bool} (hs : noStar e = true) (ha : PE X e (tE S W pa)) (hr : PA X es (tG S W (rP S fl) (evsP S pr))) : PA X (e :: es) (tG S W (rP S (false :: fl)) (evsP S (.cons pa pr))) :=
  PA.imp (pa_cons ha hr (starEach_no hs)) fun σ H Q h => consP (b := false) (fun _ _ _ _ _ _ z => z) h
theorem par_bind {Hs H : Hp} {F : AS} {g : DrawSt} (hb : ∀ a, Hs a = none → H0 a = none) : ∀ {ts : List (Nat × Bool)} {xs : List Val} {vs : List V} {e e' : Pm.Env} {σ : L2.St} {U : OW}, (∀ t ∈ ts, S.mv t.1 = t.2) → RP S.K S.D Hs F H (ts.map (·.2)) xs vs → Sim S.K S.D S.mv F U H0 σ H e g → MvL S.mv U e →
    (∀ a ∈ ownA (ts.map (·.2)) xs vs, ∀ j, U j ≠ some a) → bindP ts xs e = some e' → ∃ U', Sim S.K S.D S.mv F U' H0 (setP ts vs σ) H e' g ∧ MvL S.mv U' e'
  | [], xs, vs, e, e', σ, U, _, h, m, ml, _, b => by
    obtain ⟨rfl, rfl⟩ := h
    simp only [bindP] at b
    cases b
    exact ⟨U, m, ml⟩
  | (i, k) :: ts, _, _, e, e', σ, U, hm, h, m, ml, hu, b => by
    obtain ⟨x, xr, v, vr, rfl, rfl, h1, h2, h3⟩ := h
    simp only [bindP] at b
    split at b
    case isFalse => cases b
    case isTrue hi =>
    have hmi : S.mv i = k := hm (i, k) List.mem_cons_self
    have hm' : ∀ t ∈ ts, S.mv t.1 = t.2 := fun t ht => hm t (List.mem_cons_of_mem _ ht)
    simp only [setP]
    cases k with
    | true =>
      have ow : OwnP S.K S.D F U H0 H x v := by
        cases x with
        | lst ys =>
          obtain ⟨a, us, rfl, q0, q1, q2, q3, q4⟩ := h1
          exact ⟨a, us, rfl, hb a q0, q1, q2, q3, q4, hu a (by simp [ownA, own1A])⟩
        | _ => exact h1
      obtain ⟨U', m2, ml2, hU'⟩ := m.own1 hi hmi ow
      refine par_bind hb hm' h3 m2 (ml2 ml) (fun a ha j q => ?_) b
      rcases hU' j a q with w | ⟨rfl, ys, rfl⟩
      · exact hu a (by simp only [List.map_cons, ownA, List.mem_append]; exact .inr ha) j w
      · exact h2 a (by simp [own1A]) ha
    | false =>
      have br : BRel S.K S.D F H [i] σ (σ.set i (some v)) e (e.set i (some x)) := BRel.one hi m.len h1
      have hmT : ∀ j ∈ [i], S.mv j = false := fun j hj => by cases (show j = i by simpa using hj); exact hmi
      exact par_bind hb hm' h3 (m.bound br hmT) (ml.bound br hmT) (fun a ha j q => hu a (by simp only [List.map_cons, ownA, List.mem_append]; exact .inr ha) j q) b
theorem par_i {ts : List (Nat × Bool)} {as : PX} {Dn : Ends} {σ : L2.St} {H : Hp} (sb : Stable S.D Bs) (hm : ∀ t ∈ ts, S.mv t.1 = t.2) (h : tSt S E F0 H0 Bs (exs S.C S.B (.par ts as)) Dn σ H) :
    tG S (Wof E) (rP S (ts.map (·.2))) (evsP S as) σ H fun vs H1 => vs.length = ts.length ∧ Dn.nx (setP ts vs σ) H1 ∧ ∀ p, H1 p = none → Dn.nx (setP ts vs σ) (upd H1 p (.tup vs)) := by
  obtain ⟨e, g, ⟨F, U, m, fx, ml, bs⟩, r⟩ := h
  refine go_then (Dn := Dn) (f := evsP S as) (k := fun xs g => (R.of (bindP ts xs e) g).bind fun e g => .ok (.nx e) g) sb m fx bs r fun xs g1 vs F1 H1 _ st m1 fx1 bs1 rl r1 => ?_
  obtain ⟨e', hb, r2⟩ := ofS r1
  have hfr : ∀ a ∈ ownA (ts.map (·.2)) xs vs, ∀ j, U j ≠ some a := fun a ha j q => by
    have := RP.fresh rl a ha
    obtain ⟨_, _, ⟨ws, hw⟩, _⟩ := m.own j a q
    rw [hw] at this; cases this
  obtain ⟨U', m2, ml2⟩ := par_bind (fun a q => m.bfr a q) hm rl m1 ml hfr hb
  have hlen : vs.length = ts.length := by
    have : ∀ {ts : List (Nat × Bool)} {xs : List Val} {vs : List V}, RP S.K S.D H F1 H1 (ts.map (·.2)) xs vs → vs.length = ts.length := fun {ts} => by
      induction ts with
      | nil => intro xs vs h; obtain ⟨rfl, rfl⟩ := h; rfl
      | cons t ts ih =>
        intro xs vs h
        obtain ⟨x, xr, v, vr, rfl, rfl, _, _, h3⟩ := h
        simp only [List.length_cons, ih h3]
    exact this rl
  refine ⟨hlen, r2 _ _ ⟨F1, U', m2, fx1, ml2, bs1⟩, fun p hp => ?_⟩
  have ps := PSt.alloc (o := .tup vs) m2.frz hp m2.drw False
  have e1 : (fun a => F1 a ∨ (a = p ∧ False)) = F1 := by funext a; simp
  rw [e1] at ps
  exact r2 _ _ ⟨F1, U', m2.stp ps.stp (m2.drw.ext ps.ext), fx1, ml2, sb _ _ _ _ bs1 ps.stp.fst⟩
/-! ### the rest -/
theorem xpr_i {a : PX} {rel : Rel Val V} {Dn : Ends} {σ : L2.St} {H : Hp} (sb : Stable S.D Bs) (h : tSt S E F0 H0 Bs (exs S.C S.B (.xpr a)) Dn σ H) : tDrop (tG S (Wof E) rel (evP S a)) Dn σ H := by
  obtain ⟨e, g, ⟨F, U, m, fx, ml, bs⟩, r⟩ := h
  exact go_then (Dn := Dn) (f := evP S a) (k := fun _ g => .ok (.nx e) g) sb m fx bs r fun x g1 v F1 H1 _ st m1 fx1 bs1 rl r1 => r1 _ _ ⟨F1, U, m1, fx1, ml, bs1⟩
theorem ife_i {c : PX} {a b : ST} {Dn : Ends} {σ : L2.St} {H : Hp} (sb : Stable S.D Bs) (h : tSt S E F0 H0 Bs (exs S.C S.B (.ife c a b)) Dn σ H) :
    tIfS (tT S (Wof E) c) (tSt S E F0 H0 Bs (exs S.C S.B a)) (tSt S E F0 H0 Bs (exs S.C S.B b)) Dn σ H := by
  obtain ⟨e, g, ⟨F, U, m, fx, ml, bs⟩, r⟩ := h
  refine go_then (Dn := Dn) (f := evT S c) (rel := rId) (k := fun k g => match k with | true => exs S.C S.B a e g | false => exs S.C S.B b e g) sb m fx bs ?_ fun x g1 v F1 H1 _ st m1 fx1 bs1 rl r1 => ?_
  · show resS S E F0 H0 Bs Dn (((ev S.C S.B c e g).bind fun x g => R.of (truth x) g).bind _)
    rw [bindR_assoc]
    exact r
  · cases rl
    cases x with
    | true => exact ⟨e, g1, ⟨F1, U, m1, fx1, ml, bs1⟩, r1⟩
    | false => exact ⟨e, g1, ⟨F1, U, m1, fx1, ml, bs1⟩, r1⟩
theorem seq_i {a b : ST} {Dn : Ends} {σ : L2.St} {H : Hp} (h : tSt S E F0 H0 Bs (exs S.C S.B (.seq a b)) Dn σ H) : tSeq (tSt S E F0 H0 Bs (exs S.C S.B a)) (tSt S E F0 H0 Bs (exs S.C S.B b)) Dn σ H := by
  obtain ⟨e, g, sm, r⟩ := h
  refine ⟨e, g, sm, ?_⟩
  replace r : resS S E F0 H0 Bs Dn ((exs S.C S.B a e g).bind fun fl g => match fl with
    | .nx e => exs S.C S.B b e g
    | .bk e => .ok (.bk e) g
    | .ct e => .ok (.ct e) g
    | .rt v k => .ok (.rt v k) g) := r
  cases q : exs S.C S.B a e g with
  | bad => rw [q] at r; exact r
  | exc _ _ _ => rw [q] at r; exact r
  | ok fl g1 =>
    rw [q] at r
    cases fl with
    | nx e' => exact fun σ' H' sm' => ⟨e', g1, sm', r⟩
    | bk e' => exact r
    | ct e' => exact r
    | rt v k => exact r
theorem whl_i {c : PX} {b : ST} {Dn : Ends} {σ : L2.St} {H : Hp} (sb : Stable S.D Bs) (h : tSt S E F0 H0 Bs (exs S.C S.B (.whl c b)) Dn σ H) : tWhile (tT S (Wof E) c) (tSt S E F0 H0 Bs (exs S.C S.B b)) Dn σ H := by
  refine ⟨fun n σ H => tSt S E F0 H0 Bs (fun e g => whlT (fun e g => (ev S.C S.B c e g).bind fun x g => R.of (truth x) g) (fun e g => exs S.C S.B b e g) n e g) Dn σ H, ⟨whlMost, h⟩, ?_⟩
  intro n σ H h
  obtain ⟨e, g, ⟨F, U, m, fx, ml, bs⟩, r⟩ := h
  cases n with
  | zero => exact False.elim r
  | succ n =>
    refine go_then (Dn := Dn) (f := evT S c) (rel := rId) (k := fun k g => match k with
      | true => (exs S.C S.B b e g).bind fun fl g => match fl with
        | .nx e => whlT (fun e g => (ev S.C S.B c e g).bind fun x g => R.of (truth x) g) (fun e g => exs S.C S.B b e g) n e g
        | .ct e => whlT (fun e g => (ev S.C S.B c e g).bind fun x g => R.of (truth x) g) (fun e g => exs S.C S.B b e g) n e g
        | .bk e => .ok (.nx e) g
        | .rt v b => .ok (.rt v b) g
      | false => .ok (.nx e) g) sb m fx bs r fun x g1 v F1 H1 _ st m1 fx1 bs1 rl r1 => ?_
    cases rl
    cases x with
    | false =>
      simp only [Bool.false_eq_true, if_false]
      exact r1 _ _ ⟨F1, U, m1, fx1, ml, bs1⟩
    | true =>
      simp only [if_true]
      refine ⟨fun σ' H' => tSt S E F0 H0 Bs (fun e g => whlT (fun e g => (ev S.C S.B c e g).bind fun x g => R.of (truth x) g) (fun e g => exs S.C S.B b e g) n e g) Dn σ' H', fun σ' H' h' => ⟨n, Nat.lt_succ_self n, h'⟩, e, g1, ⟨F1, U, m1, fx1, ml, bs1⟩, ?_⟩
      replace r1 : resS S E F0 H0 Bs Dn ((exs S.C S.B b e g1).bind _) := r1
      cases q : exs S.C S.B b e g1 with
      | bad => rw [q] at r1; exact r1
      | exc _ _ _ => rw [q] at r1; exact r1
      | ok fl g2 =>
        rw [q] at r1
        cases fl with
        | nx e' => exact fun σ' H' sm' => ⟨e', g2, sm', r1⟩
        | ct e' => exact fun σ' H' sm' => ⟨e', g2, sm', r1⟩
        | bk e' => exact r1
        | rt v k => exact r1
theorem ret_i {a : PX} {Dn : Ends} {σ : L2.St} {H : Hp} (h : tSt S E F0 H0 Bs (exs S.C S.B (.ret a)) Dn σ H) : tRet (tE { S with mv := fun _ => false } (Wof E) a) Dn σ H := by
  obtain ⟨e, g, ⟨F, U, m, fx, ml, bs⟩, r⟩ := h
  refine ⟨UF F U, fun _ => none, H0, e, g, m.freeze, ?_⟩
  replace r : resS S E F0 H0 Bs Dn ((ev S.C S.B a e g).bind fun x g => .ok (.rt x false) g) := r
  show resF _ (Wof E) (rE S) _ _ H σ (ev S.C S.B a e g) _
  have fz := m.freeze
  have fx' := fx.freeze m
  cases q : ev S.C S.B a e g with
  | bad => rw [q] at r; exact r
  | exc c fs g' =>
    rw [q] at r
    intro Ca names hx F' H' dx vs st gr hd hr
    exact r Ca names hx F' H' dx vs (fz.out fx' st) gr hd hr
  | ok x g1 =>
    rw [q] at r
    intro v F1 H1 st gr rl
    exact r v F1 H1 (fz.out fx' st) gr rl
theorem retN_i {a : PX} {Dn : Ends} {σ : L2.St} {H : Hp} (h : tSt S E F0 H0 Bs (exs S.C S.B (.retN a)) Dn σ H) : tRet (tN { S with mv := fun _ => false } (Wof E) a) Dn σ H := by
  obtain ⟨e, g, ⟨F, U, m, fx, ml, bs⟩, r⟩ := h
  refine ⟨UF F U, fun _ => none, H0, e, g, m.freeze, ?_⟩
  replace r : resS S E F0 H0 Bs Dn ((ev S.C S.B a e g).bind fun x g => .ok (.rt x true) g) := r
  show resF _ (Wof E) (rN S) _ _ H σ (ev S.C S.B a e g) _
  have fz := m.freeze
  have fx' := fx.freeze m
  cases q : ev S.C S.B a e g with
  | bad => rw [q] at r; exact r
  | exc c fs g' =>
    rw [q] at r
    intro Ca names hx F' H' dx vs st gr hd hr
    exact r Ca names hx F' H' dx vs (fz.out fx' st) gr hd hr
  | ok x g1 =>
    rw [q] at r
    intro v F1 H1 st gr rl
    refine r v F1 H1 (fz.out fx' st) gr ?_
    cases x with
    | lst xs =>
      obtain ⟨a, vs, e, h1, h2⟩ := rl
      exact ⟨a, vs, e, m.bfr a h1, h2⟩
    | _ => exact rl
theorem retM_i {i : Nat} {Dn : Ends} {σ : L2.St} {H : Hp} (hm : S.mv i = true) (h : tSt S E F0 H0 Bs (exs S.C S.B (.retM i)) Dn σ H) : tRet (tVar i) Dn σ H := by
  obtain ⟨e, g, ⟨F, U, m, fx, ml, bs⟩, r⟩ := h
  obtain ⟨x, hx, r1⟩ := ofS (k := fun x g => R.ok (.rt x true) g) r
  obtain ⟨v, hv, hr⟩ := m.var i x hx
  refine ⟨v, hv, r1 v F H (m.out fx (Stp.refl m.frz)) m.drw ?_⟩
  cases x with
  | lst xs =>
    obtain ⟨a, ha⟩ := ml i xs hm hx
    rw [ha] at hr
    obtain ⟨ys, vs, e1, rfl, h3, h4⟩ := hr
    cases e1
    obtain ⟨q1, q2, _, q4⟩ := m.own i a ha
    exact ⟨a, vs, rfl, q2, q1, q4, h3, h4⟩
  | _ =>
    cases hu : U i with
    | none => rw [hu] at hr; exact hr
    | some a =>
      rw [hu] at hr
      obtain ⟨ys, vs, e1, _⟩ := hr
      cases e1
def tX (S : Sx) (E : XK) (F0 : AS) (H0 : Hp) (s : ST) : TS := fun Dn σ H => ∃ Bs, Stable S.D Bs ∧ tSt S E F0 H0 Bs (exs S.C S.B s) Dn σ H
theorem resS_bs {Bs1 : BsT} {Dn : Ends} {r : R Fl} (hb : ∀ F H, Bs1 F H → Bs F H) (h : resS S E F0 H0 Bs Dn r) : resS S E F0 H0 Bs1 Dn r := by
  have k : ∀ {σ H e g}, SmS S F0 H0 Bs1 σ H e g → SmS S F0 H0 Bs σ H e g := fun ⟨F, U, m, fx, ml, b⟩ => ⟨F, U, m, fx, ml, hb _ _ b⟩
  cases r with
  | bad => exact h
  | exc _ _ _ => exact h
  | ok fl g => cases fl with
    | nx e => exact fun σ H q => h σ H (k q)
    | bk e => exact fun σ H q => h σ H (k q)
    | ct e => exact fun σ H q => h σ H (k q)
    | rt v b => exact h
/-- for: the source is frozen -/
theorem for_i {t : Tgt} {s : PX} {b : ST} {Dn : Ends} {σ : L2.St} {H : Hp} (hm : ∀ i ∈ slots t, S.mv i = false) (h : tX S E F0 H0 (.for_ t s b) Dn σ H) : tFor (tI S (Fst S.D) (Wof E) s) (gG S.K S.D t) (tX S E F0 H0 b) Dn σ H := by
  obtain ⟨Bs, sb, e, g, ⟨F, U, m, fx, ml, bs⟩, r⟩ := h
  refine go_then (Dn := Dn) (f := evSP S s) (rel := rW S (Fst S.D)) (k := fun xs g => forT (fun x e g => (R.of (bindT t x e) g).bind fun e g => exs S.C S.B b e g) xs e g) sb m fx bs r fun xs g1 J F1 H1 _ st m1 fx1 bs1 rl r1 => ?_
  obtain ⟨G, Y, w, hG, hY⟩ := rl
  let B1 : BsT := fun F H => Bs F H ∧ Fst S.D F1 F H1 H
  have sb1 : Stable S.D B1 := fun F F' H H' ⟨q1, q2⟩ q => ⟨sb F F' H H' q1 q, fun a z => q.sub a (q2.sub a z), fun a o z y => q.kp a o (q2.sub a z) (q2.kp a o z y)⟩
  refine for_it w (fun i σ H => tSt S E F0 H0 B1 (fun e g => forT (fun x e g => (R.of (bindT t x e) g).bind fun e g => exs S.C S.B b e g) (xs.drop i) e g) Dn σ H) ⟨e, g1, ⟨F1, U, m1, fx1, ml, bs1, fun _ z => z, fun _ _ _ z => z⟩, resS_bs (fun _ _ q => q.1) r1⟩ (fun i σ H _ ⟨e, g, ⟨F, U, m, fx, ml, q1, q2⟩, r⟩ => hG F H q2) (fun i v σ H H' hi ⟨e, g, ⟨F, U, m, fx, ml, q1, q2⟩, r⟩ y => ?_) fun σ H ⟨e, g, sm, r⟩ => ?_
  · obtain ⟨F2, x, ps, hx, rx⟩ := hY i F H v H' g hi q2 m.frz m.drw y
    have hdrop : xs.drop i = x :: xs.drop (i + 1) := by
      rw [List.drop_eq_getElem_cons hi]
      rw [List.getElem?_eq_getElem hi] at hx
      cases hx
      rfl
    rw [hdrop] at r
    replace r : resS S E F0 H0 B1 Dn (((R.of (bindT t x e) g).bind fun e g => exs S.C S.B b e g).bind fun fl g => match fl with
      | .nx e => forT (fun x e g => (R.of (bindT t x e) g).bind fun e g => exs S.C S.B b e g) (xs.drop (i + 1)) e g
      | .ct e => forT (fun x e g => (R.of (bindT t x e) g).bind fun e g => exs S.C S.B b e g) (xs.drop (i + 1)) e g
      | .bk e => .ok (.nx e) g
      | .rt v b => .ok (.rt v b) g) := r
    rw [bindR_assoc] at r
    obtain ⟨e', hb, r2⟩ := ofS r
    refine ⟨F2, H', x, e, e', fun _ _ q => q, rx, m.len, hb, fun σ2 br => ⟨B1, sb1, e', g, ⟨F2, U, (m.stp ps.stp (m.drw.ext ps.ext)).bound br hm, fx.step m ps.stp, ml.bound br hm, sb1 _ _ _ _ ⟨q1, q2⟩ ps.stp.fst⟩, ?_⟩⟩
    cases q : exs S.C S.B b e' g with
    | bad => rw [q] at r2; exact r2
    | exc _ _ _ => rw [q] at r2; exact r2
    | ok fl g2 =>
      rw [q] at r2
      cases fl with
      | nx e3 => exact fun σ' H' sm' => ⟨e3, g2, sm', r2⟩
      | ct e3 => exact fun σ' H' sm' => ⟨e3, g2, sm', r2⟩
      | bk e3 => exact r2
      | rt v k => exact r2
  · rw [List.drop_length] at r
    exact r σ H sm
end
end Pm
set_option Elab.async false
set_option linter.all false
set_option autoImplicit false
set_option maxRecDepth 100000
set_option maxHeartbeats 4000000
namespace Pm
open PySem L2 PySem.Spec PyProof.Rows
section
variable {X : Cx} {S : Sx} {W : WX} {pos : Pos}
def noStars (es : List Expr) : Bool := es.all noStar
theorem starEach_nos {env : PySem.Env} : ∀ {es : List Expr}, noStars es = true → starEach es env = es.map fun e => (false, eval e env)
  | [], _ => rfl
  | e :: es, h => by
    simp only [noStars, List.all_cons, Bool.and_eq_true] at h
    rw [starEach_no h.1, starEach_nos (es := es) h.2]
    rfl
theorem backTo_no {env : PySem.Env} {es : List Expr} (h : noStars es = true) : (backTo pos (starEach es env)).any (·.1) = false := by
  rw [starEach_nos h]
  unfold backTo
  induction es with
  | nil => rfl
  | cons e es ih =>
    simp only [noStars, List.all_cons, Bool.and_eq_true] at h
    simp only [List.map_cons, List.any_cons, Bool.false_or]
    exact ih h.2
theorem few_no {env : PySem.Env} {e : Expr} {es : List Expr} (h : noStars (e :: es) = true) (hl : es.length < 28) : ((backTo pos (starEach (e :: es) env)).all (fun x => !x.1) && (backToKw pos (keywordEach [] env)).all (fun x => x.1.isSome) && decide ((e :: es).length + ([] : List Keyword).length + (if ([] : List Keyword).isEmpty then 0 else 1) < 30)) = true := by
  have h1 : (backTo pos (starEach (e :: es) env)).all (fun x => !x.1) = true := by
    have q := backTo_no (pos := pos) (env := env) h
    rw [List.any_eq_false] at q
    rw [List.all_eq_true]
    intro x hx
    have := q x hx
    simpa using this
  have h2 : (backToKw pos (keywordEach [] env)).all (fun x => x.1.isSome) = true := rfl
  rw [h1, h2]
  simp
  omega
theorem primB {p : Prim} {r : List V → Hp → VK → Prop} {x : Str} {id : String} {e : Expr} {es : List Expr} {pa : PX} {p0 : Pos} (hs : PrimS S.K S.D p r) (hc : CallR X (.builtin id) r) (hg : Gl X x) (hm : X.mg x = none) (hv : bootBuiltins x = some (.builtin id)) (ns : noStars (e :: es) = true)
    (ha : PA X (e :: es) (tAT S W pa)) (hn : x ≠ "__name__") (hdb : (x == ("__debug__" : Str)) = false) : PE X (.Call (.Name x p0) (e :: es) [] pos) (tN S W (.pr p pa)) := by
  have n1 : noStar e = true ∧ noStars es = true := by simpa [noStars] using ns
  exact PE.imp (pe_callB (pos := pos) (p := p0) hc hg hm hv ha hn hdb (starEach_no n1.1) (backTo_no n1.2)) fun σ H Q h => prim_i hs h
theorem primT {p : Prim} {r : List V → Hp → VK → Prop} {x : Str} {id : String} {e : Expr} {es : List Expr} {pa : PX} {p0 : Pos} (hs : PrimS S.K S.D p r) (hc : CallR X (.type id) r) (hg : Gl X x) (hm : X.mg x = none) (hv : bootBuiltins x = some (.type id)) (ns : noStars (e :: es) = true)
    (ha : PA X (e :: es) (tAT S W pa)) (hn : x ≠ "__name__") (hdb : (x == ("__debug__" : Str)) = false) : PE X (.Call (.Name x p0) (e :: es) [] pos) (tN S W (.pr p pa)) := by
  have n1 : noStar e = true ∧ noStars es = true := by simpa [noStars] using ns
  exact PE.imp (pe_callTy (pos := pos) (p := p0) hc hg hm hv ha hn hdb (starEach_no n1.1) (backTo_no n1.2)) fun σ H Q h => prim_i hs h
theorem CallR.or {v : Value} {r r' : List V → Hp → VK → Prop} (h : CallR X v r) (h' : CallR X v r') : CallR X v (fun xs H Q => r xs H Q ∨ r' xs H Q) := by
  intro pins s σ H vs us Q I rv q
  rcases q with q | q
  · exact h pins s σ H vs us Q I rv q
  · exact h' pins s σ H vs us Q I rv q
/-- the built-in functions that are called by their names -/
def primOf (x : Str) : Option Prim :=
  if x = "len" then some .len else if x = "int" then some .int else if x = "tuple" then some .tuple else if x = "list" then some .list else if x = "sorted" then some .sorted
  else if x = "repr" then some .repr else if x = "min" then some .min else if x = "max" then some .max else if x = "all" then some .all else if x = "any" then some .any else none
theorem pe_primG {p : Prim} {x : Str} {e : Expr} {es : List Expr} {pa : PX} {p0 : Pos} (hp : primOf x = some p) (hK : X.K = S.K) (hcalm : X.calm = true) (hgd : X.A.guards = some []) (hu : X.A.units + 66 < cLine) (hg : Gl X x) (hm : X.mg x = none) (ns : noStars (e :: es) = true)
    (ha : PA X (e :: es) (tAT S W pa)) : PE X (.Call (.Name x p0) (e :: es) [] pos) (tN S W (.pr p pa)) := by
  unfold primOf at hp
  split at hp
  · rename_i h; subst h; cases hp; exact primB (by rw [← hK]; exact len_s) call_len hg hm (by decide +kernel) ns ha (by decide) (by decide)
  split at hp
  · rename_i h; subst h; cases hp; exact primT int_s call_int1 hg hm PyProof.Rows.boot_int ns ha (by decide) (by decide)
  split at hp
  · rename_i h; subst h; cases hp; exact primT (by rw [← hK]; exact tuple_s) call_tuple_of hg hm PyProof.Rows.boot_tuple ns ha (by decide) (by decide)
  split at hp
  · rename_i h; subst h; cases hp; exact primT (by rw [← hK]; exact list_s) call_list_of hg hm PyProof.Rows.boot_list ns ha (by decide) (by decide)
  split at hp
  · rename_i h; subst h; cases hp; exact primB (by rw [← hK]; exact sorted_s) cr_sortedI hg hm PyProof.Rows.boot_sorted ns ha (by decide) (by decide)
  split at hp
  · rename_i h; subst h; cases hp; exact primB (by rw [← hK]; exact repr_s) (cr_repr hgd hu) hg hm PyProof.Rows.boot_repr ns ha (by decide) (by decide)
  split at hp
  · rename_i h; subst h; cases hp; exact primB (by rw [← hK]; exact min_s) (CallR.or (call_min2 hcalm) (cr_min hcalm)) hg hm PyProof.Rows.boot_min ns ha (by decide) (by decide)
  split at hp
  · rename_i h; subst h; cases hp; exact primB (by rw [← hK]; exact max_s) (CallR.or (call_max2 hcalm) (cr_max hcalm)) hg hm PyProof.Rows.boot_max ns ha (by decide) (by decide)
  split at hp
  · rename_i h; subst h; cases hp; exact primB (by rw [← hK]; exact all_s) (cr_all hcalm) hg hm PyProof.Rows.boot_all ns ha (by decide) (by decide)
  split at hp
  · rename_i h; subst h; cases hp; exact primB (by rw [← hK]; exact any_s) (cr_any hcalm) hg hm PyProof.Rows.boot_any ns ha (by decide) (by decide)
  · cases hp
/-- tuple(range(..)), list(range(..)) -/
theorem rangeV_rg {a b : Int} {xs : List Val} (h : rangeV a b = some xs) : RgOk a b ∧ ∀ {K : PySem.W.Frag} {D : DA} {F : AS} {H : Hp}, Reps K D F H xs (rgV a b) := by
  unfold rangeV at h
  split at h
  · rename_i hb
    cases h
    refine ⟨⟨hb.1, hb.2.1, hb.2.2.1, hb.2.2.2.1, Nat.le_trans hb.2.2.2.2 (by decide)⟩, fun {K D F H} => ?_⟩
    have e1 : ((List.range (b - a).toNat).map fun (k : Nat) => Val.int (a + (k : Int))) = ((List.range (b - a).toNat).map fun (k : Nat) => a + (k : Int)).map Val.int := by rw [List.map_map]; rfl
    rw [e1]
    refine Reps.ints.mpr ?_
    unfold rgV
    rw [List.map_map]
    rfl
  · cases h
theorem tRg_i {pr : Prim} {mk : List Val → Val} (hmk : ∀ a b, vPrim pr [.int a, .int b] = (rangeV a b).map mk) (hno : ∀ x y, (∀ a b, ¬ (x = .int a ∧ y = .int b)) → vPrim pr [x, y] = none) {pa pb : PX} {σ : L2.St} {H : Hp} {T : Int → Int → Hp → Prop} {Q : VK}
    (h : tN S W (.pr pr (.cons pa (.cons pb .nil))) σ H Q)
    (n : ∀ a b xs g F H1, rangeV a b = some xs → FOk S.D F H1 → GRel S.D g H1 → (∀ v F' H', Stp S.D F F' H1 H' → GRel S.D g H' → RepN S.K S.D H1 F' H' (mk xs) v → Q v H') → T a b H1) :
    tRg2 (tP S W pa) (tP S W pb) σ H T := by
  have h' : tG S W (rN S) (fun e g => (ev S.C S.B pa e g).bind fun x g => (ev S.C S.B pb e g).bind fun y g => .of (vPrim pr [x, y]) g) σ H Q := by
    obtain ⟨F, U, H0, e, g, m, r⟩ := h
    refine ⟨F, U, H0, e, g, m, ?_⟩
    replace r : resF S W (rN S) U F H σ (((ev S.C S.B pa e g).bind fun x g => (((ev S.C S.B pb e g).bind fun y g => R.ok [y] g)).bind fun ys g => R.ok (x :: ys) g).bind fun xs g => .of (vPrim pr xs) g) _ := r
    rw [bindR_assoc] at r
    have e1 : (fun (x : Val) (g : DrawSt) => (((ev S.C S.B pb e g).bind fun y g => R.ok [y] g).bind fun ys g => R.ok (x :: ys) g).bind fun xs g => R.of (vPrim pr xs) g) = fun x g => (ev S.C S.B pb e g).bind fun y g => .of (vPrim pr [x, y]) g := by
      funext x g
      rw [bindR_assoc, bindR_assoc]
      rfl
    rw [e1] at r
    exact r
  refine tG_then (rel1 := rT S) (f := evP S pa) (k := fun x e g => (ev S.C S.B pb e g).bind fun y g => .of (vPrim pr [x, y]) g) rN_ok h' fun x g1 v F1 U H0 e H1 m rl r1 => ?_
  obtain ⟨_, _, _, rl⟩ := rl
  refine ⟨F1, U, H0, e, g1, m, resF_mono (resF_bind (rel1 := rT S) rN_ok r1) fun y g2 _ hk w F2 H2 st gr rl2 => ?_⟩
  obtain ⟨z, h1, h2⟩ := resF_of (hk w F2 H2 st gr rl2)
  by_cases hxy : ∃ a b, x = .int a ∧ y = .int b
  · obtain ⟨a, b, rfl, rfl⟩ := hxy
    rw [hmk, Option.map_eq_some_iff] at h1
    obtain ⟨xs, hx, rfl⟩ := h1
    cases RepT_int.mp rl
    cases RepT_int.mp rl2
    exact ⟨a, b, rfl, rfl, n a b xs g2 F2 H2 hx st.frz gr h2⟩
  · rw [hno x y fun a b q => hxy ⟨a, b, q⟩] at h1
    cases h1
theorem pe_tupRgG {a b : Expr} {pa pb : PX} {p p1 pos1 : Pos} (hc : X.calm = true) (hg : Gl X "tuple") (hm : X.mg "tuple" = none) (hg1 : Gl X "range") (hm1 : X.mg "range" = none) (na : noStar a = true) (nb : noStar b = true) (ha : PE X a (tP S W pa)) (hb : PE X b (tP S W pb)) :
    PE X (.Call (.Name "tuple" p) [.Call (.Name "range" p1) [a, b] [] pos1] [] pos) (tN S W (.pr .rangeT (.cons pa (.cons pb .nil)))) := by
  refine PE.imp (pe_tupRg hc hg hm (prg_2 hg1 hm1 ha hb (starEach_no na) (starEach_no nb) (backTo_no (by simp [noStars, nb])))) fun σ H Q h => ?_
  refine tRg_i (mk := .tup) (fun a b => rfl) (fun x y q => ?_) h fun a b xs g F H1 hx fo gr k => ?_
  · cases x <;> cases y <;> first | rfl | exact absurd ⟨rfl, rfl⟩ (q _ _)
  · obtain ⟨h1, h2⟩ := rangeV_rg hx
    refine ⟨h1, fun p hp => ?_⟩
    obtain ⟨F', s1, s2⟩ := new_tup fo gr hp h2
    exact k _ F' _ s1.stp (gr.ext s1.ext) s2
theorem pe_lstRgG {a b : Expr} {pa pb : PX} {p p1 pos1 : Pos} (hc : X.calm = true) (hg : Gl X "list") (hm : X.mg "list" = none) (hg1 : Gl X "range") (hm1 : X.mg "range" = none) (na : noStar a = true) (nb : noStar b = true) (ha : PE X a (tP S W pa)) (hb : PE X b (tP S W pb)) :
    PE X (.Call (.Name "list" p) [.Call (.Name "range" p1) [a, b] [] pos1] [] pos) (tN S W (.pr .rangeL (.cons pa (.cons pb .nil)))) := by
  refine PE.imp (pe_listRg hc hg hm (prg_2 hg1 hm1 ha hb (starEach_no na) (starEach_no nb) (backTo_no (by simp [noStars, nb])))) fun σ H Q h => ?_
  refine tRg_i (mk := .lst) (fun a b => rfl) (fun x y q => ?_) h fun a b xs g F H1 hx fo gr k => ?_
  · cases x <;> cases y <;> first | rfl | exact absurd ⟨rfl, rfl⟩ (q _ _)
  · obtain ⟨h1, h2⟩ := rangeV_rg hx
    refine ⟨h1, fun p hp => ?_⟩
    obtain ⟨s1, s2⟩ := new_lst fo gr hp h2
    exact k _ F _ s1.stp (gr.ext s1.ext) s2
theorem rg1_of2 {pa : PX} {σ : L2.St} {H : Hp} {T : Int → Int → Hp → Prop} (h : tRg2 (tP S W (.c (.int 0))) (tP S W pa) σ H T) : tRg1 (tP S W pa) σ H T := by
  obtain ⟨F, U, H0, e, g, m, r⟩ := h
  have q := r (.int 0) F H (Stp.refl m.frz) m.drw (RepT_int.mpr rfl)
  obtain ⟨F', U', H0', e', g', m', r'⟩ := q
  refine ⟨F', U', H0', e', g', m', resF_mono r' fun x g1 _ hk v F1 H1 st gr rl => ?_⟩
  obtain ⟨i, j, q1, q2, q3⟩ := hk v F1 H1 st gr rl
  cases q1
  exact ⟨j, q2, q3⟩
theorem pe_tupRg1G {a : Expr} {pa : PX} {p p1 pos1 : Pos} (hc : X.calm = true) (hg : Gl X "tuple") (hm : X.mg "tuple" = none) (hg1 : Gl X "range") (hm1 : X.mg "range" = none) (na : noStar a = true) (ha : PE X a (tP S W pa)) :
    PE X (.Call (.Name "tuple" p) [.Call (.Name "range" p1) [a] [] pos1] [] pos) (tN S W (.pr .rangeT (.cons (.c (.int 0)) (.cons pa .nil)))) := by
  refine PE.imp (pe_tupRg hc hg hm (prg_1 hg1 hm1 ha (starEach_no na))) fun σ H Q h => rg1_of2 ?_
  refine tRg_i (mk := .tup) (fun a b => rfl) (fun x y q => ?_) h fun a b xs g F H1 hx fo gr k => ?_
  · cases x <;> cases y <;> first | rfl | exact absurd ⟨rfl, rfl⟩ (q _ _)
  · obtain ⟨h1, h2⟩ := rangeV_rg hx
    refine ⟨h1, fun p hp => ?_⟩
    obtain ⟨F', s1, s2⟩ := new_tup fo gr hp h2
    exact k _ F' _ s1.stp (gr.ext s1.ext) s2
theorem pe_lstRg1G {a : Expr} {pa : PX} {p p1 pos1 : Pos} (hc : X.calm = true) (hg : Gl X "list") (hm : X.mg "list" = none) (hg1 : Gl X "range") (hm1 : X.mg "range" = none) (na : noStar a = true) (ha : PE X a (tP S W pa)) :
    PE X (.Call (.Name "list" p) [.Call (.Name "range" p1) [a] [] pos1] [] pos) (tN S W (.pr .rangeL (.cons (.c (.int 0)) (.cons pa .nil)))) := by
  refine PE.imp (pe_listRg hc hg hm (prg_1 hg1 hm1 ha (starEach_no na))) fun σ H Q h => rg1_of2 ?_
  refine tRg_i (mk := .lst) (fun a b => rfl) (fun x y q => ?_) h fun a b xs g F H1 hx fo gr k => ?_
  · cases x <;> cases y <;> first | rfl | exact absurd ⟨rfl, rfl⟩ (q _ _)
  · obtain ⟨h1, h2⟩ := rangeV_rg hx
    refine ⟨h1, fun p hp => ?_⟩
    obtain ⟨s1, s2⟩ := new_lst fo gr hp h2
    exact k _ F _ s1.stp (gr.ext s1.ext) s2
/-- sorted(set(..)) -/
theorem one_arg {p : Prim} {pa : PX} {σ : L2.St} {H : Hp} {Q : VK} (h : tN S W (.pr p (.cons pa .nil)) σ H Q) : tG S W (rN S) (fun e g => (ev S.C S.B pa e g).bind fun x g => .of (vPrim p [x]) g) σ H Q := by
  obtain ⟨F, U, H0, e, g, m, r⟩ := h
  refine ⟨F, U, H0, e, g, m, ?_⟩
  replace r : resF S W (rN S) U F H σ (((ev S.C S.B pa e g).bind fun x g => R.ok [x] g).bind fun xs g => .of (vPrim p xs) g) _ := r
  rw [bindR_assoc] at r
  exact r
theorem pe_sortedSetG {a : Expr} {pa : PX} {p p1 pos1 : Pos} (hK : X.K = S.K) (hc : X.calm = true) (hg : Gl X "sorted") (hm : X.mg "sorted" = none) (hg1 : Gl X "set") (hm1 : X.mg "set" = none) (na : noStar a = true) (ha : PE X a (tP S W pa)) :
    PE X (.Call (.Name "sorted" p) [.Call (.Name "set" p1) [a] [] pos1] [] pos) (tN S W (.pr .sortedSet (.cons pa .nil))) := by
  have h1 := pe_callTy (X := X) (pos := pos1) (p := p1) (cr_setTup hc) hg1 hm1 PyProof.Rows.boot_set (pa_cons ha pa_nil (starEach_no na)) (by decide) (by decide) (starEach_no na) rfl
  rw [hK] at h1
  refine PE.imp (pe_callB (X := X) (pos := pos) (p := p) (cr_sortedSet hc) hg hm PyProof.Rows.boot_sorted (pa_cons h1 pa_nil)) fun σ H Q h => ?_
  refine tG_then (rel1 := rT S) (k := fun x _ g => .of (vPrim .sortedSet [x]) g) rN_ok (one_arg h) fun x g1 v F1 U H0 e H1 m rl r => ?_
  obtain ⟨_, _, _, rl⟩ := rl
  obtain ⟨z, h3, h4⟩ := resF_of r
  cases x <;> try exact nomatch (show (none : Option Val) = some z from h3)
  rename_i xs
  replace h3 : ((intsOf xs).bind fun ns => if ns.length ≤ 1000 ∧ (dedI ns).length < 64 then some (Val.lst ((sortI (dedI ns)).map .int)) else none) = some z := h3
  rw [Option.bind_eq_some_iff] at h3
  obtain ⟨ns, hns, h3⟩ := h3
  split at h3
  case isFalse => cases h3
  case isTrue hb =>
  cases h3
  obtain ⟨b, vs, rfl, h5, h6⟩ := RepT_tup.mp rl
  rw [intsOf_eq hns] at h6
  have e6 := Reps.ints.mp h6
  subst e6
  refine ⟨b, ns, rfl, h5.sq, hb.1, fun q hq => ?_⟩
  refine ⟨q, _, _, rfl, upd_same, hb.2, fun ms l h7 h8 h9 hl => ?_⟩
  have e7 : ms = sortI (dedI ns) := sortI_ded h7 fun k => by rw [h8]; simp
  subst e7
  have eF : (fun a => F1 a ∨ (a = q ∧ False)) = F1 := by funext a; simp
  have ps := PSt.alloc (o := SetO X.w q (fun j => decide (j ∈ ns)) (dedI ns).length) m.frz hq m.drw False
  rw [eF] at ps
  obtain ⟨s1, s2⟩ := new_lst (K := S.K) ps.stp.frz (m.drw.ext ps.ext) hl ((Reps.ints (ns := sortI (dedI ns))).mpr rfl)
  have st := ps.stp.trans s1.stp
  refine h4 _ F1 _ st ((m.drw.ext ps.ext).ext s1.ext) ?_
  obtain ⟨a', ws, e1, q1, q2⟩ := s2
  exact ⟨a', ws, e1, ps.stp.live _ q1, q2⟩
/-- xs.index(y) -/
theorem findIdx_spec {ds : List PyData} {d : PyData} {k : Nat} (h : (ds.findIdx? fun z => PyData.eqv z d) = some k) : ∃ z, ds[k]? = some z ∧ PyData.eqv z d = true ∧ ∀ (m : Nat) (z' : PyData), m < k → ds[m]? = some z' → PyData.eqv z' d = false := by
  rw [List.findIdx?_eq_some_iff_getElem] at h
  obtain ⟨hk, h1, h2⟩ := h
  refine ⟨ds[k], by simp [hk], h1, fun m z' hm hz => ?_⟩
  have := h2 m hm
  rw [List.getElem?_eq_getElem (by omega)] at hz
  cases hz
  simpa using this
theorem pe_indexG {o a : Expr} {po pa : PX} {apos : Pos} (hK : X.K = S.K) (hu : X.A.units + 65 < cLine) (na : noStar a = true) (hbase : attributeBase o "index" X.env (eval o X.env) = eval o X.env) (hline : (apos.endLine == pos.line) = true) (ho : PE X o (tP S W po)) (ha : PE X a (tP S W pa)) :
    PE X (.Call (.Attribute o "index" apos) [a] [] pos) (tN S W (.idx po pa)) := by
  have hk := pe_bm (X := X) (apos := apos) (cpos := pos) PySem.F.plainAttrs_list PySem.F.slot_list_index PySem.F.type_list_index (mt_indexD hu) ho (pa_cons ha pa_nil (starEach_no na)) hbase (few_no (by simp [noStars, na]) (by decide)) hline (starEach_no na) rfl
  rw [hK] at hk
  refine PE.imp hk fun σ H Q h => ?_
  refine tG_then (rel1 := rT S) (f := evP S po) (k := fun x e g => (R.of (isL x) g).bind fun _ g => (ev S.C S.B pa e g).bind fun y g => .of (vPrim .index [x, y]) g) rN_ok h fun x g1 v F1 U H0 e H1 m rl r1 => ?_
  obtain ⟨_, _, _, rl⟩ := rl
  cases x <;> try exact False.elim r1
  rename_i xs
  replace r1 : resF S W (rN S) U F1 H1 σ ((ev S.C S.B pa e g1).bind fun y g => .of (vPrim .index [.lst xs, y]) g) _ := r1
  obtain ⟨b, vs, rfl, h0, h1, h2⟩ := RepT_lst.mp rl
  refine ⟨.inl ⟨rfl, vs, SqL.of h1⟩, ?_⟩
  refine ⟨F1, U, H0, e, g1, m, resF_mono (resF_bind (rel1 := rT S) rN_ok r1) fun y g2 _ hk w F2 H2 st gr rl2 => ?_⟩
  obtain ⟨z, h3, h4⟩ := resF_of (hk w F2 H2 st gr rl2)
  replace h3 : (match toD y, toDs xs with
    | some d, some ds => if (SeqAt.shaped d && SeqAt.shaped (.list ds)) = true then (ds.findIdx? fun z => PyData.eqv z d).map fun (k : Nat) => Val.int (k : Int) else none
    | _, _ => none) = some z := h3
  split at h3
  case h_2 => cases h3
  case h_1 d ds e1 e2 =>
  split at h3
  case isFalse => cases h3
  case isTrue hsh =>
  simp only [Bool.and_eq_true] at hsh
  rw [Option.map_eq_some_iff] at h3
  obtain ⟨k, hk, rfl⟩ := h3
  obtain ⟨q, hq1, hq2, hq3⟩ := findIdx_spec hk
  have rx : RepT S.K S.D F2 H2 (.lst xs) (.ref b) := RepT.stp st rl
  refine ⟨b, w, d, ds, k, q, rfl, rfl, RepT.dp rx (by simp only [toD, e2, Option.map_some]), RepT.dp rl2 e1, hsh.2, hsh.1, hq1, hq2, hq3, h4 _ F2 H2 (Stp.refl st.frz) gr (RepN_int.mpr rfl)⟩
end
end Pm
set_option Elab.async false
set_option linter.all false
set_option autoImplicit false
set_option maxRecDepth 100000
set_option maxHeartbeats 4000000
namespace Pm
open PySem L2 PySem.Spec PyProof.Rows

/-! ### the translator: expressions -/
inductive Mo where | e | p | b
/-- what is known of a block -/
structure TX where
  N : List Str
  sc : Scope
  mv : Nat → Bool
  fx : Str → Bool
  fn : Str → Option Nat
  gc : Str → Option Val
  bl : Str → Bool
  dr : Str → Bool
def ixOf : List Str → Str → Option Nat
  | [], _ => none
  | y :: r, x => if y = x then some 0 else (ixOf r x).map (· + 1)
theorem ixOf_some : ∀ {N : List Str} {x : Str} {i : Nat}, ixOf N x = some i → N[i]? = some x
  | [], _, _, h => by simp [ixOf] at h
  | y :: r, x, i, h => by
    unfold ixOf at h
    split at h
    · rename_i e; cases h; rw [e]; rfl
    · rw [Option.map_eq_some_iff] at h
      obtain ⟨j, hj, rfl⟩ := h
      simpa using ixOf_some hj
def visB (sc : Scope) (x : Str) : Bool := match sc.names.lookup x with
  | some .local => true | some .cell => true | some .free => true | _ => false
def locB (sc : Scope) (x : Str) : Bool := match sc.names.lookup x with
  | some .local => true | some .cell => true | _ => false
def isLoc (sc : Scope) (x : Str) : Bool := match sc.names.lookup x with
  | some .local => true | _ => false
def glB (sc : Scope) (x : Str) : Bool := match sc.names.lookup x with
  | some .globalImplicit => true | _ => false
def okNm (x : Str) : Bool := !(x == ("__debug__" : Str)) && !(x == ("__classdict__" : Str))
theorem visB_ok {sc : Scope} {x : Str} (h : visB sc x = true) : Vis sc x := by
  unfold visB at h
  split at h
  · exact .inl (by assumption)
  · exact .inr (.inl (by assumption))
  · exact .inr (.inr (by assumption))
  · cases h
theorem locB_ok {sc : Scope} {x : Str} (h : locB sc x = true) : Loc sc x := by
  unfold locB at h
  split at h
  · exact .inl (by assumption)
  · exact .inr (by assumption)
  · cases h
theorem isLoc_ok {sc : Scope} {x : Str} (h : isLoc sc x = true) : sc.names.lookup x = some .local := by
  unfold isLoc at h
  split at h
  · assumption
  · cases h
theorem glB_ok {sc : Scope} {x : Str} (h : glB sc x = true) : sc.names.lookup x = some .globalImplicit := by
  unfold glB at h
  split at h
  · assumption
  · cases h
/-- the promise of the drawing def -/
def spDraw (S : Sx) : Sp := fun vs H Q _ => ∃ (F : AS) (g : DrawSt) (l : Int), FOk S.D F H ∧ GRel S.D g H ∧ vs = [.ref S.D.m, .int l] ∧ 0 < l ∧ l ≤ 1000000 ∧ chk S.B g.spot = true ∧ ∀ F' H', Stp S.D F F' H H' → GRel S.D (drawF g l).2 H' → Q (.int (drawF g l).1) H'
structure Good (T : TX) (X : Cx) (S : Sx) (W : WX) : Prop where
  N : X.N = T.N
  nd : T.N.Nodup
  sc : X.env.scope = T.sc
  kd : T.sc.kind = .function
  mv : S.mv = T.mv
  calm : X.calm = true
  K : X.K = S.K
  gd : X.A.guards = some []
  un : X.A.units + 66 < cLine
  tk : Takes X W
  fx : ∀ x, T.fx x = true → X.fn x = true
  bl : ∀ x, T.bl x = true → X.mg x = none
  gc : ∀ x v, T.gc x = some v → ∃ w u, X.mg x = some u ∧ RelV w u ∧ notLst v = true ∧ ∀ F H, Rep S.K S.D F H v w
  fn : ∀ x f, T.fn x = some f → ∃ k a fd ps, X.mg x = some (.ref a) ∧ PySem.W.keepIn X.K (.ref a) = true ∧ Binds X.K fd ps [] ∧ Room k X.A ∧ FnG X.prog X.w X.K X.mg X.base k a fd ps (spF S.K S.C S.XT f)
  dr : ∀ x, T.dr x = true → ∃ k a fd ps, X.mg x = some (.ref a) ∧ PySem.W.keepIn X.K (.ref a) = true ∧ Binds X.K fd ps [] ∧ Room k X.A ∧ FnG X.prog X.w X.K X.mg X.base k a fd ps (spDraw S)
def TX.blk (T : TX) (scope : Scope) : TX := { T with sc := relS scope T.sc, fx := fun x => scope.names.lookup x == some .cell }
abbrev W0 : WX := fun _ _ _ _ => False
theorem Good.blk {T : TX} {X : Cx} {S : Sx} {W : WX} (G : Good T X S W) {scope : Scope} (hk : scope.kind = .function) (s : Shared) (H : Hp) (C : Addr) (cl : List (Str × Addr)) (fp : List Addr) : Good (T.blk scope) (X.blk s H scope (compEnvC scope cl C X.env) fp) S W0 where
  N := G.N
  nd := G.nd
  sc := by
    show (compEnvC scope cl C X.env).scope = relS scope T.sc
    rw [← G.sc]; rfl
  kd := hk
  mv := G.mv
  calm := G.calm
  K := G.K
  gd := G.gd
  un := G.un
  tk := takes0
  fx := fun _ h => h
  bl := G.bl
  gc := G.gc
  fn := G.fn
  dr := G.dr
section
variable {T : TX} {X : Cx} {S : Sx} {W : WX}
theorem Good.gl (G : Good T X S W) {x : Str} (h : glB T.sc x = true) : Gl X x := by
  show X.env.scope.names.lookup x = _
  rw [G.sc]; exact glB_ok h
theorem Good.var (G : Good T X S W) {x : Str} {i : Nat} {pos : Pos} (h : visB T.sc x = true) (hn : okNm x = true) (hi : ixOf T.N x = some i) : PE X (.Name x pos) (tVar i) := by
  simp only [okNm, Bool.and_eq_true, Bool.not_eq_true'] at hn
  exact pe_var (by rw [G.N]; exact ixOf_some hi) (by rw [G.sc]; exact visB_ok h) hn.1 hn.2
end
/-! ### nothing is promised of what is not translated -/
def relM (S : Sx) : Mo → Rel Val V
  | .e => rE S | .p => rT S | .b => rB S
def relsM (S : Sx) : Mo → Rel (List Val) (List V)
  | .e => rEs S | .p => rTs S | .b => rBs S
section
variable {X : Cx} {S : Sx} {W : WX}
theorem pe_no {e : Expr} {rel : Rel Val V} : PE X e (tG S W rel (evP S .no)) := ⟨fun pins s σ H Q I ⟨F, U, H0, en, g, m, r⟩ => False.elim r⟩
theorem pt_no {e : Expr} : PT X e (tT S W .no) := ⟨fun pins s σ H Q I ⟨F, U, H0, en, g, m, r⟩ => False.elim r⟩
theorem pw_no {e : Expr} : PW X e (tT S W .no) := ⟨fun wh pins s σ H Q I ⟨F, U, H0, en, g, m, r⟩ => False.elim r⟩
theorem pa_no {es : List Expr} {rel : Rel (List Val) (List V)} : PA X es (tG S W rel (evsP S .no)) := ⟨fun pos pins s σ H Q I ⟨F, U, H0, en, g, m, r⟩ => False.elim r⟩
theorem pi_no {tg e : Expr} {M : Md} : PI X tg e (tI S M W .no) := ⟨fun pins s σ H R I ⟨F, U, H0, en, g, m, r⟩ => False.elim r⟩
theorem m_of_e {e : Expr} {f : Pm.Env → DrawSt → R Val} (m : Mo) (h : PE X e (tG S W (rE S) f)) : PE X e (tG S W (relM S m) f) := by
  cases m with
  | e => exact h
  | p => exact t_of_e h
  | b => exact b_of_e h
theorem m_of_n {e : Expr} {f : Pm.Env → DrawSt → R Val} (m : Mo) (h : PE X e (tG S W (rN S) f)) : PE X e (tG S W (relM S m) f) := m_of_e m (e_of_n h)
theorem relM_ok {D : DA} (m : Mo) : RelOk D (relM S m) := by
  cases m with
  | e => exact rE_ok
  | p => exact rT_ok
  | b => exact rB_ok
end
end Pm
set_option Elab.async false
set_option linter.all false
set_option autoImplicit false
set_option maxRecDepth 100000
set_option maxHeartbeats 4000000
namespace Pm
open PySem L2 PySem.Spec PyProof.Rows
structure Rc where
  e : TX → Mo → Expr → PX
  n : TX → Expr → PX
  t : TX → Expr → PX
structure SRc (rc : Rc) : Prop where
  e : ∀ {T X S W}, Good T X S W → ∀ m e, PE X e (tG S W (relM S m) (evP S (rc.e T m e)))
  n : ∀ {T X S W}, Good T X S W → ∀ e, PE X e (tN S W (rc.n T e))
  t : ∀ {T X S W}, Good T X S W → ∀ e, PT X e (tT S W (rc.t T e))
/-! ### targets -/
def tgL (f : Expr → Option Tgt) : List Expr → Option (List Tgt)
  | [] => some []
  | e :: r => if noStar e = true then (match f e, tgL f r with
    | some t, some ts => some (t :: ts)
    | _, _ => none) else none
def tgF (T : TX) : Nat → Expr → Option Tgt
  | 0, _ => none
  | n + 1, e => match e with
    | .Name x _ => if (locB T.sc x && (T.fx x || isLoc T.sc x)) = true then (ixOf T.N x).map .nm else none
    | .Tuple es _ _ => (tgL (tgF T n) es).map .tp
    | _ => none
section
variable {T : TX} {X : Cx} {S : Sx} {W : WX}
theorem assignEach_no {e : Expr} {es : List Expr} {env : PySem.Env} (h : noStar e = true) : assignEach (e :: es) env = (false, assign e env) :: assignEach es env := by
  cases e <;> first | rfl | cases h
theorem tgL_ok {f : Expr → Option Tgt} (hf : ∀ e t, f e = some t → PG X e (gG S.K S.D t)) : ∀ {es : List Expr} {ts : List Tgt}, tgL f es = some ts → PGs X es (gGs S.K S.D ts) ∧ (assignEach es X.env).length = ts.length ∧ (assignEach es X.env).findIdx? (·.1) = none
  | [], ts, h => by simp only [tgL] at h; cases h; exact ⟨pgs_nilG, rfl, rfl⟩
  | e :: r, ts, h => by
    unfold tgL at h
    split at h
    case isFalse => cases h
    case isTrue hs =>
    split at h
    · rename_i t ts' h1 h2
      cases h
      obtain ⟨p1, p2, p3⟩ := tgL_ok hf h2
      refine ⟨pgs_consG (hf e t h1) p1 (by rw [assignEach_no hs]; rfl), by rw [assignEach_no hs, List.length_cons, List.length_cons, p2], ?_⟩
      rw [assignEach_no hs, List.findIdx?_cons, p3]
      rfl
    · cases h
theorem tgF_ok (G : Good T X S W) : ∀ (n : Nat) (e : Expr) (t : Tgt), tgF T n e = some t → PG X e (gG S.K S.D t)
  | 0, _, _, h => by simp [tgF] at h
  | n + 1, e, t, h => by
    unfold tgF at h
    split at h
    · rename_i x p
      split at h
      case isFalse => cases h
      case isTrue hb =>
      simp only [Bool.and_eq_true, Bool.or_eq_true] at hb
      rw [Option.map_eq_some_iff] at h
      obtain ⟨i, hi, rfl⟩ := h
      refine pg_nm (pg_name (by rw [G.N]; exact G.nd) (by rw [G.N]; exact ixOf_some hi) (by rw [G.sc]; exact locB_ok hb.1) ?_)
      rcases hb.2 with q | q
      · exact .inl (G.fx x q)
      · exact .inr (by rw [G.sc]; exact isLoc_ok q)
    · rename_i es k p
      rw [Option.map_eq_some_iff] at h
      obtain ⟨ts, ht, rfl⟩ := h
      obtain ⟨p1, p2, p3⟩ := tgL_ok (tgF_ok G n) ht
      exact pg_tpG G.K G.calm p1 p2 p3
    · cases h
end
/-! ### lists of expressions, boolean operators, slices -/
section
variable (rc : Rc) (T : TX)
def trs (m : Mo) : List Expr → PX
  | [] => .nil
  | e :: r => match e with
    | .Starred a _ => match m with
      | .e => .scons (rc.e T .p a) (trs .e r)
      | _ => .no
    | e => .cons (rc.e T m e) (trs m r)
def trBT (op : BoolOp) : List Expr → PX
  | [] => .no
  | [a] => rc.t T a
  | a :: b :: r => match op with
    | .And => .an (rc.t T a) (trBT .And (b :: r))
    | .Or => .oo (rc.t T a) (trBT .Or (b :: r))
def trBE (op : BoolOp) : List Expr → PX
  | [] => .no
  | [a] => rc.e T .e a
  | a :: b :: r => match op with
    | .And => .an (rc.e T .e a) (trBE .And (b :: r))
    | .Or => .oo (rc.e T .e a) (trBE .Or (b :: r))
def trO : Option Expr → PX
  | none => .no
  | some a => .part (rc.e T .p a)
def tests : List Expr → PX
  | [] => .c (.bl true)
  | [c] => rc.t T c
  | _ => .no
def notSet : Expr → Bool
  | .Set .. => false
  | _ => true
def src (d0 : Bool) (tg it : Expr) : PX := match it with
  | .Call (.Name x _) args [] _ =>
    if x = "range" then
      if (glB T.sc "range" && T.bl "range") = true then (match args with
        | [a] => if noStar a = true then .rng (.c (.int 0)) (rc.e T .p a) else .no
        | [a, b] => if (noStar a && noStar b) = true then .rng (rc.e T .p a) (rc.e T .p b) else .no
        | _ => .no) else .no
    else if x = "enumerate" then
      if (glB T.sc "enumerate" && T.bl "enumerate") = true then (match tg, args with
        | .Tuple _ _ _, [a] => if noStar a = true then .enm (rc.e T .e a) else .no
        | _, _ => .no) else .no
    else .it (rc.e T (if d0 then .p else .e) it)
  | _ => .it (rc.e T (if d0 then .p else .e) it)
def gSl : List Comprehension → List Nat
  | [] => []
  | c :: r => (match tgF T 4 c.target with | some t => slots t | none => []) ++ gSl r
def disj (xs ys : List Nat) : Bool := xs.all fun i => !(ys.contains i)
def trG (elt : Expr) : List Comprehension → PX
  | [] => .yld (rc.e T .e elt)
  | ⟨tg, it, ifs, a⟩ :: r => if (decide (a = 0) && notSet it) = true then (match tgF T 4 tg with
    | some t => if ((slots t).all (fun i => !T.mv i) && disj (slots t) (gSl T r)) = true then .gen t (src rc T false tg it) (tests rc T ifs) (trG elt r) else .no
    | none => .no) else .no
def ownOf (scope : Scope) : List (Str × Nat) := scope.names.filterMap fun y => match y.2 with
  | .local => (ixOf T.N y.1).map fun i => (y.1, i)
  | .cell => (ixOf T.N y.1).map fun i => (y.1, i)
  | _ => none
def trComp (elt : Expr) (gens : List Comprehension) (scope : Scope) : PX := match gens with
  | [] => .no
  | ⟨tg, it, ifs, a⟩ :: r => if (decide (a = 0) && notSet it && blkC T.N T.sc scope (ownOf T scope)) = true then (match tgF (T.blk scope) 4 tg with
    | some t => if ((slots t).all (fun i => ((ownOf T scope).map (·.2)).contains i && !T.mv i) && disj (slots t) (gSl (T.blk scope) r) && (gSl (T.blk scope) r).all fun i => ((ownOf T scope).map (·.2)).contains i) = true
      then .comp ((ownOf T scope).map (·.2)) t (src rc T true tg it) (tests rc (T.blk scope) ifs) (trG rc (T.blk scope) elt r) else .no
    | none => .no) else .no
end
section
variable {rc : Rc} {T : TX} {X : Cx} {S : Sx} {W : WX}
theorem trs_ok (R : SRc rc) (G : Good T X S W) (m : Mo) : ∀ es : List Expr, PA X es (tG S W (relsM S m) (evsP S (trs rc T m es)))
  | [] => by
    cases m with
    | e => exact pa_nilG nilE
    | p => exact pa_nilG nilT
    | b => exact pa_nilG nilB
  | e :: r => by
    have ih := trs_ok R G m r
    unfold trs
    split
    · rename_i a p
      cases m with
      | e => exact pa_starE G.K (R.e G .p a) ih
      | p => exact pa_no
      | b => exact pa_no
    · rename_i hn
      have hs : noStar e = true := by
        cases e <;> first | rfl | exact absurd rfl (hn _ _)
      cases m with
      | e => exact pa_consE hs (R.e G .e e) ih
      | p => exact pa_consT hs (R.e G .p e) ih
      | b => exact pa_consB hs (R.e G .b e) ih
theorem trBT_ok (R : SRc rc) (G : Good T X S W) (op : BoolOp) {pos : Pos} : ∀ es : List Expr, PW X (.BoolOp op es pos) (tT S W (trBT rc T op es))
  | [] => pw_no
  | [a] => by
    cases op with
    | And => exact pw_and1 (R.t G a)
    | Or => exact pw_or1 (R.t G a)
  | a :: b :: r => by
    have ih := trBT_ok R G op (pos := pos) (b :: r)
    cases op with
    | And => exact pw_anG (R.t G a) ih
    | Or => exact pw_ooG (R.t G a) ih
theorem trBE_ok (R : SRc rc) (G : Good T X S W) (op : BoolOp) {pos : Pos} : ∀ es : List Expr, PE X (.BoolOp op es pos) (tE S W (trBE rc T op es))
  | [] => pe_no
  | [a] => pe_one (R.e G .e a)
  | a :: b :: r => by
    have ih := trBE_ok R G op (pos := pos) (b :: r)
    cases op with
    | And => exact pe_anG (R.e G .e a) ih
    | Or => exact pe_ooG (R.e G .e a) ih
theorem trO_ok (R : SRc rc) (G : Good T X S W) : ∀ o : Option Expr, PO X o (tOG S W (trO rc T o))
  | none => po_noG
  | some a => po_partG (R.e G .p a)
theorem tests_ok (R : SRc rc) (G : Good T X S W) : ∀ ifs : List Expr, PTs X ifs (tT S W (tests rc T ifs))
  | [] => ⟨fun pins s σ H Q I ⟨F, U, H0, e, g, m, r⟩ => pts_nil.run pins s σ H Q I (r true F H (Stp.refl m.frz) m.drw rfl)⟩
  | [c] => pts_one (R.t G c)
  | _ :: _ :: _ => ⟨fun pins s σ H Q I ⟨F, U, H0, e, g, m, r⟩ => False.elim r⟩
def Ms (S : Sx) : Bool → Md
  | true => Mc S.D
  | false => Fst S.D
theorem ms_ok (d0 : Bool) : MOk S.D (Ms S d0) := by cases d0; exact mok_fst S.D; exact mok_mc
theorem it_ok (R : SRc rc) (G : Good T X S W) (d0 : Bool) (tg it : Expr) : PI X tg it (tI S (Ms S d0) W (.it (rc.e T (if d0 = true then .p else .e) it))) := by
  cases d0 with
  | true => exact pi_itTop mtop_mc G.K (R.e G .p it)
  | false => exact pi_itE G.K (mok_fst S.D) (R.e G .e it)
theorem src_ok (R : SRc rc) (G : Good T X S W) (d0 : Bool) (tg it : Expr) : PI X tg it (tI S (Ms S d0) W (src rc T d0 tg it)) := by
  unfold src
  split
  · rename_i x p args pos
    split
    · rename_i hx
      subst hx
      split
      case isFalse => exact pi_no
      case isTrue hb =>
      simp only [Bool.and_eq_true] at hb
      split
      · rename_i a
        split
        · rename_i ha
          exact pi_rngG1 (G.gl hb.1) (G.bl _ hb.2) ha (R.e G .p a)
        · exact pi_no
      · rename_i a b
        split
        · rename_i ha
          simp only [Bool.and_eq_true] at ha
          exact pi_rngG2 (G.gl hb.1) (G.bl _ hb.2) ha.1 ha.2 (R.e G .p a) (R.e G .p b)
        · exact pi_no
      · exact pi_no
    · split
      · rename_i hx
        subst hx
        split
        case isFalse => exact pi_no
        case isTrue hb =>
        simp only [Bool.and_eq_true] at hb
        split
        · rename_i es k tp a
          split
          · rename_i ha
            exact pi_enmG G.K (ms_ok d0) (G.gl hb.1) (G.bl _ hb.2) ha (R.e G .e a)
          · exact pi_no
        · exact pi_no
      · exact it_ok R G d0 tg _
  · exact it_ok R G d0 tg _
theorem folded_ok {it : Expr} {env : PySem.Env} (h : notSet it = true) : ∀ x, foldedSetIterable it env x = pure x := by
  intro x
  cases it <;> first | rfl | cases h
theorem disj_ok {xs ys : List Nat} (h : disj xs ys = true) : ∀ i ∈ xs, i ∉ ys := fun i hi hj => by
  simp only [disj, List.all_eq_true] at h
  have := h i hi
  simp at this
  exact this hj
theorem pc_bad {Y : Cx} {elt : Expr} {gens : List Comprehension} {scope : Scope} {pos : Pos} {d : Nat} {L : Addr} {vs : List Nat} : PC Y elt gens scope pos d L vs (tBd S L vs fun e g => evG S.C S.B .no e g) :=
  ⟨fun pins s σ H Q I ⟨F, U, H0, e, g, acc, ws, m, _, _, _, _, ys, g', hf, _⟩ => by cases hf⟩
theorem trG_ok (R : SRc rc) (G : Good T X S W) (hx : X.xe = nope) {elt : Expr} {all : List Comprehension} {scope : Scope} {pos : Pos} {L : Addr} : ∀ (gens : List Comprehension) (d : Nat), (∀ k, all[d + k]? = gens[k]?) → PC X elt all scope pos d L (gSl T gens) (tBd S L (gSl T gens) fun e g => evG S.C S.B (trG rc T elt gens) e g)
  | [], d, hd => by
    have h0 := hd 0
    refine ⟨fun pins s σ H Q I h => ?_⟩
    exact (pc_emit (te := tE S W (rc.e T .e elt)) hx h0 (R.e G .e elt)).run pins s σ H Q I (emit_i h)
  | ⟨tg, it, ifs, a⟩ :: r, d, hd => by
    have ih := trG_ok R G hx (elt := elt) (all := all) (scope := scope) (pos := pos) (L := L) r (d + 1) fun k => by
      have := hd (k + 1)
      rw [List.getElem?_cons_succ] at this
      rw [← this]
      congr 1
      omega
    have h0 := hd 0
    rw [List.getElem?_cons_zero, Nat.add_zero] at h0
    unfold trG
    split
    case isFalse => exact pc_bad
    case isTrue hb =>
    simp only [Bool.and_eq_true, decide_eq_true_eq] at hb
    obtain ⟨rfl, hns⟩ := hb
    split
    · rename_i t ht
      split
      case isFalse => exact pc_bad
      case isTrue hc =>
      simp only [Bool.and_eq_true, List.all_eq_true, Bool.not_eq_true'] at hc
      have hgs : gSl T (⟨tg, it, ifs, 0⟩ :: r) = slots t ++ gSl T r := by simp only [gSl, ht]
      rw [hgs]
      have key : ∀ i ∈ slots t, i ∈ slots t ++ gSl T r ∧ S.mv i = false ∧ i ∉ gSl T r := fun i hi => ⟨List.mem_append_left _ hi, by rw [G.mv]; exact hc.1 i hi, disj_ok hc.2 i hi⟩
      refine ⟨fun pins s σ H Q I h => ?_⟩
      exact (pc_clause hx G.calm h0 (folded_ok hns) (src_ok R G false tg it) (tgF_ok G 4 tg t ht) (tests_ok R G ifs) ih fun i hi => List.mem_append_right _ hi).run pins s σ H Q I (clause_i key (fun i hi => List.mem_append_right _ hi) h)
    · exact pc_bad
theorem trComp_ok (R : SRc rc) (G : Good T X S W) (elt : Expr) (gens : List Comprehension) (scope : Scope) (pos : Pos) : PE X (.ListComp elt gens scope pos) (tN S W (trComp rc T elt gens scope)) ∧
    ∀ (i : Nat) (y : Str) (py spos : Pos), X.N[i]? = some y → X.env.scope.names.lookup y = some .local → swapsWith (.ListComp elt gens scope pos) (some (.Name y py)) spos.line X.env = pure true → PS X (.Assign [.Name y py] (.ListComp elt gens scope pos) spos) (tAsg (tN S W (trComp rc T elt gens scope)) (gName i)) := by
  have no : PE X (.ListComp elt gens scope pos) (tN S W .no) ∧ ∀ (i : Nat) (y : Str) (py spos : Pos), X.N[i]? = some y → X.env.scope.names.lookup y = some .local → swapsWith (.ListComp elt gens scope pos) (some (.Name y py)) spos.line X.env = pure true → PS X (.Assign [.Name y py] (.ListComp elt gens scope pos) spos) (tAsg (tN S W .no) (gName i)) :=
    ⟨pe_no, fun i y py spos _ _ _ => ⟨fun pins s σ H D I ⟨F, U, H0, en, g, m, r⟩ => False.elim r⟩⟩
  unfold trComp
  split
  · exact no
  · rename_i tg it ifs a r
    split
    case isFalse => exact no
    case isTrue hb =>
    simp only [Bool.and_eq_true, decide_eq_true_eq] at hb
    obtain ⟨⟨rfl, hns⟩, hbk⟩ := hb
    split
    case h_2 => exact no
    case h_1 t ht =>
    split
    case isFalse => exact no
    case isTrue hc =>
    simp only [Bool.and_eq_true, List.all_eq_true, Bool.not_eq_true', List.contains_iff_mem] at hc
    obtain ⟨⟨hc1, hc2⟩, hc3⟩ := hc
    have bk : BlkOk X.N X.env.scope scope (ownOf T scope) := by rw [G.N, G.sc]; exact blkOk_by hbk
    have key : ∀ i ∈ slots t, i ∈ (ownOf T scope).map (·.2) ∧ S.mv i = false ∧ i ∉ gSl (T.blk scope) r := fun i hi => ⟨(hc1 i hi).1, by rw [G.mv]; exact (hc1 i hi).2, disj_ok hc2 i hi⟩
    have hbl : inBlk X scope fun Y => PG Y tg (gG S.K S.D t) ∧ PTs Y ifs (tT S W0 (tests rc (T.blk scope) ifs)) ∧ ∀ L, PC Y elt (⟨tg, it, ifs, 0⟩ :: r) scope pos 1 L (gSl (T.blk scope) r) (tBd S L (gSl (T.blk scope) r) fun e g => evG S.C S.B (trG rc (T.blk scope) elt r) e g) := fun s H C cl fp => by
      have GB := G.blk bk.kind s H C cl fp
      exact ⟨tgF_ok GB 4 tg t ht, tests_ok R GB ifs, fun L => trG_ok R GB rfl r 1 fun k => by rw [Nat.add_comm, List.getElem?_cons_succ]⟩
    have hN : X.N.Nodup := by rw [G.N]; exact G.nd
    refine ⟨PE.imp (pe_lcN G.calm hN (src_ok R G true tg it) bk (folded_ok hns) hbl hc3) fun σ H Q h => comp_i key hc3 h, fun i y py spos hy hyl hsw => ?_⟩
    exact PS.imp (ps_setLcN G.calm hN hy hyl hsw (src_ok R G true tg it) bk (folded_ok hns) hbl hc3) fun D σ H h => comp_i key hc3 h
end
end Pm
set_option Elab.async false
set_option linter.all false
set_option autoImplicit false
set_option maxRecDepth 100000
set_option maxHeartbeats 4000000
namespace Pm
open PySem L2 PySem.Spec PyProof.Rows
def bopOf : Operator → Option Bop
  | .Add => some .add | .Sub => some .sub | .Mult => some .mul | .FloorDiv => some .fdiv | .Mod => some .mod | .Pow => some .pow
  | _ => none
theorem bopOf_ok {o : Operator} {b : Bop} (h : bopOf o = some b) : bopO b = o := by cases o <;> cases h <;> rfl
def copOf : CmpOp → Option Cop
  | .Eq => some .eq | .NotEq => some .ne | .Lt => some .lt | .LtE => some .le | .Gt => some .gt | .GtE => some .ge | .In => some .isin | .NotIn => some .notin | .Is => some .is | .IsNot => some .isnot
theorem copOf_ok {o : CmpOp} {b : Cop} (h : copOf o = some b) : copO b = o := by cases o <;> cases h <;> rfl
def clsOf (x : Str) : Option Cls := if x = "int" then some .int else if x = "bool" then some .bool else if x = "str" then some .str else if x = "tuple" then some .tuple else if x = "list" then some .list else none
def isMvNm (T : TX) : Expr → Bool
  | .Name x _ => visB T.sc x && (match ixOf T.N x with | some i => T.mv i | none => false)
  | _ => false
def baseOk : Expr → Bool
  | .Name _ _ => true
  | .Subscript _ _ _ => true
  | _ => false
section
variable (rc : Rc) (T : TX)
def stName (m : Mo) (x : Str) : PX :=
  if (visB T.sc x && okNm x) = true then (match ixOf T.N x with
    | some i => (match m with
      | .e => if T.mv i = true then .no else .sl i
      | .p => .pk i
      | .b => .bor i)
    | none => .no)
  else if (glB T.sc x && okNm x) = true then (match T.gc x with
    | some v => .c v
    | none => .no)
  else .no
def stCmp (a : Expr) (ops : List CmpOp) (bs : List Expr) : PX := match ops, bs with
  | [o], [b] => if notSet b = true then (match copOf o with
    | some o => .cmp o (rc.e T .p a) (rc.e T .p b)
    | none => .no) else .no
  | [o1, o2], [b, c] => if notSet c = true then (match copOf o1, copOf o2 with
    | some o1, some o2 => .chn o1 o2 (rc.e T .p a) (rc.e T .p b) (rc.e T .p c)
    | _, _ => .no) else .no
  | _, _ => .no
def stCall (x : Str) (args : List Expr) : PX := if (glB T.sc x && okNm x && noStars args) = true then (match T.fn x, args with
    | some f, e :: es => if (e :: es).any (isMvNm T) = true then .callb f (trs rc T .b (e :: es)) else .call f (trs rc T .e (e :: es))
    | _, _ => .no) else .no
def stCallN (x : Str) (args : List Expr) : PX := if (glB T.sc x && okNm x && noStars args) = true then (match T.fn x, args with
    | some f, e :: es => .callN f (trs rc T .e (e :: es))
    | _, _ => .no) else .no
def stDraw (x : Str) (args : List Expr) : PX := if (glB T.sc x && okNm x && noStars args && T.dr x) = true then (match args with
    | [a, b] => .draw (rc.e T .e a) (rc.e T .p b)
    | _ => .no) else .no
def stPrim (x : Str) (args : List Expr) : PX := if (glB T.sc x && T.bl x && noStars args) = true then (match primOf x, args with
    | some p, e :: es => .pr p (trs rc T .p (e :: es))
    | _, _ => .no) else .no
def stIsi (args : List Expr) : PX := if (glB T.sc "isinstance" && T.bl "isinstance") = true then (match args with
    | [a, .Name c _] => if (noStar a && glB T.sc c && T.bl c) = true then (match clsOf c with
      | some k => .pr (.isi k) (.cons (rc.e T .p a) .nil)
      | none => .no) else .no
    | _ => .no) else .no
/-- a built-in called on a call: tuple(range(..)), list(range(..)), sorted(set(..)) -/
def stTwo (x y : Str) (as : List Expr) : PX := if (glB T.sc x && T.bl x && glB T.sc y && T.bl y && noStars as) = true then
    if y = "range" then
      if x = "tuple" then (match as with
        | [a] => .pr .rangeT (.cons (.c (.int 0)) (.cons (rc.e T .p a) .nil))
        | [a, b] => .pr .rangeT (.cons (rc.e T .p a) (.cons (rc.e T .p b) .nil))
        | _ => .no)
      else if x = "list" then (match as with
        | [a] => .pr .rangeL (.cons (.c (.int 0)) (.cons (rc.e T .p a) .nil))
        | [a, b] => .pr .rangeL (.cons (rc.e T .p a) (.cons (rc.e T .p b) .nil))
        | _ => .no)
      else .no
    else if y = "set" then
      if x = "sorted" then (match as with
        | [a] => .pr .sortedSet (.cons (rc.e T .p a) .nil)
        | _ => .no)
      else .no
    else .no
  else .no
def stFn (x : Str) (args : List Expr) : PX :=
  if T.dr x = true then stDraw rc T x args
  else if (T.fn x).isSome = true then stCallN rc T x args
  else if x = "isinstance" then stIsi rc T args
  else match args with
    | [.Call (.Name y _) as [] _] => if (y = "range" ∨ y = "set") then stTwo rc T x y as else stPrim rc T x args
    | _ => stPrim rc T x args
def stN (e : Expr) : PX := match e with
  | .Constant c _ _ => (match c with
    | .int i => .c (.int i)
    | .str s => .c (.str s)
    | .bool b => .c (.bl b)
    | .none => .c .non
    | _ => .no)
  | .BinOp a o b _ => (match bopOf o with
    | some o => .bin o (rc.e T .p a) (rc.e T .p b)
    | none => .no)
  | .UnaryOp o a _ => (match o with
    | .USub => .neg (rc.e T .p a)
    | .Not => .nt (rc.e T .p a)
    | _ => .no)
  | .Compare a ops bs _ => stCmp rc T a ops bs
  | .Subscript a i _ => (match i with
    | .Slice lo hi none _ => .slc (rc.e T .p a) (trO rc T lo) (trO rc T hi)
    | _ => .no)
  | .Tuple es _ _ => .tup (trs rc T .e es)
  | .List es _ => .lst (trs rc T .e es)
  | .ListComp elt gens scope _ => trComp rc T elt gens scope
  | .IfExp c a b _ => .ite (rc.t T c) (rc.n T a) (rc.n T b)
  | .Call f args kws pos => (match f, kws with
    | .Name x _, [] => stFn rc T x args
    | .Attribute o nm apos, [] => if nm = "index" then (match args with
      | [a] => if (noStar a && baseOk o && (apos.endLine == pos.line)) = true then .idx (rc.e T .p o) (rc.e T .p a) else .no
      | _ => .no) else .no
    | _, _ => .no)
  | _ => .no
def stE (m : Mo) (e : Expr) : PX := match e with
  | .Name x _ => stName T m x
  | .BoolOp op es _ => trBE rc T op es
  | .IfExp c a b _ => .ite (rc.t T c) (rc.e T m a) (rc.e T m b)
  | .Subscript a i p => (match i with
    | .Slice lo hi st q => rc.n T (.Subscript a (.Slice lo hi st q) p)
    | i => .ix (rc.e T .p a) (rc.e T .p i))
  | .Call f args kws pos => (match f, kws with
    | .Name x q, [] => if (T.fn x).isSome = true then stCall rc T x args else rc.n T (.Call (.Name x q) args [] pos)
    | f, kws => rc.n T (.Call f args kws pos))
  | e => rc.n T e
def plainT : Expr → Bool
  | .Name _ _ => true
  | .Call _ _ _ _ => true
  | .Subscript _ _ _ => true
  | _ => false
def stT (e : Expr) : PX := match e with
  | .UnaryOp o a _ => (match o with
    | .Not => .nt (rc.t T a)
    | _ => .no)
  | .BoolOp op es _ => trBT rc T op es
  | .Compare a ops bs _ => stCmp rc T a ops bs
  | e => if plainT e = true then rc.e T .e e else .no
end
def rcOf : Nat → Rc
  | 0 => ⟨fun _ _ _ => .no, fun _ _ => .no, fun _ _ => .no⟩
  | n + 1 => ⟨stE (rcOf n), stN (rcOf n), stT (rcOf n)⟩
section
variable {rc : Rc} {T : TX} {X : Cx} {S : Sx} {W : WX} {pos : Pos}
theorem clsOf_ok {x : Str} {c : Cls} (h : clsOf x = some c) : x = (clsN c : String) ∧ bootBuiltins x = some (.type (clsN c)) ∧ x ≠ "__name__" ∧ (x == ("__debug__" : Str)) = false := by
  unfold clsOf at h
  split at h
  · rename_i hx; subst hx; cases h; exact ⟨rfl, by decide +kernel, by decide, by decide⟩
  split at h
  · rename_i hx; subst hx; cases h; exact ⟨rfl, by decide +kernel, by decide, by decide⟩
  split at h
  · rename_i hx; subst hx; cases h; exact ⟨rfl, by decide +kernel, by decide, by decide⟩
  split at h
  · rename_i hx; subst hx; cases h; exact ⟨rfl, by decide +kernel, by decide, by decide⟩
  split at h
  · rename_i hx; subst hx; cases h; exact ⟨rfl, by decide +kernel, by decide, by decide⟩
  · cases h
theorem pe_cN {e : Expr} {x : Val} {v : V} (h : PE X e (tC v)) (hn : notLst x = true) (hr : ∀ F H, Rep S.K S.D F H x v) : PE X e (tN S W (.c x)) := PE.imp h fun σ H Q ⟨F, U, H0, e, g, m, r⟩ =>
  r v F H (Stp.refl m.frz) m.drw (RepN.of_notLst hn (hr F H))
theorem stName_ok (G : Good T X S W) (m : Mo) (x : Str) : PE X (.Name x pos) (tG S W (relM S m) (evP S (stName T m x))) := by
  unfold stName
  split
  · rename_i hb
    simp only [Bool.and_eq_true] at hb
    split
    · rename_i i hi
      have hv := G.var (pos := pos) hb.1 hb.2 hi
      cases m with
      | e =>
        dsimp only
        split
        · exact pe_no
        · rename_i hm
          exact pe_sl hv (by rw [G.mv]; simpa using hm)
      | p => exact pe_pk hv
      | b => exact pe_bor hv
    · exact pe_no
  split
  · rename_i hb
    simp only [Bool.and_eq_true] at hb
    split
    · rename_i v hv
      obtain ⟨w, u, h1, h2, h3, h4⟩ := G.gc x v hv
      have hd : (x == ("__debug__" : Str)) = false := by
        have := hb.2
        simp only [okNm, Bool.and_eq_true, Bool.not_eq_true'] at this
        exact this.1
      exact m_of_n m (pe_cN (pe_glob (G.gl hb.1) h1 h2 hd) h3 h4)
    · exact pe_no
  · exact pe_no
theorem notSet_mark {b : Expr} (o : Cop) (h : notSet b = true) : behindInMarks (copO o) b = false := nomarkG o b fun es k p e => by subst e; cases h
theorem stCmp_ok (R : SRc rc) (G : Good T X S W) (a : Expr) (ops : List CmpOp) (bs : List Expr) : PE X (.Compare a ops bs pos) (tN S W (stCmp rc T a ops bs)) ∧ PT X (.Compare a ops bs pos) (tT S W (stCmp rc T a ops bs)) := by
  have hu : X.A.units + 65 < cLine := by have := G.un; omega
  unfold stCmp
  split
  · rename_i o b
    split
    · rename_i hb
      split
      · rename_i c hc
        rw [← copOf_ok hc]
        exact ⟨pe_cmpG G.K hu (notSet_mark c hb) (R.e G .p a) (R.e G .p b), pt_cmpG G.K hu (notSet_mark c hb) (R.e G .p a) (R.e G .p b)⟩
      · exact ⟨pe_no, pt_no⟩
    · exact ⟨pe_no, pt_no⟩
  · rename_i o1 o2 b c
    split
    · rename_i hb
      split
      · rename_i c1 c2 hc1 hc2
        rw [← copOf_ok hc1, ← copOf_ok hc2]
        exact ⟨pe_chnG G.K hu (notSet_mark c2 hb) (R.e G .p a) (R.e G .p b) (R.e G .p c), pt_chnG G.K hu (notSet_mark c2 hb) (R.e G .p a) (R.e G .p b) (R.e G .p c)⟩
      · exact ⟨pe_no, pt_no⟩
    · exact ⟨pe_no, pt_no⟩
  · exact ⟨pe_no, pt_no⟩
theorem okNm_dbg {x : Str} (h : okNm x = true) : (x == ("__debug__" : Str)) = false := by
  simp only [okNm, Bool.and_eq_true, Bool.not_eq_true'] at h
  exact h.1
theorem callW_of (G : Good T X S W) {x : Str} {f : Nat} {e : Expr} {es : List Expr} {t : TA} {p : Pos} (hf : T.fn x = some f) (hb : (glB T.sc x && okNm x && noStars (e :: es)) = true) (ha : PA X (e :: es) t) : PE X (.Call (.Name x p) (e :: es) [] pos) (tCallW (spF S.K S.C S.XT f) W t) := by
  simp only [Bool.and_eq_true] at hb
  obtain ⟨k, a, fd, ps, h1, h2, h3, h4, h5⟩ := G.fn x f hf
  have ns : noStar e = true ∧ noStars es = true := by simpa [noStars] using hb.2
  exact pe_callW h5 h4 G.gd (G.gl hb.1.1) h1 h2 h3 G.tk ha (okNm_dbg hb.1.2) (starEach_no ns.1) (backTo_no ns.2)
theorem stCall_ok (R : SRc rc) (G : Good T X S W) (x : Str) (args : List Expr) {p : Pos} : PE X (.Call (.Name x p) args [] pos) (tE S W (stCall rc T x args)) := by
  unfold stCall
  split
  case isFalse => exact pe_no
  case isTrue hb =>
  split
  · rename_i f e es hf
    split
    · exact pe_callbE (callW_of G hf hb (trs_ok R G .b (e :: es)))
    · exact pe_callE (callW_of G hf hb (trs_ok R G .e (e :: es)))
  · exact pe_no
theorem stCallN_ok (R : SRc rc) (G : Good T X S W) (x : Str) (args : List Expr) {p : Pos} : PE X (.Call (.Name x p) args [] pos) (tN S W (stCallN rc T x args)) := by
  unfold stCallN
  split
  case isFalse => exact pe_no
  case isTrue hb =>
  split
  · rename_i f e es hf
    exact pe_callNE (callW_of G hf hb (trs_ok R G .e (e :: es)))
  · exact pe_no
theorem draw_i {pa pb : PX} {σ : L2.St} {H : Hp} {Q : VK} (h : tN S W (.draw pa pb) σ H Q) : tCallW (spDraw S) W (tCons (tE S W pa) (tCons (tP S W pb) tNil)) σ H Q := by
  refine tG_then (rel1 := rE S) (f := evP S pa) (k := fun x e g => (ev S.C S.B pb e g).bind fun y g => match x with
    | .drw => (asInt y g).bind fun l g => if 0 < l ∧ l ≤ 1000000 ∧ chk S.B g.spot = true then .ok (.int (drawF g l).1) (drawF g l).2 else .bad
    | _ => .bad) rN_ok h fun x g1 v F1 U H0 e H1 m rl r1 => ?_
  obtain ⟨_, _, _, rl⟩ := rl
  refine ⟨F1, U, H0, e, g1, m, resF_mono (resF_bind (rel1 := rT S) rN_ok r1) fun y g2 _ hk w F2 H2 st gr rl2 => ?_⟩
  have r2 := hk w F2 H2 st gr rl2
  cases x <;> try exact False.elim r2
  obtain ⟨l, rfl, r3⟩ := asInt_ok r2
  cases RepT_int.mp rl2
  have ev : v = .ref S.D.m := by simpa only [rE, Rep] using rl
  subst ev
  by_cases hb : 0 < l ∧ l ≤ 1000000 ∧ chk S.B g2.spot = true
  · rw [if_pos hb] at r3
    exact ⟨F2, g2, l, st.frz, gr, rfl, hb.1, hb.2.1, hb.2.2, fun F' H' st' gr' => r3 _ F' H' st' gr' (RepN_int.mpr rfl)⟩
  · rw [if_neg hb] at r3
    exact False.elim r3
theorem stDraw_ok (R : SRc rc) (G : Good T X S W) (x : Str) (args : List Expr) {p : Pos} : PE X (.Call (.Name x p) args [] pos) (tN S W (stDraw rc T x args)) := by
  unfold stDraw
  split
  case isFalse => exact pe_no
  case isTrue hb =>
  simp only [Bool.and_eq_true] at hb
  split
  · rename_i a b
    obtain ⟨k, ad, fd, ps, h1, h2, h3, h4, h5⟩ := G.dr x hb.2
    have ns : noStar a = true ∧ noStar b = true := by simpa [noStars] using hb.1.2
    refine PE.imp (pe_callW h5 h4 G.gd (G.gl hb.1.1.1) h1 h2 h3 G.tk (pa_cons (R.e G .e a) (pa_cons (R.e G .p b) pa_nil (starEach_no ns.2)) (starEach_no ns.1)) (okNm_dbg hb.1.1.2) (starEach_no ns.1) (backTo_no (by simp [noStars, ns.2]))) fun σ H Q h => draw_i h
  · exact pe_no
theorem stPrim_ok (R : SRc rc) (G : Good T X S W) (x : Str) (args : List Expr) {p : Pos} : PE X (.Call (.Name x p) args [] pos) (tN S W (stPrim rc T x args)) := by
  unfold stPrim
  split
  case isFalse => exact pe_no
  case isTrue hb =>
  simp only [Bool.and_eq_true] at hb
  split
  · rename_i q e es hq
    exact pe_primG hq G.K G.calm G.gd G.un (G.gl hb.1.1) (G.bl _ hb.1.2) hb.2 (trs_ok R G .p (e :: es))
  · exact pe_no
theorem stIsi_ok (R : SRc rc) (G : Good T X S W) (args : List Expr) {p : Pos} : PE X (.Call (.Name "isinstance" p) args [] pos) (tN S W (stIsi rc T args)) := by
  unfold stIsi
  split
  case isFalse => exact pe_no
  case isTrue hb =>
  simp only [Bool.and_eq_true] at hb
  split
  · rename_i a c p2
    split
    · rename_i hc
      simp only [Bool.and_eq_true] at hc
      split
      · rename_i k hk
        obtain ⟨e1, e2, e3, e4⟩ := clsOf_ok hk
        exact pe_isiG G.K hc.1.1 (G.gl hb.1) (G.bl _ hb.2) (pe_bltn (G.gl hc.1.2) (G.bl _ hc.2) e2 rfl e3 e4) (R.e G .p a)
      · exact pe_no
    · exact pe_no
  · exact pe_no
theorem stTwo_ok (R : SRc rc) (G : Good T X S W) (x y : Str) (as : List Expr) {p p1 pos1 : Pos} : PE X (.Call (.Name x p) [.Call (.Name y p1) as [] pos1] [] pos) (tN S W (stTwo rc T x y as)) := by
  unfold stTwo
  split
  case isFalse => exact pe_no
  case isTrue hb =>
  simp only [Bool.and_eq_true] at hb
  obtain ⟨⟨⟨⟨h1, h2⟩, h3⟩, h4⟩, h5⟩ := hb
  split
  · rename_i hy
    subst hy
    split
    · rename_i hx
      subst hx
      split
      · rename_i a
        exact pe_tupRg1G G.calm (G.gl h1) (G.bl _ h2) (G.gl h3) (G.bl _ h4) (by simpa [noStars] using h5) (R.e G .p a)
      · rename_i a b
        have ns : noStar a = true ∧ noStar b = true := by simpa [noStars] using h5
        exact pe_tupRgG G.calm (G.gl h1) (G.bl _ h2) (G.gl h3) (G.bl _ h4) ns.1 ns.2 (R.e G .p a) (R.e G .p b)
      · exact pe_no
    split
    · rename_i hx
      subst hx
      split
      · rename_i a
        exact pe_lstRg1G G.calm (G.gl h1) (G.bl _ h2) (G.gl h3) (G.bl _ h4) (by simpa [noStars] using h5) (R.e G .p a)
      · rename_i a b
        have ns : noStar a = true ∧ noStar b = true := by simpa [noStars] using h5
        exact pe_lstRgG G.calm (G.gl h1) (G.bl _ h2) (G.gl h3) (G.bl _ h4) ns.1 ns.2 (R.e G .p a) (R.e G .p b)
      · exact pe_no
    · exact pe_no
  split
  · rename_i hy
    subst hy
    split
    · rename_i hx
      subst hx
      split
      · rename_i a
        exact pe_sortedSetG G.K G.calm (G.gl h1) (G.bl _ h2) (G.gl h3) (G.bl _ h4) (by simpa [noStars] using h5) (R.e G .p a)
      · exact pe_no
    · exact pe_no
  · exact pe_no
theorem stFn_ok (R : SRc rc) (G : Good T X S W) (x : Str) (args : List Expr) {p : Pos} : PE X (.Call (.Name x p) args [] pos) (tN S W (stFn rc T x args)) := by
  unfold stFn
  split
  · exact stDraw_ok R G x args
  split
  · exact stCallN_ok R G x args
  split
  · rename_i hx; subst hx; exact stIsi_ok R G args
  split
  · split
    · exact stTwo_ok R G x _ _
    · exact stPrim_ok R G x _
  · exact stPrim_ok R G x _
theorem stN_ok (R : SRc rc) (G : Good T X S W) (e : Expr) : PE X e (tN S W (stN rc T e)) := by
  have hu : X.A.units + 65 < cLine := by have := G.un; omega
  unfold stN
  split
  · split
    · exact pe_cN pe_int rfl fun F H => by simp only [Rep]
    · exact pe_cN pe_str rfl fun F H => by simp only [Rep]
    · exact pe_cN pe_bl rfl fun F H => by simp only [Rep]
    · exact pe_cN pe_non rfl fun F H => by simp only [Rep]
    · exact pe_no
  · split
    · rename_i o ho
      rw [← bopOf_ok ho]
      exact pe_binG G.K (R.e G .p _) (R.e G .p _)
    · exact pe_no
  · split
    · exact pe_negG (R.e G .p _)
    · exact pe_ntG (R.e G .p _)
    · exact pe_no
  · exact (stCmp_ok R G _ _ _).1
  · split
    · exact pe_slcG G.K (R.e G .p _) (trO_ok R G _) (trO_ok R G _)
    · exact pe_no
  · exact pe_tupG (trs_ok R G .e _)
  · exact pe_lstG (trs_ok R G .e _)
  · exact (trComp_ok R G _ _ _ _).1
  · exact pe_iteG rN_ok (R.t G _) (R.n G _) (R.n G _)
  · split
    · exact stFn_ok R G _ _
    · rename_i o nm apos
      split
      · rename_i hn
        subst hn
        split
        · rename_i a
          split
          · rename_i hb
            simp only [Bool.and_eq_true] at hb
            refine pe_indexG G.K hu hb.1.1 ?_ hb.2 (R.e G .p o) (R.e G .p a)
            have := hb.1.2
            cases o <;> first | rfl | cases this
          · exact pe_no
        · exact pe_no
      · exact pe_no
    · exact pe_no
  · exact pe_no
theorem stE_ok (R : SRc rc) (G : Good T X S W) (m : Mo) (e : Expr) : PE X e (tG S W (relM S m) (evP S (stE rc T m e))) := by
  unfold stE
  split
  · exact stName_ok G m _
  · exact m_of_e m (trBE_ok R G _ _)
  · exact pe_iteG (relM_ok m) (R.t G _) (R.e G m _) (R.e G m _)
  · split
    · exact m_of_n m (R.n G _)
    · rename_i hns
      refine m_of_e m (pe_ixG G.K ?_ (R.e G .p _) (R.e G .p _))
      intro o i
      rename_i i' p' _ 
      cases i' <;> first | rfl | exact absurd rfl (hns _ _ _ _)
  · split
    · split
      · exact m_of_e m (stCall_ok R G _ _)
      · exact m_of_n m (R.n G _)
    · exact m_of_n m (R.n G _)
  · exact m_of_n m (R.n G _)
theorem isTrue_plain {e : Expr} {env : PySem.Env} (h : plainT e = true) : ∀ wh, isTrue e env wh = (do let v ← wh; standAt e.pos; holding [v] (truthy v)) := by
  intro wh
  cases e <;> first | rfl | (simp only [plainT] at h; cases h)
theorem stT_ok (R : SRc rc) (G : Good T X S W) (e : Expr) : PT X e (tT S W (stT rc T e)) := by
  unfold stT
  split
  · split
    · exact pt_ntG (R.t G _)
    · exact pt_no
  · exact (trBT_ok R G _ _).pt
  · exact (stCmp_ok R G _ _ _).2
  · split
    · rename_i hp
      exact PT.imp (pt_val (R.e G .e _) (isTrue_plain hp)) fun σ H Q h => test_ofE h
    · exact pt_no
theorem rcOf_ok : ∀ n : Nat, SRc (rcOf n)
  | 0 => ⟨fun _ _ _ => pe_no, fun _ _ => pe_no, fun _ _ => pt_no⟩
  | n + 1 => ⟨fun G m e => stE_ok (rcOf_ok n) G m e, fun G e => stN_ok (rcOf_ok n) G e, fun G e => stT_ok (rcOf_ok n) G e⟩
end
end Pm
set_option Elab.async false
set_option linter.all false
set_option autoImplicit false
set_option maxRecDepth 100000
set_option maxHeartbeats 4000000
namespace Pm
open PySem L2 PySem.Spec PyProof.Rows
/-! ### which stores are swapped -/
def isStar : Expr → Bool
  | .Starred .. => true
  | _ => false
def swNames (sc : Scope) (ts : List Expr) : List Str := ts.filterMap fun
  | .Name id pos => if (sc.names.lookup id == some .local && pos.line == (ts.head?.map (·.pos.line)).getD 0) then some id else none
  | _ => none
def swNone (sc : Scope) (ts vs : List Expr) : Bool :=
  (!(ts.length == 2 || ts.length == 3) || vs.length != ts.length) || (vs.any fun | .Starred .. => true | _ => false) || ((swNames sc ts).length != ts.length || (swNames sc ts).eraseDups.length != (swNames sc ts).length) || vs.all (foldedForSure 8)
section
variable {env : PySem.Env}
theorem blockKind_fn (h : env.scope.kind = .function) : env.blockKind = .function := by
  unfold Env.blockKind
  rw [h]
  rfl
theorem sw_eq (hk : env.scope.kind = .function) (ts vs : List Expr) {k1 k2 : Nat} {p1 p2 : Pos} :
    swappedStores [.Tuple ts k1 p1] (.Tuple vs k2 p2) env = (if (!(ts.length == 2 || ts.length == 3) || vs.length != ts.length) = true then pure none
      else if (vs.any fun | .Starred .. => true | _ => false) = true then pure none
      else if ((swNames env.scope ts).length != ts.length || (swNames env.scope ts).eraseDups.length != (swNames env.scope ts).length) = true then pure none
      else if vs.all (foldedForSure 8) = true then pure none
      else if vs.all (constantsAlone 8) = true then (do let _ ← (unsupported "assign.tuple-of-constant-expressions:order-of-the-stores" : Sem Unit); pure (some (swNames env.scope ts)))
      else pure (some (swNames env.scope ts))) := by
  unfold swappedStores
  have hb := blockKind_fn hk
  have hb2 : (env.blockKind != .function) = false := by rw [hb]; rfl
  simp only [hb2, Bool.or_false]
  rfl
theorem sw_none (hk : env.scope.kind = .function) {ts vs : List Expr} {k1 k2 : Nat} {p1 p2 : Pos} (h : swNone env.scope ts vs = true) : swappedStores [.Tuple ts k1 p1] (.Tuple vs k2 p2) env = pure none := by
  rw [sw_eq hk]
  unfold swNone at h
  simp only [Bool.or_eq_true] at h
  by_cases h1 : (!(ts.length == 2 || ts.length == 3) || vs.length != ts.length) = true
  · rw [if_pos h1]
  rw [if_neg h1]
  by_cases h2 : (vs.any fun | .Starred .. => true | _ => false) = true
  · rw [if_pos h2]
  rw [if_neg h2]
  by_cases h3 : ((swNames env.scope ts).length != ts.length || (swNames env.scope ts).eraseDups.length != (swNames env.scope ts).length) = true
  · rw [if_pos h3]
  rw [if_neg h3]
  by_cases h4 : vs.all (foldedForSure 8) = true
  · rw [if_pos h4]
  simp only [Bool.or_eq_true] at h1 h3
  rcases h with ((h | h) | h) | h
  · exact absurd h h1
  · exact absurd h h2
  · exact absurd h h3
  · exact absurd h h4
theorem sw_some (hk : env.scope.kind = .function) {ts vs : List Expr} {k1 k2 : Nat} {p1 p2 : Pos} (h : swNone env.scope ts vs = false) (h5 : vs.all (constantsAlone 8) = false) : swappedStores [.Tuple ts k1 p1] (.Tuple vs k2 p2) env = pure (some (swNames env.scope ts)) := by
  rw [sw_eq hk]
  unfold swNone at h
  simp only [Bool.or_eq_false_iff] at h
  obtain ⟨⟨⟨h1, h2⟩, h3⟩, h4⟩ := h
  rw [if_neg (by rw [h1.1, h1.2]; decide), if_neg (by rw [h2]; decide), if_neg (by rw [h3.1, h3.2]; decide), if_neg (by rw [h4]; decide), if_neg (by rw [h5]; decide)]
def notComp : Expr → Bool
  | .ListComp .. => false
  | .SetComp .. => false
  | .DictComp .. => false
  | _ => true
theorem swaps_no {e : Expr} (h : notComp e = true) (t : Option Expr) (l : Nat) : swapsWith e t l env = pure false := by
  cases e <;> first | rfl | (simp only [notComp] at h; cases h)
def notName : Expr → Bool
  | .Name .. => false
  | _ => true
theorem swaps_tg {e t : Expr} (h : notName t = true) (l : Nat) : swapsWith e (some t) l env = pure false := by
  cases e <;> first | rfl | (cases t <;> first | rfl | (simp only [notName] at h; cases h))
def swLc (sc : Scope) (scope : Scope) (y : Str) (py pos : Pos) : Bool := isLoc sc y && (py.line == pos.line) && !(scope.names.any fun (n, k) => n == y && (k == .local || k == .cell))
theorem swaps_lc (hk : env.scope.kind = .function) {elt : Expr} {gs : List Comprehension} {scope : Scope} {pos py : Pos} {y : Str} {l : Nat} : swapsWith (.ListComp elt gs scope pos) (some (.Name y py)) l env = pure (swLc env.scope scope y py pos) := by
  have hb : (env.blockKind == .function) = true := by rw [blockKind_fn hk]; rfl
  have hl : (env.kindOf y == some .local) = isLoc env.scope y := by
    unfold Env.kindOf isLoc
    cases env.scope.names.lookup y with
    | none => rfl
    | some k => cases k <;> rfl
  unfold swapsWith swLc
  simp only [hb, hl, Bool.true_and]
  rfl
def notTup : Expr → Bool
  | .Tuple .. => false
  | _ => true
theorem stores_no1 {e t : Expr} (h : notTup e = true) : swappedStores [t] e env = pure none := by
  cases e <;> first | (cases t <;> rfl) | (simp only [notTup] at h; cases h)
def notSeqT : Expr → Bool
  | .Tuple .. => false
  | .List .. => false
  | _ => true
theorem stores_no2 {e t : Expr} (h : notSeqT t = true) : swappedStores [t] e env = pure none := by
  cases t <;> first | (cases e <;> rfl) | (simp only [notSeqT] at h; cases h)
end
end Pm
set_option Elab.async false
set_option linter.all false
set_option autoImplicit false
set_option maxRecDepth 100000
set_option maxHeartbeats 4000000
namespace Pm
open PySem L2 PySem.Spec PyProof.Rows
/-! ### the translator: statements -/
def TX.still (T : TX) : TX := { T with mv := fun _ => false }
def okLoc (T : TX) (x : Str) : Bool := locB T.sc x && (T.fx x || isLoc T.sc x)
def mvIx (T : TX) (x : Str) : Option Nat := if (visB T.sc x && okNm x) = true then (match ixOf T.N x with
  | some i => if T.mv i = true then some i else none
  | none => none) else none
def nmSlots (T : TX) : List Expr → Option (List (Nat × Bool))
  | [] => some []
  | e :: r => match e with
    | .Name x _ => if okLoc T x = true then (match ixOf T.N x, nmSlots T r with
      | some i, some l => some ((i, T.mv i) :: l)
      | _, _ => none) else none
    | _ => none
def notSlice : Expr → Bool
  | .Slice .. => false
  | _ => true
section
variable (rc : Rc) (T : TX)
def trP : List (Nat × Bool) → List Expr → PX
  | [], [] => .nil
  | t :: ts, e :: es => if noStar e = true then .cons (match t.2 with | true => rc.n T e | false => rc.e T .e e) (trP ts es) else .no
  | _, _ => .no
def stPar (ts vs : List Expr) : ST := match nmSlots T ts with
  | none => .bad
  | some l =>
    if swNone T.sc ts vs = true then (if l.length ≤ 100 then .par l (trP rc T l vs) else .bad)
    else if vs.all (constantsAlone 8) = true then .bad
    else match ts, vs, l with
      | [.Name x _, .Name y _], [_, _], [(i, _), (j, _)] => if (isLoc T.sc x && isLoc T.sc y && decide (i ≠ j) && decide (swNames T.sc ts = [x, y])) = true then .par l (trP rc T l vs) else .bad
      | [.Name x _, .Name y _, .Name z _], [_, _, _], [(i, _), (j, _), (k, _)] => if (isLoc T.sc x && isLoc T.sc y && isLoc T.sc z && decide (i ≠ j) && decide (i ≠ k) && decide (j ≠ k) && decide (swNames T.sc ts = [x, y, z])) = true then .par l (trP rc T l vs) else .bad
      | _, _, _ => .bad
def stSetN (x : Str) (e : Expr) : ST := if okLoc T x = true then (match ixOf T.N x with
  | some i => (match e with
    | .ListComp elt gens scope _ => if T.mv i = true then .asgN i (trComp rc T elt gens scope) else .asg (.nm i) (trComp rc T elt gens scope)
    | e => if notComp e = true then (if T.mv i = true then .asgN i (rc.n T e) else .asg (.nm i) (rc.e T .e e)) else .bad)
  | none => .bad) else .bad
def stAsg (tg e : Expr) : ST := match tg with
  | .Name x _ => stSetN rc T x e
  | .Tuple ts k p => (match e with
    | .Tuple vs _ _ => stPar rc T ts vs
    | e => (match tgF T 4 (.Tuple ts k p) with
      | some t => if (slots t).all (fun i => !T.mv i) = true then .asg t (rc.e T .e e) else .bad
      | none => .bad))
  | .Subscript o k _ => (match o with
    | .Name x _ => (match mvIx T x with
      | some i => if notSlice k = true then .setI i (rc.e T .p k) (rc.e T .e e) else .bad
      | none => .bad)
    | _ => .bad)
  | _ => .bad
def stApp (x : Str) (a : Expr) : ST := match mvIx T x with
  | none => .bad
  | some i => if noStar a = true then (match a with
    | .Call (.Attribute (.Name y q1) nm q2) [k] [] q3 => if nm = "pop" then (match mvIx T y with
      | some j => if (decide (i ≠ j) && noStar k && (q2.endLine == q3.line)) = true then .appPop i j (rc.e T .p k) else .bad
      | none => .bad) else .app i (rc.e T .e (.Call (.Attribute (.Name y q1) nm q2) [k] [] q3))
    | a => .app i (rc.e T .e a)) else .bad
def stExt (x : Str) (a : Expr) : ST := match mvIx T x with
  | none => .bad
  | some i => if noStar a = true then .ext i (rc.e T .e a) else .bad
def stExpr (e : Expr) : ST := match e with
  | .Constant (.str _) _ _ => .skip
  | .Call (.Attribute (.Name x q1) nm q2) [a] [] q3 => if nm = "append" then (if (q2.endLine == q3.line) = true then stApp rc T x a else .bad) else if nm = "extend" then (if (q2.endLine == q3.line) = true then stExt rc T x a else .bad) else .xpr (rc.e T .e (.Call (.Attribute (.Name x q1) nm q2) [a] [] q3))
  | e => if notComp e = true then .xpr (rc.e T .e e) else .bad
def newForm : Expr → Bool
  | .List .. => true
  | .ListComp .. => true
  | .BinOp .. => true
  | .Subscript _ (.Slice ..) _ => true
  | _ => false
def stRet (e : Expr) : ST := match e with
  | .Name x _ => (match mvIx T x with
    | some i => .retM i
    | none => .ret (rc.e T.still .e e))
  | e => if newForm e = true then .retN (rc.n T.still e) else .ret (rc.e T.still .e e)
def stAug (x : Str) (op : Operator) (e : Expr) : ST := if okLoc T x = true then (match ixOf T.N x with
  | some i => if T.mv i = true then .bad else (match op with
    | .Add => .aug i false (rc.e T .p e)
    | .Sub => .aug i true (rc.e T .p e)
    | _ => .bad)
  | none => .bad) else .bad
def trSs (f : Stmt → ST) : List Stmt → ST
  | [] => .skip
  | s :: r => match r with
    | [] => f s
    | r => .seq (f s) (trSs f r)
def trSt : Nat → Stmt → ST
  | 0, _ => .bad
  | n + 1, st => match st with
    | .Pass _ => .skip
    | .Break _ => .brk
    | .Continue _ => .cnt
    | .Expr e _ => stExpr rc T e
    | .Assign tgs e _ => (match tgs with
      | [tg] => stAsg rc T tg e
      | _ => .bad)
    | .AugAssign tg op e _ => (match tg with
      | .Name x _ => stAug rc T x op e
      | _ => .bad)
    | .If c a b _ => .ife (rc.t T c) (trSs (trSt n) a) (trSs (trSt n) b)
    | .While c a b _ => (match b with
      | [] => .whl (rc.t T c) (trSs (trSt n) a)
      | _ => .bad)
    | .For tg it a b _ => (match b, tgF T 4 tg with
      | [], some t => if ((slots t).all (fun i => !T.mv i) && notSet it) = true then .for_ t (src rc T false tg it) (trSs (trSt n) a) else .bad
      | _, _ => .bad)
    | .Return o _ => (match o with
      | some e => stRet rc T e
      | none => .ret (.c .non))
    | _ => .bad
end
section
variable {rc : Rc} {T : TX} {X : Cx} {S : Sx} {E : XK} {F0 : AS} {H0 : Hp}
theorem ps_bad {st : Stmt} : PS X st (tX S E F0 H0 .bad) := ⟨fun pins s σ H D I ⟨Bs, _, e, g, _, r⟩ => False.elim r⟩
theorem Good.still {W : WX} (G : Good T X S W) : Good T.still X { S with mv := fun _ => false } W where
  N := G.N
  nd := G.nd
  sc := G.sc
  kd := G.kd
  mv := rfl
  calm := G.calm
  K := G.K
  gd := G.gd
  un := G.un
  tk := G.tk
  fx := G.fx
  bl := G.bl
  gc := G.gc
  fn := G.fn
  dr := G.dr
theorem mvIx_ok {W : WX} (G : Good T X S W) {x : Str} {i : Nat} {pos : Pos} (h : mvIx T x = some i) : PE X (.Name x pos) (tVar i) ∧ S.mv i = true := by
  unfold mvIx at h
  split at h
  case isFalse => cases h
  case isTrue hb =>
  simp only [Bool.and_eq_true] at hb
  split at h
  · rename_i j hj
    split at h
    · rename_i hm
      cases h
      exact ⟨G.var hb.1 hb.2 hj, by rw [G.mv]; exact hm⟩
    · cases h
  · cases h
theorem okLoc_ok {W : WX} (G : Good T X S W) {x : Str} (h : okLoc T x = true) : Loc X.env.scope x ∧ (X.fn x = true ∨ X.env.scope.names.lookup x = some .local) := by
  unfold okLoc at h
  simp only [Bool.and_eq_true, Bool.or_eq_true] at h
  rw [G.sc]
  exact ⟨locB_ok h.1, h.2.imp (G.fx x) isLoc_ok⟩
theorem kd_of {W : WX} (G : Good T X S W) : X.env.scope.kind = .function := by rw [G.sc]; exact G.kd
theorem all_nomv {W : WX} (G : Good T X S W) {l : List Nat} (h : l.all (fun i => !T.mv i) = true) : ∀ i ∈ l, S.mv i = false := fun i hi => by
  rw [List.all_eq_true] at h
  rw [G.mv]
  simpa using h i hi
theorem trP_ok {W : WX} (R : SRc rc) (G : Good T X S W) : ∀ (ts : List (Nat × Bool)) (es : List Expr), PA X es (tG S W (rP S (ts.map (·.2))) (evsP S (trP rc T ts es)))
  | [], [] => pa_nilP
  | [], _ :: _ => pa_no
  | _ :: _, [] => pa_no
  | (i, b) :: ts, e :: es => by
    have ih := trP_ok R G ts es
    unfold trP
    split
    · rename_i hs
      cases b with
      | true => exact pa_consPN hs (R.n G e) ih
      | false => exact pa_consPE hs (R.e G .e e) ih
    · exact pa_no
def gNs : List (Nat × Bool) → TGs
  | [] => gNil
  | t :: ts => gCons (gName t.1) (gNs ts)
theorem gNs_of {H : Hp} {Q : L2.St → Hp → Prop} : ∀ {ts : List (Nat × Bool)} {vs : List V} {σ : L2.St}, vs.length = ts.length → Q (setP ts vs σ) H → gNs ts vs σ H Q
  | [], [], σ, _, h => ⟨rfl, h⟩
  | [], _ :: _, _, h, _ => by cases h
  | _ :: _, [], _, h, _ => by cases h
  | t :: ts, v :: vs, σ, hl, h => ⟨v, vs, rfl, gNs_of (by simpa using hl) h⟩
theorem nmSlots_ok {W : WX} (G : Good T X S W) : ∀ {ts : List Expr} {l : List (Nat × Bool)}, nmSlots T ts = some l → (∀ t ∈ l, S.mv t.1 = t.2) ∧ l.length = ts.length ∧ PGs X ts (gNs l) ∧ (assignEach ts X.env).length = l.length ∧ (assignEach ts X.env).findIdx? (·.1) = none
  | [], l, h => by simp only [nmSlots] at h; cases h; exact ⟨fun _ h => (nomatch h), rfl, pgs_nil, rfl, rfl⟩
  | e :: r, l, h => by
    unfold nmSlots at h
    split at h
    · rename_i x p
      split at h
      case isFalse => cases h
      case isTrue hb =>
      split at h
      · rename_i i l' h1 h2
        cases h
        obtain ⟨p1, p2, p3, p4, p5⟩ := nmSlots_ok G h2
        obtain ⟨q1, q2⟩ := okLoc_ok G hb
        have pg : PG X (.Name x p) (gName i) := pg_name (by rw [G.N]; exact G.nd) (by rw [G.N]; exact ixOf_some h1) q1 q2
        have ha := assignEach_no (e := .Name x p) (es := r) (env := X.env) rfl
        refine ⟨fun t ht => ?_, by rw [List.length_cons, List.length_cons, p2], pgs_cons pg p3 (by rw [ha]; rfl), by rw [ha, List.length_cons, List.length_cons, p4], ?_⟩
        · rcases List.mem_cons.mp ht with rfl | ht
          · show S.mv i = T.mv i
            rw [G.mv]
          · exact p1 t ht
        · rw [ha, List.findIdx?_cons, p5]; rfl
      · cases h
    · cases h
theorem nm_cons {x : Str} {p : Pos} {r : List Expr} {i : Nat} {b : Bool} {l : List (Nat × Bool)} (h : nmSlots T (.Name x p :: r) = some ((i, b) :: l)) : ixOf T.N x = some i ∧ nmSlots T r = some l := by
  unfold nmSlots at h
  dsimp only at h
  split at h
  · split at h
    · rename_i j l' h1 h2
      cases h
      exact ⟨h1, h2⟩
    · cases h
  · cases h
theorem stPar_ok (R : SRc rc) (G : Good T X S (Wof E)) (ts vs : List Expr) {k1 k2 : Nat} {p1 p2 pos : Pos} : PS X (.Assign [.Tuple ts k1 p1] (.Tuple vs k2 p2) pos) (tX S E F0 H0 (stPar rc T ts vs)) := by
  unfold stPar
  split
  · exact ps_bad
  · rename_i l hl
    obtain ⟨q1, q2, q3, q4, q5⟩ := nmSlots_ok G hl
    have hN : X.N.Nodup := by rw [G.N]; exact G.nd
    have hs : swapsWithSole [.Tuple ts k1 p1] (.Tuple vs k2 p2) pos.line X.env = pure false := swaps_no (env := X.env) (e := .Tuple vs k2 p2) rfl (some (.Tuple ts k1 p1)) pos.line
    split
    · rename_i hw
      split
      case isFalse => exact ps_bad
      case isTrue hlen =>
      have hw' : swappedStores [.Tuple ts k1 p1] (.Tuple vs k2 p2) X.env = pure none := sw_none (kd_of G) (by rw [G.sc]; exact hw)
      refine PS.imp (ps_asg (pe_tup (trP_ok R G l vs)) (pg_tup G.calm q3 q4 q5) hs hw' rfl) fun D σ H ⟨Bs, sb, h⟩ => ?_
      obtain ⟨F, U, H0', e, g, m, r⟩ := par_i sb q1 h
      refine ⟨F, U, H0', e, g, m, resF_mono r fun xs g' _ hk us F' H' st gr rl => ?_⟩
      obtain ⟨z1, z2, z3⟩ := hk us F' H' st gr rl
      have hle : us.length ≤ sizeLine := by
        have : 100 ≤ sizeLine := by decide
        omega
      refine ⟨hle, fun p hp => ⟨p, us, rfl, SqT.of upd_same, z1, gNs_of z1 (z3 p hp)⟩⟩
    split
    · exact ps_bad
    · rename_i hw hca
      have hca' : vs.all (constantsAlone 8) = false := by simpa using hca
      have hw' : swNone X.env.scope ts vs = false := by rw [G.sc]; simpa using hw
      split
      · rename_i x px y py a b i bi j bj
        split
        case isFalse => exact ps_bad
        case isTrue hb =>
        simp only [Bool.and_eq_true, decide_eq_true_eq] at hb
        obtain ⟨⟨⟨b1, b2⟩, b3⟩, b4⟩ := hb
        have hsw := sw_some (kd_of G) (k1 := k1) (k2 := k2) (p1 := p1) (p2 := p2) hw' hca'
        rw [show swNames X.env.scope [.Name x px, .Name y py] = [x, y] by rw [G.sc]; exact b4] at hsw
        obtain ⟨n1, n2⟩ := nm_cons hl
        obtain ⟨n3, _⟩ := nm_cons n2
        refine PS.imp (ps_par G.calm hN (by rw [G.N]; exact ixOf_some n1) (by rw [G.N]; exact ixOf_some n3) b3 (by rw [G.sc]; exact isLoc_ok b1) (by rw [G.sc]; exact isLoc_ok b2) (trP_ok R G [(i, bi), (j, bj)] [a, b]) hsw hs) fun D σ H ⟨Bs, sb, h⟩ => ?_
        obtain ⟨F, U, H0', e, g, m, r⟩ := par_i sb q1 h
        refine ⟨F, U, H0', e, g, m, resF_mono r fun xs g' _ hk us F' H' st gr rl => ?_⟩
        obtain ⟨z1, z2, z3⟩ := hk us F' H' st gr rl
        match us, z1, z2 with
        | [u, v], _, z2 => exact ⟨u, v, rfl, z2⟩
      · rename_i x px y py z pz a b c i bi j bj k bk
        split
        case isFalse => exact ps_bad
        case isTrue hb =>
        simp only [Bool.and_eq_true, decide_eq_true_eq] at hb
        obtain ⟨⟨⟨⟨⟨⟨b1, b2⟩, b3⟩, b4⟩, b5⟩, b6⟩, b7⟩ := hb
        have hsw := sw_some (kd_of G) (k1 := k1) (k2 := k2) (p1 := p1) (p2 := p2) hw' hca'
        rw [show swNames X.env.scope [.Name x px, .Name y py, .Name z pz] = [x, y, z] by rw [G.sc]; exact b7] at hsw
        obtain ⟨n1, n2⟩ := nm_cons hl
        obtain ⟨n3, n4⟩ := nm_cons n2
        obtain ⟨n5, _⟩ := nm_cons n4
        refine PS.imp (ps_par3 G.calm hN (by rw [G.N]; exact ixOf_some n1) (by rw [G.N]; exact ixOf_some n3) (by rw [G.N]; exact ixOf_some n5) b4 b5 b6 (by rw [G.sc]; exact isLoc_ok b1) (by rw [G.sc]; exact isLoc_ok b2) (by rw [G.sc]; exact isLoc_ok b3) (trP_ok R G [(i, bi), (j, bj), (k, bk)] [a, b, c]) hsw hs) fun D σ H ⟨Bs, sb, h⟩ => ?_
        obtain ⟨F, U, H0', e, g, m, r⟩ := par_i sb q1 h
        refine ⟨F, U, H0', e, g, m, resF_mono r fun xs g' _ hk us F' H' st gr rl => ?_⟩
        obtain ⟨z1, z2, z3⟩ := hk us F' H' st gr rl
        match us, z1, z2 with
        | [u, v, w], _, z2 => exact ⟨u, v, w, rfl, z2⟩
      · exact ps_bad
theorem stSetN_ok (R : SRc rc) (G : Good T X S (Wof E)) (x : Str) (e : Expr) {px pos : Pos} : PS X (.Assign [.Name x px] e pos) (tX S E F0 H0 (stSetN rc T x e)) := by
  unfold stSetN
  split
  case isFalse => exact ps_bad
  case isTrue hb =>
  obtain ⟨q1, q2⟩ := okLoc_ok G hb
  split
  case h_2 => exact ps_bad
  case h_1 i hi =>
  have hN : X.N.Nodup := by rw [G.N]; exact G.nd
  have hx : X.N[i]? = some x := by rw [G.N]; exact ixOf_some hi
  have fin : ∀ {px' : PX} {e : Expr}, PS X (.Assign [.Name x px] e pos) (tAsg (tN S (Wof E) px') (gName i)) → PS X (.Assign [.Name x px] e pos) (tX S E F0 H0 (if T.mv i = true then .asgN i px' else .asg (.nm i) px')) := fun {px' e} h => by
    split
    · rename_i hm
      exact PS.imp h fun D σ H ⟨Bs, sb, q⟩ => asgN_i sb (by rw [G.mv]; exact hm) q
    · rename_i hm
      refine PS.imp h fun D σ H ⟨Bs, sb, q⟩ => ?_
      have z := asg_i sb (fun j hj => by cases (show j = i by simpa [slots] using hj); rw [G.mv]; simpa using hm) q
      obtain ⟨F, U, H0', e, g, m, r⟩ := tN_of_tE z
      exact ⟨F, U, H0', e, g, m, resF_mono r fun y g' _ hk v F' H' st gr rl => gG_nm (hk v F' H' st gr rl)⟩
  split
  · rename_i elt gens scope p
    obtain ⟨c1, c2⟩ := trComp_ok R G elt gens scope p
    have h : PS X (.Assign [.Name x px] (.ListComp elt gens scope p) pos) (tAsg (tN S (Wof E) (trComp rc T elt gens scope)) (gName i)) := by
      cases hsw : swLc X.env.scope scope x px p with
      | true =>
        have hl : X.env.scope.names.lookup x = some .local := by
          unfold swLc at hsw
          simp only [Bool.and_eq_true] at hsw
          exact isLoc_ok hsw.1.1
        exact c2 i x px pos hx hl (by rw [swaps_lc (kd_of G), hsw])
      | false => exact ps_set hN hx q1 c1 (by rw [swaps_lc (kd_of G), hsw]) q2
    exact fin h
  · split
    · rename_i hnc
      split
      · rename_i hm
        exact PS.imp (ps_set (te := tN S (Wof E) (rc.n T e)) hN hx q1 (R.n G e) (swaps_no hnc _ _) q2) fun D σ H ⟨Bs, sb, q⟩ => asgN_i sb (by rw [G.mv]; exact hm) q
      · rename_i hm
        refine PS.imp (ps_set (te := tE S (Wof E) (rc.e T .e e)) hN hx q1 (R.e G .e e) (swaps_no hnc _ _) q2) fun D σ H ⟨Bs, sb, q⟩ => ?_
        have z := asg_i sb (fun j hj => by cases (show j = i by simpa [slots] using hj); rw [G.mv]; simpa using hm) q
        obtain ⟨F, U, H0', e, g, m, r⟩ := z
        exact ⟨F, U, H0', e, g, m, resF_mono r fun y g' _ hk v F' H' st gr rl => gG_nm (hk v F' H' st gr rl)⟩
    · exact ps_bad
theorem asgSub_ok {o k : Expr} {env : PySem.Env} {pos : Pos} (h : notSlice k = true) : ∀ v, assign (.Subscript o k pos) env v = (do
      let ov ← holding [v] (eval o env)
      let iv ← holding [v, ov] (eval k env)
      standAt pos
      holding [v, ov, iv] (setItem ov iv v)
      release [v, ov, iv] []) := by
  intro v
  cases k <;> first | rfl | (simp only [notSlice] at h; cases h)
theorem stAsg_ok (R : SRc rc) (G : Good T X S (Wof E)) (tg e : Expr) {pos : Pos} : PS X (.Assign [tg] e pos) (tX S E F0 H0 (stAsg rc T tg e)) := by
  unfold stAsg
  split
  · exact stSetN_ok R G _ e
  · rename_i ts k p
    split
    · exact stPar_ok R G ts _
    · rename_i hnt
      split
      · rename_i t ht
        split
        · rename_i hm
          have ht' : notTup e = true := by cases e <;> first | rfl | exact absurd rfl (hnt _ _ _)
          exact PS.imp (ps_asg (R.e G .e e) (tgF_ok G 4 _ t ht) (swaps_tg (env := X.env) (e := e) (t := .Tuple ts k p) rfl pos.line) (stores_no1 ht') rfl) fun D σ H ⟨Bs, sb, h⟩ => asg_i sb (all_nomv G hm) h
        · exact ps_bad
      · exact ps_bad
  · split
    · rename_i k q o x px
      split
      · rename_i i hi
        split
        · rename_i hk
          obtain ⟨hv, hm⟩ := mvIx_ok G (pos := px) hi
          exact PS.imp (ps_asg (R.e G .e e) (pg_sub hv (R.e G .p _) set_list (asgSub_ok hk)) (swaps_tg (env := X.env) (e := e) (t := .Subscript (.Name x px) k q) rfl pos.line) (stores_no2 rfl) rfl) fun D σ H ⟨Bs, sb, h⟩ => setI_i sb hm h
        · exact ps_bad
      · exact ps_bad
    · exact ps_bad
  · exact ps_bad
theorem stApp_ok (R : SRc rc) (G : Good T X S (Wof E)) (x : Str) (a : Expr) {q1 q2 q3 pos : Pos} (hl : (q2.endLine == q3.line) = true) : PS X (.Expr (.Call (.Attribute (.Name x q1) "append" q2) [a] [] q3) pos) (tX S E F0 H0 (stApp rc T x a)) := by
  unfold stApp
  split
  · exact ps_bad
  · rename_i i hi
    obtain ⟨hv, hm⟩ := mvIx_ok G (pos := q1) hi
    split
    case isFalse => exact ps_bad
    case isTrue hs =>
    have few := few_no (pos := q3) (env := X.env) (e := a) (es := []) (by simp [noStars, hs]) (by decide)
    have one : ∀ {ta : TA}, PA X [a] ta → PS X (.Expr (.Call (.Attribute (.Name x q1) "append" q2) [a] [] q3) pos) (tDrop (tBM S.K "list" rAppend (tVar i) ta)) := fun {ta} ha => by
      have h := pe_bm (X := X) (apos := q2) (cpos := q3) PySem.F.plainAttrs_list PySem.F.slot_list_append PySem.F.type_list_append mt_append hv ha rfl few hl (starEach_no hs) rfl
      rw [G.K] at h
      exact ps_expr h (swaps_no rfl _ _)
    have gen : ∀ b : Expr, b = a → PS X (.Expr (.Call (.Attribute (.Name x q1) "append" q2) [a] [] q3) pos) (tX S E F0 H0 (.app i (rc.e T .e b))) := fun b hb => by
      subst hb
      exact PS.imp (one (pa_consE hs (R.e G .e b) (pa_nilG nilE))) fun D σ H ⟨Bs, sb, h⟩ => app_i sb hm h
    split
    · rename_i y p1 nm p2 k p3
      split
      · rename_i hn
        subst hn
        split
        · rename_i j hj
          split
          · rename_i hb
            simp only [Bool.and_eq_true, decide_eq_true_eq] at hb
            obtain ⟨⟨hij, hk⟩, hl2⟩ := hb
            obtain ⟨hv2, hm2⟩ := mvIx_ok G (pos := p1) hj
            have h2 := pe_bm (X := X) (apos := p2) (cpos := p3) PySem.F.plainAttrs_list PySem.F.slot_list_pop PySem.F.type_list_pop mt_popAt hv2 (pa_consT hk (R.e G .p k) (pa_nilG nilT)) rfl (few_no (by simp [noStars, hk]) (by decide)) hl2 (starEach_no hk) rfl
            rw [G.K] at h2
            exact PS.imp (one (pa_cons h2 pa_nil (starEach_no hs))) fun D σ H ⟨Bs, sb, h⟩ => appPop_i sb hm hm2 hij h
          · exact ps_bad
        · exact ps_bad
      · exact gen _ rfl
    · exact gen _ rfl
theorem stExt_ok (R : SRc rc) (G : Good T X S (Wof E)) (x : Str) (a : Expr) {q1 q2 q3 pos : Pos} (hl : (q2.endLine == q3.line) = true) : PS X (.Expr (.Call (.Attribute (.Name x q1) "extend" q2) [a] [] q3) pos) (tX S E F0 H0 (stExt rc T x a)) := by
  unfold stExt
  split
  · exact ps_bad
  · rename_i i hi
    obtain ⟨hv, hm⟩ := mvIx_ok G (pos := q1) hi
    split
    case isFalse => exact ps_bad
    case isTrue hs =>
    have few := few_no (pos := q3) (env := X.env) (e := a) (es := []) (by simp [noStars, hs]) (by decide)
    have h := pe_bm (X := X) (apos := q2) (cpos := q3) PySem.F.plainAttrs_list PySem.F.slot_list_extend PySem.F.type_list_extend mt_extend hv (pa_consE hs (R.e G .e a) (pa_nilG nilE)) rfl few hl (starEach_no hs) rfl
    rw [G.K] at h
    exact PS.imp (ps_expr h (swaps_no rfl _ _)) fun D σ H ⟨Bs, sb, h⟩ => ext_i sb hm h
theorem xpr_ok (R : SRc rc) (G : Good T X S (Wof E)) (e : Expr) {pos : Pos} (h : notComp e = true) : PS X (.Expr e pos) (tX S E F0 H0 (.xpr (rc.e T .e e))) :=
  PS.imp (ps_expr (R.e G .e e) (swaps_no h _ _)) fun D σ H ⟨Bs, sb, q⟩ => xpr_i sb q
theorem skip_ok {st : Stmt} (h : PS X st tNext) : PS X st (tX S E F0 H0 .skip) := PS.imp h fun D σ H ⟨Bs, sb, e, g, sm, r⟩ => r σ H sm
theorem stExpr_ok (R : SRc rc) (G : Good T X S (Wof E)) (e : Expr) {pos : Pos} : PS X (.Expr e pos) (tX S E F0 H0 (stExpr rc T e)) := by
  unfold stExpr
  split
  · exact skip_ok ps_doc
  · rename_i x q1 nm q2 a q3
    split
    · rename_i hn
      subst hn
      split
      · rename_i hl
        exact stApp_ok R G x a hl
      · exact ps_bad
    split
    · rename_i hn
      subst hn
      split
      · rename_i hl
        exact stExt_ok R G x a hl
      · exact ps_bad
    · exact xpr_ok R G _ rfl
  · split
    · rename_i hc
      exact xpr_ok R G _ hc
    · exact ps_bad
theorem stRet_ok (R : SRc rc) (G : Good T X S (Wof E)) (e : Expr) {pos : Pos} : PS X (.Return (some e) pos) (tX S E F0 H0 (stRet rc T e)) := by
  have gen : ∀ e, PS X (.Return (some e) pos) (tX S E F0 H0 (.ret (rc.e T.still .e e))) := fun e => PS.imp (ps_ret (R.e G.still .e e)) fun D σ H ⟨Bs, sb, h⟩ => ret_i h
  unfold stRet
  split
  · rename_i x p
    split
    · rename_i i hi
      obtain ⟨hv, hm⟩ := mvIx_ok G (pos := p) hi
      exact PS.imp (ps_ret hv) fun D σ H ⟨Bs, sb, h⟩ => retM_i hm h
    · exact gen _
  · split
    · exact PS.imp (ps_ret (R.n G.still _)) fun D σ H ⟨Bs, sb, h⟩ => retN_i h
    · exact gen _
theorem stAug_ok (R : SRc rc) (G : Good T X S (Wof E)) (x : Str) (op : Operator) (e : Expr) {px pos : Pos} : PS X (.AugAssign (.Name x px) op e pos) (tX S E F0 H0 (stAug rc T x op e)) := by
  unfold stAug
  split
  case isFalse => exact ps_bad
  case isTrue hb =>
  obtain ⟨q1, q2⟩ := okLoc_ok G hb
  split
  case h_2 => exact ps_bad
  case h_1 i hi =>
  have hN : X.N.Nodup := by rw [G.N]; exact G.nd
  have hx : X.N[i]? = some x := by rw [G.N]; exact ixOf_some hi
  split
  · exact ps_bad
  · rename_i hm
    have hm' : S.mv i = false := by rw [G.mv]; simpa using hm
    split
    · exact PS.imp (ps_aug hN hx q1 (R.e G .p e) ip_add q2) fun D σ H ⟨Bs, sb, h⟩ => aug_i (o := false) sb hm' h
    · exact PS.imp (ps_aug hN hx q1 (R.e G .p e) ip_sub q2) fun D σ H ⟨Bs, sb, h⟩ => aug_i (o := true) sb hm' h
    · exact ps_bad
/-! ### suites -/
theorem resS_mono {Bs : BsT} {D D' : Ends} {r : R Fl} (h1 : ∀ σ H, D.nx σ H → D'.nx σ H) (h2 : ∀ σ H, D.bk σ H → D'.bk σ H) (h3 : ∀ σ H, D.ct σ H → D'.ct σ H) (h4 : ∀ v H, D.rt v H → D'.rt v H) (h : resS S E F0 H0 Bs D r) : resS S E F0 H0 Bs D' r := by
  cases r with
  | bad => exact h
  | exc _ _ _ => exact h
  | ok fl g => cases fl with
    | nx e => exact fun σ H q => h1 _ _ (h σ H q)
    | bk e => exact fun σ H q => h2 _ _ (h σ H q)
    | ct e => exact fun σ H q => h3 _ _ (h σ H q)
    | rt v b => exact fun w F H q1 q2 q3 => h4 _ _ (h w F H q1 q2 q3)
theorem seqX {a b : ST} {D : Ends} {σ : L2.St} {H : Hp} (h : tX S E F0 H0 (.seq a b) D σ H) : tSeq (tX S E F0 H0 a) (tX S E F0 H0 b) D σ H := by
  obtain ⟨Bs, sb, h⟩ := h
  obtain ⟨e, g, sm, r⟩ := seq_i h
  exact ⟨Bs, sb, e, g, sm, resS_mono (D := { D with nx := tSt S E F0 H0 Bs (exs S.C S.B b) D }) (fun σ H q => ⟨Bs, sb, q⟩) (fun _ _ q => q) (fun _ _ q => q) (fun _ _ q => q) r⟩
theorem ifeX {c : PX} {a b : ST} {D : Ends} {σ : L2.St} {H : Hp} (h : tX S E F0 H0 (.ife c a b) D σ H) : tIfS (tT S (Wof E) c) (tX S E F0 H0 a) (tX S E F0 H0 b) D σ H := by
  obtain ⟨Bs, sb, h⟩ := h
  obtain ⟨F, U, H0', e, g, m, r⟩ := ife_i sb h
  refine ⟨F, U, H0', e, g, m, resF_mono r fun x g' _ hk v F' H' st gr rl => ?_⟩
  have q := hk v F' H' st gr rl
  cases v with
  | true => simp only [if_true] at q ⊢; exact ⟨Bs, sb, q⟩
  | false => simp only [Bool.false_eq_true, if_false] at q ⊢; exact ⟨Bs, sb, q⟩
theorem whlX {c : PX} {b : ST} {D : Ends} {σ : L2.St} {H : Hp} (h : tX S E F0 H0 (.whl c b) D σ H) : tWhile (tT S (Wof E) c) (tX S E F0 H0 b) D σ H := by
  obtain ⟨Bs, sb, h⟩ := h
  obtain ⟨W, hw, turn⟩ := whl_i sb h
  refine ⟨W, hw, fun m σ H w => ?_⟩
  obtain ⟨F, U, H0', e, g, mm, r⟩ := turn m σ H w
  refine ⟨F, U, H0', e, g, mm, resF_mono r fun x g' _ hk v F' H' st gr rl => ?_⟩
  have q := hk v F' H' st gr rl
  cases v with
  | true =>
    simp only [if_true] at q ⊢
    obtain ⟨N, hN, q⟩ := q
    exact ⟨N, hN, Bs, sb, q⟩
  | false => simp only [Bool.false_eq_true, if_false] at q ⊢; exact q
theorem trSs_ok {f : Stmt → ST} (hf : ∀ st, PS X st (tX S E F0 H0 (f st))) : ∀ sts : List Stmt, PSs X sts (tX S E F0 H0 (trSs f sts))
  | [] => PSs.imp pss_nil fun D σ H ⟨Bs, sb, e, g, sm, r⟩ => r σ H sm
  | [s] => pss_one (hf s)
  | s :: s2 :: r => PSs.imp (pss_cons (hf s) (trSs_ok hf (s2 :: r))) fun D σ H h => seqX h
theorem trSt_ok (R : SRc rc) (G : Good T X S (Wof E)) (hp : PassesOwn (model X.prog X.w) X.A X.env X.xe) : ∀ (n : Nat) (st : Stmt), PS X st (tX S E F0 H0 (trSt rc T n st))
  | 0, _ => ps_bad
  | n + 1, st => by
    have ih := trSs_ok (trSt_ok R G hp n)
    unfold trSt
    split
    · exact skip_ok ps_pass
    · exact PS.imp ps_break fun D σ H ⟨Bs, sb, e, g, sm, r⟩ => r σ H sm
    · exact PS.imp ps_continue fun D σ H ⟨Bs, sb, e, g, sm, r⟩ => r σ H sm
    · exact stExpr_ok R G _
    · split
      · exact stAsg_ok R G _ _
      · exact ps_bad
    · split
      · exact stAug_ok R G _ _ _
      · exact ps_bad
    · exact PS.imp (ps_if (R.t G _) (ih _) (ih _)) fun D σ H h => ifeX h
    · split
      · exact PS.imp (ps_while hp (R.t G _) (ih _)) fun D σ H h => whlX h
      · exact ps_bad
    · split
      · rename_i t ht
        split
        · rename_i hb
          simp only [Bool.and_eq_true] at hb
          exact PS.imp (ps_for hp G.calm (src_ok R G false _ _) (tgF_ok G 4 _ t ht) (ih _) (folded_ok hb.2)) fun D σ H h => for_i (all_nomv G hb.1) h
        · exact ps_bad
      · exact ps_bad
    · split
      · exact stRet_ok R G _
      · exact PS.imp ps_retN fun D σ H ⟨Bs, sb, e, g, ⟨F, U, m, fx, ml, bs⟩, r⟩ => r .non F H (m.out fx (Stp.refl m.frz)) m.drw (show Rep S.K S.D F H .non .non by simp only [Rep])
    · exact ps_bad
end
end Pm
set_option Elab.async false
set_option linter.all false
set_option autoImplicit false
set_option maxRecDepth 100000
set_option maxHeartbeats 4000000
namespace Pm
open PySem L2 PySem.Spec PyProof.Rows
/-! ### all defs of a text keep what the interpreter tells -/
structure DI where
  x : Str
  args : Arguments
  body : List Stmt
  scope : Scope
  N : List Str
  ps : List Str
  mv : List Nat
structure Glob where
  tab : Nat → Option DI
  fn : Str → Option Nat
  gc : Str → Option Val
  bl : Str → Bool
  dr : Str → Bool
def txOf (g : Glob) (d : DI) : TX := ⟨d.N, d.scope, fun i => d.mv.contains i, fun _ => true, g.fn, g.gc, g.bl, g.dr⟩
def fuel : Nat := 40
def bodyOf (g : Glob) (d : DI) (body : List Stmt) : ST := trSs (trSt (rcOf fuel) (txOf g d) fuel) body
def fnD (g : Glob) (d : DI) : Fn := ⟨d.ps.length, d.N.length, bodyOf g d d.body⟩
def tabOf (g : Glob) : Nat → Option Fn := fun f => (g.tab f).map (fnD g)
abbrev B60 : Option Nat := some (2 ^ 60)
def xt0 : Nat → Option (Addr × List Str) := fun _ => none
def callG (g : Glob) (n : Nat) : CallT := callF B60 (tabOf g) n
structure Wf (g : Glob) (P : Program) (w : World) (K : PySem.W.Frag) (mg : Str → Option Value) (base : Heap) : Prop where
  bl : ∀ x, g.bl x = true → mg x = none
  gc : ∀ x v, g.gc x = some v → ∃ w u, mg x = some u ∧ RelV w u ∧ notLst v = true ∧ ∀ D F H, Rep K D F H v w
  fn : ∀ x f, g.fn x = some f → ∃ d a fd, g.tab f = some d ∧ mg x = some (.ref a) ∧ FunD K d.x d.x d.args d.body d.scope [] [] a fd ∧ Binds K fd d.ps [] ∧ FnScope d.N d.ps d.scope ∧ (d.mv.all fun i => decide (d.ps.length ≤ i)) = true
  dr : ∀ x, g.dr x = true → ∃ a fd ps, mg x = some (.ref a) ∧ PySem.W.keepIn K (.ref a) = true ∧ Binds K fd ps [] ∧ ∀ S : Sx, S.K = K → S.B = B60 → FnG P w K mg base 4 a fd ps (spDraw S)
section
variable {g : Glob} {P : Program} {w : World} {K : PySem.W.Frag} {mg : Str → Option Value} {base : Heap}
/-- the context of a body, where what it calls is kept -/
theorem good_of (F : Wf g P w K mg base) {n : Nat} (lv : ∀ x f, g.fn x = some f → ∀ d a fd, g.tab f = some d → mg x = some (.ref a) → FunD K d.x d.x d.args d.body d.scope [] [] a fd → Binds K fd d.ps [] → FnScope d.N d.ps d.scope → (d.mv.all fun i => decide (d.ps.length ≤ i)) = true → FnG P w K mg base (n + 4) a fd d.ps (spF K (callG g n) xt0 f))
    {d : DI} {a : Addr} {cdv : Value} {A : Around} {outer : List PySem.Env} {s : Shared} {H : Hp} {E : XK} {q : Str} {D : DA} (Sc : FnScope d.N d.ps d.scope) (room : Room (n + 4) (A.deeper (envOfC q d.scope s.heap.objs.size a cdv))) (gd : A.guards = some []) :
    Good (txOf g d) (cxOf (L2.CX P w) P w K mg base d.N q d.scope a cdv A outer s H E) ⟨K, D, callG g n, B60, xt0, fun i => d.mv.contains i⟩ (Wof E) where
  N := rfl
  nd := Sc.nd
  sc := rfl
  kd := Sc.kind
  mv := rfl
  calm := rfl
  K := rfl
  gd := gd
  un := by have := room.un; show (A.deeper (envOfC q d.scope s.heap.objs.size a cdv)).units + 66 < cLine; omega
  tk := takes_of rfl rfl rfl rfl
  fx := fun _ _ => rfl
  bl := F.bl
  gc := fun x v h => by
    obtain ⟨w, u, h1, h2, h3, h4⟩ := F.gc x v h
    exact ⟨w, u, h1, h2, h3, fun F H => h4 D F H⟩
  fn := fun x f h => by
    obtain ⟨d', a', fd', h1, h2, h3, h4, h5, h6⟩ := F.fn x f h
    exact ⟨n + 4, a', fd', d'.ps, h2, h3.kp, h4, room, lv x f h d' a' fd' h1 h2 h3 h4 h5 h6⟩
  dr := fun x h => by
    obtain ⟨a', fd', ps', h1, h2, h3, h4⟩ := F.dr x h
    exact ⟨4, a', fd', ps', h1, h2, h3, room.mono (by omega), h4 _ rfl rfl⟩
theorem start_sim {D : DA} {F0 : AS} {H : Hp} {dg : DrawSt} {d : DI} {xs : List Val} {vs : List V} {C : CallT} (fo : FOk D F0 H) (gr : GRel D dg H) (rp : Reps K D F0 H xs vs) (hl : xs.length = d.ps.length) (hle : d.ps.length ≤ d.N.length) (hm : (d.mv.all fun i => decide (d.ps.length ≤ i)) = true) :
    SmS ⟨K, D, C, B60, xt0, fun i => d.mv.contains i⟩ F0 H (fun _ _ => True) (start d.N vs) H (enter (fnD g d) xs) dg := by
  have lv := rp.length
  have at_ : ∀ i x, getE (enter (fnD g d) xs) i = some x → i < xs.length ∧ xs[i]? = some x := fun i x h => by
    rw [getE_iff] at h
    unfold enter at h
    by_cases hi : i < xs.length
    · rw [List.getElem?_append_left (by rw [List.length_map]; exact hi), List.getElem?_map] at h
      refine ⟨hi, ?_⟩
      cases q : xs[i]? with
      | none => rw [q] at h; cases h
      | some y => rw [q] at h; cases h; rfl
    · rw [List.getElem?_append_right (by rw [List.length_map]; omega)] at h
      rw [List.getElem?_replicate] at h
      split at h <;> cases h
  refine ⟨F0, fun _ => none, ⟨fun i x h => ?_, ?_, fun i a q => (nomatch q), fun i a q => (nomatch q), fun i j a q => (nomatch q), fo, gr, fun a o e _ => e, fun a e => e⟩, ⟨fun a z => z, fun a z => .inl z⟩, fun i ys h1 h2 => ?_, trivial⟩
  · obtain ⟨h1, h2⟩ := at_ i x h
    obtain ⟨v, h3, h4⟩ := rp.get h2
    refine ⟨v, ?_, h4⟩
    unfold L2.start
    rw [List.getElem?_append_left (by rw [List.length_map]; omega), List.getElem?_map, h3]
    rfl
  · unfold L2.start enter
    simp only [List.length_append, List.length_map, List.length_replicate, fnD]
    omega
  · obtain ⟨h3, _⟩ := at_ i _ h2
    have hmem : i ∈ d.mv := by simpa using h1
    rw [List.all_eq_true] at hm
    have := hm i hmem
    simp at this
    omega
theorem level (F : Wf g P w K mg base) : ∀ (n : Nat) (x : Str) (f : Nat), g.fn x = some f → ∀ (d : DI) (a : Addr) (fd : FuncData), g.tab f = some d → mg x = some (.ref a) → FunD K d.x d.x d.args d.body d.scope [] [] a fd → Binds K fd d.ps [] → FnScope d.N d.ps d.scope → (d.mv.all fun i => decide (d.ps.length ≤ i)) = true →
    FnG P w K mg base (n + 4) a fd d.ps (spF K (callG g n) xt0 f)
  | 0, x, f, hf, d, a, fd, ht, hg, Fd, Bd, Sc, hm => by
    have no : ∀ vs H Q E, ¬ spF K (callG g 0) xt0 f vs H Q E := fun vs H Q E ⟨D, F, xs, dg, _, _, _, h⟩ => h
    exact ⟨fun vs H Q E h => absurd h (no vs H Q E), fun A outer s H args us vs Q E _ _ _ _ _ h => absurd h (no vs H Q E)⟩
  | n + 1, x, f, hf, d, a, fd, ht, hg, Fd, Bd, Sc, hm => by
    have hle : d.ps.length ≤ d.N.length := by have := congrArg List.length Sc.pre; rw [List.length_take] at this; omega
    have un : ∀ xs dg, callG g (n + 1) f xs dg = if xs.length = d.ps.length ∧ d.ps.length ≤ d.N.length then (exs (callG g n) B60 (bodyOf g d d.body) (enter (fnD g d) xs) dg).bind fun fl g => outOf fl g else .bad := fun xs dg => by
      show (match tabOf g f with | none => R.bad | some d => _) = _
      have : tabOf g f = some (fnD g d) := by unfold tabOf; rw [ht]; rfl
      rw [this]
      rfl
    refine FnG.of_body (k := n + 4) Fd Sc (fun vs H Q E h => ?_) fun cdv A outer s H vs Q E room gd h => ?_
    · obtain ⟨D, F, xs, dg, _, _, rp, h⟩ := h
      rw [un] at h
      by_cases hb : xs.length = d.ps.length ∧ d.ps.length ≤ d.N.length
      · rw [rp.length]; exact hb.1
      · rw [if_neg hb] at h
        exact False.elim h
    · obtain ⟨D, F0, xs, dg, fo, gr, rp, h⟩ := h
      rw [un] at h
      by_cases hb : xs.length = d.ps.length ∧ d.ps.length ≤ d.N.length
      · rw [if_pos hb] at h
        have G := good_of F (level F n) (d := d) (a := a) (cdv := cdv) (A := A) (outer := outer) (s := s) (H := H) (E := E) (q := d.x) (D := D) Sc room gd
        refine ⟨_, trSs_ok (F0 := F0) (H0 := H) (trSt_ok (rcOf_ok fuel) G (passes_of rfl) fuel) d.body, fun _ _ => True, fun _ _ _ _ _ _ => trivial, _, dg, start_sim (g := g) (C := callG g n) fo gr rp hb.1 hb.2 hm, ?_⟩
        show resS _ E F0 H _ _ (exs (callG g n) B60 (bodyOf g d d.body) (enter (fnD g d) xs) dg)
        cases q : exs (callG g n) B60 (bodyOf g d d.body) (enter (fnD g d) xs) dg with
        | bad => rw [q] at h; exact h
        | exc c fs g' => rw [q] at h; exact h
        | ok fl g' =>
          rw [q] at h
          cases fl with
          | bk e => exact False.elim h
          | ct e => exact False.elim h
          | rt v b =>
            intro u F' H' q1 q2 q3
            cases b with
            | true => exact h u F' H' q1 q2 q3
            | false => exact h u F' H' q1 q2 q3
          | nx e =>
            intro σ' H' sm
            obtain ⟨F', U, m, fx, _, _⟩ := sm
            exact h .non F' H' (m.out fx (Stp.refl m.frz)) m.drw (show Rep K D F' H' .non .non by simp only [Rep])
      · rw [if_neg hb] at h
        exact False.elim h
end
end Pm
set_option Elab.async false
set_option linter.all false
set_option autoImplicit false
set_option maxRecDepth 100000
set_option maxHeartbeats 4000000
namespace Pm
open PySem L2 PySem.Spec PyProof.Rows
/-! ### the drawing def -/
def spMix : Sp := fun vs H Q _ => ∃ c n : Int, vs = [.int c, .int n] ∧ (-(2 ^ 63) < c ∧ c < 2 ^ 63) ∧ (0 ≤ n ∧ n < 2 ^ 62) ∧ Q (.int (mixed c n)) H
def ND : List Str := ["_law_m", "_law_limit", "_law_n", "_law_lot", "_law_here", "_law_cell"]
abbrev sK (s : Str) : TE := tC (.str s)
abbrev rAdd0 : R2 := rI0 fun i j => .int (i + j)
abbrev rMod0 : R2 := rI (fun _ j => 0 < j) fun i j => .int (i % j)
abbrev rDiv0 : R2 := rI CDiv fun i j => .int (i / j)
abbrev rMul0 : R2 := rI CMul fun i j => .int (i * j)
abbrev rInt1 : List V → Hp → VK → Prop := fun xs H Q => (∃ i, xs = [.int i] ∧ Q (.int i) H) ∨ ∃ k, xs = [.bl k] ∧ Q (.int (if k then 1 else 0)) H
abbrev rLen1 (K : PySem.W.Frag) : List V → Hp → VK → Prop := fun xs H Q => ∃ x n, xs = [x] ∧ LenV K x H n ∧ Q (.int n) H
abbrev tInt (t : TE) : TE := tCB rInt1 (tCons t tNil)
def tLot (K : PySem.W.Frag) : TS := tSeq (tAsg (tDGet (tVar 0) (sK "great")) (gName 3))
  (tSeq (tAsg (tOp rMod0 (tInt (tVar 2)) (tCB (rLen1 K) (tCons (tVar 3) tNil))) (gName 4))
  (tSeq (tAsg (tOp (rIxL K) (tVar 3) (tVar 4)) (gName 5))
    (tIfS (tTest (tOp (rI0 fun i j => .bl (decide (j < i))) (tVar 5) (tC (.int 0))))
      (tSeq (tAsg (tOp rDiv0 (tVar 5) (tVar 1)) (gSub (tVar 3) (tVar 4) rSetL)) (tRet (tOp rMod0 (tInt (tVar 5)) (tVar 1)))) tNext)))
def tDrawS (K : PySem.W.Frag) (W : WX) : TS := tSeq (tAsg (tDGet (tVar 0) (sK "spot")) (gName 2))
  (tSeq (sDPut (tVar 0) (sK "spot") (tOp rAdd0 (tVar 2) (tC (.int 1))))
  (tSeq (tIfS (tTest (tOp (rNeD K) (tDGet (tVar 0) (sK "great")) (tLst tNil))) (tLot K) tNext)
  (tSeq (tAsg (tDGet (tVar 0) (sK "cells")) (gName 3))
    (tRet (tOp rMod0 (tInt (tCallW spMix W (tCons (tCallW spMix W (tCons (tOp rAdd0 (tOp (rIxL K) (tVar 3) (tOp rMod0 (tInt (tVar 2)) (tC (.int 64)))) (tOp rMul0 (tC (.int 31)) (tOp rDiv0 (tVar 2) (tC (.int 64))))) (tCons (tVar 2) tNil))) (tCons (tOp rAdd0 (tVar 2) (tC (.int 7))) tNil)))) (tVar 1))))))
section
variable {X : Cx} {W : WX} {k : Nat} {fm : Addr} {fdm : FuncData} {psm : List Str}
theorem pss_draw (hN : X.N = ND) (hl : ∀ x ∈ ND, X.env.scope.names.lookup x = some .local) (hc : X.calm = true) (hu : X.A.units + 66 < cLine) (gd : X.A.guards = some []) (tk : Takes X W) (gi : Gl X "int") (mi : X.mg "int" = none) (gl : Gl X "len") (ml : X.mg "len" = none)
    (gm : Gl X "_law_mixed") (mm : X.mg "_law_mixed" = some (.ref fm)) (km : PySem.W.keepIn X.K (.ref fm) = true) (bm : Binds X.K fdm psm []) (rm : Room k X.A) (Fm : FnG X.prog X.w X.K X.mg X.base k fm fdm psm spMix)
    {p1 p2 p3 p4 p5 p6 p7 p8 p9 p10 p11 p12 p13 p14 p15 p16 p17 p18 p19 p20 p21 p22 p23 p24 p25 p26 p27 p28 p29 p30 p31 p32 p33 p34 p35 p36 p37 p38 p39 p40 p41 p42 p43 p44 p45 p46 p47 p48 p49 p50 p51 p52 p53 p54 p55 p56 p57 p58 p59 p60 p61 p62 p63 p64 p65 p66 p67 p68 p69 p70 p71 p72 p73 p74 p75 p76 p77 p78 p79 p80 p81 p82 p83 p84 p85 : Pos} {k1 k2 k3 k4 k5 k6 k7 k8 k9 k10 k11 : Nat} :
    PSs X [.Assign [.Name "_law_n" p1] (.Subscript (.Name "_law_m" p2) (.Constant (.str "spot") k1 p3) p4) p5,
      .Assign [.Subscript (.Name "_law_m" p6) (.Constant (.str "spot") k2 p7) p8] (.BinOp (.Name "_law_n" p9) .Add (.Constant (.int 1) k3 p10) p11) p12,
      .If (.Compare (.Subscript (.Name "_law_m" p13) (.Constant (.str "great") k4 p14) p15) [.NotEq] [.List [] p16] p17)
        [.Assign [.Name "_law_lot" p18] (.Subscript (.Name "_law_m" p19) (.Constant (.str "great") k5 p20) p21) p22,
         .Assign [.Name "_law_here" p23] (.BinOp (.Call (.Name "int" p24) [.Name "_law_n" p25] [] p26) .Mod (.Call (.Name "len" p27) [.Name "_law_lot" p28] [] p29) p30) p31,
         .Assign [.Name "_law_cell" p32] (.Subscript (.Name "_law_lot" p33) (.Name "_law_here" p34) p35) p36,
         .If (.Compare (.Name "_law_cell" p37) [.Gt] [.Constant (.int 0) k6 p38] p39)
           [.Assign [.Subscript (.Name "_law_lot" p40) (.Name "_law_here" p41) p42] (.BinOp (.Name "_law_cell" p43) .FloorDiv (.Name "_law_limit" p44) p45) p46,
            .Return (some (.BinOp (.Call (.Name "int" p47) [.Name "_law_cell" p48] [] p49) .Mod (.Name "_law_limit" p50) p51)) p52] [] p53] [] p54,
      .Assign [.Name "_law_lot" p55] (.Subscript (.Name "_law_m" p56) (.Constant (.str "cells") k7 p57) p58) p59,
      .Return (some (.BinOp (.Call (.Name "int" p60) [.Call (.Name "_law_mixed" p61) [.Call (.Name "_law_mixed" p62) [.BinOp (.Subscript (.Name "_law_lot" p63) (.BinOp (.Call (.Name "int" p64) [.Name "_law_n" p65] [] p66) .Mod (.Constant (.int 64) k8 p67) p68) p69) .Add
        (.BinOp (.Constant (.int 31) k9 p70) .Mult (.BinOp (.Name "_law_n" p71) .FloorDiv (.Constant (.int 64) k11 p72) p73) p74) p75, .Name "_law_n" p76] [] p77, .BinOp (.Name "_law_n" p78) .Add (.Constant (.int 7) k10 p79) p80] [] p81] [] p82) .Mod (.Name "_law_limit" p83) p84)) p85] (tDrawS X.K W) := by
  have nd : X.N.Nodup := by rw [hN]; decide +kernel
  have at_ : ∀ (i : Nat) (x : Str), ND[i]? = some x → X.N[i]? = some x := fun i x h => by rw [hN]; exact h
  have lo : ∀ (i : Nat) (x : Str), ND[i]? = some x → X.env.scope.names.lookup x = some .local := fun i x h => hl x (List.mem_of_getElem? h)
  have v : ∀ (i : Nat) (x : Str) (p : Pos), ND[i]? = some x → (x == ("__debug__" : Str)) = false → (x == ("__classdict__" : Str)) = false → PE X (.Name x p) (tVar i) := fun i x p h h1 h2 => pe_var (at_ i x h) (.inl (lo i x h)) h1 h2
  have pm : ∀ p, PE X (.Name "_law_m" p) (tVar 0) := fun p => v 0 _ p rfl (by decide) (by decide)
  have pl : ∀ p, PE X (.Name "_law_limit" p) (tVar 1) := fun p => v 1 _ p rfl (by decide) (by decide)
  have pn : ∀ p, PE X (.Name "_law_n" p) (tVar 2) := fun p => v 2 _ p rfl (by decide) (by decide)
  have po : ∀ p, PE X (.Name "_law_lot" p) (tVar 3) := fun p => v 3 _ p rfl (by decide) (by decide)
  have ph : ∀ p, PE X (.Name "_law_here" p) (tVar 4) := fun p => v 4 _ p rfl (by decide) (by decide)
  have pc : ∀ p, PE X (.Name "_law_cell" p) (tVar 5) := fun p => v 5 _ p rfl (by decide) (by decide)
  have hu1 : X.A.units + 1 < cLine := by omega
  have set : ∀ (i : Nat) (x : Str) {e : Expr} {te : TE} {q pos : Pos}, ND[i]? = some x → PE X e te → notComp e = true → PS X (.Assign [.Name x q] e pos) (tAsg te (gName i)) := fun i x {e te q pos} h he hn => ps_set nd (at_ i x h) (.inl (lo i x h)) he (swaps_no hn _ _) (.inr (lo i x h))
  have int1 : ∀ {e : Expr} {te : TE} {q pos : Pos}, noStar e = true → PE X e te → PE X (.Call (.Name "int" q) [e] [] pos) (tInt te) := fun {e te q pos} hs he => pe_callTy call_int1 gi mi PyProof.Rows.boot_int (pa_cons he pa_nil (starEach_no hs)) (by decide) (by decide) (starEach_no hs) rfl
  have mix : ∀ {a b : Expr} {ta tb : TE} {q pos : Pos}, noStar a = true → noStar b = true → PE X a ta → PE X b tb → PE X (.Call (.Name "_law_mixed" q) [a, b] [] pos) (tCallW spMix W (tCons ta (tCons tb tNil))) := fun {a b ta tb q pos} ha hb pa' pb' =>
    pe_callW Fm rm gd gm mm km bm tk (pa_cons pa' (pa_cons pb' pa_nil (starEach_no hb)) (starEach_no ha)) (by decide) (starEach_no ha) (backTo_no (by simp [noStars, hb]))
  refine pss_cons (set 2 _ rfl (pe_dget hu1 (pm _) pe_str fun _ _ => rfl) rfl) (pss_cons (ps_dput hu1 (pm _) pe_str (pe_op op_add (pn _) pe_int) (swaps_no rfl _ _)) (pss_cons (ps_if (pt_cmpR (op_neD (by omega)) (pe_dget hu1 (pm _) pe_str fun _ _ => rfl) (pe_lst pa_nil) rfl) ?_ pss_nil) (pss_cons (set 3 _ rfl (pe_dget hu1 (pm _) pe_str fun _ _ => rfl) rfl) (pss_one (ps_ret ?_)))))
  · exact pss_cons (set 3 _ rfl (pe_dget hu1 (pm _) pe_str fun _ _ => rfl) rfl) (pss_cons (set 4 _ rfl (pe_op op_mod (int1 rfl (pn _)) (pe_callB call_len gl ml (by decide +kernel) (pa_cons (po _) pa_nil))) rfl) (pss_cons (set 5 _ rfl (pe_ix ix_list (po _) (ph _) fun _ _ => rfl) rfl)
      (pss_one (ps_if (pt_cmpR op_gt (pc _) pe_int rfl) (pss_cons (ps_asg (pe_op op_fdiv (pc _) (pl _)) (pg_sub (po _) (ph _) set_list) rfl rfl rfl) (pss_one (ps_ret (pe_op op_mod (int1 rfl (pc _)) (pl _))))) pss_nil))))
  · exact pe_op op_mod (int1 rfl (mix rfl rfl (mix rfl rfl (pe_op op_add (pe_ix ix_list (po _) (pe_op op_mod (int1 rfl (pn _)) pe_int) fun _ _ => rfl) (pe_op op_mul pe_int (pe_op op_fdiv (pn _) pe_int))) (pn _)) (pe_op op_add (pn _) pe_int))) (pl _)
end
end Pm
set_option Elab.async false
set_option linter.all false
set_option autoImplicit false
set_option maxRecDepth 100000
set_option maxHeartbeats 4000000
namespace Pm
open PySem L2 PySem.Spec PyProof.Rows
theorem toDs_ints : ∀ ns : List Int, toDs (ns.map Val.int) = some (ns.map PyData.int)
  | [] => rfl
  | n :: ns => by simp only [List.map_cons, toDs, toD, toDs_ints ns]
theorem dp_ints {K : PySem.W.Frag} {H : Hp} : ∀ ns : List Int, DpAll K H (ns.map V.int) (ns.map PyData.int)
  | [] => .nil
  | n :: ns => .cons (.int n) (dp_ints ns)
theorem eqv_nil (ns : List Int) : PyData.eqv (.list (ns.map PyData.int)) (.list []) = decide (ns = []) := by
  cases ns with
  | nil => simp [PyData.eqv, PyData.eqvAll]
  | cons n r => simp [PyData.eqv, PyData.eqvAll]
theorem mixed_bd (c n : Int) : 0 ≤ mixed c n ∧ mixed c n < 2 ^ 31 := by
  unfold mixed
  have h1 := Int.emod_nonneg (((c * (1 + 2 * n) * 48271) % 2147483647 + 7919 * n * n + 104729 * n) * 69621) (show (2147483629 : Int) ≠ 0 by decide)
  have h2 := Int.emod_lt_of_pos (((c * (1 + 2 * n) * 48271) % 2147483647 + 7919 * n * n + 104729 * n) * 69621) (show (0 : Int) < 2147483629 by decide)
  omega
theorem canLay_ints : ∀ ns : List Int, PyData.canLayAll0 (ns.map PyData.int) = true
  | [] => rfl
  | n :: ns => by simp [PyData.canLayAll0, PyData.canLay0, canLay_ints ns]
theorem depth_ints : ∀ ns : List Int, PyData.depthAll (ns.map PyData.int) = 0
  | [] => by simp [PyData.depthAll]
  | n :: ns => by simp [PyData.depthAll, PyData.depth, depth_ints ns]
theorem shaped_ints (ns : List Int) : SeqAt.shaped (.list (ns.map PyData.int)) = true := by
  unfold SeqAt.shaped
  simp [PyData.canLay0, PyData.depth, canLay_ints, depth_ints]
theorem atI_map {ns : List Int} {k : Nat} (h : k < ns.length) : atI (ns.map V.int) (k : Int) = some (.int (ns.getD k 0)) := by
  unfold atI ixN
  rw [if_pos (by omega), if_pos (by rw [List.length_map]; omega)]
  simp [List.getD, h]
theorem getD_mem {ns : List Int} {k : Nat} (h : k < ns.length) : ns.getD k 0 ∈ ns := by
  simp [List.getD, h]
/-- the rest of the run, where no great number is left -/
def dRest (S : Sx) (F : AS) (H : Hp) (g : DrawSt) (l : Int) (Dn : Ends) : Prop := ∀ F' H', Stp S.D F F' H H' → GRel S.D (drawF g l).2 H' → Dn.rt (.int (drawF g l).1) H'
theorem spot_key {D : DA} {g : DrawSt} {H : Hp} (gr : GRel D g H) : DGet H D.m (.str "spot") (some (.int g.spot)) := .inl ⟨_, .inr "spot", .inl gr.gm, rfl, by simp [valV, show ¬ ("cells" : Str) = "spot" by decide, show ¬ ("great" : Str) = "spot" by decide]⟩
theorem great_key {D : DA} {g : DrawSt} {H : Hp} (gr : GRel D g H) : DGet H D.m (.str "great") (some (.ref D.g)) := .inl ⟨_, .inr "great", .inl gr.gm, rfl, by simp [valV, show ¬ ("cells" : Str) = "great" by decide]⟩
theorem cells_key {D : DA} {g : DrawSt} {H : Hp} (gr : GRel D g H) : DGet H D.m (.str "cells") (some (.ref D.c)) := .inl ⟨_, .inr "cells", .inl gr.gm, rfl, by simp [valV]⟩
theorem GRel.mc {D : DA} {g : DrawSt} {H : Hp} (gr : GRel D g H) : D.c ≠ D.m := fun e => by have := gr.gc; rw [e, gr.gm] at this; cases this
theorem GRel.mg {D : DA} {g : DrawSt} {H : Hp} (gr : GRel D g H) : D.g ≠ D.m := fun e => by have := gr.gg; rw [e, gr.gm] at this; cases this
theorem put_spot {D : DA} {g : DrawSt} {H : Hp} (gr : GRel D g H) : DPut H D.m (.str "spot") (.int (g.spot + 1)) (upd H D.m (.dK [(.inr "cells", .ref D.c), (.inr "great", .ref D.g), (.inr "spot", .int (g.spot + 1))])) := by
  refine .inl ⟨_, .inr "spot", gr.gm, rfl, show 3 < sizeLine by decide, ?_⟩
  congr 1
theorem grel_spot {D : DA} {g : DrawSt} {H : Hp} (gr : GRel D g H) : GRel D ⟨g.cells, g.great, g.spot + 1⟩ (upd H D.m (.dK [(.inr "cells", .ref D.c), (.inr "great", .ref D.g), (.inr "spot", .int (g.spot + 1))])) :=
  ⟨by rw [upd_same]; rfl, by rw [upd_ne gr.mc]; exact gr.gc, by rw [upd_ne gr.mg]; exact gr.gg, gr.cl, gr.gl, gr.ce⟩
theorem grel_great {D : DA} {g : DrawSt} {H : Hp} {gs : List Int} (gr : GRel D g H) (hl : gs.length ≤ 64) : GRel D ⟨g.cells, gs, g.spot⟩ (upd H D.g (.lst (gs.map V.int))) :=
  ⟨by rw [upd_ne (fun e => gr.mg e.symm)]; exact gr.gm, by rw [upd_ne D.ne]; exact gr.gc, upd_same, gr.cl, hl, gr.ce⟩
theorem stp_has {D : DA} {F : AS} {H : Hp} {a : Addr} {o u : HO} (fo : FOk D F H) (ha : D.has a) (he : H a = some u) : Stp D F F H (upd H a o) := by
  refine ⟨fun _ z => z, fun _ z => .inl z, fun b x e n => ?_, fun b e => ?_, fun b z => ?_⟩
  · rw [upd_ne (fun q => n (by rw [q]; exact ha))]; exact e
  · by_cases q : b = a
    · subst q; rw [upd_same] at e; cases e
    · rw [upd_ne q] at e; exact e
  · obtain ⟨h1, h2⟩ := fo b z
    exact ⟨by rw [upd_ne (fun q => h2 (by rw [q]; exact ha))]; exact h1, h2⟩
theorem draw_end {S : Sx} {W : WX} {Dn : Ends} {σ : L2.St} {F : AS} {H : Hp} {g : DrawSt} {l : Int} (fo : FOk S.D F H) (gr : GRel S.D ⟨g.cells, g.great, g.spot + 1⟩ H) (hl : 0 < l) (hl2 : l ≤ 1000000) (hs : g.spot < 2 ^ 60)
    (h0 : σ[0]? = some (some (.ref S.D.m))) (h1 : σ[1]? = some (some (.int l))) (h2 : σ[2]? = some (some (.int g.spot))) (hlen : 3 < σ.length)
    (hq : Dn.rt (.int (mixed (mixed (g.cells.getD (g.spot % 64) 0 + 31 * ((g.spot : Int) / 64)) g.spot) (g.spot + 7) % l)) H) :
    tSeq (tAsg (tDGet (tVar 0) (sK "cells")) (gName 3))
    (tRet (tOp rMod0 (tInt (tCallW spMix W (tCons (tCallW spMix W (tCons (tOp rAdd0 (tOp (rIxL S.K) (tVar 3) (tOp rMod0 (tInt (tVar 2)) (tC (.int 64)))) (tOp rMul0 (tC (.int 31)) (tOp rDiv0 (tVar 2) (tC (.int 64))))) (tCons (tVar 2) tNil))) (tCons (tOp rAdd0 (tVar 2) (tC (.int 7))) tNil)))) (tVar 1))) Dn σ H := by
  have s3 : ∀ i, i ≠ 3 → (σ.set 3 (some (.ref S.D.c)))[i]? = σ[i]? := fun i hi => by rw [List.getElem?_set_ne (by omega)]
  have hm : ((g.spot : Int) % 64) = ((g.spot % 64 : Nat) : Int) := by omega
  have hk : g.spot % 64 < g.cells.length := by have := gr.cl; dsimp only at this; omega
  have hc : 0 ≤ g.cells.getD (g.spot % 64) 0 ∧ g.cells.getD (g.spot % 64) 0 < 2147483647 := gr.ce _ (getD_mem hk)
  have gc : H S.D.c = some (.lst (g.cells.map V.int)) := gr.gc
  refine ⟨_, h0, _, _, rfl, cells_key gr, ?_⟩
  refine ⟨_, List.getElem?_set_self hlen, _, (s3 2 (by decide)).trans h2, .inl ⟨_, rfl, _, _, rfl, rfl, show (0 : Int) < 64 by decide, S.D.c, _, _, _, rfl, rfl, SqL.of gc, (by rw [hm]; exact atI_map hk), ?_⟩⟩
  refine ⟨_, (s3 2 (by decide)).trans h2, _, _, rfl, rfl, ⟨by decide, by decide⟩, _, _, rfl, rfl, .inl ⟨by decide, by decide⟩, _, _, rfl, rfl, _, (s3 2 (by decide)).trans h2, _, _, rfl, ⟨by omega, by omega⟩, ⟨by omega, by omega⟩, ?_⟩
  have hb := mixed_bd (g.cells.getD (g.spot % 64) 0 + 31 * ((g.spot : Int) / 64)) g.spot
  refine ⟨_, (s3 2 (by decide)).trans h2, _, _, rfl, rfl, _, _, rfl, ⟨by omega, by omega⟩, ⟨by omega, by omega⟩, .inl ⟨_, rfl, ?_⟩⟩
  exact ⟨_, (s3 1 (by decide)).trans h1, _, _, rfl, rfl, hl, hq⟩
theorem draw_run {S : Sx} {W : WX} {Dn : Ends} {F : AS} {H : Hp} {g : DrawSt} {l : Int} (fo : FOk S.D F H) (gr : GRel S.D g H) (hl : 0 < l) (hl2 : l ≤ 1000000) (hs : g.spot < 2 ^ 60) (hq : dRest S F H g l Dn) :
    tDrawS S.K W Dn (L2.start ND [.ref S.D.m, .int l]) H := by
  refine ⟨_, rfl, _, _, rfl, spot_key gr, ?_⟩
  refine ⟨_, rfl, _, _, rfl, rfl, _, rfl, _, _, rfl, put_spot gr, ?_⟩
  have st1 := stp_has (o := .dK [(.inr "cells", .ref S.D.c), (.inr "great", .ref S.D.g), (.inr "spot", .int (g.spot + 1))]) fo (.inl rfl) gr.gm
  have gr1 := grel_spot gr
  refine ⟨_, rfl, _, _, rfl, great_key gr1, by decide, fun p hp => ?_⟩
  have gr2 := gr1.ext (H' := upd _ p (.lst [])) fun a o e => by rw [upd_ne (ne_of_none e hp)]; exact e
  have st2 := (PSt.alloc (o := .lst []) st1.frz hp gr1 False).stp
  have fz : (fun a => F a ∨ (a = p ∧ False)) = F := by funext a; simp
  rw [fz] at st2
  have st := st1.trans st2
  refine ⟨_, _, .lst (SqL.of gr2.gg) (dp_ints _), .lst (SqL.of upd_same) .nil, shaped_ints _, by decide, _, rfl, ?_⟩
  rw [eqv_nil]
  by_cases hg : g.great = []
  · simp only [hg, decide_true, Bool.not_true, Bool.false_eq_true, if_false]
    refine draw_end st.frz (by rw [hg] at gr2 ⊢; exact gr2) hl hl2 hs rfl rfl rfl (show 3 < 6 by decide) ?_
    have := hq F _ st (by unfold drawF; rw [if_pos hg]; exact gr2)
    unfold drawF at this
    rw [if_pos hg] at this
    exact this
  · simp only [hg, decide_false, Bool.not_false, if_true]
    have hlen : 0 < g.great.length := by cases q : g.great with | nil => exact absurd q hg | cons a r => simp
    have hk : g.spot % g.great.length < g.great.length := Nat.mod_lt _ hlen
    have hm : (g.spot : Int) % (g.great.map V.int).length = ((g.spot % g.great.length : Nat) : Int) := by rw [List.length_map]; omega
    refine ⟨_, rfl, _, _, rfl, great_key gr2, ?_⟩
    refine ⟨_, rfl, .inl ⟨_, rfl, _, rfl, _, _, rfl, .inl ⟨_, SqL.of gr2.gg, rfl⟩, _, _, rfl, rfl, by rw [List.length_map]; exact Int.natCast_pos.mpr hlen, ?_⟩⟩
    refine ⟨_, rfl, _, rfl, _, _, _, _, rfl, rfl, SqL.of gr2.gg, (by rw [hm]; exact atI_map hk), ?_⟩
    refine ⟨_, rfl, _, _, rfl, rfl, _, rfl, ?_⟩
    by_cases hc : 0 < g.great.getD (g.spot % g.great.length) 0
    · simp only [hc, decide_true, if_true]
      refine ⟨_, rfl, _, rfl, _, _, rfl, rfl, ⟨hl, by omega⟩, _, rfl, _, rfl, _, _, _, g.spot % g.great.length, rfl, rfl, gr2.gg, ?_, ?_⟩
      · show ixN (g.great.map V.int).length _ = _
        rw [hm, List.length_map]
        unfold ixN
        rw [if_pos (by omega), if_pos (by omega)]
        rfl
      refine ⟨_, rfl, .inl ⟨_, rfl, _, rfl, _, _, rfl, rfl, hl, ?_⟩⟩
      have gr3 := grel_great (gs := g.great.set (g.spot % g.great.length) (g.great.getD (g.spot % g.great.length) 0 / l)) gr2 (by rw [List.length_set]; exact gr2.gl)
      have st3 := st.trans (stp_has (o := .lst ((g.great.set (g.spot % g.great.length) (g.great.getD (g.spot % g.great.length) 0 / l)).map V.int)) st.frz (.inr (.inr rfl)) gr2.gg)
      have := hq F _ st3 (by unfold drawF; rw [if_neg hg]; simp only [hc, if_true]; exact gr3)
      unfold drawF at this
      rw [if_neg hg] at this
      simp only [hc, if_true] at this
      rw [List.map_set] at this
      exact this
    · simp only [hc, decide_false, Bool.false_eq_true, if_false]
      refine draw_end (g := g) st.frz gr2 hl hl2 hs rfl rfl rfl (show 3 < 6 by decide) ?_
      have := hq F _ st (by unfold drawF; rw [if_neg hg]; simp only [hc, if_false]; exact gr2)
      unfold drawF at this
      rw [if_neg hg] at this
      simp only [hc, if_false] at this
      exact this
end Pm
set_option Elab.async false
set_option linter.all false
set_option autoImplicit false
set_option maxRecDepth 100000
set_option maxHeartbeats 4000000
namespace Pm
open PySem L2 PySem.Spec PyProof.Rows
/-! ### the seed of the drawing state -/
def scLc (x : Str) : Scope := { kind := .function, names := [(Str.ofString ".0", .local), (x, .local)], isGenerator := false, isCoroutine := false, more := [] }
section
variable {X : Cx} {N : List Str}
theorem var_of {i : Nat} {x : Str} {p : Pos} (hN : X.N = N) (hl : ∀ x ∈ N, X.env.scope.names.lookup x = some .local) (h : N[i]? = some x) (h1 : (x == ("__debug__" : Str)) = false := by decide) (h2 : (x == ("__classdict__" : Str)) = false := by decide) : PE X (.Name x p) (tVar i) :=
  pe_var (by rw [hN]; exact h) (.inl (hl x (List.mem_of_getElem? h))) h1 h2
theorem int_of {e : Expr} {te : TE} {q pos : Pos} (gi : Gl X "int") (mi : X.mg "int" = none) (hs : noStar e = true) (he : PE X e te) : PE X (.Call (.Name "int" q) [e] [] pos) (tInt te) :=
  pe_callTy call_int1 gi mi PyProof.Rows.boot_int (pa_cons he pa_nil (starEach_no hs)) (by decide) (by decide) (starEach_no hs) rfl
theorem set_of {i : Nat} {x : Str} {e : Expr} {te : TE} {q pos : Pos} (hN : X.N = N) (nd : N.Nodup) (hl : ∀ x ∈ N, X.env.scope.names.lookup x = some .local) (h : N[i]? = some x) (he : PE X e te) (hn : notComp e = true) : PS X (.Assign [.Name x q] e pos) (tAsg te (gName i)) :=
  ps_set (by rw [hN]; exact nd) (by rw [hN]; exact h) (.inl (hl x (List.mem_of_getElem? h))) he (swaps_no hn _ _) (.inr (hl x (List.mem_of_getElem? h)))
theorem blk_of {i : Nat} {x : Str} {sc : Scope} (h : N[i]? = some x) (hx : x ≠ Str.ofString ".0") (h0 : Str.ofString ".0" ∉ N) : BlkOk N sc (scLc x) [(x, i)] where
  kind := rfl
  uniq := fun y hy => by
    rcases List.mem_cons.mp hy with rfl | hy
    · simp [scLc, List.lookup]
    · rcases List.mem_cons.mp hy with rfl | hy
      · have : (x == Str.ofString ".0") = false := by simpa using hx
        simp [scLc, List.lookup, this]
      · cases hy
  ix := fun p hp => by
    rcases List.mem_cons.mp hp with rfl | hp
    · exact h
    · cases hp
  free := fun y hy e => by
    rcases List.mem_cons.mp hy with rfl | hy
    · cases e
    · rcases List.mem_cons.mp hy with rfl | hy
      · cases e
      · cases hy
  own := fun y hy e => by
    rcases List.mem_cons.mp hy with rfl | hy
    · exact .inr h0
    · rcases List.mem_cons.mp hy with rfl | hy
      · exact .inl (by simp)
      · cases hy
theorem blk_lookup {x : Str} {sc : Scope} (hx : x ≠ Str.ofString ".0") : (relS (scLc x) sc).names.lookup x = some .local :=
  lookup_relS_keep (by simp) (by
    have : (x == Str.ofString ".0") = false := by simpa using hx
    simp [scLc, List.lookup, this])
end
/-! _law_mixed -/
def NM : List Str := ["_law_cell", "_law_n", "_law_blend"]
theorem mix_ok {X : Cx} (hN : X.N = NM) (hl : ∀ x ∈ NM, X.env.scope.names.lookup x = some .local) (gi : Gl X "int") (mi : X.mg "int" = none) {p1 p2 p3 p4 p5 p6 p7 p8 p9 p10 p11 p12 p13 p14 p15 p16 p17 p18 p19 p20 p21 p22 p23 p24 p25 p26 p27 p28 p29 p30 p31 p32 p33 p34 p35 : Pos} {k1 k2 k3 k4 k5 k6 k7 k8 k9 : Nat} :
    ∃ t, PSs X [.Assign [.Name "_law_blend" p1] (.BinOp (.BinOp (.BinOp (.Call (.Name "int" p2) [.BinOp (.BinOp (.Name "_law_cell" p3) .Mult (.BinOp (.Constant (.int 1) k1 p4) .Add (.BinOp (.Constant (.int 2) k2 p5) .Mult (.Name "_law_n" p6) p7) p8) p9) .Mult (.Constant (.int 48271) k3 p10) p11] [] p12) .Mod (.Constant (.int 2147483647) k4 p13) p14) .Add (.BinOp (.BinOp (.Constant (.int 7919) k5 p15) .Mult (.Name "_law_n" p16) p17) .Mult (.Name "_law_n" p18) p19) p20) .Add (.BinOp (.Constant (.int 104729) k6 p21) .Mult (.Name "_law_n" p22) p23) p24) p25,
      .Return (some (.BinOp (.BinOp (.Call (.Name "int" p26) [.BinOp (.Name "_law_blend" p27) .Mult (.Constant (.int 69621) k7 p28) p29] [] p30) .Mod (.Constant (.int 2147483629) k8 p31) p32) .FloorDiv (.Constant (.int 7) k9 p33) p34)) p35] t ∧
      ∀ (c n : Int) (H : Hp) (D : Ends), (-(2 ^ 63) < c ∧ c < 2 ^ 63) → (0 ≤ n ∧ n < 2 ^ 62) → D.rt (.int (mixed c n)) H → t D (L2.start NM [.int c, .int n]) H := by
  have pc : ∀ p, PE X (.Name "_law_cell" p) (tVar 0) := fun p => var_of hN hl rfl
  have pn : ∀ p, PE X (.Name "_law_n" p) (tVar 1) := fun p => var_of hN hl rfl
  have pb : ∀ p, PE X (.Name "_law_blend" p) (tVar 2) := fun p => var_of hN hl rfl
  refine ⟨_, pss_cons (set_of hN (by decide +kernel) hl (i := 2) rfl (pe_op op_add (pe_op op_add (pe_op op_mod (int_of gi mi rfl (pe_op op_mul (pe_op op_mul (pc _) (pe_op op_add pe_int (pe_op op_mul pe_int (pn _)))) pe_int)) pe_int) (pe_op op_mul (pe_op op_mul pe_int (pn _)) (pn _))) (pe_op op_mul pe_int (pn _))) rfl)
    (pss_one (ps_ret (pe_op op_fdiv (pe_op op_mod (int_of gi mi rfl (pe_op op_mul (pb _) pe_int)) pe_int) pe_int))), fun c n H D hc hn hq => ?_⟩
  refine ⟨_, rfl, _, rfl, _, _, rfl, rfl, .inl ⟨by decide, by decide⟩, _, _, rfl, rfl, _, _, rfl, rfl, .inl ⟨by omega, by omega⟩, _, _, rfl, rfl, .inr ⟨by decide, by decide⟩, .inl ⟨_, rfl, _, _, rfl, rfl, show (0 : Int) < 2147483647 by decide, ?_⟩⟩
  refine ⟨_, rfl, _, _, rfl, rfl, .inl ⟨by decide, by decide⟩, _, rfl, _, _, rfl, rfl, .inr ⟨by omega, by omega⟩, _, _, rfl, rfl, _, rfl, _, _, rfl, rfl, .inl ⟨by decide, by decide⟩, _, _, rfl, rfl, ?_⟩
  refine ⟨_, rfl, _, _, rfl, rfl, .inr ⟨by decide, by decide⟩, .inl ⟨_, rfl, _, _, rfl, rfl, show (0 : Int) < 2147483629 by decide, _, _, rfl, rfl, ⟨by decide, by decide⟩, hq⟩⟩
/-! _law_folded -/
def NF : List Str := ["_law_script", "_law_found", "_law_n", "_law_cell"]
def Cs (cs : List Int) : Prop := cs.length = 64 ∧ ∀ x ∈ cs, 0 ≤ x ∧ x < 2147483647
theorem Cs.set {cs : List Int} {k : Nat} {y : Int} (h : Cs cs) : Cs (cs.set k (y % 2147483647)) := by
  refine ⟨by rw [List.length_set]; exact h.1, fun x hx => ?_⟩
  rcases List.mem_or_eq_of_mem_set hx with hx | rfl
  · exact h.2 x hx
  · exact ⟨Int.emod_nonneg _ (by decide), Int.emod_lt_of_pos _ (by decide)⟩
def Ext (H H' : Hp) : Prop := ∀ b o, H b = some o → H' b = some o
theorem Ext.upd {H H' : Hp} {p : Addr} {o : HO} (e : Ext H H') (hp : H p = none) : Ext H (upd H' p o) := fun b u q => by rw [upd_ne (ne_of_none q hp)]; exact e b u q
theorem Ext.trans' {H H' : Hp} {p : Addr} {o : HO} (e : Ext H H') (hp : H' p = none) : Ext H (L2.upd H' p o) := fun b u q => by have := e b u q; rw [upd_ne (ne_of_none this hp)]; exact this
theorem Ext.sq {K : PySem.W.Frag} {H H' : Hp} {a : Addr} {xs : List V} (e : Ext H H') (h : SqL K H a xs) : SqL K H' a xs := by
  rcases h with (h | ⟨o, h⟩) | h
  · exact .inl (.inl (e _ _ h))
  · exact .inl (.inr ⟨o, e _ _ h⟩)
  · exact .inr h
theorem ixN_nat {n k : Nat} (h : k < n) : ixN n (k : Int) = some k := by
  unfold ixN
  rw [if_pos (by omega), if_pos (by omega)]
  rfl
theorem seed_ok {X : Cx} (hN : X.N = NF) (hl : ∀ x ∈ NF, X.env.scope.names.lookup x = some .local) (hk : X.env.scope.kind = .function) (hc : X.calm = true) (hp : PassesOwn (model X.prog X.w) X.A X.env X.xe) (gi : Gl X "int") (mi : X.mg "int" = none) (gr : Gl X "range") (mr : X.mg "range" = none) (ge : Gl X "enumerate") (me : X.mg "enumerate" = none) {p1 p2 p3 p4 p5 p6 p7 p8 p9 p10 p11 p12 p13 p14 p15 p16 p17 p18 p19 p20 p21 p22 p23 p24 p25 p26 p27 p28 p29 p30 p31 p32 p33 p34 p35 p36 p37 p38 p39 p40 p41 p42 p43 p44 p45 p46 p47 p48 p49 p50 p51 p52 p53 p54 p55 p56 p57 p58 p59 p60 p61 p62 p63 p64 p65 p66 p67 : Pos} {k1 k2 k3 k4 k5 k6 k7 k8 k9 k10 k11 k12 : Nat} (hln : (p1.line == p9.line) = true) :
    ∃ t, PSs X [.Assign [.Name "_law_found" p1] (.ListComp (.BinOp (.Constant (.int 17) k1 p2) .Add (.Name "_law_n" p3) p4) [⟨.Name "_law_n" p5, .Call (.Name "range" p6) [.Constant (.int 64) k2 p7] [] p8, [], 0⟩] (scLc "_law_n") p9) p10,
      .For (.Tuple [.Name "_law_n" p11, .Name "_law_cell" p12] k3 p13) (.Call (.Name "enumerate" p14) [.Name "_law_script" p15] [] p16) [.Assign [.Subscript (.Name "_law_found" p17) (.BinOp (.Call (.Name "int" p18) [.Name "_law_n" p19] [] p20) .Mod (.Constant (.int 64) k4 p21) p22) p23] (.BinOp (.Call (.Name "int" p24) [.BinOp (.BinOp (.Subscript (.Name "_law_found" p25) (.BinOp (.Call (.Name "int" p26) [.Name "_law_n" p27] [] p28) .Mod (.Constant (.int 64) k5 p29) p30) p31) .Mult (.Constant (.int 48271) k6 p32) p33) .Add (.Name "_law_cell" p34) p35] [] p36) .Mod (.Constant (.int 2147483647) k7 p37) p38) p39] [] p40,
      .For (.Name "_law_n" p41) (.Call (.Name "range" p42) [.Constant (.int 1) k8 p43, .Constant (.int 64) k9 p44] [] p45) [.Assign [.Subscript (.Name "_law_found" p46) (.Name "_law_n" p47) p48] (.BinOp (.Call (.Name "int" p49) [.BinOp (.Subscript (.Name "_law_found" p50) (.Name "_law_n" p51) p52) .Add (.BinOp (.Subscript (.Name "_law_found" p53) (.BinOp (.Name "_law_n" p54) .Sub (.Constant (.int 1) k10 p55) p56) p57) .Mult (.Constant (.int 16807) k11 p58) p59) p60] [] p61) .Mod (.Constant (.int 2147483647) k12 p62) p63) p64] [] p65,
      .Return (some (.Name "_law_found" p66)) p67] t ∧
      ∀ (a : Addr) (ns : List Int) (H : Hp) (D : Ends), SqL X.K H a (ns.map V.int) → (∀ H' p cs, Ext H H' → H p = none → H' p = some (.lst (cs.map V.int)) → Cs cs → D.rt (.ref p) H') → t D (L2.start NF [.ref a]) H := by
  have nd : X.N.Nodup := by rw [hN]; decide +kernel
  have ps : ∀ p, PE X (.Name "_law_script" p) (tVar 0) := fun p => var_of hN hl rfl
  have pf : ∀ p, PE X (.Name "_law_found" p) (tVar 1) := fun p => var_of hN hl rfl
  have pn : ∀ p, PE X (.Name "_law_n" p) (tVar 2) := fun p => var_of hN hl rfl
  have pc : ∀ p, PE X (.Name "_law_cell" p) (tVar 3) := fun p => var_of hN hl rfl
  have at2 : X.N[2]? = some ("_law_n" : Str) := by rw [hN]; rfl
  have gn : ∀ (i : Nat) (x : Str) (p : Pos), NF[i]? = some x → PG X (.Name x p) (gName i) := fun i x p h => pg_name nd (by rw [hN]; exact h) (.inl (hl x (List.mem_of_getElem? h))) (.inr (hl x (List.mem_of_getElem? h)))
  have sw : swLc X.env.scope (scLc "_law_n") "_law_found" p1 p9 = true := by
    unfold swLc
    rw [hln]
    have : isLoc X.env.scope "_law_found" = true := by unfold isLoc; rw [hl "_law_found" (by decide)]
    rw [this]
    decide
  have lk : ∀ (s : Shared) (H : Hp) (C : Addr) (cl : List (Str × Addr)) (fp : List Addr), (X.blk s H (scLc "_law_n") (compEnvC (scLc "_law_n") cl C X.env) fp).env.scope.names.lookup ("_law_n" : Str) = some .local := fun s H C cl fp => blk_lookup (x := "_law_n") (sc := X.env.scope) (by decide)
  refine ⟨_, pss_cons (ps_setLc (own := [("_law_n", 2)]) (i := 1) hc nd (by rw [hN]; rfl) (hl "_law_found" (by decide)) (by rw [swaps_lc hk, sw]) (pi_range1 gr mr (pa_cons pe_int pa_nil)) (by rw [hN]; exact blk_of rfl (by decide) (by decide)) (fun s H C cl fp => pg_name (i := 2) nd at2 (.inl (lk s H C cl fp)) (.inr (lk s H C cl fp))) (fun s H C cl fp => pts_nil) (fun s H C cl fp => pe_op op_add pe_int (pe_var at2 (.inl (lk s H C cl fp)))))
    (pss_cons (ps_for hp hc (pi_enum ge me (pa_cons (ps _) pa_nil)) (pg_tup hc (pgs_cons (gn 2 _ _ rfl) (pgs_cons (gn 3 _ _ rfl) pgs_nil)))
      (pss_one (ps_asg (pe_op op_mod (int_of gi mi rfl (pe_op op_add (pe_op op_mul (pe_ix ix_list (pf _) (pe_op op_mod (int_of gi mi rfl (pn _)) pe_int) fun _ _ => rfl) pe_int) (pc _))) pe_int) (pg_sub (pf _) (pe_op op_mod (int_of gi mi rfl (pn _)) pe_int) set_list) rfl rfl rfl)))
    (pss_cons (ps_for hp hc (pi_range2 gr mr (pa_cons pe_int (pa_cons pe_int pa_nil))) (gn 2 _ _ rfl)
      (pss_one (ps_asg (pe_op op_mod (int_of gi mi rfl (pe_op op_add (pe_ix ix_list (pf _) (pn _) fun _ _ => rfl) (pe_op op_mul (pe_ix ix_list (pf _) (pe_op op_sub (pn _) pe_int) fun _ _ => rfl) pe_int))) pe_int) (pg_sub (pf _) (pn _) set_list) rfl rfl rfl)))
    (pss_one (ps_ret (pf _))))), fun a ns H D hs hq => ?_⟩
  have hsz : ∀ (i : Nat) (cs : List Int), i < 64 → cs.length = i → (cs.map V.int).length < sizeLine := fun i cs hi h => by
    rw [List.length_map, h]
    have : 64 ≤ sizeLine := by decide
    omega
  refine ⟨64, rfl, by decide, by decide, fun L hL => lc_range (lo := 0) (n := 64) (fun i H' => Ext H H' ∧ ∃ cs : List Int, H' L = some (.lst (cs.map V.int)) ∧ cs.length = i ∧ ∀ x ∈ cs, 0 ≤ x ∧ x < 2147483647) ⟨Ext.upd (fun _ _ q => q) hL, [], upd_same, rfl, fun _ h => nomatch h⟩ ?_ ?_⟩
  · rintro i H' hi ⟨he, cs, h1, h2, h3⟩
    refine ⟨rfl, ?_⟩
    show ∃ v, _ ∧ _
    refine ⟨_, rfl, _, _, rfl, rfl, _, h1, hsz i cs hi h2, he.upd hL, cs ++ [17 + (0 + (i : Int))], by rw [upd_same, List.map_append]; rfl, by rw [List.length_append, h2]; rfl, fun x hx => ?_⟩
    rcases List.mem_append.mp hx with hx | hx
    · exact h3 x hx
    · cases (List.mem_singleton.mp hx); omega
  · rintro H1 ⟨he, cs, h1, h2, h3⟩
    have upL : ∀ {H' : Hp} {o : HO}, Ext H H' → Ext H (upd H' L o) := fun e => e.upd hL
    refine ⟨_, rfl, a, _, rfl, he.sq hs, for_it walk_enum (fun i σ H' => Ext H H' ∧ (∃ cs, H' L = some (.lst (cs.map V.int)) ∧ Cs cs) ∧ σ[1]? = some (some (.ref L)) ∧ σ.length = 4) ⟨he, ⟨cs, h1, h2, h3⟩, rfl, rfl⟩ (fun i σ H' _ h => h.1.sq hs) ?_ ?_⟩
    · rintro i x σ H' H'' hi ⟨e1, ⟨cs, hc1, hc2⟩, hs1, hsl⟩ ⟨T, u, v, rfl, hT, rfl, hu, hv⟩
      cases hu
      have hv' : (ns.map V.int)[i]? = some v := hv
      rw [List.getElem?_map] at hv'
      cases hq2 : ns[i]? with
      | none => rw [hq2] at hv'; cases hv'
      | some n =>
      rw [hq2] at hv'
      cases hv'
      have neT : L ≠ T := ne_of_none hc1 hT
      have hH : upd H' T (.tup [.int (i : Nat), .int n]) L = some (.lst (cs.map V.int)) := by rw [upd_ne neT]; exact hc1
      have hk : i % 64 < cs.length := by rw [hc2.1]; exact Nat.mod_lt _ (by decide)
      have hm : ((i : Nat) : Int) % 64 = ((i % 64 : Nat) : Int) := by omega
      have hb := hc2.2 _ (getD_mem hk)
      have s1 : ((σ.set 2 (some (.int (i : Nat)))).set 3 (some (.int n)))[1]? = some (some (.ref L)) := by rw [List.getElem?_set_ne (by decide), List.getElem?_set_ne (by decide)]; exact hs1
      have s2 : ((σ.set 2 (some (.int (i : Nat)))).set 3 (some (.int n)))[2]? = some (some (.int (i : Nat))) := by rw [List.getElem?_set_ne (by decide), List.getElem?_set_self (by omega)]
      have s3 : ((σ.set 2 (some (.int (i : Nat)))).set 3 (some (.int n)))[3]? = some (some (.int n)) := by rw [List.getElem?_set_self (by rw [List.length_set]; omega)]
      refine ⟨T, _, rfl, SqT.of upd_same, rfl, _, _, rfl, _, _, rfl, rfl, ?_⟩
      refine ⟨_, s1, _, s2, .inl ⟨_, rfl, _, _, rfl, rfl, show (0 : Int) < 64 by decide, L, _, _, _, rfl, rfl, SqL.of hH, by rw [hm]; exact atI_map hk, ?_⟩⟩
      refine ⟨_, _, rfl, rfl, .inr ⟨by decide, by decide⟩, _, s3, _, _, rfl, rfl, .inl ⟨_, rfl, _, _, rfl, rfl, show (0 : Int) < 2147483647 by decide, ?_⟩⟩
      refine ⟨_, s1, _, s2, .inl ⟨_, rfl, _, _, rfl, rfl, show (0 : Int) < 64 by decide, L, _, _, i % 64, rfl, rfl, hH, by rw [hm, List.length_map]; exact ixN_nat hk, ?_⟩⟩
      refine ⟨upL (e1.trans' hT), ⟨_, by rw [upd_same, ← List.map_set], hc2.set⟩, s1, by rw [List.length_set, List.length_set]; exact hsl⟩
    · rintro σ H' ⟨e1, ⟨cs, hc1, hc2⟩, hs1, hsl⟩
      refine ⟨1, 64, rfl, ⟨by decide, by decide, by decide, by decide⟩, for_range (lo := 1) (n := 63) (fun i σ H' => Ext H H' ∧ (∃ cs, H' L = some (.lst (cs.map V.int)) ∧ Cs cs) ∧ σ[1]? = some (some (.ref L)) ∧ σ.length = 4) ⟨e1, ⟨cs, hc1, hc2⟩, hs1, hsl⟩ ?_ ?_⟩
      · rintro i σ H' hi ⟨e1, ⟨cs, hc1, hc2⟩, hs1, hsl⟩
        have s1 : (σ.set 2 (some (.int (1 + (i : Int)))))[1]? = some (some (.ref L)) := by rw [List.getElem?_set_ne (by decide)]; exact hs1
        have s2 : (σ.set 2 (some (.int (1 + (i : Int)))))[2]? = some (some (.int (1 + (i : Int)))) := by rw [List.getElem?_set_self (by omega)]
        have hk : i + 1 < cs.length := by rw [hc2.1]; omega
        have hk' : i < cs.length := by omega
        have e2 : (1 + (i : Int)) = ((i + 1 : Nat) : Int) := by omega
        have e3 : (1 + (i : Int)) - 1 = ((i : Nat) : Int) := by omega
        refine ⟨_, s1, _, s2, L, _, _, _, rfl, rfl, SqL.of hc1, by rw [e2]; exact atI_map hk, ?_⟩
        refine ⟨_, s1, _, s2, _, _, rfl, rfl, L, _, _, _, rfl, rfl, SqL.of hc1, by rw [e3]; exact atI_map hk', _, _, rfl, rfl, .inr ⟨by decide, by decide⟩, _, _, rfl, rfl, .inl ⟨_, rfl, _, _, rfl, rfl, show (0 : Int) < 2147483647 by decide, ?_⟩⟩
        refine ⟨_, s1, _, s2, L, _, _, i + 1, rfl, rfl, hc1, by rw [e2, List.length_map]; exact ixN_nat hk, ?_⟩
        exact ⟨upL e1, ⟨_, by rw [upd_same, ← List.map_set], hc2.set⟩, s1, by rw [List.length_set]; exact hsl⟩
      · rintro σ H' ⟨e1, ⟨cs, hc1, hc2⟩, hs1, hsl⟩
        exact ⟨_, hs1, hq H' L cs e1 hL hc1 hc2⟩
/-! _law_begun -/
def NB : List Str := ["_law_script", "_law_m", "_law_cell"]
def NB0 : List Str := ["_law_script", "_law_m"]
def spFold (K : PySem.W.Frag) : Sp := fun vs H Q _ => ∃ a ns, vs = [.ref a] ∧ SqL K H a (List.map V.int ns) ∧ ∀ H' p cs, Ext H H' → H p = none → H' p = some (.lst (cs.map V.int)) → Cs cs → Q (.ref p) H'
theorem begun_ok {X : Cx} {W : WX} {k : Nat} {fm : Addr} {fdm : FuncData} {psm : List Str} (hN : X.N = NB) (hl : ∀ x ∈ NB0, X.env.scope.names.lookup x = some .local) (hk : X.env.scope.kind = .function) (hc : X.calm = true) (hu : X.A.units + 66 < cLine) (gd : X.A.guards = some []) (tk : Takes X W)
    (gm : Gl X "_law_folded") (mm : X.mg "_law_folded" = some (.ref fm)) (km : PySem.W.keepIn X.K (.ref fm) = true) (bm : Binds X.K fdm psm []) (rm : Room k X.A) (Fm : FnG X.prog X.w X.K X.mg X.base k fm fdm psm (spFold X.K))
    {p1 p2 p3 p4 p5 p6 p7 p8 p9 p10 p11 p12 p13 p14 p15 p16 p17 p18 p19 p20 p21 p22 p23 p24 p25 p26 p27 p28 : Pos} {k1 k2 k3 k4 k5 k6 k7 k8 : Nat} :
    ∃ t, PSs X [.Assign [.Name "_law_m" p1] (.Dict [some (.Constant (.str "cells") k1 p2), some (.Constant (.str "great") k2 p3), some (.Constant (.str "spot") k3 p4)] [.Call (.Name "_law_folded" p5) [.Name "_law_script" p6] [] p7, .List [] p8, .Constant (.int 0) k4 p9] p10) p11,
      .Assign [.Subscript (.Name "_law_m" p12) (.Constant (.str "great") k5 p13) p14] (.ListComp (.IfExp (.Compare (.Name "_law_cell" p15) [.GtE] [.BinOp (.Constant (.int 10) k6 p16) .Pow (.Constant (.int 18) k7 p17) p18] p19) (.Name "_law_cell" p20) (.Constant (.int 0) k8 p21) p22) [⟨.Name "_law_cell" p23, .Name "_law_script" p24, [], 0⟩] (scLc "_law_cell") p25) p26,
      .Return (some (.Name "_law_m" p27)) p28] t ∧
      ∀ (a : Addr) (ns : List Int) (H : Hp) (E : Ends), SqL X.K H a (ns.map V.int) → ns.length ≤ 64 → (∀ H' (D : DA) (g : DrawSt), Ext H H' → (∀ b, D.has b → H b = none) → GRel D g H' → g.spot = 0 → E.rt (.ref D.m) H') → t E (L2.start NB [.ref a]) H := by
  have nd : X.N.Nodup := by rw [hN]; decide +kernel
  have ps : ∀ p, PE X (.Name "_law_script" p) (tVar 0) := fun p => pe_var (by rw [hN]; rfl) (.inl (hl "_law_script" (by decide)))
  have pm : ∀ p, PE X (.Name "_law_m" p) (tVar 1) := fun p => pe_var (by rw [hN]; rfl) (.inl (hl "_law_m" (by decide)))
  have at2 : X.N[2]? = some ("_law_cell" : Str) := by rw [hN]; rfl
  have hu1 : X.A.units + 1 < cLine := by omega
  have lk : ∀ (s : Shared) (H : Hp) (C : Addr) (cl : List (Str × Addr)) (fp : List Addr), (X.blk s H (scLc "_law_cell") (compEnvC (scLc "_law_cell") cl C X.env) fp).env.scope.names.lookup ("_law_cell" : Str) = some .local := fun s H C cl fp => blk_lookup (x := "_law_cell") (sc := X.env.scope) (by decide)
  refine ⟨_, pss_cons (ps_set (i := 1) nd (by rw [hN]; rfl) (.inl (hl "_law_m" (by decide))) (pe_disp (pps_cons pe_str (pe_callW Fm rm gd gm mm km bm tk (pa_cons (ps _) pa_nil) (by decide) (starEach_no rfl) rfl) (pps_cons pe_str (pe_lst pa_nil) (pps_cons pe_str pe_int pps_nil))) (by rfl) rfl (by simp) (show 3 ≤ 15 by decide)) (swaps_no rfl _ _) (.inr (hl "_law_m" (by decide))))
    (pss_cons (ps_dput hu1 (pm _) pe_str (pe_lc (own := [("_law_cell", 2)]) (g := gName 2) (tt := tYes) hc nd (pi_list (ps _)) (by rw [hN]; exact blk_of rfl (by decide) (by decide)) (fun s H C cl fp => pg_name (i := 2) nd at2 (.inl (lk s H C cl fp)) (.inr (lk s H C cl fp))) (fun s H C cl fp => pts_nil) (fun s H C cl fp => pe_ifExp (pt_cmpR op_ge (pe_var at2 (.inl (lk s H C cl fp))) (pe_op op_pow pe_int pe_int) rfl) (pe_var at2 (.inl (lk s H C cl fp))) pe_int)) rfl)
    (pss_one (ps_ret (pm _)))), fun a ns H E hs hn hq => ?_⟩
  refine fun m hm => ⟨_, rfl, a, ns, rfl, (Ext.upd (fun _ _ q => q) hm).sq hs, fun H1 c cs e1 hc0 hc1 hcs => ?_⟩
  have hcm : c ≠ m := fun q => by rw [q, upd_same] at hc0; cases hc0
  have hcH : H c = none := by rw [upd_ne hcm] at hc0; exact hc0
  have hm1 : H1 m = some (.dK []) := e1 _ _ upd_same
  refine ⟨by decide, fun q hq0 => ⟨?_, [(.inr "cells", .ref c), (.inr "great", .ref q), (.inr "spot", .int 0)], rfl, show 3 ≤ 15 by decide, ?_⟩⟩
  · rw [upd_ne (ne_of_none hm1 hq0)]; exact hm1
  have eH : Ext H H1 := fun b o h => e1 b o (by rw [upd_ne (ne_of_none h hm)]; exact h)
  have hqH : H q = none := by
    cases z : H q with
    | none => rfl
    | some o => rw [eH q o z] at hq0; cases hq0
  have hqm : q ≠ m := fun z => by rw [z, hm1] at hq0; cases hq0
  have hqc : q ≠ c := fun z => by rw [z, hc1] at hq0; cases hq0
  have mk : mergeK [] [(.inr "cells", V.ref c), (.inr "great", .ref q), (.inr "spot", .int 0)] = [(.inr "cells", V.ref c), (.inr "great", .ref q), (.inr "spot", .int 0)] := by rfl
  rw [mk]
  have e2 : Ext H (upd (upd H1 q (.lst [])) m (.dK [(.inr "cells", V.ref c), (.inr "great", .ref q), (.inr "spot", .int 0)])) := (eH.upd hqH).upd hm
  have h2m : upd (upd H1 q (.lst [])) m (.dK [(.inr "cells", V.ref c), (.inr "great", .ref q), (.inr "spot", .int 0)]) m = some (.dK [(.inr "cells", V.ref c), (.inr "great", .ref q), (.inr "spot", .int 0)]) := upd_same
  have h2c : upd (upd H1 q (.lst [])) m (.dK [(.inr "cells", V.ref c), (.inr "great", .ref q), (.inr "spot", .int 0)]) c = some (.lst (cs.map V.int)) := by rw [upd_ne hcm, upd_ne (fun z => hqc z.symm)]; exact hc1
  generalize hG : upd (upd H1 q (.lst [])) m (.dK [(.inr "cells", V.ref c), (.inr "great", .ref q), (.inr "spot", .int 0)]) = H2 at e2 h2m h2c ⊢
  refine ⟨_, rfl, a, rfl, ⟨_, e2.sq hs⟩, fun L hL => lc_list (xs := ns.map V.int) (fun i H' => Ext H2 H' ∧ ∃ gs : List Int, H' L = some (.lst (gs.map V.int)) ∧ gs.length = i) ⟨Ext.upd (fun _ _ q => q) hL, [], upd_same, rfl⟩ (fun i H' _ h => h.1.sq (e2.sq hs)) ?_ ?_⟩
  · rintro i x H' hx ⟨he, gs, h1, h2⟩
    rw [List.getElem?_map] at hx
    cases hq2 : ns[i]? with
    | none => rw [hq2] at hx; cases hx
    | some n =>
    rw [hq2] at hx
    cases hx
    have hi : i < ns.length := (List.getElem?_eq_some_iff.mp hq2).1
    have hsz : (gs.map V.int).length < sizeLine := by
      rw [List.length_map, h2]
      have : 64 ≤ sizeLine := by decide
      omega
    have fin : ∀ z : Int, ∃ acc, H' L = some (.lst acc) ∧ acc.length < sizeLine ∧ Ext H2 (upd H' L (.lst (acc ++ [.int z]))) ∧ ∃ gs : List Int, upd H' L (.lst (acc ++ [.int z])) L = some (.lst (gs.map V.int)) ∧ gs.length = i + 1 := fun z =>
      ⟨_, h1, hsz, he.upd hL, gs ++ [z], by rw [upd_same, List.map_append]; rfl, by rw [List.length_append, h2]; rfl⟩
    refine ⟨rfl, ?_⟩
    show (∃ v, _ ∧ _)
    refine ⟨_, rfl, _, _, rfl, rfl, ⟨by decide, by decide, by decide⟩, _, _, rfl, rfl, _, rfl, ?_⟩
    cases decide ((10 : Int) ^ Int.toNat 18 ≤ n) with
    | true => exact ⟨_, rfl, fin n⟩
    | false => exact fin 0
  · rintro H' ⟨he, gs, h1, h2⟩
    have hmL : L ≠ m := fun z => by rw [z, h2m] at hL; cases hL
    have hcL : L ≠ c := fun z => by rw [z, h2c] at hL; cases hL
    have hLH : H L = none := by
      cases z : H L with
      | none => rfl
      | some o => rw [e2 L o z] at hL; cases hL
    refine ⟨_, rfl, m, _, rfl, DPut.k (k := .inr "great") (he _ _ h2m) (show 3 < sizeLine by decide), _, rfl, ?_⟩
    have pk : putK (κ := Key) [(.inr "cells", V.ref c), (.inr "great", .ref q), (.inr "spot", .int 0)] (.inr "great") (V.ref L) = [(.inr "cells", V.ref c), (.inr "great", .ref L), (.inr "spot", .int 0)] := by rfl
    rw [pk]
    refine hq _ ⟨m, c, L, fun z => hcL z.symm⟩ ⟨cs, gs, 0⟩ ?_ ?_ ⟨upd_same, ?_, ?_, hcs.1, ?_, hcs.2⟩ rfl
    · exact Ext.upd (fun b o h => he b o (e2 b o h)) hm
    · rintro b (rfl | rfl | rfl)
      · exact hm
      · exact hcH
      · exact hLH
    · rw [upd_ne hcm]; exact he _ _ h2c
    · rw [upd_ne hmL]; exact h1
    · show gs.length ≤ 64
      rw [h2, List.length_map]; exact hn
end Pm
set_option Elab.async false
set_option linter.all false
set_option autoImplicit false
set_option maxRecDepth 100000
set_option maxHeartbeats 4000000
namespace Pm
open PySem L2 PySem.Spec PyProof.Rows
/-! ### a law's call, by a promise that holds where no guard of repr runs -/
def Alone (H : Hp) : Prop := ∀ b, H b = none ∨ ∃ o xs, H b = some (.frz o (.lst xs))
abbrev LawSp (K : PySem.W.Frag) (a : Addr) (ns : List Int) (sp : Sp) : Prop := ∀ H : Hp, Alone H → SqL K H a (ns.map V.int) → sp [.ref a] H (fun v _ => v = .bl true) fun _ _ _ => False
theorem lawG {P : Program} {w : World} {K : PySem.W.Frag} {mg mb : Str → Option Value} {k : Nat} {fa a : Addr} {fd : FuncData} {x : Str} {sp : Sp} {s : Shared} {vs : List Value} {ns : List Int}
    (KX : K.In s.heap) (hns : s.heap.Ns mainGlobals mg) (hb : s.heap.Ns builtinsNs mb) (hbb : ∀ x : Str, x ≠ "__name__" → mb x = bootBuiltins x) (hlim : s.heap.NoLimit) (hg : s.gens = #[])
    (ha : s.heap.get? a = some { cls := .type "list", data := .seq vs.toArray }) (hi : IntsAre vs ns) (hl : ns.length ≤ sizeLine) (hr : Room k callerA)
    (F : ∀ base : Heap, K.In base → base.Ns mainGlobals mg → FnG P w K mg base k fa fd [x] sp) (hbind : ∀ (s : Shared) (u : Value), BindsTo s fd ⟨[u], []⟩ [(x, u)]) (hsp : LawSp K a ns sp) :
    codeAny (model P w) callerA (.call (.ref fa) ⟨[.ref a], []⟩) (fun r s' => r = .ok (.ret (.bool true)) ∧ OldK s.heap s'.heap ∧ s'.os = s.os ∧ AllBare s'.gens) s := by
  have rel := vals_ints hi
  have lenVs := hi.length
  have main : ∀ H : Hp, Alone H → SqL K H a (ns.map V.int) → HOk P w H s.heap → (∀ b, H b ≠ none → b = a) → (H a ≠ none → K.lookup a = none) →
      codeAny (model P w) callerA (.call (.ref fa) ⟨[.ref a], []⟩) (fun r s' => r = .ok (.ret (.bool true)) ∧ OldK s.heap s'.heap ∧ s'.os = s.os ∧ AllBare s'.gens) s := by
    intro H hO hS hok hA hK
    have kept : ∀ {b : Addr} {o : Obj}, s.heap.get? b = some o → H b = none → (hidT s.heap H).get? b = some o := fun e n => hidT_get e n
    have dictNo : ∀ {b : Addr} {o : Obj} {es : Array DictEntry} {ep : Nat}, s.heap.get? b = some o → o.data = .dict es ep → H b = none := fun {b o es ep} e d => by
      cases q : H b with
      | none => rfl
      | some u =>
        obtain rfl : b = a := hA b (by rw [q]; simp)
        rw [ha] at e; cases e
        cases (show Data.seq vs.toArray _ = Data.dict es ep from d)
    have nsOf : ∀ {b : Addr} {m : Str → Option Value}, s.heap.Ns b m → (hidT s.heap H).Ns b m := fun {b m} ⟨o, es, ep, e, d, r⟩ => ⟨o, es, ep, kept e (dictNo e d), d, r⟩
    have hKb : K.In (hidT s.heap H) := fun b o e => kept (KX b o e) (by
      cases q : H b with
      | none => rfl
      | some u =>
        obtain rfl : b = a := hA b (by rw [q]; simp)
        rw [hK (by rw [q]; simp)] at e; cases e)
    have hM : Mod K mg (hidT s.heap H) := ⟨hKb, nsOf hns, ⟨mb, nsOf hb, hbb⟩, let ⟨mc, h1, h2⟩ := hlim; ⟨mc, nsOf h1, h2⟩⟩
    have env : Env0 P w K mg (hidT s.heap H) callerA [] s H := ⟨rfl, hM, fun b o e => of_hidT e, Nat.le_of_eq (hidT_size _ _), trivial, fun b hb => absurd (show b ∈ ([] : List Addr) from hb) (by simp), hok, .of_eq hg⟩
    refine codeAny_mono ((F _ hKb (nsOf hns)).run callerA [] s H ⟨[.ref a], []⟩ [.ref a] [.ref a] _ _ hr rfl env (hbind s (.ref a)) (.cons rfl .nil) (hsp H hO hS)) fun r s' h => ?_
    rcases r with e | fl
    · obtain ⟨_, _, _, _, _, _, _, _, _, _, _, _, no⟩ := h
      exact no.elim
    cases fl
    case next => exact False.elim h
    case brk => exact False.elim h
    case cont => exact False.elim h
    case ret u =>
    obtain ⟨v, H', os, bare, un, hok', r', q⟩ := h
    cases (show v = .bl true from q)
    obtain rfl : u = Value.bool true := r'
    refine ⟨rfl, OldK.of_keep fun b o e => ?_, os, bare⟩
    cases q : H b with
    | none => exact un.keep b o e q (by intro z; exact absurd (show b ∈ ([] : List Addr) from z) (by simp)) (by simp)
    | some u =>
      rcases hO b with z | ⟨ob, xs, z⟩
      · rw [q] at z; cases z
      · obtain ⟨e1, _⟩ := hok b _ z
        obtain ⟨e2, _⟩ := hok' b _ (un.frzs b ob _ z)
        rw [e] at e1; cases e1
        exact e2
  cases hk : K.lookup a with
  | some o =>
    have e := KX a o hk
    rw [ha] at e
    cases e
    exact main (fun _ => none) (fun _ => .inl rfl) (.inr ⟨_, vs.toArray, _, hk, rfl, rfl, rfl, by rw [List.size_toArray, lenVs]; exact hl, by simpa using rel⟩) (fun b u z => nomatch (show (none : Option HO) = some u from z)) (fun b z => absurd rfl z) fun z => absurd rfl z
  | none =>
    refine main (fun b => if b = a then some (.frz { cls := .type "list", data := .seq vs.toArray } (.lst (ns.map V.int))) else none) (fun b => ?_) (.inl (.inr ⟨{ cls := .type "list", data := .seq vs.toArray }, if_pos rfl⟩)) (fun b u z => ?_) (fun b z => ?_) fun _ => hk
    · by_cases hb : b = a
      · exact .inr ⟨_, _, if_pos hb⟩
      · exact .inl (if_neg hb)
    · by_cases hb : b = a
      · cases (if_pos hb).symm.trans z
        subst hb
        exact ⟨ha, by rw [List.length_map]; exact hl, vs, _, rel, ha⟩
      · cases (if_neg hb).symm.trans z
    · exact Classical.byContradiction fun hb => z (if_neg hb)
theorem walkG {l : PySem.W.OpenLaw} {n k : Nat} {q : Program} {loose : List Str} {XP : (Str → Option Value) → Heap → Prop} {YP : World → Heap → Prop} {d : DefRec} {x : Str}
    (hn : l.most = some n) (hn2 : n ≤ sizeLine) (hdf : d.params.defaults = []) (hr : Room k callerA)
    (F : ∀ (w : World) (mg : Str → Option Value) (fa : Addr) (h : Heap), YP w h → h.Ns mainGlobals mg → mg d.name = some (.ref fa) →
      ∃ (K : PySem.W.Frag) (fd : FuncData) (sp : Sp), K.In h ∧ (∀ (s : Shared) (u : Value), BindsTo s fd ⟨[u], []⟩ [(x, u)]) ∧ (∀ (a : Addr) (ns : List Int), ns.length ≤ n → LawSp K a ns sp) ∧
        ∀ base : Heap, K.In base → base.Ns mainGlobals mg → FnG l.prog w K mg base k fa fd [x] sp) :
    PySem.W.WalkO q loose XP YP l.row.toRowW d [] (fun f vs => PySem.call f vs) := by
  refine Att.attach_call hn hdf fun w s₀ s₁ mg mb fa o pm cd doc a vs ns G Y ho hd hcd hmg hobj hints hlen hg => ?_
  obtain ⟨K, fd, sp, KX, hb, hsp, hF⟩ := F w mg fa _ Y G.T.g hmg
  exact lawG KX G.T.g G.T.b G.T.builtins G.T.nolimit hg hobj hints (Nat.le_trans hlen hn2) hr hF hb (hsp a ns hlen)
end Pm
set_option Elab.async false
set_option linter.all false
set_option autoImplicit false
set_option maxRecDepth 100000
set_option maxHeartbeats 4000000
namespace Pm
open PySem L2 PySem.Spec PyProof.Rows
/-! ### plain parameters -/
def plainP (p : Arguments) (ps : List Str) : Bool := p.posonlyargs.isEmpty && p.vararg.isNone && p.kwonlyargs.isEmpty && p.kwarg.isNone && decide (p.args.map (·.arg) = ps) && decide ps.Nodup
theorem look_zip {α : Type} : ∀ {ps : List Str} {us : List α}, us.length = ps.length → ∀ n ∈ ps, ((ps.zip us).lookup n).isSome = true
  | [], _, _, n, h => nomatch h
  | p :: ps, [], hl, n, h => by simp at hl
  | p :: ps, u :: us, hl, n, h => by
    rw [List.zip_cons_cons, List.lookup_cons]
    by_cases q : n = p
    · subst q; simp
    · have e : (n == p) = false := by simpa using q
      rw [e]
      exact look_zip (by simpa using hl) n (by simpa [q] using h)
theorem fm_congr {α β : Type} {f g : α → Option β} : ∀ {l : List α}, (∀ x ∈ l, f x = g x) → l.filterMap f = l.filterMap g
  | [], _ => rfl
  | x :: l, h => by
    rw [List.filterMap_cons, List.filterMap_cons, h x (List.mem_cons_self ..), fm_congr fun y hy => h y (List.mem_cons_of_mem _ hy)]
theorem fm_zip {α : Type} : ∀ {ps : List Str} {us : List α}, us.length = ps.length → ps.Nodup → (ps.filterMap fun n => ((ps.zip us).lookup n).map fun v => (n, v)) = ps.zip us
  | [], _, _, _ => by simp
  | p :: ps, [], hl, _ => by simp at hl
  | p :: ps, u :: us, hl, nd => by
    have nd' := List.nodup_cons.mp nd
    have ih := fm_zip (ps := ps) (us := us) (by simpa using hl) nd'.2
    rw [List.zip_cons_cons, List.filterMap_cons]
    have e1 : ((p, u) :: ps.zip us).lookup p = some u := by simp [List.lookup_cons]
    rw [e1]
    refine congrArg ((p, u) :: ·) (Eq.trans (fm_congr fun n hn => ?_) ih)
    have e : (n == p) = false := by
      simp only [beq_eq_false_iff_ne]
      intro q
      exact nd'.1 (q ▸ hn)
    rw [List.lookup_cons, e]
theorem bind_plain {p : Arguments} {ps : List Str} {x qual : Str} {body : List Stmt} {scope : Scope} (h : plainP p ps = true) (kV doc pm : Value) (an : Option Addr) (cdv ct : Value) (us : List Value) (hl : us.length = ps.length) :
    bindArgs (PySem.W.fnOf x qual p body scope .none kV doc pm an cdv ct) ⟨us, []⟩ = pure (ps.zip us) := by
  simp only [plainP, Bool.and_eq_true, decide_eq_true_eq, List.isEmpty_iff, Option.isNone_iff_eq_none] at h
  obtain ⟨⟨⟨⟨⟨h1, h2⟩, h3⟩, h4⟩, h5⟩, h6⟩ := h
  obtain ⟨a1, a2, a3, a4, a5, a6, a7⟩ := p
  dsimp only at h1 h2 h3 h4 h5
  subst h1 h2 h3 h4
  unfold bindArgs PySem.W.fnOf
  have e : seqItems? (Value.none) = pure none := rfl
  have m : ps.filter (fun n => ((ps.zip us).lookup n).isNone) = [] := by
    rw [List.filter_eq_nil_iff]
    intro n hn
    have := look_zip hl n hn
    simp [Option.isNone_iff_eq_none, Option.isSome_iff_ne_none.mp this]
  have le : ¬ (ps.length < us.length) := by omega
  dsimp only
  simp only [h5]
  simp [e, m, le, fm_zip hl h6]
end Pm
set_option Elab.async false
set_option linter.all false
set_option autoImplicit false
set_option maxRecDepth 100000
set_option maxHeartbeats 4000000
namespace Pm
open PySem L2 PySem.Spec PyProof.Rows
/-! ### the four defs of the drawing, by the form of their bodies -/
inductive MixB : List Stmt → Prop
  | mk {p1 p2 p3 p4 p5 p6 p7 p8 p9 p10 p11 p12 p13 p14 p15 p16 p17 p18 p19 p20 p21 p22 p23 p24 p25 p26 p27 p28 p29 p30 p31 p32 p33 p34 p35 : Pos} {k1 k2 k3 k4 k5 k6 k7 k8 k9 : Nat} : MixB [.Assign [.Name "_law_blend" p1] (.BinOp (.BinOp (.BinOp (.Call (.Name "int" p2) [.BinOp (.BinOp (.Name "_law_cell" p3) .Mult (.BinOp (.Constant (.int 1) k1 p4) .Add (.BinOp (.Constant (.int 2) k2 p5) .Mult (.Name "_law_n" p6) p7) p8) p9) .Mult (.Constant (.int 48271) k3 p10) p11] [] p12) .Mod (.Constant (.int 2147483647) k4 p13) p14) .Add (.BinOp (.BinOp (.Constant (.int 7919) k5 p15) .Mult (.Name "_law_n" p16) p17) .Mult (.Name "_law_n" p18) p19) p20) .Add (.BinOp (.Constant (.int 104729) k6 p21) .Mult (.Name "_law_n" p22) p23) p24) p25,
      .Return (some (.BinOp (.BinOp (.Call (.Name "int" p26) [.BinOp (.Name "_law_blend" p27) .Mult (.Constant (.int 69621) k7 p28) p29] [] p30) .Mod (.Constant (.int 2147483629) k8 p31) p32) .FloorDiv (.Constant (.int 7) k9 p33) p34)) p35]
inductive FoldB : List Stmt → Prop
  | mk {p1 p2 p3 p4 p5 p6 p7 p8 p9 p10 p11 p12 p13 p14 p15 p16 p17 p18 p19 p20 p21 p22 p23 p24 p25 p26 p27 p28 p29 p30 p31 p32 p33 p34 p35 p36 p37 p38 p39 p40 p41 p42 p43 p44 p45 p46 p47 p48 p49 p50 p51 p52 p53 p54 p55 p56 p57 p58 p59 p60 p61 p62 p63 p64 p65 p66 p67 : Pos} {k1 k2 k3 k4 k5 k6 k7 k8 k9 k10 k11 k12 : Nat} (h : (p1.line == p9.line) = true) : FoldB [.Assign [.Name "_law_found" p1] (.ListComp (.BinOp (.Constant (.int 17) k1 p2) .Add (.Name "_law_n" p3) p4) [⟨.Name "_law_n" p5, .Call (.Name "range" p6) [.Constant (.int 64) k2 p7] [] p8, [], 0⟩] (scLc "_law_n") p9) p10,
      .For (.Tuple [.Name "_law_n" p11, .Name "_law_cell" p12] k3 p13) (.Call (.Name "enumerate" p14) [.Name "_law_script" p15] [] p16) [.Assign [.Subscript (.Name "_law_found" p17) (.BinOp (.Call (.Name "int" p18) [.Name "_law_n" p19] [] p20) .Mod (.Constant (.int 64) k4 p21) p22) p23] (.BinOp (.Call (.Name "int" p24) [.BinOp (.BinOp (.Subscript (.Name "_law_found" p25) (.BinOp (.Call (.Name "int" p26) [.Name "_law_n" p27] [] p28) .Mod (.Constant (.int 64) k5 p29) p30) p31) .Mult (.Constant (.int 48271) k6 p32) p33) .Add (.Name "_law_cell" p34) p35] [] p36) .Mod (.Constant (.int 2147483647) k7 p37) p38) p39] [] p40,
      .For (.Name "_law_n" p41) (.Call (.Name "range" p42) [.Constant (.int 1) k8 p43, .Constant (.int 64) k9 p44] [] p45) [.Assign [.Subscript (.Name "_law_found" p46) (.Name "_law_n" p47) p48] (.BinOp (.Call (.Name "int" p49) [.BinOp (.Subscript (.Name "_law_found" p50) (.Name "_law_n" p51) p52) .Add (.BinOp (.Subscript (.Name "_law_found" p53) (.BinOp (.Name "_law_n" p54) .Sub (.Constant (.int 1) k10 p55) p56) p57) .Mult (.Constant (.int 16807) k11 p58) p59) p60] [] p61) .Mod (.Constant (.int 2147483647) k12 p62) p63) p64] [] p65,
      .Return (some (.Name "_law_found" p66)) p67]
inductive DrawB : List Stmt → Prop
  | mk {p1 p2 p3 p4 p5 p6 p7 p8 p9 p10 p11 p12 p13 p14 p15 p16 p17 p18 p19 p20 p21 p22 p23 p24 p25 p26 p27 p28 p29 p30 p31 p32 p33 p34 p35 p36 p37 p38 p39 p40 p41 p42 p43 p44 p45 p46 p47 p48 p49 p50 p51 p52 p53 p54 p55 p56 p57 p58 p59 p60 p61 p62 p63 p64 p65 p66 p67 p68 p69 p70 p71 p72 p73 p74 p75 p76 p77 p78 p79 p80 p81 p82 p83 p84 p85 : Pos} {k1 k2 k3 k4 k5 k6 k7 k8 k9 k10 k11 : Nat} : DrawB [.Assign [.Name "_law_n" p1] (.Subscript (.Name "_law_m" p2) (.Constant (.str "spot") k1 p3) p4) p5,
      .Assign [.Subscript (.Name "_law_m" p6) (.Constant (.str "spot") k2 p7) p8] (.BinOp (.Name "_law_n" p9) .Add (.Constant (.int 1) k3 p10) p11) p12,
      .If (.Compare (.Subscript (.Name "_law_m" p13) (.Constant (.str "great") k4 p14) p15) [.NotEq] [.List [] p16] p17) [.Assign [.Name "_law_lot" p18] (.Subscript (.Name "_law_m" p19) (.Constant (.str "great") k5 p20) p21) p22,
      .Assign [.Name "_law_here" p23] (.BinOp (.Call (.Name "int" p24) [.Name "_law_n" p25] [] p26) .Mod (.Call (.Name "len" p27) [.Name "_law_lot" p28] [] p29) p30) p31,
      .Assign [.Name "_law_cell" p32] (.Subscript (.Name "_law_lot" p33) (.Name "_law_here" p34) p35) p36,
      .If (.Compare (.Name "_law_cell" p37) [.Gt] [.Constant (.int 0) k6 p38] p39) [.Assign [.Subscript (.Name "_law_lot" p40) (.Name "_law_here" p41) p42] (.BinOp (.Name "_law_cell" p43) .FloorDiv (.Name "_law_limit" p44) p45) p46,
      .Return (some (.BinOp (.Call (.Name "int" p47) [.Name "_law_cell" p48] [] p49) .Mod (.Name "_law_limit" p50) p51)) p52] [] p53] [] p54,
      .Assign [.Name "_law_lot" p55] (.Subscript (.Name "_law_m" p56) (.Constant (.str "cells") k7 p57) p58) p59,
      .Return (some (.BinOp (.Call (.Name "int" p60) [.Call (.Name "_law_mixed" p61) [.Call (.Name "_law_mixed" p62) [.BinOp (.Subscript (.Name "_law_lot" p63) (.BinOp (.Call (.Name "int" p64) [.Name "_law_n" p65] [] p66) .Mod (.Constant (.int 64) k8 p67) p68) p69) .Add (.BinOp (.Constant (.int 31) k9 p70) .Mult (.BinOp (.Name "_law_n" p71) .FloorDiv (.Constant (.int 64) k10 p72) p73) p74) p75, .Name "_law_n" p76] [] p77, .BinOp (.Name "_law_n" p78) .Add (.Constant (.int 7) k11 p79) p80] [] p81] [] p82) .Mod (.Name "_law_limit" p83) p84)) p85]
inductive BegunB : List Stmt → Prop
  | mk {p1 p2 p3 p4 p5 p6 p7 p8 p9 p10 p11 p12 p13 p14 p15 p16 p17 p18 p19 p20 p21 p22 p23 p24 p25 p26 p27 p28 : Pos} {k1 k2 k3 k4 k5 k6 k7 k8 : Nat} : BegunB [.Assign [.Name "_law_m" p1] (.Dict [some (.Constant (.str "cells") k1 p2), some (.Constant (.str "great") k2 p3), some (.Constant (.str "spot") k3 p4)] [.Call (.Name "_law_folded" p5) [.Name "_law_script" p6] [] p7, .List [] p8, .Constant (.int 0) k4 p9] p10) p11,
      .Assign [.Subscript (.Name "_law_m" p12) (.Constant (.str "great") k5 p13) p14] (.ListComp (.IfExp (.Compare (.Name "_law_cell" p15) [.GtE] [.BinOp (.Constant (.int 10) k6 p16) .Pow (.Constant (.int 18) k7 p17) p18] p19) (.Name "_law_cell" p20) (.Constant (.int 0) k8 p21) p22) [⟨.Name "_law_cell" p23, .Name "_law_script" p24, [], 0⟩] (scLc "_law_cell") p25) p26,
      .Return (some (.Name "_law_m" p27)) p28]

def scopeB (N ps : List Str) (sc : Scope) : Bool := decide (sc.kind = .function) && !sc.isCoroutine && !sc.isGenerator && decide N.Nodup && decide (N.take ps.length = ps) && ps.all (locB sc) && sc.names.all fun y => !decide (y.2 = .free)
theorem scopeB_ok {N ps : List Str} {sc : Scope} (h : scopeB N ps sc = true) : FnScope N ps sc := by
  simp only [scopeB, Bool.and_eq_true, decide_eq_true_eq, Bool.not_eq_true', List.all_eq_true, decide_eq_false_iff_not] at h
  obtain ⟨⟨⟨⟨⟨⟨h1, h2⟩, h3⟩, h4⟩, h5⟩, h6⟩, h7⟩ := h
  exact ⟨h1, h2, h3, h4, h5, fun x hx => locB_ok (h6 x hx), fun y hy => h7 y hy⟩
/-- what is seen of a special def's text -/
def okSp (d : DI) (N lo ps gl : List Str) : Bool := decide (d.N = N) && decide (d.ps = ps) && lo.all (isLoc d.scope) && gl.all (glB d.scope) && scopeB N ps d.scope && plainP d.args ps
structure OkSp (d : DI) (N lo ps gl : List Str) : Prop where
  loc : ∀ x ∈ lo, d.scope.names.lookup x = some .local
  gl : ∀ x ∈ gl, d.scope.names.lookup x = some .globalImplicit
  sc : FnScope N ps d.scope
  pl : plainP d.args ps = true
theorem okSp_ok {d : DI} {N lo ps gl : List Str} (h : okSp d N lo ps gl = true) : OkSp d N lo ps gl := by
  simp only [okSp, Bool.and_eq_true, List.all_eq_true] at h
  obtain ⟨⟨⟨⟨⟨_, _⟩, h1⟩, h2⟩, h3⟩, h4⟩ := h
  exact ⟨fun x hx => isLoc_ok (h1 x hx), fun x hx => glB_ok (h2 x hx), scopeB_ok h3, h4⟩
section
variable {P : Program} {w : World} {K : PySem.W.Frag} {mg : Str → Option Value} {base : Heap} {f fm : Addr} {fd fdm : FuncData} {d : DI}
abbrev FD (K : PySem.W.Frag) (d : DI) (f : Addr) (fd : FuncData) : Prop := FunD K d.x d.x d.args d.body d.scope [] [] f fd
theorem FD.binds {ps : List Str} (F : FD K d f fd) (h : plainP d.args ps = true) : L2.Binds K fd ps [] := FunD.bindsN F fun kV doc pm an cdv ct us hl => bind_plain h kV doc pm an cdv ct us hl
theorem fn_mix (F : FD K d f fd) (ok : OkSp d NM NM ["_law_cell", "_law_n"] ["int"]) (hb : MixB d.body) (mi : mg "int" = none) : FnG P w K mg base 1 f fd ["_law_cell", "_law_n"] spMix := by
  refine FnG.of_body (k := 0) F ok.sc (fun vs H Q E ⟨c, n, e, _⟩ => by rw [e]; rfl) fun cdv A outer s H vs Q E room gd ⟨c, n, e, h1, h2, h3⟩ => ?_
  subst e
  cases q : d.body with
  | nil => rw [q] at hb; cases hb
  | cons st r =>
  rw [q] at hb
  cases hb
  obtain ⟨t, ht, h⟩ := mix_ok (X := cxOf (L2.CX P w) P w K mg base NM d.x d.scope f cdv A outer s H E) rfl ok.loc (ok.gl "int" (by decide)) mi
  exact ⟨t, ht, h c n H _ h1 h2 h3⟩
theorem fn_fold (F : FD K d f fd) (ok : OkSp d NF NF ["_law_script"] ["int", "range", "enumerate"]) (hb : FoldB d.body) (mi : mg "int" = none) (mr : mg "range" = none) (me : mg "enumerate" = none) : FnG P w K mg base 1 f fd ["_law_script"] (spFold K) := by
  refine FnG.of_body (k := 0) F ok.sc (fun vs H Q E ⟨c, n, e, _⟩ => by rw [e]; rfl) fun cdv A outer s H vs Q E room gd ⟨a, ns, e, h1, h2⟩ => ?_
  subst e
  cases q : d.body with
  | nil => rw [q] at hb; cases hb
  | cons st r =>
  rw [q] at hb
  cases hb with
  | mk hln =>
  obtain ⟨t, ht, h⟩ := seed_ok (X := cxOf (L2.CX P w) P w K mg base NF d.x d.scope f cdv A outer s H E) rfl ok.loc ok.sc.kind rfl (passes_of rfl) (ok.gl "int" (by decide)) mi (ok.gl "range" (by decide)) mr (ok.gl "enumerate" (by decide)) me hln
  exact ⟨t, ht, h a ns H _ h1 h2⟩
theorem fn_draw (F : FD K d f fd) (ok : OkSp d ND ND ["_law_m", "_law_limit"] ["int", "len", "_law_mixed"]) (hb : DrawB d.body) (mi : mg "int" = none) (ml : mg "len" = none) (mm : mg "_law_mixed" = some (.ref fm)) (km : PySem.W.keepIn K (.ref fm) = true) (bm : L2.Binds K fdm ["_law_cell", "_law_n"] [])
    (Fm : FnG P w K mg base 1 fm fdm ["_law_cell", "_law_n"] spMix) (S : Sx) (hK : S.K = K) (hB : S.B = B60) : FnG P w K mg base 4 f fd ["_law_m", "_law_limit"] (spDraw S) := by
  subst hK
  refine FnG.of_body (k := 3) F ok.sc (fun vs H Q E ⟨_, _, _, _, _, e, _⟩ => by rw [e]; rfl) fun cdv A outer s H vs Q E room gd ⟨F0, g, l, fo, gr, e, h1, h2, h3, h4⟩ => ?_
  subst e
  have hs : g.spot < 2 ^ 60 := by rw [hB] at h3; simpa [chk] using h3
  have un : (A.deeper (envOfC d.x d.scope s.heap.objs.size f cdv)).units + 66 < cLine := by have := room.un; omega
  cases q : d.body with
  | nil => rw [q] at hb; cases hb
  | cons st r =>
  rw [q] at hb
  cases hb
  exact ⟨_, pss_draw (X := cxOf (L2.CX P w) P w S.K mg base ND d.x d.scope f cdv A outer s H E) (W := Wof E) (k := 1) rfl ok.loc rfl un gd (takes_of rfl rfl rfl rfl) (ok.gl "int" (by decide)) mi (ok.gl "len" (by decide)) ml (ok.gl "_law_mixed" (by decide)) mm km bm (room.mono (by omega)) Fm, draw_run (S := S) fo gr h1 h2 hs fun F' H' => h4 F' H'⟩
def spBegun (K : PySem.W.Frag) : Sp := fun vs H Q _ => ∃ a ns, vs = [.ref a] ∧ SqL K H a (List.map V.int ns) ∧ ns.length ≤ 64 ∧ ∀ H' (D : DA) (g : DrawSt), Ext H H' → (∀ b, D.has b → H b = none) → GRel D g H' → g.spot = 0 → Q (.ref D.m) H'
theorem fn_begun (F : FD K d f fd) (ok : OkSp d NB NB0 ["_law_script"] ["_law_folded"]) (hb : BegunB d.body) (mm : mg "_law_folded" = some (.ref fm)) (km : PySem.W.keepIn K (.ref fm) = true) (bm : L2.Binds K fdm ["_law_script"] [])
    (Fm : FnG P w K mg base 1 fm fdm ["_law_script"] (spFold K)) : FnG P w K mg base 4 f fd ["_law_script"] (spBegun K) := by
  refine FnG.of_body (k := 3) F ok.sc (fun vs H Q E ⟨c, n, e, _⟩ => by rw [e]; rfl) fun cdv A outer s H vs Q E room gd ⟨a, ns, e, h1, h2, h3⟩ => ?_
  subst e
  have un : (A.deeper (envOfC d.x d.scope s.heap.objs.size f cdv)).units + 66 < cLine := by have := room.un; omega
  cases q : d.body with
  | nil => rw [q] at hb; cases hb
  | cons st r =>
  rw [q] at hb
  cases hb
  obtain ⟨t, ht, h⟩ := begun_ok (X := cxOf (L2.CX P w) P w K mg base NB d.x d.scope f cdv A outer s H E) (W := Wof E) (k := 1) rfl ok.loc ok.sc.kind rfl un gd (takes_of rfl rfl rfl rfl) (ok.gl "_law_folded" (by decide)) mm km bm (room.mono (by omega)) Fm
  exact ⟨t, ht, h a ns H _ h1 h2 h3⟩
end
end Pm
set_option Elab.async false
set_option linter.all false
set_option autoImplicit false
set_option maxRecDepth 100000
set_option maxHeartbeats 4000000
namespace Pm
open PySem L2 PySem.Spec PyProof.Rows
/-! ### a law's text as data -/
structure Lw where
  dis : List DI
  gcs : List (Str × Val)
  frees : List Str
def special : List Str := ["_law_draw", "_law_begun", "_law_folded", "law"]
def globOf (L : Lw) : Glob := ⟨fun f => L.dis[f]?, fun x => if special.contains x = true then none else ixOf (L.dis.map (·.x)) x, fun x => L.gcs.lookup x, fun x => L.frees.contains x, fun x => x == ("_law_draw" : Str)⟩
/-! a module's constant, as it stands in the written part -/
mutual
def isVal (K : PySem.W.Frag) : Val → Value → Bool
  | .non, .none => true
  | .bl b, .bool c => b == c
  | .int i, .int j _ => decide (i = j)
  | .str x, .str y _ => decide (x = y)
  | .tup xs, .ref a => (match K.lookup a with
    | some ⟨.type c, _, .seq its _, _⟩ => decide (c = "tuple") && decide (its.size ≤ sizeLine) && isVals K xs its.toList
    | _ => false)
  | _, _ => false
def isVals (K : PySem.W.Frag) : List Val → List Value → Bool
  | [], [] => true
  | x :: xs, u :: us => isVal K x u && isVals K xs us
  | _, _ => false
end
def gcB (K : PySem.W.Frag) (y : Str × Val) : Bool := match PySem.W.nsIn K mainGlobals y.1 with
  | some (some u) => isVal K y.2 u
  | _ => false
mutual
theorem isVal_ok {K : PySem.W.Frag} : ∀ (x : Val) (u : Value), isVal K x u = true → ∃ w, RelV w u ∧ notLst x = true ∧ ∀ D F H, Rep K D F H x w
  | .non, u, h => by
    cases u with
    | none => exact ⟨.non, rfl, rfl, fun D F H => by simp only [Rep]⟩
    | _ => simp [isVal] at h
  | .bl b, u, h => by
    cases u with
    | bool c =>
      have e : b = c := by simpa [isVal] using h
      subst e
      exact ⟨.bl b, rfl, rfl, fun D F H => by simp only [Rep]⟩
    | _ => simp [isVal] at h
  | .int i, u, h => by
    cases u with
    | int j t =>
      have e : i = j := by simpa [isVal] using h
      subst e
      exact ⟨.int i, ⟨t, rfl⟩, rfl, fun D F H => by simp only [Rep]⟩
    | _ => simp [isVal] at h
  | .str x, u, h => by
    cases u with
    | str y t =>
      have e : x = y := by simpa [isVal] using h
      subst e
      exact ⟨.str x, ⟨t, rfl⟩, rfl, fun D F H => by simp only [Rep]⟩
    | _ => simp [isVal] at h
  | .lst _, u, h => by cases u <;> simp [isVal] at h
  | .drw, u, h => by cases u <;> simp [isVal] at h
  | .scr _, u, h => by cases u <;> simp [isVal] at h
  | .tup xs, u, h => by
    cases u with
    | ref a =>
      rw [isVal] at h
      split at h
      · rename_i c d its n osl hk
        simp only [Bool.and_eq_true, decide_eq_true_eq] at h
        obtain ⟨⟨h1, h2⟩, h3⟩ := h
        subst h1
        obtain ⟨ws, r, hr⟩ := isVals_ok xs its.toList h3
        refine ⟨.ref a, rfl, rfl, fun D F H => ?_⟩
        simp only [Rep]
        exact ⟨a, ws, rfl, .inr ⟨_, its, n, hk, rfl, rfl, h2, r⟩, hr D F H⟩
      · cases h
    | _ => simp [isVal] at h
theorem isVals_ok {K : PySem.W.Frag} : ∀ (xs : List Val) (us : List Value), isVals K xs us = true → ∃ ws, Vals ws us ∧ ∀ D F H, Reps K D F H xs ws
  | [], us, h => by
    cases us with
    | nil => exact ⟨[], .nil, fun D F H => by simp only [Reps]⟩
    | cons => simp [isVals] at h
  | x :: xs, us, h => by
    cases us with
    | nil => simp [isVals] at h
    | cons u us =>
      simp only [isVals, Bool.and_eq_true] at h
      obtain ⟨w, r, _, hr⟩ := isVal_ok x u h.1
      obtain ⟨ws, rs, hrs⟩ := isVals_ok xs us h.2
      exact ⟨w :: ws, .cons r rs, fun D F H => by simp only [Reps]; exact ⟨w, ws, rfl, hr D F H, hrs D F H⟩⟩
end
def factsOf (L : Lw) : List He.Fa := L.dis.map (fun d => .glo d.x) ++ L.frees.map .free
def defdOf (d : DI) : He.DefD := ⟨(d.x, none), d.x, d.x, d.args, d.body, d.scope, [], []⟩
def defdsOf (L : Lw) : List He.DefD := L.dis.map defdOf
def okDI (d : DI) : Bool := special.contains d.x || (scopeB d.N d.ps d.scope && plainP d.args d.ps && d.mv.all fun i => decide (d.ps.length ≤ i))
def Lw.chk (L : Lw) : Bool := L.dis.all okDI
/-- what the head tells -/
structure Says (L : Lw) (K : PySem.W.Frag) : Prop where
  d : He.SaysD (factsOf L) (defdsOf L) K
  g : (L.gcs.all fun y => gcB K y) = true
theorem says_fact {fa : List He.Fa} {fn : List He.DefD} {K : PySem.W.Frag} (c : He.SaysD fa fn K) {f : He.Fa} (h : f ∈ fa) : f.ok K = true := by
  obtain ⟨i, hi⟩ := List.getElem?_of_mem h
  exact c.fact i hi
theorem says_def {L : Lw} {fa : List He.Fa} {K : PySem.W.Frag} (c : He.SaysD fa (defdsOf L) K) {d : DI} (h : d ∈ L.dis) : ∃ fd, FD K d (He.ga K d.x) fd := by
  obtain ⟨i, hi⟩ := List.getElem?_of_mem h
  exact c.def_ i (d := defdOf d) (by unfold defdsOf; rw [List.getElem?_map, hi]; rfl)
theorem lookup_mem {β : Type} {x : Str} {v : β} : ∀ {l : List (Str × β)}, l.lookup x = some v → (x, v) ∈ l
  | [], h => nomatch h
  | (y, u) :: r, h => by
    rw [List.lookup_cons] at h
    by_cases q : (x == y) = true
    · rw [q] at h
      have e : x = y := by simpa using q
      cases h; rw [e]; exact List.mem_cons_self ..
    · have e : (x == y) = false := by simpa using q
      rw [e] at h
      exact List.mem_cons_of_mem _ (lookup_mem h)
structure Spc (L : Lw) : Prop where
  mix : ∃ d ∈ L.dis, d.x = "_law_mixed" ∧ okSp d NM NM ["_law_cell", "_law_n"] ["int"] = true ∧ MixB d.body
  fold : ∃ d ∈ L.dis, d.x = "_law_folded" ∧ okSp d NF NF ["_law_script"] ["int", "range", "enumerate"] = true ∧ FoldB d.body
  draw : ∃ d ∈ L.dis, d.x = "_law_draw" ∧ okSp d ND ND ["_law_m", "_law_limit"] ["int", "len", "_law_mixed"] = true ∧ DrawB d.body
  begun : ∃ d ∈ L.dis, d.x = "_law_begun" ∧ okSp d NB NB0 ["_law_script"] ["_law_folded"] = true ∧ BegunB d.body
  free : (["int", "len", "range", "enumerate"] : List Str).all (fun x => L.frees.contains x) = true
section
variable {L : Lw} {P : Program} {w : World} {K : PySem.W.Frag} {mg : Str → Option Value} {h base : Heap}
theorem glo_of (X : K.In h) (G : h.Ns mainGlobals mg) (c : Says L K) {d : DI} (hd : d ∈ L.dis) : mg d.x = some (.ref (He.ga K d.x)) :=
  He.glo_ok X G (says_fact c.d (List.mem_append_left _ (List.mem_map.mpr ⟨d, hd, rfl⟩)))
theorem free_of (X : K.In h) (G : h.Ns mainGlobals mg) (c : Says L K) {x : Str} (hx : L.frees.contains x = true) : mg x = none :=
  He.free_ok X G (says_fact c.d (List.mem_append_right _ (List.mem_map.mpr ⟨x, by simpa using hx, rfl⟩)))
theorem fn_special (X : K.In h) (G : h.Ns mainGlobals mg) (c : Says L K) (sp : Spc L) :
    (∃ a fd, mg "_law_draw" = some (.ref a) ∧ PySem.W.keepIn K (.ref a) = true ∧ L2.Binds K fd ["_law_m", "_law_limit"] [] ∧ ∀ S : Sx, S.K = K → S.B = B60 → FnG P w K mg base 4 a fd ["_law_m", "_law_limit"] (spDraw S)) ∧
    (∃ a fd, mg "_law_begun" = some (.ref a) ∧ PySem.W.keepIn K (.ref a) = true ∧ L2.Binds K fd ["_law_script"] [] ∧ FnG P w K mg base 4 a fd ["_law_script"] (spBegun K)) := by
  have fr : ∀ x : Str, x ∈ (["int", "len", "range", "enumerate"] : List Str) → mg x = none := fun x hx => free_of X G c (List.all_eq_true.mp sp.free x hx)
  obtain ⟨d1, m1, x1, o1, b1⟩ := sp.mix
  obtain ⟨d2, m2, x2, o2, b2⟩ := sp.fold
  obtain ⟨d3, m3, x3, o3, b3⟩ := sp.draw
  obtain ⟨d4, m4, x4, o4, b4⟩ := sp.begun
  obtain ⟨f1, F1⟩ := says_def c.d m1
  obtain ⟨f2, F2⟩ := says_def c.d m2
  obtain ⟨f3, F3⟩ := says_def c.d m3
  obtain ⟨f4, F4⟩ := says_def c.d m4
  have k1 := okSp_ok o1
  have k2 := okSp_ok o2
  have k3 := okSp_ok o3
  have k4 := okSp_ok o4
  have g1 := glo_of X G c m1
  have g2 := glo_of X G c m2
  have g3 := glo_of X G c m3
  have g4 := glo_of X G c m4
  rw [x1] at g1
  rw [x2] at g2
  rw [x3] at g3
  rw [x4] at g4
  have F1' := F1
  refine ⟨⟨_, f3, g3, by rw [← x3]; exact F3.kp, F3.binds k3.pl, fun S hK hB => ?_⟩, ⟨_, f4, g4, by rw [← x4]; exact F4.kp, F4.binds k4.pl, ?_⟩⟩
  · have M : FnG P w K mg base 1 (He.ga K d1.x) f1 ["_law_cell", "_law_n"] spMix := fn_mix F1' k1 b1 (fr "int" (by decide))
    have D := fn_draw (P := P) (w := w) (base := base) F3 k3 b3 (fr "int" (by decide)) (fr "len" (by decide)) (by rw [x1]; exact g1) F1'.kp (F1'.binds k1.pl) M S hK hB
    rw [x3] at D
    exact D
  · have M : FnG P w K mg base 1 (He.ga K d2.x) f2 ["_law_script"] (spFold K) := fn_fold F2 k2 b2 (fr "int" (by decide)) (fr "range" (by decide)) (fr "enumerate" (by decide))
    have D := fn_begun (P := P) (w := w) (base := base) F4 k4 b4 (by rw [x2]; exact g2) F2.kp (F2.binds k2.pl) M
    rw [x4] at D
    exact D
theorem wf_of (X : K.In h) (G : h.Ns mainGlobals mg) (c : Says L K) (hc : L.chk = true) (sp : Spc L) : Wf (globOf L) P w K mg base where
  bl := fun x hx => free_of X G c hx
  gc := fun x v hv => by
    have hm := lookup_mem (show L.gcs.lookup x = some v from hv)
    have hs := List.all_eq_true.mp c.g _ hm
    unfold gcB at hs
    split at hs
    · rename_i u hu
      obtain ⟨w, r, n, hr⟩ := isVal_ok v u hs
      exact ⟨w, u, PySem.W.mg_of X G hu, r, n, hr⟩
    · cases hs
  fn := fun x f hf => by
    have hf' : (if special.contains x = true then none else ixOf (L.dis.map (·.x)) x) = some f := hf
    by_cases hs : special.contains x = true
    · rw [if_pos hs] at hf'; cases hf'
    rw [if_neg hs] at hf'
    have hi := ixOf_some hf'
    rw [List.getElem?_map] at hi
    cases q : L.dis[f]? with
    | none => rw [q] at hi; cases hi
    | some d =>
    rw [q] at hi
    have ex : d.x = x := by simpa using hi
    have hm := List.mem_of_getElem? q
    simp only [Lw.chk, List.all_eq_true] at hc
    have ho := hc d hm
    unfold okDI at ho
    rw [ex, show special.contains x = false by simpa using hs, Bool.false_or, Bool.and_eq_true, Bool.and_eq_true] at ho
    obtain ⟨fd, F⟩ := says_def c.d hm
    exact ⟨d, _, fd, q, by rw [← ex]; exact glo_of X G c hm, F, F.binds ho.1.2, scopeB_ok ho.1.1, ho.2⟩
  dr := fun x hx => by
    have e : x = "_law_draw" := by simpa [globOf] using hx
    subst e
    obtain ⟨a, fd, h1, h2, h3, h4⟩ := (fn_special (P := P) (w := w) (base := base) X G c sp).1
    exact ⟨a, fd, _, h1, h2, h3, h4⟩
/-! ### the law's own def -/
def LawB (d : DI) (im : Nat) (rest : List Stmt) : Prop := ∃ p1 p2 p3 p4 p5 : Pos, d.body = .Assign [.Name "_law_m" p1] (.Call (.Name "_law_begun" p2) [.Name "_law_script" p3] [] p4) p5 :: rest
def okLaw (d : DI) (im : Nat) : Bool := decide (d.x = "law") && decide (d.ps = ([("_law_script" : Str)] : List Str)) && decide (d.N[im]? = some ("_law_m" : Str)) && decide (0 < im) && locB d.scope "_law_m" && visB d.scope "_law_script" && glB d.scope "_law_begun" && scopeB d.N d.ps d.scope && plainP d.args d.ps
def env0 (d : DI) (k im : Nat) : Pm.Env := ((List.replicate d.N.length none).set 0 (some (.scr k))).set im (some .drw)
/-- what is left: the law's body, as the interpreter tells it -/
def LawOk (L : Lw) (d : DI) (im : Nat) (rest : List Stmt) (n : Nat) : Prop := ∀ k : Nat, k ≤ 63 → ∀ g : DrawSt, g.spot = 0 → g.cells.length = 64 → g.great.length ≤ 64 → ∃ g' b, exs (callG (globOf L) n) B60 (bodyOf (globOf L) d rest) (env0 d k im) g = .ok (.rt (.bl true) b) g'
def spLaw (K : PySem.W.Frag) : Sp := fun vs H Q _ => ∃ a ns, vs = [.ref a] ∧ Alone H ∧ SqL K H a (List.map V.int ns) ∧ ns.length ≤ 63 ∧ ∀ H', Q (.bl true) H'
theorem fn_law (X : K.In h) (G : h.Ns mainGlobals mg) (c : Says L K) (hc : L.chk = true) (sp : Spc L) {d : DI} (hd : d ∈ L.dis) {im : Nat} {rest : List Stmt} (ok : okLaw d im = true) (hb : LawB d im rest) {n : Nat} (hq : LawOk L d im rest n) {fd : FuncData} (F : FD K d (He.ga K d.x) fd) :
    mg "law" = some (.ref (He.ga K "law")) ∧ (∀ (s : Shared) (u : Value), BindsTo s fd ⟨[u], []⟩ [("_law_script", u)]) ∧ FnG P w K mg base (n + 5) (He.ga K "law") fd ["_law_script"] (spLaw K) := by
  simp only [okLaw, Bool.and_eq_true, decide_eq_true_eq] at ok
  obtain ⟨⟨⟨⟨⟨⟨⟨⟨ox, ops⟩, oi⟩, oi0⟩, olm⟩, ovs⟩, ogb⟩, osc⟩, opl⟩ := ok
  have gl := glo_of X G c hd
  rw [ox] at gl
  have Sc := scopeB_ok osc
  have Fw : Wf (globOf L) P w K mg base := wf_of X G c hc sp
  have pre := Sc.pre
  rw [ops] at opl
  refine ⟨gl, fun s u => ?_, ?_⟩
  · have z := FunD.bindsA F (ps := ["_law_script"]) (fun kV doc pm an cdv ct us hl => bind_plain opl kV doc pm an cdv ct us hl) s [u] rfl
    exact z
  have at0 : d.N[0]? = some ("_law_script" : Str) := by
    rw [ops] at pre
    cases q : d.N with
    | nil => rw [q] at pre; cases pre
    | cons y r => rw [q] at pre; simp at pre; rw [pre]; rfl
  have im_lt : im < d.N.length := (List.getElem?_eq_some_iff.mp oi).1
  have Sc1 : FnScope d.N ["_law_script"] d.scope := by rw [← ops]; exact Sc
  rw [← ox]
  refine FnG.of_body (k := n + 4) F Sc1 (fun vs H Q E ⟨a, ns, e, _⟩ => by rw [e]; rfl) fun cdv A outer s H vs Q E room gd ⟨a, ns, e, al, hs, hl, hQ⟩ => ?_
  subst e
  obtain ⟨ab, fb, h1, h2, h3, h4⟩ := (fn_special (P := P) (w := w) (base := base) X G c sp).2
  obtain ⟨p1, p2, p3, p4, p5, hbody⟩ := hb
  rw [hbody]
  have good : ∀ D : DA, Good (txOf (globOf L) d) (cxOf (L2.CX P w) P w K mg base d.N d.x d.scope (He.ga K d.x) cdv A outer s H E) ⟨K, D, callG (globOf L) n, B60, xt0, fun i => d.mv.contains i⟩ (Wof E) := fun D => good_of Fw (level Fw n) Sc room gd
  have un : (A.deeper (envOfC d.x d.scope s.heap.objs.size (He.ga K d.x) cdv)).units + 66 < cLine := by have := room.un; omega
  have call0 : PE (cxOf (L2.CX P w) P w K mg base d.N d.x d.scope (He.ga K d.x) cdv A outer s H E) (.Call (.Name "_law_begun" p2) [.Name "_law_script" p3] [] p4) (tCallW (spBegun K) (Wof E) (tCons (tVar 0) tNil)) :=
    pe_callW h4 (room.mono (by omega)) gd (glB_ok ogb) h1 h2 h3 (takes_of rfl rfl rfl rfl) (pa_cons (pe_var at0 (visB_ok ovs)) pa_nil) (by decide) (starEach_no rfl) rfl
  have rest_ok : PSs (cxOf (L2.CX P w) P w K mg base d.N d.x d.scope (He.ga K d.x) cdv A outer s H E) rest (fun Dn σ H => ∃ D F0 H0, tX ⟨K, D, callG (globOf L) n, B60, xt0, fun i => d.mv.contains i⟩ E F0 H0 (bodyOf (globOf L) d rest) Dn σ H) :=
    ⟨fun pins s' σ H' Dn I ⟨D, F0, H0, h⟩ => (trSs_ok (F0 := F0) (H0 := H0) (trSt_ok (rcOf_ok fuel) (good D) (passes_of rfl) fuel) rest).run pins s' σ H' Dn I h⟩
  refine ⟨_, pss_cons (ps_set (i := im) Sc.nd oi (locB_ok olm) call0 (swaps_no rfl _ _) (.inl rfl)) rest_ok, ?_⟩
  have len_st : (L2.start d.N [V.ref a]).length = d.N.length := by
    unfold L2.start
    simp only [List.length_append, List.length_map, List.length_replicate, List.length_cons, List.length_nil]
    omega
  have st0 : (L2.start d.N [V.ref a])[0]? = some (some (.ref a)) := by unfold L2.start; rfl
  refine ⟨_, st0, a, ns, rfl, hs, by omega, fun H' D g ex hD gr hg => ?_⟩
  refine ⟨D, fun b => b = a ∧ H b ≠ none, H', fun _ _ => True, fun _ _ _ _ _ _ => trivial, env0 d ns.length im, g, ⟨fun b => b = a ∧ H b ≠ none, fun _ => none, ⟨fun i x hx => ?_, ?_, fun i b q => (nomatch q), fun i b q => (nomatch q), fun i j b q => (nomatch q), fun b hb => ⟨?_, fun z => hb.2 (hD b z)⟩, gr, fun b o e _ => e, fun b e => e⟩, ⟨fun b z => z, fun b z => .inl z⟩, fun i ys h1 h2 => ?_, trivial⟩, ?_⟩
  · rw [getE_iff] at hx
    unfold env0 at hx
    by_cases hi : i = im
    · subst hi
      rw [List.getElem?_set_self (by rw [List.length_set, List.length_replicate]; exact im_lt)] at hx
      cases hx
      refine ⟨.ref D.m, List.getElem?_set_self (by rw [len_st]; exact im_lt), ?_⟩
      show Rep K D (fun b => b = a ∧ H b ≠ none) H' .drw _
      simp only [Rep]
    · rw [List.getElem?_set_ne (Ne.symm hi)] at hx
      by_cases h0 : i = 0
      · subst h0
        rw [List.getElem?_set_self (by rw [List.length_replicate]; omega)] at hx
        cases hx
        refine ⟨.ref a, by rw [List.getElem?_set_ne (by omega)]; exact st0, ?_⟩
        show Rep K D (fun b => b = a ∧ H b ≠ none) H' (.scr ns.length) _
        simp only [Rep]
        refine ⟨a, ns.map V.int, rfl, ?_, List.length_map ..⟩
        rcases hs with (z | ⟨o, z⟩) | z
        · exact .inl ⟨⟨rfl, by rw [z]; simp⟩, .inl (ex _ _ z)⟩
        · exact .inl ⟨⟨rfl, by rw [z]; simp⟩, .inr ⟨o, ex _ _ z⟩⟩
        · exact .inr z
      · rw [List.getElem?_set_ne (Ne.symm h0), List.getElem?_replicate] at hx
        split at hx <;> cases hx
  · unfold env0
    simp only [List.length_set, List.length_replicate]
    exact len_st
  · intro z
    obtain ⟨rfl, hb⟩ := hb
    cases q : H b with
    | none => exact hb q
    | some o => rw [ex b o q] at z; cases z
  · rw [getE_iff] at h2
    unfold env0 at h2
    by_cases hi : i = im
    · subst hi
      rw [List.getElem?_set_self (by rw [List.length_set, List.length_replicate]; exact im_lt)] at h2
      cases h2
    · rw [List.getElem?_set_ne (Ne.symm hi)] at h2
      by_cases h0 : i = 0
      · subst h0
        rw [List.getElem?_set_self (by rw [List.length_replicate]; omega)] at h2
        cases h2
      · rw [List.getElem?_set_ne (Ne.symm h0), List.getElem?_replicate] at h2
        split at h2 <;> cases h2
  · obtain ⟨g', b, hr⟩ := hq ns.length hl g hg gr.cl gr.gl
    show resS _ E _ H' _ _ (exs (callG (globOf L) n) B60 (bodyOf (globOf L) d rest) (env0 d ns.length im) g)
    rw [hr]
    intro v F' H'' q1 q2 q3
    have ev : v = .bl true := by
      cases b with
      | true => simpa only [RepN, Rep] using q3
      | false => simpa only [Rep] using q3
    rw [ev]
    exact hQ H''
end
/-! ### the head's hook -/
abbrev AlP : Type := He.AlD × Bool
def obP (L : Lw) (K : PySem.W.Frag) : AlP := (He.obsD (factsOf L) (defdsOf L) K, L.gcs.all fun y => gcB K y)
def obG (L : Lw) (g : Addr → Option Obj) : AlP := obP L (He.frG g (He.asD g 4))
def hookP (L : Lw) : PySem.W.Hook where
  α := AlP
  obs := fun s => obG L s.heap.get?
  val := fun _ => (He.valD (defdsOf L), true)
  says := fun _ h => ∃ K : PySem.W.Frag, K.In h ∧ Says L K
  of := fun _ _ e => ⟨_, He.frG_in, ⟨congrArg Prod.fst e, congrArg Prod.snd e⟩⟩
  keeps := fun _ _ _ ⟨K, hK, c⟩ k => ⟨K, PySem.W.Frag.In.keeps hK k, c⟩
theorem obG_eq {L : Lw} {g : Addr → Option Obj} {s : Shared} (h : ∀ a, g a = s.heap.get? a) : obG L g = (hookP L).obs s := by
  have e : g = s.heap.get? := funext h
  rw [e]
  rfl
end Pm
set_option Elab.async false
set_option linter.all false
set_option autoImplicit false
set_option maxRecDepth 100000
set_option maxHeartbeats 4000000
namespace Pp
open PySem L2 Pm
/-! ### what a run ends with -/
structure Ok {α : Type} (r : R α) (Q : α → DrawSt → Prop) : Prop where
  ex : ∃ a g, r = .ok a g ∧ Q a g
section
variable {α β : Type} {Q Q' : α → DrawSt → Prop} {g : DrawSt}
theorem Ok.of {r : R α} {a : α} (e : r = .ok a g) (h : Q a g) : Ok r Q := ⟨a, g, e, h⟩
theorem Ok.at {a : α} (h : Q a g) : Ok (.ok a g) Q := ⟨a, g, rfl, h⟩
theorem Ok.mono {r : R α} (h : Ok r Q) (k : ∀ a g, Q a g → Q' a g) : Ok r Q' := by
  obtain ⟨a, g, e, q⟩ := h.ex
  exact .of e (k a g q)
@[simp] theorem Ok_ok {a : α} : Ok (.ok a g) Q ↔ Q a g := by
  constructor
  · rintro ⟨a, g, e, q⟩
    cases e
    exact q
  · exact Ok.at
@[simp] theorem Ok_bad : ¬ Ok (.bad) Q := fun ⟨_, _, e, _⟩ => nomatch e
theorem Ok_bind {r : R α} {f : α → DrawSt → R β} {Q : β → DrawSt → Prop} : Ok (r.bind f) Q ↔ Ok r fun a g => Ok (f a g) Q := by
  constructor
  · intro h
    cases r with
    | ok a g => exact .at h
    | exc _ _ _ => obtain ⟨_, _, e, _⟩ := h; cases e
    | bad => obtain ⟨_, _, e, _⟩ := h; cases e
  · rintro ⟨a, g, rfl, q⟩
    exact q
theorem Ok.bind {r : R α} {f : α → DrawSt → R β} {P : α → DrawSt → Prop} {Q : β → DrawSt → Prop} (h : Ok r P) (k : ∀ a g, P a g → Ok (f a g) Q) : Ok (r.bind f) Q := Ok_bind.mpr (h.mono k)
@[simp] theorem b_ok {a : α} {f : α → DrawSt → R β} : (R.ok a g).bind f = f a g := (rfl)
@[simp] theorem b_bad {f : α → DrawSt → R β} : (R.bad : R α).bind f = .bad := (rfl)
@[simp] theorem o_some {a : α} : R.of (some a) g = .ok a g := (rfl)
@[simp] theorem o_none : R.of (none : Option α) g = .bad := (rfl)
@[simp] theorem b_as {γ : Type} {r : R α} {f : α → DrawSt → R β} {k : β → DrawSt → R γ} : (r.bind f).bind k = r.bind fun a g => (f a g).bind k := by cases r <;> rfl
@[simp] theorem n_ok {a : α} : (R.ok a g).nox = .ok a g := (rfl)
theorem b_ite {c : Prop} [Decidable c] {a b : R α} {f : α → DrawSt → R β} : (if c then a else b).bind f = if c then a.bind f else b.bind f := by split <;> rfl
end
/-! ### slots -/
section
variable {o : Option Val} {e : Pm.Env} {i : Nat} {g : DrawSt} {C : CallT} {B : Option Nat} {a b c x y lo hi as r s inner : PX} {t : Tgt} {own : List Nat}
@[simp] theorem getE_zero : getE (o :: e) 0 = o := by cases o <;> rfl
@[simp] theorem getE_succ : getE (o :: e) (i + 1) = getE e i := (rfl)
@[simp] theorem asInt_int {i : Int} : asInt (.int i) g = .ok i g := (rfl)
@[simp] theorem asBl_bl {b : Bool} : asBl (.bl b) g = .ok b g := (rfl)
@[simp] theorem truth_bl {b : Bool} : truth (.bl b) = some b := (rfl)
@[simp] theorem e_sl : ev C B (.sl i) e g = .of (getE e i) g := (rfl)
@[simp] theorem e_pk : ev C B (.pk i) e g = .of (getE e i) g := (rfl)
@[simp] theorem e_bor : ev C B (.bor i) e g = .of (getE e i) g := (rfl)
@[simp] theorem e_c {v : Val} : ev C B (.c v) e g = .ok v g := (rfl)
@[simp] theorem e_bin {o : Bop} : ev C B (.bin o a b) e g = (ev C B a e g).bind fun x g => (ev C B b e g).bind fun y g => .of (vBin o x y) g := (rfl)
@[simp] theorem e_neg : ev C B (.neg a) e g = (ev C B a e g).bind fun x g => (asInt x g).bind fun i g => .ok (.int (-i)) g := (rfl)
@[simp] theorem e_nt : ev C B (.nt a) e g = (ev C B a e g).bind fun x g => (asBl x g).bind fun b g => .ok (.bl (!b)) g := (rfl)
@[simp] theorem e_cmp {o : Cop} : ev C B (.cmp o a b) e g = (ev C B a e g).bind fun x g => (ev C B b e g).bind fun y g => .of ((vCmp o x y).map .bl) g := (rfl)
/-- a test -/
def tst {α : Type} (k : Bool) (p q : R α) : R α := match k with
  | true => p
  | false => q
@[simp] theorem tst_t {α : Type} {p q : R α} : tst true p q = p := (rfl)
@[simp] theorem tst_f {α : Type} {p q : R α} : tst false p q = q := (rfl)
@[simp] theorem b_tst {α β : Type} {k : Bool} {p q : R α} {f : α → DrawSt → R β} : (tst k p q).bind f = tst k (p.bind f) (q.bind f) := by cases k <;> rfl
@[simp] theorem tst_nt {α : Type} {k : Bool} {p q : R α} : tst (!k) p q = tst k q p := by cases k <;> rfl
theorem Ok_tst {α : Type} {k : Bool} {p q : R α} {Q : α → DrawSt → Prop} : Ok (tst k p q) Q ↔ (k = true → Ok p Q) ∧ (k = false → Ok q Q) := by cases k <;> simp
@[simp] theorem e_chn {o1 o2 : Cop} : ev C B (.chn o1 o2 a b c) e g = (ev C B a e g).bind fun x g => (ev C B b e g).bind fun y g => (R.of (vCmp o1 x y) g).bind fun k g => tst k ((ev C B c e g).bind fun z g => .of ((vCmp o2 y z).map .bl) g) (.ok (.bl false) g) := (rfl)
@[simp] theorem e_an : ev C B (.an a b) e g = (ev C B a e g).bind fun x g => (asBl x g).bind fun k g => tst k (ev C B b e g) (.ok (.bl false) g) := (rfl)
@[simp] theorem e_oo : ev C B (.oo a b) e g = (ev C B a e g).bind fun x g => (asBl x g).bind fun k g => tst k (.ok (.bl true) g) (ev C B b e g) := (rfl)
@[simp] theorem e_ite : ev C B (.ite c a b) e g = (ev C B c e g).bind fun x g => (R.of (truth x) g).bind fun k g => tst k (ev C B a e g) (ev C B b e g) := (rfl)
@[simp] theorem e_ix : ev C B (.ix a b) e g = (ev C B a e g).bind fun x g => (ev C B b e g).bind fun y g => .of (vIx x y) g := (rfl)
@[simp] theorem e_slc : ev C B (.slc a lo hi) e g = (ev C B a e g).bind fun x g => (evO C B lo e g).bind fun l g => (evO C B hi e g).bind fun h g => .of (vSlc x l h) g := (rfl)
@[simp] theorem e_ono : evO C B .no e g = .ok none g := (rfl)
@[simp] theorem e_part : evO C B (.part a) e g = (ev C B a e g).bind fun x g => (asInt x g).bind fun i g => .ok (some i) g := (rfl)
@[simp] theorem e_tup : ev C B (.tup as) e g = (evs C B as e g).bind fun xs g => if xs.length ≤ lim then .ok (.tup xs) g else .bad := (rfl)
@[simp] theorem e_lst : ev C B (.lst as) e g = (evs C B as e g).bind fun xs g => if xs.length ≤ lim then .ok (.lst xs) g else .bad := (rfl)
@[simp] theorem e_call {f : Nat} : ev C B (.call f as) e g = (evs C B as e g).bind fun xs g => (C f xs g).bind fun r g => .ok r.1 g := (rfl)
@[simp] theorem e_callb {f : Nat} : ev C B (.callb f as) e g = (evs C B as e g).bind fun xs g => (lent (C f xs g)).bind fun r g => .ok r.1 g := (rfl)
@[simp] theorem e_callN {f : Nat} : ev C B (.callN f as) e g = (evs C B as e g).bind fun xs g => (C f xs g).bind fun r g => if (r.2 || notLst r.1) = true then .ok r.1 g else .bad := (rfl)
@[simp] theorem e_pr {p : Prim} : ev C B (.pr p as) e g = (evs C B as e g).bind fun xs g => .of (vPrim p xs) g := (rfl)
@[simp] theorem e_idx : ev C B (.idx a b) e g = (ev C B a e g).bind fun x g => (R.of (isL x) g).bind fun _ g => (ev C B b e g).bind fun y g => .of (vPrim .index [x, y]) g := (rfl)
def drawR (B : Option Nat) (x y : Val) (g : DrawSt) : R Val := match x with
  | .drw => (asInt y g).bind fun l g => if 0 < l ∧ l ≤ 1000000 ∧ chk B g.spot = true then .ok (.int (drawF g l).1) (drawF g l).2 else .bad
  | _ => .bad
@[simp] theorem e_draw : ev C B (.draw a b) e g = (ev C B a e g).bind fun x g => (ev C B b e g).bind fun y g => drawR B x y g := (rfl)
def oneT (C : CallT) (B : Option Nat) (t : Tgt) (c inner : PX) (e : Pm.Env) (x : Val) (g : DrawSt) : R (List Val) := (R.of (bindT t x e) g).bind fun e' g => (ev C B c e' g).bind fun b g => (R.of (truth b) g).bind fun k g => tst k (evG C B inner e' g) (.ok [] g)
@[simp] theorem e_comp : ev C B (.comp own t s c inner) e g = (evS C B s e g).bind fun xs g => (turns (oneT C B t c inner (wipeE e own)) xs [] g).nox.bind fun ys g => .ok (.lst ys) g := (rfl)
@[simp] theorem e_gen : evG C B (.gen t s c inner) e g = (evS C B s e g).bind fun xs g => turns (oneT C B t c inner e) xs [] g := (rfl)
@[simp] theorem e_yld : evG C B (.yld a) e g = (ev C B a e g).bind fun x g => .ok [x] g := (rfl)
@[simp] theorem e_nil : evs C B .nil e g = .ok [] g := (rfl)
@[simp] theorem e_cons : evs C B (.cons a r) e g = (ev C B a e g).bind fun x g => (evs C B r e g).bind fun xs g => .ok (x :: xs) g := (rfl)
@[simp] theorem e_scons : evs C B (.scons a r) e g = (ev C B a e g).bind fun x g => (R.of (items x) g).bind fun xs g => (evs C B r e g).bind fun ys g => .ok (xs ++ ys) g := (rfl)
@[simp] theorem e_rng : evS C B (.rng a b) e g = (ev C B a e g).bind fun x g => (ev C B b e g).bind fun y g => (asInt x g).bind fun lo g => (asInt y g).bind fun hi g => .of (rangeV lo hi) g := (rfl)
@[simp] theorem e_enm : evS C B (.enm a) e g = (ev C B a e g).bind fun x g => .of ((items x).map (enumV 0)) g := (rfl)
@[simp] theorem e_zip : evS C B (.zip a b) e g = (ev C B a e g).bind fun x g => (ev C B b e g).bind fun y g => (R.of (items x) g).bind fun xs g => (R.of (items y) g).bind fun ys g => .ok (zipV xs ys) g := (rfl)
@[simp] theorem e_it : evS C B (.it a) e g = (ev C B a e g).bind fun x g => .of (items x) g := (rfl)
end
/-! ### statements -/
section
variable {e : Pm.Env} {g : DrawSt} {C : CallT} {B : Option Nat} {a b as c s k : PX} {p q body : ST} {t : Tgt} {i j : Nat}
/-- what follows a statement -/
def thn (fl : Fl) (f : Pm.Env → R Fl) (g : DrawSt) : R Fl := match fl with
  | .nx e => f e
  | .bk e => .ok (.bk e) g
  | .ct e => .ok (.ct e) g
  | .rt v k => .ok (.rt v k) g
@[simp] theorem thn_nx {f : Pm.Env → R Fl} : thn (.nx e) f g = f e := (rfl)
@[simp] theorem thn_rt {f : Pm.Env → R Fl} {v : Val} {k : Bool} : thn (.rt v k) f g = .ok (.rt v k) g := (rfl)
@[simp] theorem thn_bk {f : Pm.Env → R Fl} : thn (.bk e) f g = .ok (.bk e) g := (rfl)
@[simp] theorem thn_ct {f : Pm.Env → R Fl} : thn (.ct e) f g = .ok (.ct e) g := (rfl)
@[simp] theorem x_skip : exs C B .skip e g = .ok (.nx e) g := (rfl)
@[simp] theorem x_seq : exs C B (.seq p q) e g = (exs C B p e g).bind fun fl g => thn fl (fun e => exs C B q e g) g := (rfl)
@[simp] theorem x_asg : exs C B (.asg t a) e g = (ev C B a e g).bind fun x g => (R.of (bindT t x e) g).bind fun e g => .ok (.nx e) g := (rfl)
@[simp] theorem x_asgN : exs C B (.asgN i a) e g = (ev C B a e g).bind fun x g => putE e i x g := (rfl)
@[simp] theorem x_par {ts : List (Nat × Bool)} : exs C B (.par ts as) e g = (evs C B as e g).bind fun xs g => (R.of (bindP ts xs e) g).bind fun e g => .ok (.nx e) g := (rfl)
@[simp] theorem x_aug {o : Bool} : exs C B (.aug i o a) e g = (R.of (getE e i) g).bind fun x g => (ev C B a e g).bind fun y g => (R.of (augV o (some x) y) g).bind fun z g => putE e i z g := (rfl)
@[simp] theorem x_setI : exs C B (.setI i k a) e g = (ev C B a e g).bind fun x g => (R.of (getE e i) g).bind fun y g => (ev C B k e g).bind fun n g => (R.of (setV (some y) n x) g).bind fun z g => putE e i z g := (rfl)
@[simp] theorem x_app : exs C B (.app i a) e g = (R.of (lstE (getE e i)) g).bind fun y g => (ev C B a e g).bind fun x g => (R.of (appV (some y) x) g).bind fun z g => putE e i z g := (rfl)
@[simp] theorem x_ext : exs C B (.ext i a) e g = (R.of (lstE (getE e i)) g).bind fun y g => (ev C B a e g).bind fun x g => (R.of (extV (some y) x) g).bind fun z g => putE e i z g := (rfl)
@[simp] theorem x_appPop : exs C B (.appPop i j k) e g = (R.of (lstE (getE e i)) g).bind fun y g => (R.of (lstE (getE e j)) g).bind fun z g => (ev C B k e g).bind fun n g => (R.of (popV (some z) n) g).bind fun p g => (R.of (appV (some y) p.1) g).bind fun w g =>
    if i < e.length ∧ j < e.length then .ok (.nx ((e.set j (some p.2)).set i (some w))) g else .bad := (rfl)
@[simp] theorem x_xpr : exs C B (.xpr a) e g = (ev C B a e g).bind fun _ g => .ok (.nx e) g := (rfl)
@[simp] theorem x_ife : exs C B (.ife c p q) e g = (ev C B c e g).bind fun x g => (R.of (truth x) g).bind fun k g => tst k (exs C B p e g) (exs C B q e g) := (rfl)
def bodyT (C : CallT) (B : Option Nat) (t : Tgt) (body : ST) (x : Val) (e : Pm.Env) (g : DrawSt) : R Fl := (R.of (bindT t x e) g).bind fun e g => exs C B body e g
@[simp] theorem x_for : exs C B (.for_ t s body) e g = (evS C B s e g).bind fun xs g => forT (bodyT C B t body) xs e g := (rfl)
def condT (C : CallT) (B : Option Nat) (c : PX) (e : Pm.Env) (g : DrawSt) : R Bool := (ev C B c e g).bind fun x g => R.of (truth x) g
@[simp] theorem x_whl : exs C B (.whl c body) e g = whlT (condT C B c) (exs C B body) whlMost e g := (rfl)
@[simp] theorem x_ret : exs C B (.ret a) e g = (ev C B a e g).bind fun x g => .ok (.rt x false) g := (rfl)
@[simp] theorem x_retN : exs C B (.retN a) e g = (ev C B a e g).bind fun x g => .ok (.rt x true) g := (rfl)
@[simp] theorem x_retM : exs C B (.retM i) e g = (R.of (getE e i) g).bind fun x g => .ok (.rt x true) g := (rfl)
@[simp] theorem x_brk : exs C B .brk e g = .ok (.bk e) g := (rfl)
@[simp] theorem x_cnt : exs C B .cnt e g = .ok (.ct e) g := (rfl)
@[simp] theorem outOf_rt {v : Val} {b : Bool} : outOf (.rt v b) g = .ok (v, b) g := (rfl)
@[simp] theorem outOf_nx : outOf (.nx e) g = .ok (.non, false) g := (rfl)
end
theorem call_of {G : Glob} {n f ar sl : Nat} {b : ST} {xs : List Val} {g : DrawSt} (h : tabOf G f = some ⟨ar, sl, b⟩) (hl : xs.length = ar) (hs : ar ≤ sl) :
    callG G (n + 1) f xs g = (exs (callG G n) B60 b (xs.map some ++ List.replicate (sl - ar) none) g).bind fun fl g => outOf fl g := by
  show (match tabOf G f with | none => R.bad | some d => _) = _
  rw [h]
  dsimp only
  rw [if_pos ⟨hl, hs⟩]
  rfl
end Pp
set_option Elab.async false
set_option linter.all false
set_option autoImplicit false
set_option maxRecDepth 100000
set_option maxHeartbeats 4000000
namespace Pp
open PySem L2 Pm
/-! ### comprehensions -/
section
variable {f : Val → DrawSt → R (List Val)} {g : DrawSt}
theorem turns_flat {h : Val → List Val} : ∀ {xs acc : List Val}, (∀ x ∈ xs, f x g = .ok (h x) g) → acc.length + (xs.flatMap h).length ≤ lim → turns f xs acc g = .ok (acc ++ xs.flatMap h) g
  | [], acc, _, _ => by simp [turns]
  | x :: xs, acc, hf, hl => by
    have hl' : acc.length + ((h x).length + (xs.flatMap h).length) ≤ lim := by simpa using hl
    have e : turns f (x :: xs) acc g = turns f xs (acc ++ h x) g := by
      show ((f x g).bind fun ys g => if acc.length + ys.length ≤ lim then turns f xs (acc ++ ys) g else .bad) = _
      rw [hf x (List.mem_cons_self ..)]
      show (if acc.length + (h x).length ≤ lim then turns f xs (acc ++ h x) g else .bad) = _
      rw [if_pos (by omega)]
    rw [e, turns_flat (fun y hy => hf y (List.mem_cons_of_mem _ hy)) (by rw [List.length_append]; omega)]
    simp
theorem turns_map {h : Val → Val} {xs : List Val} (hf : ∀ x ∈ xs, f x g = .ok [h x] g) (hl : xs.length ≤ lim) : turns f xs [] g = .ok (xs.map h) g := by
  have e : xs.flatMap (fun x => [h x]) = xs.map h := by induction xs with
    | nil => rfl
    | cons x r ih => simp [List.flatMap_cons, ih (fun y hy => hf y (List.mem_cons_of_mem _ hy)) (by simp at hl; omega)]
  rw [turns_flat hf (by rw [e]; simpa using hl), e]
  rfl
theorem turns_filter {p : Val → Bool} {h : Val → Val} {xs : List Val} (hf : ∀ x ∈ xs, f x g = .ok (if p x then [h x] else []) g) (hl : xs.length ≤ lim) : turns f xs [] g = .ok ((xs.filter p).map h) g := by
  have e : ∀ ys : List Val, ys.flatMap (fun x => if p x = true then [h x] else []) = (ys.filter p).map h := fun ys => by
    induction ys with
    | nil => rfl
    | cons x r ih =>
      by_cases q : p x = true
      · simp [List.flatMap_cons, ih, q]
      · simp [List.flatMap_cons, ih, q]
  have hl' : ((xs.filter p).map h).length ≤ lim := by
    rw [List.length_map]; exact Nat.le_trans (List.length_filter_le ..) hl
  rw [turns_flat hf (by rw [e]; simpa using hl'), e]
  rfl
/-- with draws: what was made so far -/
theorem turns_inv (P : Nat → List Val → DrawSt → Prop) {xs : List Val} (hl : ∀ i acc g, i ≤ xs.length → P i acc g → acc.length ≤ lim)
    (hs : ∀ i x acc g, xs[i]? = some x → P i acc g → Ok (f x g) fun ys g' => P (i + 1) (acc ++ ys) g') (h0 : P 0 [] g) : Ok (turns f xs [] g) fun ys g' => P xs.length ys g' := by
  have key : ∀ (r : List Val) (i : Nat) (acc : List Val) (g : DrawSt), xs.drop i = r → i ≤ xs.length → P i acc g → Ok (turns f r acc g) fun ys g' => P xs.length ys g' := by
    intro r
    induction r with
    | nil =>
      intro i acc g hr hi hp
      have : i = xs.length := by
        have := congrArg List.length hr
        simp at this; omega
      subst this
      exact .at hp
    | cons x r ih =>
      intro i acc g hr hi hp
      have hx : xs[i]? = some x := by
        have := congrArg (fun l => l[0]?) hr
        simpa using this
      have hi' : i < xs.length := (List.getElem?_eq_some_iff.mp hx).1
      have hr' : xs.drop (i + 1) = r := by
        have := congrArg List.tail hr
        simpa [List.tail_drop] using this
      show Ok ((f x g).bind fun ys g => if acc.length + ys.length ≤ lim then turns f r (acc ++ ys) g else .bad) _
      refine (hs i x acc g hx hp).bind fun ys g' h => ?_
      have := hl (i + 1) _ g' hi' h
      rw [List.length_append] at this
      rw [if_pos this]
      exact ih (i + 1) _ g' hr' hi' h
  exact key xs 0 [] g rfl (Nat.zero_le _) h0
end
/-! ### loops -/
section
variable {f : Val → Pm.Env → DrawSt → R Fl}
/-- a for: P between the turns, W what may be returned -/
theorem forT_inv (P : Nat → Pm.Env → DrawSt → Prop) (W : Val → Bool → DrawSt → Prop) {xs : List Val} {e : Pm.Env} {g : DrawSt} (h0 : P 0 e g)
    (hs : ∀ i x e g, xs[i]? = some x → P i e g → Ok (f x e g) fun fl g' => (∃ e', fl = .nx e' ∧ P (i + 1) e' g') ∨ ∃ v b, fl = .rt v b ∧ W v b g') :
    Ok (forT f xs e g) fun fl g' => (∃ e', fl = .nx e' ∧ P xs.length e' g') ∨ ∃ v b, fl = .rt v b ∧ W v b g' := by
  have key : ∀ (r : List Val) (i : Nat) (e : Pm.Env) (g : DrawSt), xs.drop i = r → i ≤ xs.length → P i e g → Ok (forT f r e g) fun fl g' => (∃ e', fl = .nx e' ∧ P xs.length e' g') ∨ ∃ v b, fl = .rt v b ∧ W v b g' := by
    intro r
    induction r with
    | nil =>
      intro i e g hr hi hp
      have : i = xs.length := by
        have := congrArg List.length hr
        simp at this; omega
      subst this
      exact .at (.inl ⟨e, rfl, hp⟩)
    | cons x r ih =>
      intro i e g hr hi hp
      have hx : xs[i]? = some x := by
        have := congrArg (fun l => l[0]?) hr
        simpa using this
      have hi' : i < xs.length := (List.getElem?_eq_some_iff.mp hx).1
      have hr' : xs.drop (i + 1) = r := by
        have := congrArg List.tail hr
        simpa [List.tail_drop] using this
      refine (hs i x e g hx hp).bind fun fl g' h => ?_
      rcases h with ⟨e', rfl, h⟩ | ⟨v, b, rfl, h⟩
      · exact ih (i + 1) e' g' hr' hi' h
      · exact .at (.inr ⟨v, b, rfl, h⟩)
  exact key xs 0 e g rfl (Nat.zero_le _) h0
/-- a for that goes through -/
theorem forT_all (P : Nat → Pm.Env → DrawSt → Prop) {xs : List Val} {e : Pm.Env} {g : DrawSt} (h0 : P 0 e g)
    (hs : ∀ i x e g, xs[i]? = some x → P i e g → Ok (f x e g) fun fl g' => ∃ e', fl = .nx e' ∧ P (i + 1) e' g') :
    Ok (forT f xs e g) fun fl g' => ∃ e', fl = .nx e' ∧ P xs.length e' g' :=
  (forT_inv P (fun _ _ _ => False) h0 fun i x e g hx hp => (hs i x e g hx hp).mono fun _ _ h => .inl h).mono fun _ _ h => h.elim id fun ⟨_, _, _, z⟩ => z.elim
/-- a while: at most m more turns -/
theorem whlT_inv {c : Pm.Env → DrawSt → R Bool} {f : Pm.Env → DrawSt → R Fl} (P : Nat → Pm.Env → DrawSt → Prop) (D : Pm.Env → DrawSt → Prop) (W : Val → Bool → DrawSt → Prop)
    (hs : ∀ m e g, P m e g → Ok (c e g) fun b g => match b with
      | true => ∃ m', m = m' + 1 ∧ Ok (f e g) fun fl g' => (∃ e', fl = .nx e' ∧ P m' e' g') ∨ ∃ v b, fl = .rt v b ∧ W v b g'
      | false => D e g) :
    ∀ {m n : Nat} {e : Pm.Env} {g : DrawSt}, P m e g → m < n → Ok (whlT c f n e g) fun fl g' => (∃ e', fl = .nx e' ∧ D e' g') ∨ ∃ v b, fl = .rt v b ∧ W v b g' := by
  intro m n
  induction n generalizing m with
  | zero => intro e g _ h; omega
  | succ n ih =>
    intro e g hp hm
    show Ok ((c e g).bind fun b g => match b with | true => _ | false => _) _
    refine (hs m e g hp).bind fun b g1 h => ?_
    cases b with
    | false => exact .at (.inl ⟨e, rfl, h⟩)
    | true =>
      obtain ⟨m', rfl, h⟩ := h
      refine h.bind fun fl g2 h => ?_
      rcases h with ⟨e', rfl, h⟩ | ⟨v, b, rfl, h⟩
      · exact ih h (by omega)
      · exact .at (.inr ⟨v, b, rfl, h⟩)
end
/-! ### ranges, walks -/
theorem rangeV_nat {n : Nat} (h : n ≤ lim) : rangeV 0 (n : Int) = some ((List.range n).map fun (k : Nat) => Val.int (k : Int)) := by
  have h' : n ≤ 100000 := h
  have hc : -(2 ^ 62) ≤ (0 : Int) ∧ (0 : Int) < 2 ^ 62 ∧ -(2 ^ 62) ≤ (n : Int) ∧ (n : Int) < 2 ^ 62 ∧ ((n : Int) - 0).toNat ≤ lim := ⟨by decide, by decide, by omega, by omega, by simpa using h⟩
  unfold rangeV
  rw [if_pos hc]
  simp
theorem range_get {n i : Nat} {x : Val} (h : ((List.range n).map fun (k : Nat) => Val.int (k : Int))[i]? = some x) : i < n ∧ x = .int (i : Int) := by
  rw [List.getElem?_map] at h
  cases q : (List.range n)[i]? with
  | none => rw [q] at h; cases h
  | some k =>
    rw [q] at h
    cases h
    rw [List.getElem?_eq_some_iff] at q
    obtain ⟨h1, h2⟩ := q
    simp at h1 h2
    subst h2
    exact ⟨h1, rfl⟩
theorem draw_spec {l : Int} {g : DrawSt} {Q : Val → DrawSt → Prop} (h0 : 0 < l) (h1 : l ≤ 1000000) (hs : g.spot < 2 ^ 60) (hq : ∀ (v : Nat) g', (v : Int) < l → g'.spot = g.spot + 1 → Q (.int v) g') : Ok (drawR B60 .drw (.int l) g) Q := by
  show Ok (if 0 < l ∧ l ≤ 1000000 ∧ chk B60 g.spot = true then R.ok (.int (drawF g l).1) (drawF g l).2 else .bad) Q
  rw [if_pos ⟨h0, h1, by simpa [chk] using hs⟩]
  have hb : 0 ≤ (drawF g l).1 ∧ (drawF g l).1 < l ∧ (drawF g l).2.spot = g.spot + 1 := by
    unfold drawF
    dsimp only
    split
    · exact ⟨Int.emod_nonneg _ (by omega), Int.emod_lt_of_pos _ h0, rfl⟩
    · split
      · exact ⟨Int.emod_nonneg _ (by omega), Int.emod_lt_of_pos _ h0, rfl⟩
      · exact ⟨Int.emod_nonneg _ (by omega), Int.emod_lt_of_pos _ h0, rfl⟩
  have := hq (drawF g l).1.toNat (drawF g l).2 (by omega) hb.2.2
  rw [Int.toNat_of_nonneg hb.1] at this
  exact .at this
end Pp
set_option Elab.async false
set_option linter.all false
set_option autoImplicit false
set_option maxRecDepth 100000
set_option maxHeartbeats 4000000
namespace Pp
open PySem L2 Pm
/-! ### what repr tells of values that are not great -/
def leafOk (d : PyData) : Bool := d.showable && decide (d.shown.length ≤ 100) && d.canLay0 && PyData.strOk d.shown
mutual
def tm : Val → Bool
  | .tup xs => tms xs
  | .lst xs => tms xs
  | .drw => false
  | .scr _ => false
  | .non => leafOk .none
  | .bl b => leafOk (.bool b)
  | .int i => leafOk (.int i)
  | .str s => leafOk (.str s)
def tms : List Val → Bool
  | [] => true
  | x :: xs => tm x && tms xs
end
mutual
def wt : Val → Nat
  | .tup xs => 1 + wts xs
  | .lst xs => 1 + wts xs
  | .drw => 1 | .scr _ => 1 | .non => 1 | .bl _ => 1 | .int _ => 1 | .str _ => 1
def wts : List Val → Nat
  | [] => 0
  | x :: xs => wt x + wts xs
end
mutual
def dpv : Val → Nat
  | .tup xs => dpvs xs + 1
  | .lst xs => dpvs xs + 1
  | .drw => 0 | .scr _ => 0 | .non => 0 | .bl _ => 0 | .int _ => 0 | .str _ => 0
def dpvs : List Val → Nat
  | [] => 0
  | x :: xs => max (dpv x) (dpvs xs)
end
theorem strOk_app (a b : Str) : PyData.strOk (a ++ b) = (PyData.strOk a && PyData.strOk b) := by
  show (a.cps ++ b.cps).all _ = _
  rw [Array.all_append]
  rfl
theorem textFrom_le : ∀ (ts : List Str) (k : Nat) (acc : Str), (textFrom k acc ts).length ≤ acc.length + piled ts
  | [], k, acc => by show acc.length ≤ _; omega
  | t :: r, k, acc => by
    have ih := textFrom_le r (k + 1) (acc ++ (if k > 0 then ", " else "" : String) ++ t)
    show (textFrom (k + 1) (acc ++ (if k > 0 then ", " else "" : String) ++ t) r).length ≤ _
    rw [strLen_append, strLen_append] at ih
    have : (((if k > 0 then ", " else "" : String) : Str)).length ≤ 2 := by split <;> decide
    rw [piled_cons]
    omega
theorem textFrom_ok : ∀ (ts : List Str) (k : Nat) (acc : Str), PyData.strOk acc = true → (∀ t ∈ ts, PyData.strOk t = true) → PyData.strOk (textFrom k acc ts) = true
  | [], k, acc, h, _ => h
  | t :: r, k, acc, h, ht => by
    refine textFrom_ok r (k + 1) _ ?_ fun u hu => ht u (List.mem_cons_of_mem _ hu)
    rw [strOk_app, strOk_app, h, ht t (List.mem_cons_self ..)]
    split <;> decide +kernel
theorem join_ok : ∀ ts : List Str, (∀ t ∈ ts, PyData.strOk t = true) → PyData.strOk (Str.join ", " ts) = true
  | [], _ => by decide +kernel
  | [x], h => h x (List.mem_cons_self ..)
  | x :: y :: r, h => by
    show PyData.strOk (x ++ ", " ++ Str.join ", " (y :: r)) = true
    rw [strOk_app, strOk_app, h x (List.mem_cons_self ..), join_ok (y :: r) fun u hu => h u (List.mem_cons_of_mem _ hu)]
    decide +kernel
structure Tame (v : Val) (d : PyData) : Prop where
  eq : toD v = some d
  sh : d.showable = true
  len : d.shown.length + 2 ≤ 110 * wt v
  dep : d.depth ≤ dpv v
  lay : d.canLay0 = true
  str : PyData.strOk d.shown = true
structure Tames (vs : List Val) (ds : List PyData) : Prop where
  eq : toDs vs = some ds
  sh : PyData.showableAll ds = true
  len : piled (PyData.shownAll ds) ≤ 110 * wts vs
  dep : PyData.depthAll ds ≤ dpvs vs
  lay : PyData.canLayAll0 ds = true
  str : ∀ t ∈ PyData.shownAll ds, PyData.strOk t = true
  num : (PyData.shownAll ds).length = vs.length
theorem leafOk_iff {d : PyData} : leafOk d = true ↔ d.showable = true ∧ d.shown.length ≤ 100 ∧ d.canLay0 = true ∧ PyData.strOk d.shown = true := by
  simp [leafOk, and_assoc]
theorem wts_len : ∀ xs : List Val, xs.length ≤ wts xs
  | [] => Nat.le_refl _
  | x :: xs => by
    have := wts_len xs
    have h : 1 ≤ wt x := by cases x <;> simp [wt]
    simp only [List.length_cons, wts]
    omega
theorem tup_len (ts : List Str) : (tupleText ts).length ≤ piled ts + 3 := by
  unfold tupleText
  rw [strLen_append, strLen_append]
  have e1 : ((("(" : String) : Str)).length = 1 := rfl
  have e3 : (((if ts.length == 1 then ",)" else ")" : String) : Str)).length ≤ 2 := by split <;> decide
  have e4 : (Str.join ", " ts).length ≤ piled ts := by
    by_cases h : ts = []
    · subst h; decide
    · have := join_length_add ts h; omega
  rw [e1]; omega
theorem lst_len (ts : List Str) : (listText ts).length ≤ piled ts + 2 := by
  unfold listText
  rw [strLen_append]
  have := textFrom_le ts 0 "["
  have e1 : ((("[" : String) : Str)).length = 1 := rfl
  have e2 : ((("]" : String) : Str)).length = 1 := rfl
  omega
theorem leaf_tame {v : Val} {d : PyData} (e : toD v = some d) (h : leafOk d = true) (hw : wt v = 1) (hd : d.depth = 0) : Tame v d := by
  obtain ⟨h1, h2, h3, h4⟩ := leafOk_iff.mp h
  exact ⟨e, h1, by rw [hw]; omega, by rw [hd]; exact Nat.zero_le _, h3, h4⟩
mutual
theorem tame_of : ∀ v : Val, tm v = true → ∃ d, Tame v d
  | .non, h => ⟨_, leaf_tame (d := .none) rfl (by simpa [tm] using h) rfl rfl⟩
  | .bl b, h => ⟨_, leaf_tame (d := .bool b) rfl (by simpa [tm] using h) rfl rfl⟩
  | .int i, h => ⟨_, leaf_tame (d := .int i) rfl (by simpa [tm] using h) rfl rfl⟩
  | .str s, h => ⟨_, leaf_tame (d := .str s) rfl (by simpa [tm] using h) rfl rfl⟩
  | .drw, h => by simp [tm] at h
  | .scr _, h => by simp [tm] at h
  | .tup xs, h => by
    obtain ⟨ds, t⟩ := tames_of xs (by simpa [tm] using h)
    have hl := wts_len xs
    refine ⟨.tuple ds, by simp [toD, t.eq], by simpa [PyData.showable] using t.sh, ?_, ?_, by simpa [PyData.canLay0] using t.lay, ?_⟩
    · have := tup_len (PyData.shownAll ds)
      have := t.len
      simp only [PyData.shown, wt]
      omega
    · have := t.dep
      simp only [PyData.depth, dpv]; omega
    · simp only [PyData.shown, tupleText]
      rw [strOk_app, strOk_app, join_ok _ t.str]
      split <;> decide +kernel
  | .lst xs, h => by
    obtain ⟨ds, t⟩ := tames_of xs (by simpa [tm] using h)
    have hl := wts_len xs
    refine ⟨.list ds, by simp [toD, t.eq], by simpa [PyData.showable] using t.sh, ?_, ?_, by simpa [PyData.canLay0] using t.lay, ?_⟩
    · have := lst_len (PyData.shownAll ds)
      have := t.len
      simp only [PyData.shown, wt]
      omega
    · have := t.dep
      simp only [PyData.depth, dpv]; omega
    · simp only [PyData.shown, listText]
      rw [strOk_app, textFrom_ok _ _ _ (by decide +kernel) t.str]
      decide +kernel
theorem tames_of : ∀ vs : List Val, tms vs = true → ∃ ds, Tames vs ds
  | [], _ => ⟨[], by simp [toDs], by simp [PyData.showableAll], by simp [PyData.shownAll, piled_nil], by simp [PyData.depthAll], by simp [PyData.canLayAll0], by simp [PyData.shownAll], by simp [PyData.shownAll]⟩
  | v :: vs, h => by
    simp only [tms, Bool.and_eq_true] at h
    obtain ⟨d, t⟩ := tame_of v h.1
    obtain ⟨ds, ts⟩ := tames_of vs h.2
    refine ⟨d :: ds, by simp [toDs, t.eq, ts.eq], by simp [PyData.showableAll, t.sh, ts.sh], ?_, ?_, by simp [PyData.canLayAll0, t.lay, ts.lay], ?_, by simp [PyData.shownAll, ts.num]⟩
    · have := t.len
      have := ts.len
      simp only [PyData.shownAll, piled_cons, wts, List.length_cons]; omega
    · have := t.dep
      have := ts.dep
      simp only [PyData.depthAll, dpvs]; omega
    · intro u hu
      simp only [PyData.shownAll, List.mem_cons] at hu
      rcases hu with rfl | hu
      · exact t.str
      · exact ts.str u hu
end
def shV (v : Val) : Str := ((toD v).map PyData.shown).getD ""
/-- repr(v) -/
theorem repr_ok {v : Val} (h : tm v = true) (hw : wt v ≤ 100000) (hd : dpv v ≤ 64) : vPrim .repr [v] = some (.str (shV v)) ∧ PyData.strOk (shV v) = true := by
  obtain ⟨d, t⟩ := tame_of v h
  have e : shV v = d.shown := by unfold shV; rw [t.eq]; rfl
  have hs : d.shown.length ≤ sizeLine := by
    have := t.len
    have e : sizeLine = 16777216 := by decide
    omega
  have hr : reprOk d = true := by
    unfold reprOk
    have := t.dep
    rw [t.sh, t.lay, decide_eq_true hs, decide_eq_true (show d.depth ≤ 64 by omega)]
    rfl
  refine ⟨?_, by rw [e]; exact t.str⟩
  show ((toD v).bind fun d => if reprOk d then some (Val.str d.shown) else none) = _
  rw [t.eq, e]
  simp [hr]
theorem vEq_str {a b : Str} (ha : PyData.strOk a = true) (hb : PyData.strOk b = true) : vEq (.str a) (.str b) = some (decide (a = b)) := by
  have sh : ∀ x : Str, PyData.strOk x = true → SeqAt.shaped (.str x) = true := fun x hx => by
    unfold SeqAt.shaped
    simp [PyData.canLay0, PyData.depth, hx]
  show (if SeqAt.shaped (.str a) && SeqAt.shaped (.str b) then some (PyData.eqv (.str a) (.str b)) else none) = _
  rw [sh a ha, sh b hb]
  simp only [Bool.and_self, if_true, PyData.eqv]
  rfl
theorem vEq_int {i j : Int} : vEq (.int i) (.int j) = some (decide (i = j)) := by
  show (if SeqAt.shaped (.int i) && SeqAt.shaped (.int j) then some (PyData.eqv (.int i) (.int j)) else none) = _
  have sh : ∀ i : Int, SeqAt.shaped (.int i) = true := fun i => by unfold SeqAt.shaped; simp [PyData.canLay0, PyData.depth]
  rw [sh i, sh j]
  simp only [Bool.and_self, if_true, PyData.eqv]
  rfl
theorem leaf_small : ∀ i : Int, -2 ≤ i → i < 1000 → leafOk (.int i) = true := by
  have h : ((List.range 1002).all fun n => leafOk (.int ((n : Int) - 2))) = true := by decide +kernel
  intro i h1 h2
  have := List.all_eq_true.mp h (i + 2).toNat (by simp; omega)
  rw [show (((i + 2).toNat : Nat) : Int) - 2 = i by omega] at this
  exact this
/-! ### equality of values without truth values and None -/
mutual
def nb : Val → Bool
  | .tup xs => nbs xs
  | .lst xs => nbs xs
  | .int _ => true
  | .str s => PyData.strOk s
  | .non => true
  | .bl _ => false | .drw => false | .scr _ => false
def nbs : List Val → Bool
  | [] => true
  | x :: xs => nb x && nbs xs
end
mutual
theorem nb_data : ∀ v : Val, nb v = true → ∃ d, toD v = some d ∧ d.canLay0 = true ∧ d.depth ≤ dpv v
  | .non, _ => ⟨.none, rfl, by simp [PyData.canLay0], by simp [PyData.depth]⟩
  | .int i, _ => ⟨.int i, rfl, by simp [PyData.canLay0], by simp [PyData.depth]⟩
  | .str s, h => ⟨.str s, rfl, by simpa [PyData.canLay0, nb] using h, by simp [PyData.depth]⟩
  | .bl _, h => by simp [nb] at h
  | .drw, h => by simp [nb] at h
  | .scr _, h => by simp [nb] at h
  | .tup xs, h => by
    obtain ⟨ds, h1, h2, h3⟩ := nbs_data xs (by simpa [nb] using h)
    exact ⟨.tuple ds, by simp [toD, h1], by simpa [PyData.canLay0] using h2, by simp only [PyData.depth, dpv]; omega⟩
  | .lst xs, h => by
    obtain ⟨ds, h1, h2, h3⟩ := nbs_data xs (by simpa [nb] using h)
    exact ⟨.list ds, by simp [toD, h1], by simpa [PyData.canLay0] using h2, by simp only [PyData.depth, dpv]; omega⟩
theorem nbs_data : ∀ vs : List Val, nbs vs = true → ∃ ds, toDs vs = some ds ∧ PyData.canLayAll0 ds = true ∧ PyData.depthAll ds ≤ dpvs vs
  | [], _ => ⟨[], rfl, by simp [PyData.canLayAll0], by simp [PyData.depthAll]⟩
  | v :: vs, h => by
    simp only [nbs, Bool.and_eq_true] at h
    obtain ⟨d, h1, h2, h3⟩ := nb_data v h.1
    obtain ⟨ds, k1, k2, k3⟩ := nbs_data vs h.2
    exact ⟨d :: ds, by simp [toDs, h1, k1], by simp [PyData.canLayAll0, h2, k2], by simp only [PyData.depthAll, dpvs]; omega⟩
end
mutual
theorem nb_eqv : ∀ (v w : Val) (d e : PyData), nb v = true → nb w = true → toD v = some d → toD w = some e → (PyData.eqv d e = true ↔ v = w)
  | .non, w, d, e, _, hw, h1, h2 => by
    cases w <;> simp [nb] at hw <;> simp [toD] at h1 h2 <;> (try obtain ⟨_, _, rfl⟩ := h2) <;> (try subst h2) <;> subst h1 <;> simp [PyData.eqv]
  | .int i, w, d, e, _, hw, h1, h2 => by
    cases w <;> simp [nb] at hw <;> simp [toD] at h1 h2 <;> (try obtain ⟨_, _, rfl⟩ := h2) <;> (try subst h2) <;> subst h1 <;> simp [PyData.eqv]
  | .str s, w, d, e, _, hw, h1, h2 => by
    cases w <;> simp [nb] at hw <;> simp [toD] at h1 h2 <;> (try obtain ⟨_, _, rfl⟩ := h2) <;> (try subst h2) <;> subst h1 <;> simp [PyData.eqv]
  | .bl _, _, _, _, h, _, _, _ => by simp [nb] at h
  | .drw, _, _, _, h, _, _, _ => by simp [nb] at h
  | .scr _, _, _, _, h, _, _, _ => by simp [nb] at h
  | .tup xs, w, d, e, hv, hw, h1, h2 => by
    simp [toD] at h1
    obtain ⟨ds, h1, rfl⟩ := h1
    cases w with
    | tup ys =>
      simp [toD] at h2
      obtain ⟨es, h2, rfl⟩ := h2
      simp only [PyData.eqv, Val.tup.injEq]
      exact nbs_eqv xs ys ds es (by simpa [nb] using hv) (by simpa [nb] using hw) h1 h2
    | _ => simp [nb] at hw <;> simp [toD] at h2 <;> (try obtain ⟨_, _, rfl⟩ := h2) <;> (try subst h2) <;> simp [PyData.eqv]
  | .lst xs, w, d, e, hv, hw, h1, h2 => by
    simp [toD] at h1
    obtain ⟨ds, h1, rfl⟩ := h1
    cases w with
    | lst ys =>
      simp [toD] at h2
      obtain ⟨es, h2, rfl⟩ := h2
      simp only [PyData.eqv, Val.lst.injEq]
      exact nbs_eqv xs ys ds es (by simpa [nb] using hv) (by simpa [nb] using hw) h1 h2
    | _ => simp [nb] at hw <;> simp [toD] at h2 <;> (try obtain ⟨_, _, rfl⟩ := h2) <;> (try subst h2) <;> simp [PyData.eqv]
theorem nbs_eqv : ∀ (vs ws : List Val) (ds es : List PyData), nbs vs = true → nbs ws = true → toDs vs = some ds → toDs ws = some es → (PyData.eqvAll ds es = true ↔ vs = ws)
  | [], [], ds, es, _, _, h1, h2 => by simp [toDs] at h1 h2; subst h1; subst h2; simp [PyData.eqvAll]
  | [], w :: ws, ds, es, _, hw, h1, h2 => by
    simp only [nbs, Bool.and_eq_true] at hw
    obtain ⟨e, k1, _, _⟩ := nb_data w hw.1
    obtain ⟨es', k2, _, _⟩ := nbs_data ws hw.2
    simp [toDs] at h1
    simp [toDs, k1, k2] at h2
    subst h1; subst h2; simp [PyData.eqvAll]
  | v :: vs, [], ds, es, hv, _, h1, h2 => by
    simp only [nbs, Bool.and_eq_true] at hv
    obtain ⟨e, k1, _, _⟩ := nb_data v hv.1
    obtain ⟨es', k2, _, _⟩ := nbs_data vs hv.2
    simp [toDs] at h2
    simp [toDs, k1, k2] at h1
    subst h1; subst h2; simp [PyData.eqvAll]
  | v :: vs, w :: ws, ds, es, hv, hw, h1, h2 => by
    simp only [nbs, Bool.and_eq_true] at hv hw
    obtain ⟨d, k1, _, _⟩ := nb_data v hv.1
    obtain ⟨ds', k2, _, _⟩ := nbs_data vs hv.2
    obtain ⟨e, k3, _, _⟩ := nb_data w hw.1
    obtain ⟨es', k4, _, _⟩ := nbs_data ws hw.2
    simp [toDs, k1, k2] at h1
    simp [toDs, k3, k4] at h2
    subst h1; subst h2
    simp only [PyData.eqvAll, Bool.and_eq_true, List.cons.injEq, nb_eqv v w d e hv.1 hw.1 k1 k3, nbs_eqv vs ws ds' es' hv.2 hw.2 k2 k4]
end
theorem vEq_nb {v w : Val} (hv : nb v = true) (hw : nb w = true) (dv : dpv v ≤ 64) (dw : dpv w ≤ 64) : ∃ b : Bool, vEq v w = some b ∧ (b = true ↔ v = w) := by
  obtain ⟨d, h1, h2, h3⟩ := nb_data v hv
  obtain ⟨e, k1, k2, k3⟩ := nb_data w hw
  refine ⟨PyData.eqv d e, ?_, nb_eqv v w d e hv hw h1 k1⟩
  unfold vEq
  rw [h1, k1]
  have s1 : SeqAt.shaped d = true := by unfold SeqAt.shaped; rw [h2, decide_eq_true (show d.depth ≤ 64 by omega)]; rfl
  have s2 : SeqAt.shaped e = true := by unfold SeqAt.shaped; rw [k2, decide_eq_true (show e.depth ≤ 64 by omega)]; rfl
  simp [s1, s2]
end Pp
set_option Elab.async false
set_option linter.all false
set_option autoImplicit false
set_option maxRecDepth 100000
set_option maxHeartbeats 4000000
namespace Pp
open PySem L2 Pm
/-! ### kinds and histories -/
abbrev iN (n : Nat) : Val := .int (n : Int)
def tZ (xs : List Nat) : Val := .tup (xs.map iN)
def tZZ (xs : List (List Nat)) : Val := .tup (xs.map tZ)
structure Kd where
  s : Nat
  u : List (List Nat)
  m : List (List Nat)
  r : List Nat
def Kd.v (k : Kd) : Val := .tup [iN k.s, tZZ k.u, tZZ k.m, tZ k.r]
def rowOk (n : Nat) (row : List Nat) : Prop := row.length = n ∧ ∀ x ∈ row, x < n
structure Kd.Ok (k : Kd) : Prop where
  r1 : 1 ≤ k.r.length
  r8 : k.r.length ≤ 8
  r9 : ∀ x ∈ k.r, x ≤ 9
  s : k.s < k.r.length
  u1 : 1 ≤ k.u.length
  u4 : k.u.length ≤ 4
  ur : ∀ row ∈ k.u, rowOk k.r.length row
  ml : k.m.length = k.r.length
  mr : ∀ row ∈ k.m, rowOk k.r.length row
/-- the i-th -/
def gN (xs : List Nat) (i : Nat) : Nat := xs.getD i 0
def gL (xs : List (List Nat)) (i : Nat) : List Nat := xs.getD i []
def Kd.up (k : Kd) (o s : Nat) : Nat := gN (gL k.u o) s
def Kd.mg (k : Kd) (a b : Nat) : Nat := gN (gL k.m a) b
abbrev Kd.n (k : Kd) : Nat := k.r.length
structure St3 where
  d : Bool
  c : Nat
  o : Nat
def wordV (d : Bool) : Str := if d = true then "do" else "hear"
def St3.v (s : St3) : Val := .tup [.str (wordV s.d), iN s.c, iN s.o]
def hv (n : Nat) (ss : List St3) : Val := .tup [iN n, .tup (ss.map St3.v)]
structure St3.Ok (k : Kd) (n : Nat) (s : St3) : Prop where
  c : s.c < n
  u : s.d = true → s.o < k.u.length
  h : s.d = false → s.o < n ∧ s.c ≠ s.o
def stp (k : Kd) (st : List Nat) (s : St3) : List Nat := st.set s.c (if s.d = true then k.up s.o (gN st s.c) else k.mg (gN st s.c) (gN st s.o))
def stg (k : Kd) : List Nat → List St3 → List (List Nat)
  | _, [] => []
  | st, s :: r => stp k st s :: stg k (stp k st s) r
def endS (k : Kd) (st : List Nat) (ss : List St3) : List Nat := ss.foldl (stp k) st
def StsOk (k : Kd) (n : Nat) (st : List Nat) : Prop := st.length = n ∧ ∀ x ∈ st, x < k.n
theorem getD_lt {xs : List Nat} {i n : Nat} (h : ∀ x ∈ xs, x < n) (hi : i < xs.length) : gN xs i < n := h _ (by simp [gN, List.getD, hi])
theorem getD_memL {xs : List (List Nat)} {i : Nat} (hi : i < xs.length) : gL xs i ∈ xs := by simp [gL, List.getD, hi]
theorem Kd.Ok.up_lt {k : Kd} (h : k.Ok) {o s : Nat} (ho : o < k.u.length) (hs : s < k.n) : k.up o s < k.n := by
  obtain ⟨h1, h2⟩ := h.ur _ (getD_memL ho)
  exact getD_lt h2 (by rw [h1]; exact hs)
theorem Kd.Ok.mg_lt {k : Kd} (h : k.Ok) {a b : Nat} (ha : a < k.n) (hb : b < k.n) : k.mg a b < k.n := by
  obtain ⟨h1, h2⟩ := h.mr _ (getD_memL (by rw [h.ml]; exact ha))
  exact getD_lt h2 (by rw [h1]; exact hb)
theorem StsOk.stp {k : Kd} {n : Nat} {st : List Nat} {s : St3} (hk : k.Ok) (h : StsOk k n st) (hs : s.Ok k n) : StsOk k n (stp k st s) := by
  refine ⟨by unfold Pp.stp; rw [List.length_set]; exact h.1, fun x hx => ?_⟩
  rcases List.mem_or_eq_of_mem_set hx with hx | rfl
  · exact h.2 x hx
  · have hc := getD_lt h.2 (by rw [h.1]; exact hs.c : s.c < st.length)
    by_cases q : s.d = true
    · rw [if_pos q]; exact hk.up_lt (hs.u q) hc
    · rw [if_neg q]; exact hk.mg_lt hc (getD_lt h.2 (by rw [h.1]; exact (hs.h (by simpa using q)).1))
theorem StsOk.begin {k : Kd} {n : Nat} (hk : k.Ok) : StsOk k n (List.replicate n k.s) := ⟨by simp, fun x hx => by rw [(List.mem_replicate.mp hx).2]; exact hk.s⟩
/-! ### looking up -/
theorem atI_nat {α : Type} {xs : List α} {i : Nat} : atI xs (i : Int) = xs[i]? := by
  unfold atI ixN
  by_cases h : i < xs.length
  · rw [if_pos (by omega), if_pos (by omega)]; simp
  · rw [if_pos (by omega), if_neg (by omega), List.getElem?_eq_none (by omega)]; rfl
theorem ix_tZ {xs : List Nat} {i : Nat} (h : i < xs.length) : vIx (tZ xs) (.int (i : Int)) = some (iN (gN xs i)) := by
  show atI (xs.map iN) (i : Int) = _
  rw [atI_nat, List.getElem?_map]; simp [h, gN, gL, List.getD]
theorem ix_lN {xs : List Nat} {i : Nat} (h : i < xs.length) : vIx (.lst (xs.map iN)) (.int (i : Int)) = some (iN (gN xs i)) := ix_tZ h
theorem ix_tZZ {xs : List (List Nat)} {i : Nat} (h : i < xs.length) : vIx (tZZ xs) (.int (i : Int)) = some (tZ (gL xs i)) := by
  show atI (xs.map tZ) (i : Int) = _
  rw [atI_nat, List.getElem?_map]; simp [h, gN, gL, List.getD]
theorem ix_map {α : Type} {f : α → Val} {xs : List α} {i : Nat} {x : α} (h : xs[i]? = some x) : vIx (.tup (xs.map f)) (.int (i : Int)) = some (f x) := by
  show atI (xs.map f) (i : Int) = _
  rw [atI_nat, List.getElem?_map, h]; rfl
theorem ix_mapL {α : Type} {f : α → Val} {xs : List α} {i : Nat} {x : α} (h : xs[i]? = some x) : vIx (.lst (xs.map f)) (.int (i : Int)) = some (f x) := ix_map h
@[simp] theorem ix_0 {a : Val} {l : List Val} : vIx (.tup (a :: l)) (.int 0) = some a := by
  show atI (a :: l) ((0 : Nat) : Int) = _
  rw [atI_nat]; rfl
@[simp] theorem ix_1 {a b : Val} {l : List Val} : vIx (.tup (a :: b :: l)) (.int 1) = some b := by
  show atI (a :: b :: l) ((1 : Nat) : Int) = _
  rw [atI_nat]; rfl
@[simp] theorem ix_2 {a b c : Val} {l : List Val} : vIx (.tup (a :: b :: c :: l)) (.int 2) = some c := by
  show atI (a :: b :: c :: l) ((2 : Nat) : Int) = _
  rw [atI_nat]; rfl
@[simp] theorem ix_3 {a b c d : Val} {l : List Val} : vIx (.tup (a :: b :: c :: d :: l)) (.int 3) = some d := by
  show atI (a :: b :: c :: d :: l) ((3 : Nat) : Int) = _
  rw [atI_nat]; rfl
@[simp] theorem hv_0 {n : Nat} {ss : List St3} : vIx (hv n ss) (.int 0) = some (iN n) := ix_0
@[simp] theorem hv_1 {n : Nat} {ss : List St3} : vIx (hv n ss) (.int 1) = some (.tup (ss.map St3.v)) := ix_1
@[simp] theorem kv_0 {k : Kd} : vIx k.v (.int 0) = some (iN k.s) := ix_0
@[simp] theorem kv_1 {k : Kd} : vIx k.v (.int 1) = some (tZZ k.u) := ix_1
@[simp] theorem kv_2 {k : Kd} : vIx k.v (.int 2) = some (tZZ k.m) := ix_2
@[simp] theorem kv_3 {k : Kd} : vIx k.v (.int 3) = some (tZ k.r) := ix_3
@[simp] theorem sv_0 {s : St3} : vIx s.v (.int 0) = some (.str (wordV s.d)) := ix_0
theorem ix_last {α : Type} {f : α → Val} {xs : List α} {x : α} : vIx (.lst ((xs ++ [x]).map f)) (.int (-1)) = some (f x) := by
  show atI ((xs ++ [x]).map f) (-1) = _
  unfold atI ixN
  rw [if_neg (by decide), if_pos (by simp; omega)]
  simp only [Option.bind_some, List.length_map, List.length_append, List.length_cons, List.length_nil, List.map_append, List.map_cons, List.map_nil]
  rw [show ((-1 : Int) + ((xs.length + (0 + 1) : Nat) : Int)).toNat = xs.length by omega]
  rw [List.getElem?_append_right (by simp)]
  simp
theorem mul_tup1 {x : Val} {c : Nat} (h1 : 1 ≤ c) (h2 : c ≤ 1000) : vBin .mul (.tup [x]) (.int (c : Int)) = some (.tup (List.replicate c x)) := by
  show (if (c : Int) = 1 then some (Val.tup [x]) else if 2 ≤ (c : Int) ∧ [x].isEmpty = false then (rept [x] c).map .tup else none) = _
  by_cases h : c = 1
  · subst h; rfl
  · rw [if_neg (by omega), if_pos ⟨by omega, rfl⟩]
    have : rept [x] (c : Int) = some (List.replicate c x) := by
      unfold rept
      rw [if_pos ⟨⟨by omega, by omega⟩, by simp⟩]
      congr 1
      simp
    rw [this]; rfl
theorem rept_one {x : Val} {c : Nat} (h2 : c ≤ 1000) : rept [x] (c : Int) = some (List.replicate c x) := by
  unfold rept
  rw [if_pos ⟨⟨by omega, by omega⟩, by simp⟩]
  simp
theorem rep_tZ {n s : Nat} : Val.tup (List.replicate n (iN s)) = tZ (List.replicate n s) := by simp [tZ]
theorem add_tup {xs ys : List Val} (h : xs.length + ys.length ≤ 100000) : vBin .add (.tup xs) (.tup ys) = some (.tup (xs ++ ys)) := if_pos h
theorem add_lst {xs ys : List Val} (h : xs.length + ys.length ≤ 100000) : vBin .add (.lst xs) (.lst ys) = some (.lst (xs ++ ys)) := if_pos h
@[simp] theorem add_int {i j : Int} : vBin .add (.int i) (.int j) = some (.int (i + j)) := (rfl)
@[simp] theorem sub_int {i j : Int} : vBin .sub (.int i) (.int j) = some (.int (i - j)) := (rfl)
theorem mod_int {i j : Int} (h : 0 < j) : vBin .mod (.int i) (.int j) = some (.int (i % j)) := if_pos h
theorem fdiv_int {i j : Int} (h : 0 < j ∧ j < 1073741824) : vBin .fdiv (.int i) (.int j) = some (.int (i / j)) := if_pos h
theorem mul_int {i j : Int} (h : mulOk i j = true) : vBin .mul (.int i) (.int j) = some (.int (i * j)) := if_pos h
theorem take_cut {xs : List Val} {c : Nat} (h : c ≤ xs.length) : vSlc (.tup xs) none (some (c : Int)) = some (.tup (xs.take c)) := by
  show some (Val.tup (cutW xs none (some (c : Int)))) = _
  have : HT.sIx xs.length xs.length (some (c : Int)) = c := by rw [HT.sIx_nat]; omega
  unfold cutW
  rw [this]
  have : HT.sIx xs.length 0 none = 0 := by unfold HT.sIx; rfl
  rw [this]; simp
theorem drop_cut {xs : List Val} {c : Nat} (h : c ≤ xs.length) : vSlc (.tup xs) (some (c : Int)) none = some (.tup (xs.drop c)) := by
  show some (Val.tup (cutW xs (some (c : Int)) none)) = _
  have : HT.sIx xs.length 0 (some (c : Int)) = c := by rw [HT.sIx_nat]; omega
  unfold cutW
  rw [this]
  have : HT.sIx xs.length xs.length none = xs.length := by unfold HT.sIx; rfl
  rw [this, List.take_of_length_le (by simp)]
theorem set_cut {xs : List Nat} {c y : Nat} (h : c < xs.length) : ((xs.map iN).take c ++ [iN y]) ++ (xs.map iN).drop (c + 1) = (xs.set c y).map iN := by
  rw [List.map_set, List.set_eq_take_append_cons_drop]
  simp [h]
@[simp] theorem nm_set {e : Pm.Env} {i : Nat} {v : Val} (h : i < e.length) : bindT (.nm i) v e = some (e.set i (some v)) := if_pos h
end Pp
set_option Elab.async false
set_option linter.all false
set_option autoImplicit false
set_option maxRecDepth 100000
set_option maxHeartbeats 4000000
namespace Pp
open PySem L2 Pm
/-! ### sorted(set(..)) of numbers -/
theorem mem_ins {x y : Int} : ∀ {l : List Int}, y ∈ insI x l ↔ y = x ∨ y ∈ l
  | [] => by simp [insI]
  | z :: l => by
    unfold insI
    split
    · simp
    · simp only [List.mem_cons, mem_ins]
      constructor
      · rintro (h | h | h)
        · exact .inr (.inl h)
        · exact .inl h
        · exact .inr (.inr h)
      · rintro (h | h | h)
        · exact .inr (.inl h)
        · exact .inl h
        · exact .inr (.inr h)
theorem mem_sort {y : Int} : ∀ {l : List Int}, y ∈ sortI l ↔ y ∈ l
  | [] => Iff.rfl
  | x :: l => by
    show y ∈ insI x (sortI l) ↔ _
    rw [mem_ins, mem_sort, List.mem_cons]
theorem len_ins {x : Int} : ∀ {l : List Int}, (insI x l).length = l.length + 1
  | [] => rfl
  | z :: l => by
    unfold insI
    split
    · rfl
    · simp [len_ins]
theorem len_sort : ∀ {l : List Int}, (sortI l).length = l.length
  | [] => rfl
  | x :: l => by
    show (insI x (sortI l)).length = _
    rw [len_ins, len_sort]; rfl
theorem mem_ded {y : Int} : ∀ {l : List Int}, y ∈ dedI l ↔ y ∈ l
  | [] => Iff.rfl
  | x :: l => by
    unfold dedI
    split
    · rename_i h
      rw [mem_ded, List.mem_cons]
      constructor
      · exact .inr
      · rintro (rfl | h')
        · exact h
        · exact h'
    · rw [List.mem_cons, List.mem_cons, mem_ded]
theorem nd_ded : ∀ {l : List Int}, (dedI l).Nodup
  | [] => List.nodup_nil
  | x :: l => by
    unfold dedI
    split
    · exact nd_ded
    · rename_i h
      exact List.nodup_cons.mpr ⟨fun q => h (mem_ded.mp q), nd_ded⟩
theorem nd_len : ∀ {j : Nat} {l : List Int}, l.Nodup → (∀ x ∈ l, 0 ≤ x ∧ x < (j : Int)) → l.length ≤ j
  | 0, l, _, h => by
    cases l with
    | nil => exact Nat.le_refl _
    | cons x r => have := h x (List.mem_cons_self ..); omega
  | j + 1, l, nd, h => by
    have h1 : (l.erase (j : Int)).length ≤ j := nd_len (nd.erase _) fun x hx => by
      have q := (List.Nodup.mem_erase_iff nd).mp hx
      have := h x q.2
      have := q.1
      omega
    have := List.length_erase (l := l) (a := (j : Int))
    split at this <;> omega
theorem nd_ins {x : Int} : ∀ {l : List Int}, x ∉ l → l.Nodup → (insI x l).Nodup
  | [], _, _ => by simp [insI]
  | z :: l, hx, nd => by
    unfold insI
    split
    · exact List.nodup_cons.mpr ⟨hx, nd⟩
    · have nd' := List.nodup_cons.mp nd
      simp only [List.mem_cons, not_or] at hx
      refine List.nodup_cons.mpr ⟨fun q => ?_, nd_ins hx.2 nd'.2⟩
      rcases mem_ins.mp q with q | q
      · exact hx.1 q.symm
      · exact nd'.1 q
theorem nd_sort : ∀ {l : List Int}, l.Nodup → (sortI l).Nodup
  | [], h => h
  | x :: l, h => by
    have h' := List.nodup_cons.mp h
    exact nd_ins (fun q => h'.1 (mem_sort.mp q)) (nd_sort h'.2)
theorem ints_map {f : Nat → Int} : ∀ {l : List Nat}, intsOf (l.map fun x => .int (f x)) = some (l.map f)
  | [] => rfl
  | x :: l => by simp [intsOf, ints_map]
theorem intsOf_map : ∀ {l : List Int}, intsOf (l.map .int) = some l
  | [] => rfl
  | x :: l => by simp [intsOf, intsOf_map]
/-- what was heard: numbers below j, each once -/
def Hd (j : Nat) (v : Val) : Prop := ∃ l : List Int, v = .tup (l.map .int) ∧ l.Nodup ∧ ∀ x ∈ l, 0 ≤ x ∧ x < (j : Int)
theorem Hd.mono {j j' : Nat} {v : Val} (h : Hd j v) (hj : j ≤ j') : Hd j' v := by
  obtain ⟨l, e, nd, h⟩ := h
  exact ⟨l, e, nd, fun x hx => by have := h x hx; omega⟩
theorem Hd.add {j : Nat} {v : Val} (h : Hd j v) (hj : j ≤ 60) : ∃ w, vBin .add v (.tup [.int (j : Int)]) = some w ∧ Hd (j + 1) w := by
  obtain ⟨l, rfl, nd, h⟩ := h
  have hl := nd_len nd h
  refine ⟨_, add_tup (by simp; omega), l ++ [(j : Int)], by simp, ?_, fun x hx => ?_⟩
  · rw [List.nodup_append]
    refine ⟨nd, by simp, fun a ha b hb => ?_⟩
    have := h a ha
    simp at hb
    omega
  · rcases List.mem_append.mp hx with hx | hx
    · have := h x hx; omega
    · simp at hx; omega
theorem Hd.join {j : Nat} {v w : Val} (h : Hd j v) (k : Hd j w) (hj : j ≤ 60) : ∃ x y z, vBin .add v w = some x ∧ vPrim .sortedSet [x] = some y ∧ vPrim .tuple [y] = some z ∧ Hd j z := by
  obtain ⟨l, rfl, nd, h⟩ := h
  obtain ⟨m, rfl, nd2, k⟩ := k
  have hl := nd_len nd h
  have hm := nd_len nd2 k
  have e : vBin .add (.tup (l.map .int)) (.tup (m.map .int)) = some (.tup ((l ++ m).map .int)) := by rw [add_tup (by simp; omega), List.map_append]
  have hb : ∀ x ∈ dedI (l ++ m), 0 ≤ x ∧ x < (j : Int) := fun x hx => by
    rcases List.mem_append.mp (mem_ded.mp hx) with q | q
    · exact h x q
    · exact k x q
  have hd := nd_len nd_ded hb
  refine ⟨_, .lst ((sortI (dedI (l ++ m))).map .int), .tup ((sortI (dedI (l ++ m))).map .int), e, ?_, rfl, sortI (dedI (l ++ m)), rfl, nd_sort nd_ded, fun x hx => hb x (mem_sort.mp hx)⟩
  show ((intsOf ((l ++ m).map .int)).bind fun ns => if ns.length ≤ 1000 ∧ (dedI ns).length < 64 then some (Val.lst ((sortI (dedI ns)).map .int)) else none) = _
  rw [intsOf_map]
  show (if (l ++ m).length ≤ 1000 ∧ (dedI (l ++ m)).length < 64 then _ else _) = _
  rw [if_pos ⟨by simp; omega, by omega⟩]
end Pp
set_option Elab.async false
set_option linter.all false
set_option autoImplicit false
set_option maxRecDepth 100000
set_option maxHeartbeats 1000000
namespace Pp
open PySem L2 Pm
variable {n : Nat} {g : DrawSt}
def pl : Val → Bool
  | .drw => false | .scr _ => false | _ => true
def isWhole (v : Val) (a b : Int) : Bool := match v with
  | .int i => decide (a ≤ i) && decide (i ≤ b)
  | _ => false
theorem word_do : wordV true = ("do" : Str) := rfl
theorem word_hear : wordV false = ("hear" : Str) := rfl
theorem eq_do {d : Bool} : vCmp .eq (.str (wordV d)) (.str "do") = some d := by
  cases d <;> decide +kernel
theorem eq_hear {d : Bool} : vCmp .eq (.str (wordV d)) (.str "hear") = some (!d) := by
  cases d <;> decide +kernel
theorem tZ_len {xs : List Nat} : (xs.map iN).length = xs.length := List.length_map ..
theorem endS_ok {k : Kd} (hk : k.Ok) {c : Nat} : ∀ (ss : List St3) (st : List Nat), (∀ s ∈ ss, s.Ok k c) → StsOk k c st → StsOk k c (endS k st ss)
  | [], st, _, h => h
  | s :: ss, st, hs, h => endS_ok hk ss (stp k st s) (fun t ht => hs t (List.mem_cons_of_mem _ ht)) (h.stp hk (hs s (List.mem_cons_self ..)))
theorem stg_last {k : Kd} : ∀ (ss : List St3) (st : List Nat), ∃ l, st :: stg k st ss = l ++ [endS k st ss]
  | [], st => ⟨[], rfl⟩
  | s :: ss, st => by
    obtain ⟨l, e⟩ := stg_last (k := k) ss (stp k st s)
    exact ⟨st :: l, by rw [stg, e]; rfl⟩
/-- a history of a kind -/
structure HsOk (k : Kd) (c : Nat) (ss : List St3) : Prop where
  c1 : 1 ≤ c
  c16 : c ≤ 16
  s60 : ss.length ≤ 60
  ok : ∀ s ∈ ss, s.Ok k c
def st0 (k : Kd) (c : Nat) : List Nat := List.replicate c k.s
def stL (k : Kd) (c : Nat) (ss : List St3) : List Val := (List.replicate c k.s :: stg k (List.replicate c k.s) ss).map tZ
/-- the states at the end -/
theorem last_of {k : Kd} {c : Nat} {ss : List St3} : vIx (.lst (stL k c ss)) (.int (-1)) = some (tZ (endS k (st0 k c) ss)) := by
  unfold stL st0
  obtain ⟨l, e⟩ := stg_last (k := k) ss (List.replicate c k.s)
  rw [e]
  exact ix_last
theorem tZ_nb {xs : List Nat} : nb (tZ xs) = true := by
  have : ∀ xs : List Nat, nbs (xs.map iN) = true := fun xs => by induction xs with
    | nil => rfl
    | cons x r ih => simp [nbs, nb, ih]
  simpa [tZ, nb] using this xs
theorem tZ_dp {xs : List Nat} : dpv (tZ xs) ≤ 1 := by
  have : ∀ xs : List Nat, dpvs (xs.map iN) = 0 := fun xs => by induction xs with
    | nil => rfl
    | cons x r ih => simp [dpvs, dpv, ih]
  simp [tZ, dpv, this]
theorem tZ_inj {xs ys : List Nat} : tZ xs = tZ ys ↔ xs = ys := by
  constructor
  · intro h
    simp only [tZ, Val.tup.injEq] at h
    exact List.map_inj_right (f := iN) (fun x y e => Int.ofNat_inj.mp (Val.int.inj e)) |>.mp h
  · rintro rfl; rfl
theorem eq_tZ {xs ys : List Nat} : vCmp .eq (tZ xs) (tZ ys) = some (decide (xs = ys)) := by
  obtain ⟨b, h1, h2⟩ := vEq_nb (tZ_nb (xs := xs)) (tZ_nb (xs := ys)) (Nat.le_trans tZ_dp (by decide)) (Nat.le_trans tZ_dp (by decide))
  show vEq _ _ = _
  rw [h1]
  congr 1
  rw [tZ_inj] at h2
  by_cases q : xs = ys
  · rw [h2.mpr q, decide_eq_true q]
  · rw [decide_eq_false q]; cases b with
    | true => exact absurd (h2.mp rfl) q
    | false => rfl
@[simp] theorem isi_tZ {xs : List Nat} : vPrim (.isi .tuple) [tZ xs] = some (.bl true) := (rfl)
@[simp] theorem isi_tZZ {xs : List (List Nat)} : vPrim (.isi .tuple) [tZZ xs] = some (.bl true) := (rfl)
@[simp] theorem isi_tup {xs : List Val} : vPrim (.isi .tuple) [.tup xs] = some (.bl true) := (rfl)
@[simp] theorem isi_kv {k : Kd} : vPrim (.isi .tuple) [k.v] = some (.bl true) := (rfl)
@[simp] theorem isi_hv {c : Nat} {ss : List St3} : vPrim (.isi .tuple) [hv c ss] = some (.bl true) := (rfl)
@[simp] theorem isi_sv {s : St3} : vPrim (.isi .tuple) [s.v] = some (.bl true) := (rfl)
@[simp] theorem isi_str {s : Str} : vPrim (.isi .str) [.str s] = some (.bl true) := (rfl)
@[simp] theorem len_tZ {xs : List Nat} : vPrim .len [tZ xs] = some (iN xs.length) := by simp [vPrim, vLen, tZ]
@[simp] theorem len_tZZ {xs : List (List Nat)} : vPrim .len [tZZ xs] = some (iN xs.length) := by simp [vPrim, vLen, tZZ]
@[simp] theorem len_tup {xs : List Val} : vPrim .len [.tup xs] = some (iN xs.length) := (rfl)
@[simp] theorem len_lst {xs : List Val} : vPrim .len [.lst xs] = some (iN xs.length) := (rfl)
@[simp] theorem len_kv {k : Kd} : vPrim .len [k.v] = some (.int 4) := (rfl)
@[simp] theorem len_hv {c : Nat} {ss : List St3} : vPrim .len [hv c ss] = some (.int 2) := (rfl)
@[simp] theorem len_sv {s : St3} : vPrim .len [s.v] = some (.int 3) := (rfl)
@[simp] theorem items_tZ {xs : List Nat} : items (tZ xs) = some (xs.map iN) := (rfl)
@[simp] theorem items_tZZ {xs : List (List Nat)} : items (tZZ xs) = some (xs.map tZ) := (rfl)
@[simp] theorem items_tup {xs : List Val} : items (.tup xs) = some xs := (rfl)
@[simp] theorem items_lst {xs : List Val} : items (.lst xs) = some xs := (rfl)
@[simp] theorem eq_int {i j : Int} : vCmp .eq (.int i) (.int j) = some (decide (i = j)) := vEq_int
@[simp] theorem ne_int {i j : Int} : vCmp .ne (.int i) (.int j) = some (!decide (i = j)) := by show (vEq (.int i) (.int j)).map (!·) = _; rw [vEq_int]; rfl
@[simp] theorem lt_int {i j : Int} : vCmp .lt (.int i) (.int j) = some (decide (i < j)) := (rfl)
@[simp] theorem le_int {i j : Int} : vCmp .le (.int i) (.int j) = some (decide (i ≤ j)) := (rfl)
@[simp] theorem gt_int {i j : Int} : vCmp .gt (.int i) (.int j) = some (decide (j < i)) := (rfl)
@[simp] theorem ge_int {i j : Int} : vCmp .ge (.int i) (.int j) = some (decide (j ≤ i)) := (rfl)
theorem bools_map {α : Type} {p : α → Bool} : ∀ {xs : List α}, boolsOf (xs.map fun x => .bl (p x)) = some (xs.map p)
  | [] => rfl
  | x :: xs => by simp [boolsOf, bools_map]
theorem all_map {α : Type} {p : α → Bool} {xs : List α} : vPrim .all [.lst (xs.map fun x => .bl (p x))] = some (.bl (xs.all p)) := by
  show (boolsOf _).map _ = _
  rw [bools_map]
  simp [List.all_map]
theorem whole_nat {x : Nat} {a b : Int} : isWhole (iN x) a b = (decide (a ≤ (x : Int)) && decide ((x : Int) ≤ b)) := rfl
@[simp] theorem pl_iN {x : Nat} : pl (iN x) = true := (rfl)
theorem filter_none {p : Val → Bool} {f : Nat → Val → Bool} : ∀ {xs : List Val} {i : Nat}, (∀ x ∈ xs, ∀ j, p (.tup [.int j, x]) = false) → (enumV i xs).filter p = []
  | [], _, _ => rfl
  | x :: xs, i, h => by
    rw [enumV, List.filter_cons, h x (List.mem_cons_self ..)]
    exact filter_none (f := f) fun y hy => h y (List.mem_cons_of_mem _ hy)
theorem enum_mem : ∀ {xs : List Val} {i : Nat} {p : Val}, p ∈ enumV i xs → ∃ (j : Int) (x : Val), x ∈ xs ∧ p = .tup [.int j, x]
  | [], _, _, h => nomatch h
  | x :: xs, i, p, h => by
    rw [enumV] at h
    rcases List.mem_cons.mp h with rfl | h
    · exact ⟨i, x, List.mem_cons_self .., rfl⟩
    · obtain ⟨j, y, hy, e⟩ := enum_mem h
      exact ⟨j, y, List.mem_cons_of_mem _ hy, e⟩
theorem turns_none {f : Val → DrawSt → R (List Val)} : ∀ {xs : List Val}, (∀ x ∈ xs, f x g = .ok [] g) → turns f xs [] g = .ok [] g
  | [], _ => rfl
  | x :: xs, h => by
    show (f x g).bind _ = _
    rw [h x (List.mem_cons_self ..)]
    simp [lim]
    exact turns_none fun y hy => h y (List.mem_cons_of_mem _ hy)
theorem cut_nil : vSlc (.lst []) none (some 1) = some (.lst []) := rfl
/-- a step that hears, and is not needed -/
def idleB (k : Kd) (c : Nat) (due : List Nat) (ss : List St3) (i : Nat) : Bool := match ss[i]? with
  | some s => !s.d && decide (endS k (st0 k c) (ss.eraseIdx i) = due)
  | none => false
theorem HsOk.erase {k : Kd} {c : Nat} {ss : List St3} (h : HsOk k c ss) (i : Nat) : HsOk k c (ss.eraseIdx i) :=
  ⟨h.c1, h.c16, Nat.le_trans (List.length_eraseIdx_le ..) h.s60, fun s hs => h.ok s (List.mem_of_mem_eraseIdx hs)⟩
theorem enum_get : ∀ {xs : List Val} {i j : Nat} {p : Val}, (enumV j xs)[i]? = some p → ∃ x, xs[i]? = some x ∧ p = .tup [.int ((j + i : Nat) : Int), x]
  | [], i, j, p, h => by simp [enumV] at h
  | x :: xs, 0, j, p, h => by
    rw [enumV] at h
    simp at h
    exact ⟨x, rfl, by rw [← h]; rfl⟩
  | x :: xs, i + 1, j, p, h => by
    rw [enumV, List.getElem?_cons_succ] at h
    obtain ⟨y, h1, h2⟩ := enum_get h
    exact ⟨y, by simpa using h1, by rw [h2]; congr 3; omega⟩
theorem enum_len : ∀ {xs : List Val} {j : Nat}, (enumV j xs).length = xs.length
  | [], _ => rfl
  | x :: xs, j => by simp [enumV, enum_len]
theorem range_succ_filter {p : Nat → Bool} {i : Nat} : (List.range (i + 1)).filter p = (List.range i).filter p ++ if p i = true then [i] else [] := by
  rw [List.range_succ, List.filter_append]
  by_cases q : p i = true <;> simp [q]
theorem eq_of_ok {α : Type} {r : R α} {v : α} (h : Ok r fun a g' => g' = g ∧ a = v) : r = .ok v g := by
  obtain ⟨a, g', e, h1, h2⟩ := h.ex
  rw [e, h1, h2]
def spare (k : Kd) (c : Nat) (due : List Nat) : Nat → List St3 → Nat → List St3
  | 0, ss, _ => ss
  | f + 1, ss, i => if idleB k c due ss i = true then spare k c due f (ss.eraseIdx i) i else spare k c due f ss (i + 1)
theorem get_sv {ss : List St3} {i : Nat} {s : St3} (h : ss[i]? = some s) : vIx (.tup (ss.map St3.v)) (.int (i : Int)) = some s.v := ix_map h
theorem set_lst {xs : List Val} {i : Nat} {v : Val} (h : i < xs.length) : setV (some (.lst xs)) (.int (i : Int)) v = some (.lst (xs.set i v)) := by
  show (ixN xs.length (i : Int)).map _ = _
  rw [ixN_nat h]; rfl
theorem ix_lst {xs : List Val} {i : Nat} {x : Val} (h : xs[i]? = some x) : vIx (.lst xs) (.int (i : Int)) = some x := by
  show atI xs (i : Int) = _
  rw [Pp.atI_nat, h]
theorem mul_lst1 {x : Val} {c : Nat} (h2 : c ≤ 1000) : vBin .mul (.lst [x]) (.int (c : Int)) = some (.lst (List.replicate c x)) := by
  show (rept [x] (c : Int)).map Val.lst = _
  rw [rept_one h2]; rfl
theorem ok_nx {r : R Fl} {e' : Pm.Env} {g' : DrawSt} {P : Pm.Env → DrawSt → Prop} (h : r = .ok (.nx e') g') (hp : P e' g') : Ok r fun fl g'' => ∃ e', fl = .nx e' ∧ P e' g'' := by
  rw [h]; exact .at ⟨e', rfl, hp⟩
theorem endS_take {k : Kd} {st : List Nat} {ss : List St3} {i : Nat} {s : St3} (h : ss[i]? = some s) : endS k st (ss.take (i + 1)) = stp k (endS k st (ss.take i)) s := by
  unfold endS
  rw [List.take_add_one, h, List.foldl_append]; rfl
theorem mem_take {k : Kd} {c : Nat} {ss : List St3} (h : HsOk k c ss) (i : Nat) : ∀ s ∈ ss.take i, s.Ok k c := fun s hs => h.ok s (List.mem_of_mem_take hs)
/-! the tables that are drawn -/
structure TabK where
  u : List (List Nat)
  m : List (List Nat)
  n : Nat
def bit (x k : Nat) : Nat := x / k % 2
def both (x y : Nat) : Nat := max (bit x 1) (bit y 1) + 2 * max (bit x 2) (bit y 2) + 4 * max (bit x 4) (bit y 4)
def tabMax (s : Nat) : TabK := ⟨[(List.range s).map fun x => min (s - 1) (x + 1), (List.range s).map fun x => max x (s / 2)], (List.range s).map fun x => (List.range s).map fun y => max x y, s⟩
def tabLot (s : Nat) (ks : List Nat) : TabK := ⟨ks.map fun k => (List.range s).map fun x => if bit x k = 0 then x + k else x, (List.range s).map fun x => (List.range s).map fun y => both x y, s⟩
def tabOne : TabK := ⟨[1, 2, 4].map fun k => [k, 1, 2, 3, 4, 5, 6, 7], (List.range 8).map fun x => (List.range 8).map fun y => both x y, 8⟩
def tabPair : TabK := ⟨[(List.range 6).map fun x => min (x / 2 + 1) 2 * 2 + x % 2, (List.range 6).map fun x => x / 2 * 2 + 1], (List.range 6).map fun x => (List.range 6).map fun y => max (x / 2) (y / 2) * 2 + max (x % 2) (y % 2), 6⟩
def tabsK : List TabK := [tabMax 2, tabMax 3, tabMax 4, tabMax 5, tabMax 6, tabMax 7, tabLot 4 [1, 2], tabLot 8 [1, 2, 4], tabPair, tabOne]
def TabK.v (t : TabK) : Val := .tup [iN 0, .lst (t.u.map tZ), tZZ t.m, iN t.n]
abbrev jE (a b : Option Val) : Pm.Env := [some .drw, a, b, none, none, none, none, none]
/-- a run with draws: at most m of them -/
abbrev Dr {α : Type} (r : R α) (g : DrawSt) (m : Nat) (Q : α → Prop) : Prop := Ok r fun a g' => g'.spot ≤ g.spot + m ∧ Q a
theorem tab_fin {r : R Fl} {g2 : DrawSt} {k : DrawSt → Pm.Env → R Fl} (h : ∃ t ∈ tabsK, r = .ok (.rt t.v false) g2) (hs : g2.spot ≤ g.spot + 2) : Ok (r.bind fun a g => (Pp.thn a (k g) g).bind fun fl g => outOf fl g) fun a g' => g'.spot ≤ g.spot + 2 ∧ ∃ t ∈ tabsK, a = (t.v, false) := by
  obtain ⟨t, ht, rfl⟩ := h
  exact .at ⟨hs, t, ht, rfl⟩
theorem tab_fin2 {r : R Fl} {g2 : DrawSt} (h : ∃ t ∈ tabsK, r = .ok (.rt t.v false) g2) (hs : g2.spot ≤ g.spot + 2) : Ok (r.bind fun fl g => outOf fl g) fun a g' => g'.spot ≤ g.spot + 2 ∧ ∃ t ∈ tabsK, a = (t.v, false) := by
  obtain ⟨t, ht, rfl⟩ := h
  exact .at ⟨hs, t, ht, rfl⟩
@[simp] theorem prim_tuple {xs : List Val} : vPrim .tuple [.lst xs] = some (.tup xs) := (rfl)
theorem lst_tZ {xs : List Nat} : Val.tup (xs.map iN) = tZ xs := (rfl)
/-! renumbered -/
def back (ps : List Nat) : List Nat := (List.range ps.length).map fun y => ps.idxOf y
def renum (k : Kd) (ps : List Nat) : Kd := ⟨gN ps k.s, k.u.map fun row => (back ps).map fun x => gN ps (gN row x), (back ps).map fun x => (back ps).map fun y => gN ps (k.mg x y), (back ps).map fun x => gN k.r x⟩
/-- an order of the numbers below n -/
structure PmK (ps : List Nat) (n : Nat) : Prop where
  len : ps.length = n
  lt : ∀ x ∈ ps, x < n
  mem : ∀ y, y < n → y ∈ ps
theorem idx_lst {ps : List Nat} {y : Nat} (h : y ∈ ps) : vPrim .index [.lst (ps.map iN), iN y] = some (iN (ps.idxOf y)) := by
  have e1 : toDs (ps.map iN) = some (ps.map fun (p : Nat) => PyData.int (p : Int)) := by
    have := toDs_ints (ps.map fun (p : Nat) => (p : Int))
    simpa [List.map_map, Function.comp_def] using this
  have s1 : SeqAt.shaped (.list (ps.map fun (p : Nat) => PyData.int (p : Int))) = true := by
    have := shaped_ints (ps.map fun (p : Nat) => (p : Int))
    simpa [List.map_map, Function.comp_def] using this
  have s2 : SeqAt.shaped (.int (y : Int)) = true := by unfold SeqAt.shaped; simp [PyData.canLay0, PyData.depth]
  show (match toD (iN y), toDs (ps.map iN) with
    | some d, some ds => if SeqAt.shaped d && SeqAt.shaped (.list ds) then (ds.findIdx? fun z => PyData.eqv z d).map fun (k : Nat) => Val.int (k : Int) else none
    | _, _ => none) = _
  rw [e1]
  show (if SeqAt.shaped (.int (y : Int)) && SeqAt.shaped (.list (ps.map fun (p : Nat) => PyData.int (p : Int))) then ((ps.map fun (p : Nat) => PyData.int (p : Int)).findIdx? fun z => PyData.eqv z (.int (y : Int))).map fun (k : Nat) => Val.int (k : Int) else none) = _
  rw [s1, s2]
  have e2 : ((ps.map fun (p : Nat) => PyData.int (p : Int)).findIdx? fun z => PyData.eqv z (.int (y : Int))) = some (ps.idxOf y) := by
    rw [List.findIdx?_map]
    have : (fun z => PyData.eqv z (.int (y : Int))) ∘ (fun p : Nat => PyData.int (p : Int)) = fun p => p == y := by
      funext p
      simp only [Function.comp, PyData.eqv]
      by_cases q : p = y
      · rw [q, beq_self_eq_true, beq_self_eq_true]
      · have q' : ¬ (p : Int) = (y : Int) := by omega
        rw [beq_eq_false_iff_ne.mpr q, beq_eq_false_iff_ne.mpr q']
    rw [this, List.findIdx?_eq_some_iff_findIdx_eq]
    exact ⟨List.findIdx_lt_length_of_exists ⟨y, h, by simp⟩, rfl⟩
  rw [e2]
  rfl
theorem turnsA {α : Type} {f : Val → DrawSt → R (List Val)} {F H : α → Val} : ∀ {l : List α} {acc : List Val}, (∀ x ∈ l, f (F x) g = .ok [H x] g) → acc.length + l.length ≤ 100000 → turns f (l.map F) acc g = .ok (acc ++ l.map H) g
  | [], acc, _, _ => by simp [turns]
  | x :: l, acc, hf, hl => by
    simp only [List.length_cons] at hl
    show ((f (F x) g).bind fun ys g => if acc.length + ys.length ≤ lim then turns f (l.map F) (acc ++ ys) g else .bad) = _
    rw [hf x (List.mem_cons_self ..)]
    show (if acc.length + 1 ≤ 100000 then turns f (l.map F) (acc ++ [H x]) g else .bad) = _
    rw [if_pos (by omega), turnsA (fun y hy => hf y (List.mem_cons_of_mem _ hy)) (by simp; omega)]
    simp
theorem turnsL {α : Type} {f : Val → DrawSt → R (List Val)} {F H : α → Val} {l : List α} (hf : ∀ x ∈ l, f (F x) g = .ok [H x] g) (hl : l.length ≤ 1000) : turns f (l.map F) [] g = .ok (l.map H) g := turnsA hf (by simp; omega)
theorem turnsN {f : Val → DrawSt → R (List Val)} {l : List Nat} {h : Nat → Val} (hf : ∀ x ∈ l, f (iN x) g = .ok [h x] g) (hl : l.length ≤ 1000) : turns f (l.map iN) [] g = .ok (l.map h) g := turnsL hf hl
theorem gN_mem {ps : List Nat} {i : Nat} (h : i < ps.length) : gN ps i ∈ ps := by simp [gN, List.getD, h]
theorem back_len {ps : List Nat} : (back ps).length = ps.length := by simp [back]
theorem back_lt {ps : List Nat} {m : Nat} (h : PmK ps m) : ∀ x ∈ back ps, x < m := fun x hx => by
  obtain ⟨y, hy, rfl⟩ := List.mem_map.mp hx
  rw [List.mem_range, h.len] at hy
  have := List.idxOf_lt_length_of_mem (h.mem y hy)
  rw [h.len] at this
  exact this
def rowB (n : Nat) (row : List Nat) : Bool := decide (row.length = n) && row.all fun x => decide (x < n)
theorem rowB_ok {n : Nat} {row : List Nat} (h : rowB n row = true) : rowOk n row := by
  simp only [rowB, Bool.and_eq_true, decide_eq_true_eq, List.all_eq_true] at h
  exact h
def tabB (t : TabK) : Bool := decide (1 ≤ t.n) && decide (t.n ≤ 8) && decide (1 ≤ t.u.length) && decide (t.u.length ≤ 3) && t.u.all (rowB t.n) && decide (t.m.length = t.n) && t.m.all (rowB t.n)
structure TabKOk (t : TabK) : Prop where
  n1 : 1 ≤ t.n
  n8 : t.n ≤ 8
  u1 : 1 ≤ t.u.length
  u3 : t.u.length ≤ 3
  ur : ∀ row ∈ t.u, rowOk t.n row
  ml : t.m.length = t.n
  mr : ∀ row ∈ t.m, rowOk t.n row
theorem tab_ok {t : TabK} (h : t ∈ tabsK) : TabKOk t := by
  have a : tabsK.all tabB = true := by decide +kernel
  have b := List.all_eq_true.mp a t h
  simp only [tabB, Bool.and_eq_true, decide_eq_true_eq, List.all_eq_true] at b
  obtain ⟨⟨⟨⟨⟨⟨b1, b2⟩, b3⟩, b4⟩, b5⟩, b6⟩, b7⟩ := b
  exact ⟨b1, b2, b3, b4, fun r hr => rowB_ok (b5 r hr), b6, fun r hr => rowB_ok (b7 r hr)⟩
/-- a kind that is drawn by its table, ere it is numbered anew -/
structure DrawnK0 (k : Kd) (t : TabK) : Prop where
  tt : t ∈ tabsK
  s : k.s = 0
  u1 : 1 ≤ k.u.length
  u : k.u.Sublist t.u
  m : k.m = t.m
  r : k.r.length = t.n
  r9 : ∀ x ∈ k.r, x ≤ 9
def DrawnK (k : Kd) : Prop := ∃ t k0, DrawnK0 k0 t ∧ (k = k0 ∨ ∃ ps, PmK ps k0.n ∧ k = renum k0 ps)
theorem DrawnK0.ok {k : Kd} {t : TabK} (h : DrawnK0 k t) : k.Ok := by
  have o := tab_ok h.tt
  refine ⟨by rw [h.r]; exact o.n1, by rw [h.r]; exact o.n8, h.r9, by rw [h.s, h.r]; exact o.n1, h.u1, ?_, fun r hr => ?_, by rw [h.m, h.r]; exact o.ml, fun r hr => ?_⟩
  · have := h.u.length_le
    have := o.u3
    omega
  · rw [h.r]; exact o.ur r (h.u.subset hr)
  · rw [h.r]; rw [h.m] at hr; exact o.mr r hr
theorem renum_ok {k : Kd} (hk : k.Ok) {ps : List Nat} (hp : PmK ps k.n) : (renum k ps).Ok := by
  have bl : (back ps).length = k.n := by rw [back_len, hp.len]
  have blt := back_lt hp
  have rn : (renum k ps).r.length = k.n := by simp [renum, bl]
  have gp : ∀ i, i < k.n → gN ps i < k.n := fun i hi => hp.lt _ (gN_mem (by rw [hp.len]; exact hi))
  have gr : ∀ {row : List Nat}, rowOk k.n row → rowOk k.n ((back ps).map fun x => gN ps (gN row x)) := fun {row} hr => ⟨by simp [bl], fun x hx => by
    obtain ⟨y, hy, rfl⟩ := List.mem_map.mp hx
    exact gp _ (getD_lt hr.2 (by rw [hr.1]; exact blt y hy))⟩
  refine ⟨by rw [rn]; exact hk.r1, by rw [rn]; exact hk.r8, fun x hx => ?_, by rw [rn]; exact gp _ hk.s, by simpa [renum] using hk.u1, by simpa [renum] using hk.u4, fun r hr => ?_, by rw [rn]; simp [renum, bl], fun r hr => ?_⟩
  · obtain ⟨y, hy, rfl⟩ := List.mem_map.mp hx
    exact hk.r9 _ (gN_mem (blt y hy))
  · obtain ⟨row, hrow, rfl⟩ := List.mem_map.mp hr
    rw [rn]; exact gr (hk.ur row hrow)
  · obtain ⟨x, hx, rfl⟩ := List.mem_map.mp hr
    rw [rn]
    refine ⟨by simp [bl], fun z hz => ?_⟩
    obtain ⟨y, hy, rfl⟩ := List.mem_map.mp hz
    exact gp _ (hk.mg_lt (blt x hx) (blt y hy))
theorem DrawnK.ok {k : Kd} (h : DrawnK k) : k.Ok := by
  obtain ⟨t, k0, h0, rfl | ⟨ps, hp, rfl⟩⟩ := h
  · exact h0.ok
  · exact renum_ok h0.ok hp
theorem nbs_map {α : Type} {F : α → Val} (h : ∀ x, nb (F x) = true) : ∀ l : List α, nbs (l.map F) = true
  | [] => rfl
  | x :: l => by simp [nbs, h, nbs_map h l]
theorem dpvs_map {α : Type} {F : α → Val} {d : Nat} (h : ∀ x, dpv (F x) ≤ d) : ∀ l : List α, dpvs (l.map F) ≤ d
  | [] => Nat.zero_le _
  | x :: l => by
    have := dpvs_map h l
    have := h x
    simp only [List.map_cons, dpvs]
    omega
theorem ne_nil {l : List (List Nat)} : vCmp .ne (.lst (l.map tZ)) (.lst []) = some (!decide (l = [])) := by
  obtain ⟨b, h1, h2⟩ := vEq_nb (v := .lst (l.map tZ)) (w := .lst []) (by simpa [nb] using nbs_map (fun x => tZ_nb) l) rfl (by
    have := dpvs_map (F := tZ) (d := 1) (fun x => tZ_dp) l
    simp only [dpv]; omega) (by decide)
  show (vEq (.lst (l.map tZ)) (.lst [])).map (!·) = _
  rw [h1]
  show some (!b) = _
  congr 2
  have : (Val.lst (l.map tZ) = .lst []) ↔ l = [] := by simp
  rw [this] at h2
  by_cases q : l = []
  · rw [h2.mpr q, decide_eq_true q]
  · rw [decide_eq_false q]; cases b with
    | true => exact absurd (h2.mp rfl) q
    | false => rfl
theorem ne_nilN {l : List Nat} : vCmp .ne (.lst (l.map iN)) (.lst []) = some (!decide (l = [])) := by
  obtain ⟨b, h1, h2⟩ := vEq_nb (v := .lst (l.map iN)) (w := .lst []) (by simpa [nb] using nbs_map (F := iN) (fun x => rfl) l) rfl (by
    have := dpvs_map (F := iN) (d := 0) (fun x => Nat.le_refl _) l
    simp only [dpv]; omega) (by decide)
  show (vEq (.lst (l.map iN)) (.lst [])).map (!·) = _
  rw [h1]
  show some (!b) = _
  congr 2
  have : (Val.lst (l.map iN) = .lst []) ↔ l = [] := by simp
  rw [this] at h2
  by_cases q : l = []
  · rw [h2.mpr q, decide_eq_true q]
  · rw [decide_eq_false q]; cases b with
    | true => exact absurd (h2.mp rfl) q
    | false => rfl
theorem sub_take {α : Type} {us l : List α} {i : Nat} {x : α} (h : us.Sublist (l.take i)) (hx : l[i]? = some x) : us.Sublist (l.take (i + 1)) ∧ (us ++ [x]).Sublist (l.take (i + 1)) := by
  rw [List.take_add_one, hx]
  exact ⟨h.trans (List.sublist_append_left ..), h.append (List.Sublist.refl _)⟩
theorem mem_erase' {l : List Nat} {j : Nat} {y : Nat} (hj : l[j]? = some y) : ∀ z, z ∈ l → z ∈ l.eraseIdx j ∨ z = y := fun z hz => by
  have hlt : j < l.length := (List.getElem?_eq_some_iff.mp hj).1
  have e : l = l.take j ++ y :: l.drop (j + 1) := by
    have e1 : l.drop j = y :: l.drop (j + 1) := by
      rw [List.drop_eq_getElem_cons hlt]
      congr 1
      simpa [hlt] using hj
    rw [← e1, List.take_append_drop]
  rw [e] at hz
  rw [List.eraseIdx_eq_take_drop_succ]
  simp only [List.mem_append, List.mem_cons] at hz ⊢
  rcases hz with h | h | h
  · exact .inl (.inl h)
  · exact .inr h
  · exact .inl (.inr h)
theorem pop_lst {l : List Nat} {j y : Nat} (h : l[j]? = some y) (hl : l.length ≤ 1000) : popV (some (.lst (l.map iN))) (.int (j : Int)) = some (iN y, .lst ((l.eraseIdx j).map iN)) := by
  have hlt : j < l.length := (List.getElem?_eq_some_iff.mp h).1
  show (if (l.map iN).length ≤ lim then (ixN (l.map iN).length (j : Int)).bind fun j => ((l.map iN)[j]?).map fun y => (y, Val.lst ((l.map iN).eraseIdx j)) else none) = _
  rw [if_pos (show (l.map iN).length ≤ 100000 by simp; omega), ixN_nat (by simpa using hlt)]
  simp only [Option.bind_some, List.getElem?_map, h, Option.map_some]
  rw [List.eraseIdx_eq_take_drop_succ, List.eraseIdx_eq_take_drop_succ, List.map_append, List.map_take, List.map_drop]
theorem take_cutL {xs : List Val} {c : Nat} (h : c ≤ xs.length) : vSlc (.lst xs) none (some (c : Int)) = some (.lst (xs.take c)) := by
  show some (Val.lst (cutW xs none (some (c : Int)))) = _
  have : HT.sIx xs.length xs.length (some (c : Int)) = c := by rw [HT.sIx_nat]; omega
  unfold cutW
  rw [this]
  have : HT.sIx xs.length 0 none = 0 := rfl
  rw [this]; simp
theorem drop_cutL {xs : List Val} {c : Nat} (h : c ≤ xs.length) : vSlc (.lst xs) (some (c : Int)) none = some (.lst (xs.drop c)) := by
  show some (Val.lst (cutW xs (some (c : Int)) none)) = _
  have : HT.sIx xs.length 0 (some (c : Int)) = c := by rw [HT.sIx_nat]; omega
  unfold cutW
  rw [this]
  have : HT.sIx xs.length xs.length none = xs.length := rfl
  rw [this, List.take_of_length_le (by simp)]
theorem rowOk.set {s : Nat} {row : List Nat} (h : rowOk s row) {i y : Nat} (hy : y < s) : rowOk s (row.set i y) := ⟨by rw [List.length_set]; exact h.1, fun x hx => by
  rcases List.mem_or_eq_of_mem_set hx with hx | rfl
  · exact h.2 x hx
  · exact hy⟩
theorem set_cutF {α : Type} {F : α → Val} {xs : List α} {c : Nat} {y : α} (h : c < xs.length) : ((xs.map F).take c ++ [F y]) ++ (xs.map F).drop (c + 1) = (xs.set c y).map F := by
  rw [List.map_set, List.set_eq_take_append_cons_drop]
  simp [h]
/-- xs[:c] + (y,) + xs[c + 1:] -/
theorem put_cut {α : Type} {F : α → Val} {xs : List α} {c : Nat} {y : α} (h : c < xs.length) (hl : xs.length ≤ 1000) : ∃ p q r, vSlc (.tup (xs.map F)) none (some (c : Int)) = some p ∧ vBin .add p (.tup [F y]) = some q ∧ vSlc (.tup (xs.map F)) (some ((c : Int) + 1)) none = some r ∧ vBin .add q r = some (.tup ((xs.set c y).map F)) := by
  refine ⟨_, _, _, take_cut (by simp; omega), add_tup (by simp; omega), drop_cut (c := c + 1) (by simp; omega), ?_⟩
  rw [add_tup (by simp; omega), set_cutF h]
theorem bind_kd {k : Kd} {ts : List Tgt} {e : Pm.Env} : bindT (.tp ts) k.v e = bindTs ts [iN k.s, tZZ k.u, tZZ k.m, tZ k.r] e := (rfl)
@[simp] theorem prim_int {i : Int} : vPrim .int [.int i] = some (.int i) := (rfl)
/-! ### repr of what is drawn -/
structure SmV (v : Val) (w d : Nat) : Prop where
  tm : tm v = true
  wt : wt v ≤ w
  dp : dpv v ≤ d
theorem SmV.mono {v : Val} {w w' d d' : Nat} (h : SmV v w d) (hw : w ≤ w') (hd : d ≤ d') : SmV v w' d' := ⟨h.tm, Nat.le_trans h.wt hw, Nat.le_trans h.dp hd⟩
theorem sm_nat {x : Nat} (h : x < 1000) : SmV (iN x) 1 0 := ⟨by simp only [Pp.tm]; exact leaf_small _ (by omega) (by omega), by simp [Pp.wt], by simp [dpv]⟩
theorem sm_all {xs : List Val} {w d : Nat} (h : ∀ x ∈ xs, SmV x w d) : tms xs = true ∧ wts xs ≤ w * xs.length ∧ dpvs xs ≤ d := by
  induction xs with
  | nil => exact ⟨by simp [tms], by simp [wts], by simp [dpvs]⟩
  | cons x r ih =>
    obtain ⟨h1, h2, h3⟩ := ih fun y hy => h y (List.mem_cons_of_mem _ hy)
    have hx := h x (List.mem_cons_self ..)
    have hx2 := hx.wt
    have hx3 := hx.dp
    refine ⟨by simp [tms, hx.tm, h1], ?_, by simp only [dpvs]; omega⟩
    simp only [wts, List.length_cons, Nat.mul_add, Nat.mul_one]
    omega
theorem sm_tup {xs : List Val} {w d : Nat} (h : ∀ x ∈ xs, SmV x w d) : SmV (.tup xs) (1 + w * xs.length) (d + 1) := by
  obtain ⟨h1, h2, h3⟩ := sm_all h
  exact ⟨by simpa [Pp.tm] using h1, by simp only [Pp.wt]; omega, by simp only [dpv]; omega⟩
theorem sm_lst {xs : List Val} {w d : Nat} (h : ∀ x ∈ xs, SmV x w d) : SmV (.lst xs) (1 + w * xs.length) (d + 1) := by
  obtain ⟨h1, h2, h3⟩ := sm_all h
  exact ⟨by simpa [Pp.tm] using h1, by simp only [Pp.wt]; omega, by simp only [dpv]; omega⟩
theorem sm_tZ {xs : List Nat} {m : Nat} (h : ∀ x ∈ xs, x < 1000) (hl : xs.length ≤ m) : SmV (tZ xs) (1 + m) 1 := by
  have := sm_tup (xs := xs.map iN) (w := 1) (d := 0) fun x hx => by
    obtain ⟨y, hy, rfl⟩ := List.mem_map.mp hx
    exact sm_nat (h y hy)
  exact this.mono (by simp; omega) (Nat.le_refl _)
theorem sm_tZZ {xs : List (List Nat)} {m l : Nat} (h : ∀ r ∈ xs, (∀ x ∈ r, x < 1000) ∧ r.length ≤ m) (hl : xs.length ≤ l) : SmV (tZZ xs) (1 + (1 + m) * l) 2 := by
  have := sm_tup (xs := xs.map tZ) (w := 1 + m) (d := 1) fun x hx => by
    obtain ⟨y, hy, rfl⟩ := List.mem_map.mp hx
    exact sm_tZ (h y hy).1 (h y hy).2
  refine this.mono ?_ (Nat.le_refl _)
  rw [List.length_map]
  have := Nat.mul_le_mul_left (1 + m) hl
  omega
theorem sm_kd {k : Kd} (hk : k.Ok) : SmV k.v 500 3 := by
  have h8 := hk.r8
  have row : ∀ {r : List Nat}, rowOk k.r.length r → (∀ x ∈ r, x < 1000) ∧ r.length ≤ 8 := fun {r} h => ⟨fun x hx => by have := h.2 x hx; omega, by rw [h.1]; exact h8⟩
  have h1 : SmV (iN k.s) 100 2 := (sm_nat (by have := hk.s; omega)).mono (by omega) (by omega)
  have h2 : SmV (tZZ k.u) 100 2 := (sm_tZZ (m := 8) (l := 4) (fun r hr => row (hk.ur r hr)) hk.u4).mono (by omega) (by omega)
  have h3 : SmV (tZZ k.m) 100 2 := (sm_tZZ (m := 8) (l := 8) (fun r hr => row (hk.mr r hr)) (by rw [hk.ml]; exact h8)).mono (by omega) (by omega)
  have h4 : SmV (tZ k.r) 100 2 := (sm_tZ (m := 8) (fun x hx => by have := hk.r9 x hx; omega) h8).mono (by omega) (by omega)
  refine (sm_tup (xs := [iN k.s, tZZ k.u, tZZ k.m, tZ k.r]) (w := 100) (d := 2) fun x hx => ?_).mono (by simp) (by omega)
  simp only [List.mem_cons, List.not_mem_nil, or_false] at hx
  rcases hx with rfl | rfl | rfl | rfl
  · exact h1
  · exact h2
  · exact h3
  · exact h4
theorem sm_str {d : Bool} : SmV (.str (wordV d)) 1 0 := by
  have h : ∀ d, leafOk (.str (wordV d)) = true := by decide +kernel
  exact ⟨by simpa [Pp.tm] using h d, by simp [Pp.wt], by simp [dpv]⟩
theorem sm_hv {k : Kd} (hk : k.Ok) {c : Nat} {ss : List St3} (h : HsOk k c ss) : SmV (hv c ss) 500 3 := by
  have h16 := h.c16
  have h60 := h.s60
  have hu4 := hk.u4
  have step : ∀ x ∈ ss.map St3.v, SmV x 4 1 := fun x hx => by
    obtain ⟨s, hs, rfl⟩ := List.mem_map.mp hx
    have so := h.ok s hs
    have hc : s.c < 1000 := by have := so.c; omega
    have ho : s.o < 1000 := by
      cases q : s.d with
      | true => have := so.u q; omega
      | false => have := (so.h q).1; omega
    refine (sm_tup (xs := [.str (wordV s.d), iN s.c, iN s.o]) (w := 1) (d := 0) fun x hx => ?_).mono (by simp) (by omega)
    simp only [List.mem_cons, List.not_mem_nil, or_false] at hx
    rcases hx with rfl | rfl | rfl
    · exact sm_str
    · exact sm_nat hc
    · exact sm_nat ho
  have h1 : SmV (iN c) 241 2 := (sm_nat (by omega)).mono (by omega) (by omega)
  have h2 : SmV (.tup (ss.map St3.v)) 241 2 := (sm_tup step).mono (by simp; omega) (by omega)
  refine (sm_tup (xs := [iN c, .tup (ss.map St3.v)]) (w := 241) (d := 2) fun x hx => ?_).mono (by simp) (by omega)
  simp only [List.mem_cons, List.not_mem_nil, or_false] at hx
  rcases hx with rfl | rfl
  · exact h1
  · exact h2
theorem sm_list {xs : List Val} {w d : Nat} (h : ∀ x ∈ xs, SmV x w d) (hw : w ≤ 1000) (hl : xs.length ≤ 50) (hd : d ≤ 60) : vPrim .repr [.lst xs] = some (.str (shV (.lst xs))) ∧ PyData.strOk (shV (.lst xs)) = true := by
  have s := sm_lst h
  have h1 := s.wt
  have h2 := s.dp
  have h3 : w * xs.length ≤ 1000 * 50 := Nat.mul_le_mul hw hl
  exact repr_ok s.tm (by omega) (by omega)
theorem mem2 {α : Type} {P : α → Prop} {a b : α} (ha : P a) (hb : P b) : ∀ x ∈ [a, b], P x := fun x hx => by
  simp only [List.mem_cons, List.not_mem_nil, or_false] at hx
  rcases hx with rfl | rfl
  · exact ha
  · exact hb
theorem mem4 {α : Type} {P : α → Prop} {a b : α} (ha : P a) (hb : P b) : ∀ x ∈ [a, b, a, b], P x := fun x hx => by
  simp only [List.mem_cons, List.not_mem_nil, or_false] at hx
  rcases hx with rfl | rfl | rfl | rfl
  · exact ha
  · exact hb
  · exact ha
  · exact hb
theorem spare_ok {k : Kd} {c : Nat} {due : List Nat} : ∀ {f : Nat} {ss : List St3} {i : Nat}, HsOk k c ss → HsOk k c (spare k c due f ss i)
  | 0, ss, i, h => h
  | f + 1, ss, i, h => by
    unfold spare
    split
    · exact spare_ok (h.erase i)
    · exact spare_ok h
/-! ### the whole law -/
def flag : Kd := ⟨0, [[1, 1]], [[0, 1], [1, 1]], [0, 1]⟩
end Pp
set_option Elab.async false
set_option linter.all false
set_option autoImplicit false
set_option maxRecDepth 100000
set_option maxHeartbeats 1000000
namespace Pp
open PySem L2 Pm
variable {n : Nat} {g : DrawSt}
/-! ### comprehensions over told lists -/
theorem turnsFM {α : Type} {f : Val → DrawSt → R (List Val)} {F : α → Val} {H : α → List Val} : ∀ {l : List α} {acc : List Val}, (∀ x ∈ l, f (F x) g = .ok (H x) g) → acc.length + (l.flatMap H).length ≤ 100000 → turns f (l.map F) acc g = .ok (acc ++ l.flatMap H) g
  | [], acc, _, _ => by simp [turns]
  | x :: l, acc, hf, hl => by
    rw [List.flatMap_cons, List.length_append] at hl
    show ((f (F x) g).bind fun ys g => if acc.length + ys.length ≤ lim then turns f (l.map F) (acc ++ ys) g else .bad) = _
    rw [hf x (List.mem_cons_self ..)]
    show (if acc.length + (H x).length ≤ 100000 then turns f (l.map F) (acc ++ H x) g else .bad) = _
    rw [if_pos (by omega), turnsFM (fun y hy => hf y (List.mem_cons_of_mem _ hy)) (by rw [List.length_append]; omega)]
    simp
theorem flat_filter {α : Type} {p : α → Bool} {y : α → Val} : ∀ {l : List α}, (l.flatMap fun x => if p x = true then [y x] else []) = (l.filter p).map y
  | [] => rfl
  | x :: l => by
    rw [List.flatMap_cons, flat_filter]
    by_cases q : p x = true <;> simp [q]
theorem turnsP {α : Type} {f : Val → DrawSt → R (List Val)} {F : α → Val} {p : α → Bool} {y : α → Val} {l : List α} (hf : ∀ x ∈ l, f (F x) g = .ok (if p x = true then [y x] else []) g) (hl : l.length ≤ 1000) : turns f (l.map F) [] g = .ok ((l.filter p).map y) g := by
  rw [turnsFM hf, flat_filter]
  · rfl
  · rw [flat_filter, List.length_map]
    have := List.length_filter_le p l
    simp; omega
theorem flat_len {α β : Type} {H : α → List β} {c : Nat} : ∀ {l : List α}, (∀ x ∈ l, (H x).length ≤ c) → (l.flatMap H).length ≤ c * l.length
  | [], _ => by simp
  | x :: l, h => by
    rw [List.flatMap_cons, List.length_append, List.length_cons]
    have h1 := h x (List.mem_cons_self ..)
    have h2 := flat_len (H := H) (c := c) (l := l) fun y hy => h y (List.mem_cons_of_mem _ hy)
    rw [Nat.mul_add, Nat.mul_one]
    omega
theorem mem_lst {x : Nat} {l : List Nat} : vIn (iN x) (.lst (l.map iN)) = some (decide (x ∈ l)) := by
  have e1 : toDs (l.map iN) = some (l.map fun (p : Nat) => PyData.int (p : Int)) := by
    have := toDs_ints (l.map fun (p : Nat) => (p : Int))
    simpa [List.map_map, Function.comp_def] using this
  have s1 : SeqAt.shaped (.list (l.map fun (p : Nat) => PyData.int (p : Int))) = true := by
    have := shaped_ints (l.map fun (p : Nat) => (p : Int))
    simpa [List.map_map, Function.comp_def] using this
  have s2 : SeqAt.shaped (.int (x : Int)) = true := by unfold SeqAt.shaped; simp [PyData.canLay0, PyData.depth]
  show (match toD (iN x), toDs (l.map iN) with
    | some d, some ds => if SeqAt.shaped d && SeqAt.shaped (.list ds) then some (ds.any fun z => PyData.eqv z d) else none
    | _, _ => none) = _
  rw [e1]
  show (if SeqAt.shaped (.int (x : Int)) && SeqAt.shaped (.list (l.map fun (p : Nat) => PyData.int (p : Int))) then some ((l.map fun (p : Nat) => PyData.int (p : Int)).any fun z => PyData.eqv z (.int (x : Int))) else none) = _
  rw [s1, s2]
  simp only [Bool.and_self, if_true, List.any_map]
  congr 1
  rw [Bool.eq_iff_iff]
  simp only [List.any_eq_true, Function.comp, PyData.eqv, beq_iff_eq, decide_eq_true_eq]
  constructor
  · rintro ⟨y, hy, e⟩
    have : y = x := by omega
    rw [← this]; exact hy
  · intro h; exact ⟨x, h, rfl⟩
theorem notin_lst {x : Nat} {l : List Nat} : vCmp .notin (iN x) (.lst (l.map iN)) = some (!decide (x ∈ l)) := by
  show (vIn (iN x) (.lst (l.map iN))).map (!·) = _
  rw [mem_lst]; rfl
theorem in_lst {x : Nat} {l : List Nat} : vCmp .isin (iN x) (.lst (l.map iN)) = some (decide (x ∈ l)) := mem_lst
/-! ### the states that come -/
inductive Come (k : Kd) : Nat → Prop
  | s : Come k k.s
  | u {row : List Nat} {x : Nat} : row ∈ k.u → Come k x → Come k (gN row x)
  | m {x y : Nat} : Come k x → Come k y → Come k (k.mg x y)
theorem Come.lt {k : Kd} (hk : k.Ok) {x : Nat} (h : Come k x) : x < k.n := by
  induction h with
  | s => exact hk.s
  | u hr _ ih =>
    obtain ⟨h1, h2⟩ := hk.ur _ hr
    exact getD_lt h2 (by rw [h1]; exact ih)
  | m _ _ ih1 ih2 => exact hk.mg_lt ih1 ih2
structure Closed (k : Kd) (F : List Nat) : Prop where
  s : k.s ∈ F
  u : ∀ row ∈ k.u, ∀ x ∈ F, gN row x ∈ F
  m : ∀ x ∈ F, ∀ y ∈ F, k.mg x y ∈ F
theorem Closed.all {k : Kd} {F : List Nat} (h : Closed k F) {x : Nat} (c : Come k x) : x ∈ F := by
  induction c with
  | s => exact h.s
  | u hr _ ih => exact h.u _ hr _ ih
  | m _ _ i1 i2 => exact h.m _ i1 _ i2
open Classical in
noncomputable def comL (k : Kd) : List Nat := (List.range k.n).filter fun x => decide (Come k x)
theorem mem_com {k : Kd} (hk : k.Ok) {x : Nat} : x ∈ comL k ↔ Come k x := by
  unfold comL
  simp only [List.mem_filter, List.mem_range, decide_eq_true_eq]
  exact ⟨fun h => h.2, fun h => ⟨h.lt hk, h⟩⟩
theorem com_lt {k : Kd} (hk : k.Ok) {x : Nat} (h : x ∈ comL k) : x < k.n := ((mem_com hk).mp h).lt hk
/-- lists that go up and have the same members are one -/
theorem sorted_eq {l m : List Int} (h1 : l.Pairwise (· < ·)) (h2 : m.Pairwise (· < ·)) (h : ∀ x, x ∈ l ↔ x ∈ m) : l = m := by
  induction l generalizing m with
  | nil =>
    cases m with
    | nil => rfl
    | cons y m => exact absurd ((h y).mpr (List.mem_cons_self ..)) (by simp)
  | cons x l ih =>
    cases m with
    | nil => exact absurd ((h x).mp (List.mem_cons_self ..)) (by simp)
    | cons y m =>
      rw [List.pairwise_cons] at h1 h2
      have exy : x = y := by
        rcases List.mem_cons.mp ((h x).mp (List.mem_cons_self ..)) with e | e
        · exact e
        · rcases List.mem_cons.mp ((h y).mpr (List.mem_cons_self ..)) with e' | e'
          · exact e'.symm
          · have := h1.1 y e'
            have := h2.1 x e
            omega
      subst exy
      congr 1
      refine ih h1.2 h2.2 fun z => ⟨fun hz => ?_, fun hz => ?_⟩
      · rcases List.mem_cons.mp ((h z).mp (List.mem_cons_of_mem _ hz)) with e | e
        · have := h1.1 z hz; omega
        · exact e
      · rcases List.mem_cons.mp ((h z).mpr (List.mem_cons_of_mem _ hz)) with e | e
        · have := h2.1 z hz; omega
        · exact e
theorem ins_sorted {x : Int} : ∀ {l : List Int}, l.Pairwise (· < ·) → x ∉ l → (insI x l).Pairwise (· < ·)
  | [], _, _ => by simp [insI]
  | y :: l, h, hx => by
    rw [List.pairwise_cons] at h
    simp only [List.mem_cons, not_or] at hx
    unfold insI
    split
    · rename_i hle
      rw [List.pairwise_cons, List.pairwise_cons]
      refine ⟨fun z hz => ?_, h⟩
      rcases List.mem_cons.mp hz with rfl | hz
      · have := hx.1; omega
      · have := h.1 z hz; omega
    · rename_i hgt
      rw [List.pairwise_cons]
      refine ⟨fun z hz => ?_, ins_sorted h.2 hx.2⟩
      rcases mem_ins.mp hz with rfl | hz
      · omega
      · exact h.1 z hz
theorem sort_sorted : ∀ {l : List Int}, l.Nodup → (sortI l).Pairwise (· < ·)
  | [], _ => List.Pairwise.nil
  | x :: l, h => by
    have h' := List.nodup_cons.mp h
    exact ins_sorted (sort_sorted h'.2) fun q => h'.1 (mem_sort.mp q)
theorem range_sorted {p : Nat → Bool} {m : Nat} : (((List.range m).filter p).map fun (x : Nat) => (x : Int)).Pairwise (· < ·) := by
  rw [List.pairwise_map]
  exact (List.Pairwise.imp (fun h => by omega) List.pairwise_lt_range).filter p
/-- sorted(..) of what was found -/
theorem sort_com {k : Kd} (hk : k.Ok) {F : List Nat} (nd : F.Nodup) (hF : ∀ x, x ∈ F ↔ Come k x) : vPrim .sorted [.lst (F.map iN)] = some (.lst ((comL k).map iN)) := by
  have e : intsOf (F.map iN) = some (F.map fun (x : Nat) => (x : Int)) := ints_map (f := fun x => (x : Int))
  show ((intsOf (F.map iN)).map fun ns => Val.lst ((sortI ns).map .int)) = _
  rw [e]
  have s : sortI (F.map fun (x : Nat) => (x : Int)) = (comL k).map fun (x : Nat) => (x : Int) := by
    refine sorted_eq (sort_sorted ?_) range_sorted fun x => ?_
    · exact List.Pairwise.map _ (fun a b h => by omega) nd
    · rw [mem_sort]
      simp only [List.mem_map]
      constructor
      · rintro ⟨y, hy, rfl⟩
        exact ⟨y, (mem_com hk).mpr ((hF y).mp hy), rfl⟩
      · rintro ⟨y, hy, rfl⟩
        exact ⟨y, (hF y).mpr ((mem_com hk).mp hy), rfl⟩
  show some (Val.lst ((sortI (F.map fun (x : Nat) => (x : Int))).map .int)) = _
  rw [s, List.map_map]
  rfl
def someU (k : Kd) (F : List Nat) : List Nat := F.flatMap fun s => k.u.map fun row => gN row s
def someM (k : Kd) (F : List Nat) : List Nat := F.flatMap fun a => F.map fun b => k.mg a b
def nextL (k : Kd) (F : List Nat) : List Nat := (someU k F ++ someM k F).filter fun x => !decide (x ∈ F)
theorem next_closed {k : Kd} {F : List Nat} (hs : k.s ∈ F) (h : nextL k F = []) : Closed k F := by
  have key : ∀ x, x ∈ someU k F ++ someM k F → x ∈ F := fun x hx => Classical.byContradiction fun q => by
    have : x ∈ nextL k F := List.mem_filter.mpr ⟨hx, by simp [q]⟩
    rw [h] at this
    cases this
  refine ⟨hs, fun row hr x hx => key _ (List.mem_append_left _ ?_), fun x hx y hy => key _ (List.mem_append_right _ ?_)⟩
  · exact List.mem_flatMap.mpr ⟨x, hx, List.mem_map.mpr ⟨row, hr, rfl⟩⟩
  · exact List.mem_flatMap.mpr ⟨x, hx, List.mem_map.mpr ⟨y, hy, rfl⟩⟩
theorem next_come {k : Kd} {F : List Nat} (hF : ∀ x ∈ F, Come k x) {x : Nat} (h : x ∈ nextL k F) : Come k x ∧ x ∉ F := by
  obtain ⟨h1, h2⟩ := List.mem_filter.mp h
  refine ⟨?_, by simpa using h2⟩
  rcases List.mem_append.mp h1 with q | q
  · obtain ⟨y, hy, q⟩ := List.mem_flatMap.mp q
    obtain ⟨row, hr, rfl⟩ := List.mem_map.mp q
    exact .u hr (hF y hy)
  · obtain ⟨y, hy, q⟩ := List.mem_flatMap.mp q
    obtain ⟨z, hz, rfl⟩ := List.mem_map.mp q
    exact .m (hF y hy) (hF z hz)
theorem nd_lenN {j : Nat} {l : List Nat} (nd : l.Nodup) (h : ∀ x ∈ l, x < j) : l.length ≤ j := by
  have := nd_len (j := j) (l := l.map fun (x : Nat) => (x : Int)) (List.Pairwise.map _ (fun a b h => by omega) nd) fun x hx => by
    obtain ⟨y, hy, rfl⟩ := List.mem_map.mp hx
    have := h y hy
    omega
  simpa using this
end Pp
set_option Elab.async false
set_option linter.all false
set_option autoImplicit false
set_option maxRecDepth 100000
set_option maxHeartbeats 1000000
namespace Pp
open PySem L2 Pm
variable {n : Nat} {g : DrawSt}
/-! ### where a rule is broken -/
def brkStart (k : Kd) (st : List Nat) : List (List Nat) := (st.filter fun x => !decide (k.mg k.s x = x) || !decide (k.mg x k.s = x)).map fun x => [x]
def brkTwice (k : Kd) (st : List Nat) : List (List Nat) := (st.filter fun x => !decide (k.mg x x = x)).map fun x => [x]
def brkTurn (k : Kd) (st : List Nat) : List (List Nat) := st.flatMap fun x => (st.filter fun y => !decide (k.mg x y = k.mg y x)).map fun y => [x, y]
def risesB (k : Kd) (x y : Nat) : Bool := decide (k.mg x y = y) && decide (k.mg y x = y)
def brkRise (k : Kd) (st : List Nat) : List (List Nat) := st.flatMap fun x => (k.u.zipIdx.filter fun p => !risesB k x (gN p.1 x)).map fun p => [x, p.2]
def groupB (k : Kd) (x y z : Nat) : Bool := decide (k.mg (k.mg x y) z = k.mg x (k.mg y z))
def brkGroup (k : Kd) (st : List Nat) : List (List Nat) := st.flatMap fun x => st.flatMap fun y => (st.filter fun z => !groupB k x y z).map fun z => [x, y, z]
theorem enum_zip : ∀ {l : List (List Nat)} {i : Nat}, enumV i (l.map tZ) = (l.zipIdx i).map fun p => Val.tup [iN p.2, tZ p.1]
  | [], _ => rfl
  | x :: l, i => by rw [List.map_cons, enumV, List.zipIdx_cons, List.map_cons, enum_zip]
theorem flat_map {α : Type} {l : List α} {H : α → List (List Nat)} : (l.flatMap fun x => (H x).map tZ) = (l.flatMap H).map tZ := by
  induction l with
  | nil => rfl
  | cons x r ih => rw [List.flatMap_cons, List.flatMap_cons, ih, List.map_append]
theorem eq_nat {x y : Nat} : vCmp .eq (iN x) (iN y) = some (decide (x = y)) := by
  rw [eq_int]
  congr 1
  by_cases q : x = y
  · simp [q]
  · rw [decide_eq_false q, decide_eq_false (by omega)]
theorem ne_nat {x y : Nat} : vCmp .ne (iN x) (iN y) = some (!decide (x = y)) := by
  show (vCmp .eq (iN x) (iN y)).map (!·) = _
  rw [eq_nat]; rfl
/-! ### kinds that hold -/
structure Holds (k : Kd) (st : List Nat) : Prop where
  start : ∀ x ∈ st, k.mg k.s x = x ∧ k.mg x k.s = x
  twice : ∀ x ∈ st, k.mg x x = x
  turn : ∀ x ∈ st, ∀ y ∈ st, k.mg x y = k.mg y x
  rise : ∀ x ∈ st, ∀ row ∈ k.u, k.mg x (gN row x) = gN row x ∧ k.mg (gN row x) x = gN row x
  group : ∀ x ∈ st, ∀ y ∈ st, ∀ z ∈ st, k.mg (k.mg x y) z = k.mg x (k.mg y z)
theorem flat_nil {α β : Type} {l : List α} {H : α → List β} (h : ∀ x ∈ l, H x = []) : l.flatMap H = [] := by
  induction l with
  | nil => rfl
  | cons x r ih => rw [List.flatMap_cons, h x (List.mem_cons_self ..), ih fun y hy => h y (List.mem_cons_of_mem _ hy)]; rfl
theorem filt_nil {α β : Type} {l : List α} {p : α → Bool} {f : α → β} (h : ∀ x ∈ l, p x = false) : (l.filter p).map f = [] := by
  rw [List.map_eq_nil_iff, List.filter_eq_nil_iff]
  intro x hx
  simp [h x hx]
theorem Holds.b1 {k : Kd} {st : List Nat} (h : Holds k st) : brkStart k st = [] := filt_nil fun x hx => by simp [h.start x hx]
theorem Holds.b2 {k : Kd} {st : List Nat} (h : Holds k st) : brkTwice k st = [] := filt_nil fun x hx => by simp [h.twice x hx]
theorem Holds.b3 {k : Kd} {st : List Nat} (h : Holds k st) : brkTurn k st = [] := flat_nil fun x hx => filt_nil fun y hy => by simp [h.turn x hx y hy]
theorem Holds.b4 {k : Kd} {st : List Nat} (h : Holds k st) : brkRise k st = [] := flat_nil fun x hx => filt_nil fun p hp => by
  have := h.rise x hx p.1 (List.fst_mem_of_mem_zipIdx hp)
  simp [risesB, this]
theorem Holds.b5 {k : Kd} {st : List Nat} (h : Holds k st) : brkGroup k st = [] := flat_nil fun x hx => flat_nil fun y hy => filt_nil fun z hz => by simp [groupB, h.group x hx y hy z hz]
theorem Holds.sub {k : Kd} {st st' : List Nat} (h : Holds k st) (hs : ∀ x ∈ st', x ∈ st) : Holds k st' :=
  ⟨fun x hx => h.start x (hs x hx), fun x hx => h.twice x (hs x hx), fun x hx y hy => h.turn x (hs x hx) y (hs y hy), fun x hx => h.rise x (hs x hx), fun x hx y hy z hz => h.group x (hs x hx) y (hs y hy) z (hs z hz)⟩
def holdB (t : TabK) : Bool := (List.range t.n).all fun x => decide (gN (gL t.m 0) x = x) && decide (gN (gL t.m x) 0 = x) && decide (gN (gL t.m x) x = x) && (t.u.all fun row => decide (gN (gL t.m x) (gN row x) = gN row x)) && (List.range t.n).all fun y => decide (gN (gL t.m x) y = gN (gL t.m y) x) && (List.range t.n).all fun z => decide (gN (gL t.m (gN (gL t.m x) y)) z = gN (gL t.m x) (gN (gL t.m y) z))
theorem tabs_hold : tabsK.all holdB = true := by decide +kernel
theorem DrawnK0.holds {k : Kd} {t : TabK} (h : DrawnK0 k t) : Holds k (List.range k.n) := by
  have hb := List.all_eq_true.mp tabs_hold t h.tt
  have hn : k.n = t.n := h.r
  simp only [holdB, List.all_eq_true, Bool.and_eq_true, decide_eq_true_eq] at hb
  have hok := h.ok
  rw [hn]
  have mgE : ∀ x y, k.mg x y = gN (gL t.m x) y := fun x y => by unfold Kd.mg; rw [h.m]
  have tn : ∀ x ∈ List.range t.n, ∀ y ∈ List.range t.n, k.mg x y = k.mg y x := fun x hx y hy => by rw [mgE, mgE]; exact (((hb x hx).2 y hy).1)
  refine ⟨fun x hx => ?_, fun x hx => ?_, tn, fun x hx row hr => ?_, fun x hx y hy z hz => ?_⟩
  · rw [h.s, mgE, mgE]; exact ⟨(hb x hx).1.1.1.1, (hb x hx).1.1.1.2⟩
  · rw [mgE]; exact (hb x hx).1.1.2
  · have h1 : k.mg x (gN row x) = gN row x := by rw [mgE]; exact (hb x hx).1.2 row (h.u.subset hr)
    have hx' : x < k.n := by rw [hn]; exact List.mem_range.mp hx
    have hr' := hok.ur row hr
    have hlt : gN row x < k.n := getD_lt hr'.2 (by rw [hr'.1]; exact hx')
    refine ⟨h1, ?_⟩
    rw [tn _ (List.mem_range.mpr (by rw [← hn]; exact hlt)) x hx]
    exact h1
  · rw [mgE, mgE, mgE, mgE]; exact ((hb x hx).2 y hy).2 z hz
/-! numbered anew: x in the new kind is back x in the old one -/
theorem gN_back {ps : List Nat} {m : Nat} (hp : PmK ps m) {y : Nat} (hy : y < m) : gN (back ps) y = ps.idxOf y ∧ gN ps (gN (back ps) y) = y ∧ gN (back ps) y < m := by
  have h1 : gN (back ps) y = ps.idxOf y := by
    unfold gN back
    rw [List.getD_eq_getElem?_getD, List.getElem?_map, List.getElem?_range (by rw [hp.len]; exact hy)]
    rfl
  have hm := hp.mem y hy
  have hlt := List.idxOf_lt_length_of_mem hm
  refine ⟨h1, ?_, by rw [h1, ← hp.len]; exact hlt⟩
  rw [h1]
  unfold gN
  rw [List.getD_eq_getElem?_getD, List.getElem?_eq_getElem hlt]
  simp
theorem gN_map {f : Nat → Nat} {l : List Nat} {i : Nat} (h : i < l.length) : gN (l.map f) i = f (gN l i) := by
  unfold gN
  rw [List.getD_eq_getElem?_getD, List.getD_eq_getElem?_getD, List.getElem?_map, List.getElem?_eq_getElem h]
  rfl
theorem gL_map {f : Nat → List Nat} {l : List Nat} {i : Nat} (h : i < l.length) : gL (l.map f) i = f (gN l i) := by
  unfold gN gL
  rw [List.getD_eq_getElem?_getD, List.getD_eq_getElem?_getD, List.getElem?_map, List.getElem?_eq_getElem h]
  rfl
theorem ren_mg {k : Kd} {ps : List Nat} (hp : PmK ps k.n) {x y : Nat} (hx : x < k.n) (hy : y < k.n) : (renum k ps).mg x y = gN ps (k.mg (gN (back ps) x) (gN (back ps) y)) := by
  have bl : (back ps).length = k.n := by rw [back_len, hp.len]
  unfold Kd.mg renum
  dsimp only
  rw [gL_map (by rw [bl]; exact hx), gN_map (by rw [bl]; exact hy)]
  rfl
theorem back_nodup {ps : List Nat} {m : Nat} (hp : PmK ps m) : (back ps).Nodup := by
  unfold back
  rw [List.Nodup, List.pairwise_map]
  refine List.Pairwise.imp_of_mem ?_ List.nodup_range
  intro a b ha hb hne he
  rw [List.mem_range, hp.len] at ha hb
  obtain ⟨a1, a2, _⟩ := gN_back hp ha
  obtain ⟨b1, b2, _⟩ := gN_back hp hb
  rw [a1] at a2
  rw [b1, ← he] at b2
  exact hne (a2.symm.trans b2)
theorem back_ps {ps : List Nat} {m : Nat} (hp : PmK ps m) {i : Nat} (hi : i < m) : gN (back ps) (gN ps i) = i := by
  have hin : i ∈ back ps := Classical.byContradiction fun q => by
    have nd : (i :: back ps).Nodup := List.nodup_cons.mpr ⟨q, back_nodup hp⟩
    have := nd.length_le_of_subset (l₂ := List.range m) fun x hx => by
      rcases List.mem_cons.mp hx with rfl | hx
      · exact List.mem_range.mpr hi
      · exact List.mem_range.mpr (back_lt hp x hx)
    rw [List.length_cons, back_len, hp.len, List.length_range] at this
    omega
  obtain ⟨y, hy, e⟩ := List.mem_map.mp hin
  rw [List.mem_range, hp.len] at hy
  obtain ⟨b1, b2, _⟩ := gN_back hp hy
  have e' : gN (back ps) y = i := b1.trans e
  rw [← e', b2]
theorem ren_holds {k : Kd} (hk : k.Ok) (h : Holds k (List.range k.n)) {ps : List Nat} (hp : PmK ps k.n) : Holds (renum k ps) (List.range k.n) := by
  have bl : (back ps).length = k.n := by rw [back_len, hp.len]
  have gp : ∀ i, i < k.n → gN ps i < k.n := fun i hi => hp.lt _ (gN_mem (by rw [hp.len]; exact hi))
  have bk : ∀ {x}, x ∈ List.range k.n → gN (back ps) x ∈ List.range k.n := fun {x} hx => List.mem_range.mpr (gN_back hp (List.mem_range.mp hx)).2.2
  have pb : ∀ {x}, x ∈ List.range k.n → gN ps (gN (back ps) x) = x := fun {x} hx => (gN_back hp (List.mem_range.mp hx)).2.1
  have mg : ∀ {x y}, x ∈ List.range k.n → y ∈ List.range k.n → (renum k ps).mg x y = gN ps (k.mg (gN (back ps) x) (gN (back ps) y)) := fun {x y} hx hy => ren_mg hp (List.mem_range.mp hx) (List.mem_range.mp hy)
  have mlt : ∀ {x y}, x ∈ List.range k.n → y ∈ List.range k.n → k.mg (gN (back ps) x) (gN (back ps) y) < k.n := fun {x y} hx hy => hk.mg_lt (List.mem_range.mp (bk hx)) (List.mem_range.mp (bk hy))
  have bm : ∀ {x y}, x ∈ List.range k.n → y ∈ List.range k.n → gN (back ps) ((renum k ps).mg x y) = k.mg (gN (back ps) x) (gN (back ps) y) := fun {x y} hx hy => by rw [mg hx hy]; exact back_ps hp (mlt hx hy)
  have ml : ∀ {x y}, x ∈ List.range k.n → y ∈ List.range k.n → (renum k ps).mg x y ∈ List.range k.n := fun {x y} hx hy => by rw [mg hx hy]; exact List.mem_range.mpr (gp _ (mlt hx hy))
  have ss : (renum k ps).s = gN ps k.s := rfl
  have sm : gN ps k.s ∈ List.range k.n := List.mem_range.mpr (gp _ hk.s)
  have sb : gN (back ps) (gN ps k.s) = k.s := back_ps hp hk.s
  refine ⟨fun x hx => ?_, fun x hx => ?_, fun x hx y hy => ?_, fun x hx row hr => ?_, fun x hx y hy z hz => ?_⟩
  · rw [ss, mg sm hx, mg hx sm, sb]
    obtain ⟨h1, h2⟩ := h.start _ (bk hx)
    rw [h1, h2, pb hx]
    exact ⟨rfl, rfl⟩
  · rw [mg hx hx, h.twice _ (bk hx), pb hx]
  · rw [mg hx hy, mg hy hx, h.turn _ (bk hx) _ (bk hy)]
  · obtain ⟨row0, hr0, rfl⟩ := List.mem_map.mp hr
    have e : gN ((back ps).map fun x => gN ps (gN row0 x)) x = gN ps (gN row0 (gN (back ps) x)) := gN_map (by rw [bl]; exact List.mem_range.mp hx)
    have r0 := hk.ur row0 hr0
    have hlt : gN row0 (gN (back ps) x) < k.n := getD_lt r0.2 (by rw [r0.1]; exact List.mem_range.mp (bk hx))
    have hm : gN ps (gN row0 (gN (back ps) x)) ∈ List.range k.n := List.mem_range.mpr (gp _ hlt)
    obtain ⟨h1, h2⟩ := h.rise _ (bk hx) row0 hr0
    rw [e, mg hx hm, mg hm hx, back_ps hp hlt, h1, h2]
    exact ⟨rfl, rfl⟩
  · rw [mg (ml hx hy) hz, mg hx (ml hy hz), bm hx hy, bm hy hz, h.group _ (bk hx) _ (bk hy) _ (bk hz)]
theorem DrawnK.holds {k : Kd} (h : DrawnK k) : Holds k (List.range k.n) := by
  obtain ⟨t, k0, h0, rfl | ⟨ps, hp, rfl⟩⟩ := h
  · exact h0.holds
  · have e : (renum k0 ps).n = k0.n := by
      show ((back ps).map fun x => gN k0.r x).length = _
      rw [List.length_map, back_len, hp.len]
    rw [e]
    exact ren_holds h0.ok h0.holds hp
theorem DrawnK.holdsC {k : Kd} (h : DrawnK k) : Holds k (comL k) := h.holds.sub fun x hx => List.mem_range.mpr (com_lt h.ok hx)
end Pp
set_option Elab.async false
set_option linter.all false
set_option maxRecDepth 100000
set_option maxHeartbeats 0
namespace Pg
open PySem L2 Pm
abbrev prog : Program := PySem.Challenge.pw_copymerges_k87_whole_deltas
def defsOf : List Stmt → List (Str × Arguments × List Stmt × Scope)
  | [] => []
  | .FunctionDef n a b _ _ _ sc _ _ _ :: r => (n, a, b, sc) :: defsOf r
  | _ :: r => defsOf r
def defs : List (Str × Arguments × List Stmt × Scope) := defsOf prog.main.body
def inf0 : List (List Str × List Str × List Nat) := [
  (["value", "least", "most"], ["value", "least", "most"], []),
  (["value", "many", "one"], ["value", "many"], []),
  (["value", "number", "one"], ["value"], []),
  (["value", "many", "number", "one"], ["value", "many"], []),
  (["value", "many", "number", "one"], ["value", "many"], []),
  (["kind", "path", "many"], ["kind"], []),
  (["kind", "one", "other"], ["kind", "one", "other"], []),
  (["kind", "found", "fresh"], ["kind"], [1]),
  (["kind", "found", "some", "state", "update", "one", "other"], ["kind", "found"], [2]),
  (["kind"], ["kind"], []),
  (["kind", "rule", "states", "start", "one", "other", "third", "number", "update"], ["kind", "rule", "states"], []),
  (["kind", "one", "other", "third", "near", "far"], ["kind", "one", "other", "third"], []),
  (["kind", "one", "behind"], ["kind", "one", "behind"], []),
  (["kind", "states", "rule"], ["kind"], []),
  (["states", "state"], ["states", "state"], [])]
def inf1 : List (List Str × List Str × List Nat) := [
  (["kind", "one", "other"], ["kind", "one", "other"], []),
  (["kind", "some", "one", "far"], ["kind", "some"], []),
  (["kind", "one", "other", "states", "due", "state"], ["kind", "one", "other"], []),
  (["kind", "number"], ["kind", "number"], []),
  (["kind", "number", "states", "update", "one", "state"], ["kind", "number"], []),
  (["_law_cell", "_law_n", "_law_blend"], ["_law_cell", "_law_n"], []),
  (["_law_script", "_law_found", "_law_n", "_law_cell"], ["_law_script"], [1]),
  (["_law_m", "_law_limit", "_law_n", "_law_lot", "_law_here", "_law_cell"], ["_law_m", "_law_limit"], [0, 3]),
  (["_law_script", "_law_m", "_law_cell"], ["_law_script"], [1]),
  (["_law_answer", "_law_due"], ["_law_answer", "_law_due"], []),
  (["_law_m", "_law_pick", "_law_size", "_law_steps_so", "_law_merge", "_law_x", "_law_k", "_law_y"], ["_law_m"], [3, 4]),
  (["_law_x", "_law_y", "_law_found", "_law_k"], ["_law_x", "_law_y"], []),
  (["_law_m", "_law_size", "_law_x"], ["_law_m", "_law_size"], []),
  (["_law_kind_so", "_law_places", "_law_size", "_law_back", "_law_steps_so", "_law_merge", "_law_x", "_law_y", "_law_row"], ["_law_kind_so", "_law_places"], [5]),
  (["_law_m", "_law_some", "_law_kind_so", "_law_begin", "_law_steps_so", "_law_merge", "_law_size", "_law_left", "_law_places", "_law_one"], ["_law_m"], [7, 8])]
def inf2 : List (List Str × List Str × List Nat) := [
  (["_law_kind_so", "_law_found", "_law_ahead", "_law_x", "_law_more", "_law_one", "_law_row", "_law_y"], ["_law_kind_so"], []),
  (["_law_merge", "_law_some", "_law_x", "_law_y"], ["_law_merge", "_law_some"], []),
  (["_law_script", "_law_m", "_law_turn", "_law_wide", "_law_merge", "_law_flag", "_law_told_so", "_law_late", "_law_down", "_law_kind_so", "_law_x", "_law_u", "_law_kept", "_law_some", "_law_y", "_law_row", "_law_due", "_law_z"], ["_law_script"], [])]
def inf : List (List Str × List Str × List Nat) := inf0 ++ inf1 ++ inf2
def mk : List (Str × Arguments × List Stmt × Scope) → List (List Str × List Str × List Nat) → List DI
  | (x, a, b, sc) :: r, (N, ps, mv) :: s => ⟨x, a, b, sc, N, ps, mv⟩ :: mk r s
  | _, _ => []
def L : Lw := ⟨mk defs inf, [(("MOST_STATES" : Str), ((.int 8) : Val)), (("MOST_UPDATES" : Str), ((.int 4) : Val)), (("MOST_READ" : Str), ((.int 9) : Val)), (("START" : Str), ((.str "start") : Val)), (("TWICE" : Str), ((.str "twice") : Val)), (("TURN" : Str), ((.str "turn") : Val)), (("GROUP" : Str), ((.str "group") : Val)), (("RISE" : Str), ((.str "rise") : Val)), (("RULES" : Str), ((.tup [(.str "start"), (.str "twice"), (.str "turn"), (.str "rise"), (.str "group")]) : Val))], ["len", "range", "isinstance", "int", "tuple", "min", "max", "enumerate", "list", "sorted", "set", "repr", "bool", "str", "all", "any"]⟩
def at_ (i : Nat) : DI := L.dis.getD i ⟨"", ⟨[], [], none, [], [], none, []⟩, [], ⟨.function, [], false, false, []⟩, [], [], []⟩
theorem mem {i : Nat} (h : i < L.dis.length) : at_ i ∈ L.dis := by
  unfold at_
  rw [List.getD_eq_getElem?_getD, List.getElem?_eq_getElem h]
  exact List.getElem_mem h
def lawD : DI := at_ 32
def im : Nat := 1
def rest : List Stmt := lawD.body.drop 1
theorem spc : Spc L where
  mix := ⟨at_ 20, mem (by decide +kernel), by decide +kernel, by decide +kernel, .mk⟩
  fold := ⟨at_ 21, mem (by decide +kernel), by decide +kernel, by decide +kernel, .mk (by decide +kernel)⟩
  draw := ⟨at_ 22, mem (by decide +kernel), by decide +kernel, by decide +kernel, .mk⟩
  begun := ⟨at_ 23, mem (by decide +kernel), by decide +kernel, by decide +kernel, .mk⟩
  free := by decide +kernel
theorem chk : L.chk = true := by decide +kernel
theorem okl : okLaw lawD im = true := by decide +kernel
theorem lb : LawB lawD im rest := ⟨_, _, _, _, _, rfl⟩
end Pg
set_option Elab.async false
set_option linter.all false
set_option maxRecDepth 100000
set_option maxHeartbeats 4000000
namespace Pg
open PySem L2 Pm Pp
abbrev G : Glob := globOf L
def f_is_whole : Nat := 0
def f_are_states : Nat := 1
def f_wrong_in_reads : Nat := 2
def f_wrong_in_updates : Nat := 3
def f_wrong_in_merge : Nat := 4
def f_need_kind : Nat := 5
def f_merged_of : Nat := 6
def f_found_of : Nat := 7
def f_next_of : Nat := 8
def f_coming_of : Nat := 9
def f_broken_by : Nat := 10
def f_do_group : Nat := 11
def f_does_rise : Nat := 12
def f_need_holding : Nat := 13
def f_need_coming : Nat := 14
def f_is_below_in : Nat := 15
def f_least_among : Nat := 16
def f_deltas : Nat := 17
def f_need_update : Nat := 18
def f_constant_deltas : Nat := 19
def f_law_mixed : Nat := 20
def f_law_folded : Nat := 21
def f_law_draw : Nat := 22
def f_law_begun : Nat := 23
def f_law_like : Nat := 24
def f_law_join_table : Nat := 25
def f_law_both_lots : Nat := 26
def f_law_reads : Nat := 27
def f_law_renumbered : Nat := 28
def f_law_holding : Nat := 29
def f_law_coming : Nat := 30
def f_law_least : Nat := 31
def f_law : Nat := 32
def b_is_whole : ST := (.ret (.an (.pr (.isi .int) (.cons (.pk 0) .nil)) (.an (.nt (.pr (.isi .bool) (.cons (.pk 0) .nil))) (.chn .le .le (.pk 1) (.pk 0) (.pk 2)))))
theorem t_is_whole : tabOf G f_is_whole = some ⟨3, 3, b_is_whole⟩ := by kernel_rfl
def b_are_states : ST := (.ret (.an (.pr (.isi .tuple) (.cons (.pk 0) .nil)) (.an (.cmp .eq (.pr .len (.cons (.pk 0) .nil)) (.pk 1)) (.pr .all (.cons (.comp [2] (.nm 2) (.it (.pk 0)) (.c (.bl true)) (.yld (.call f_is_whole (.cons (.sl 2) (.cons (.c (.int 0)) (.cons (.bin .sub (.pk 1) (.c (.int 1))) .nil)))))) .nil)))))
theorem t_are_states : tabOf G f_are_states = some ⟨2, 3, b_are_states⟩ := by kernel_rfl
def b_wrong_in_reads : ST := (.seq (.ife (.oo (.nt (.pr (.isi .tuple) (.cons (.pk 0) .nil))) (.nt (.chn .le .le (.c (.int 1)) (.pr .len (.cons (.pk 0) .nil)) (.c (.int 8))))) (.retN (.lst (.cons (.tup .nil) .nil))) .skip) (.retN (.slc (.comp [1, 2] (.tp [(.nm 1), (.nm 2)]) (.enm (.sl 0)) (.nt (.call f_is_whole (.cons (.sl 2) (.cons (.c (.int 0)) (.cons (.c (.int 9)) .nil))))) (.yld (.tup (.cons (.sl 1) .nil)))) .no (.part (.c (.int 1))))))
theorem t_wrong_in_reads : tabOf G f_wrong_in_reads = some ⟨1, 3, b_wrong_in_reads⟩ := by kernel_rfl
def b_wrong_in_updates : ST := (.seq (.ife (.oo (.nt (.pr (.isi .tuple) (.cons (.pk 0) .nil))) (.nt (.chn .le .le (.c (.int 1)) (.pr .len (.cons (.pk 0) .nil)) (.c (.int 4))))) (.retN (.lst (.cons (.tup .nil) .nil))) .skip) (.retN (.slc (.comp [2, 3] (.tp [(.nm 2), (.nm 3)]) (.enm (.sl 0)) (.nt (.call f_are_states (.cons (.sl 3) (.cons (.sl 1) .nil)))) (.yld (.tup (.cons (.sl 2) .nil)))) .no (.part (.c (.int 1))))))
theorem t_wrong_in_updates : tabOf G f_wrong_in_updates = some ⟨2, 4, b_wrong_in_updates⟩ := by kernel_rfl
def b_wrong_in_merge : ST := (.seq (.ife (.oo (.nt (.pr (.isi .tuple) (.cons (.pk 0) .nil))) (.cmp .ne (.pr .len (.cons (.pk 0) .nil)) (.pk 1))) (.retN (.lst (.cons (.tup .nil) .nil))) .skip) (.retN (.slc (.comp [2, 3] (.tp [(.nm 2), (.nm 3)]) (.enm (.sl 0)) (.nt (.call f_are_states (.cons (.sl 3) (.cons (.sl 1) .nil)))) (.yld (.tup (.cons (.sl 2) .nil)))) .no (.part (.c (.int 1))))))
theorem t_wrong_in_merge : tabOf G f_wrong_in_merge = some ⟨2, 4, b_wrong_in_merge⟩ := by kernel_rfl
def b_need_kind : ST := (.seq (.ife (.oo (.nt (.pr (.isi .tuple) (.cons (.pk 0) .nil))) (.cmp .ne (.pr .len (.cons (.pk 0) .nil)) (.c (.int 4)))) .bad .skip) (.seq (.for_ (.nm 1) (.it (.call f_wrong_in_reads (.cons (.ix (.pk 0) (.c (.int 3))) .nil))) .bad) (.seq (.asg (.nm 2) (.pr .len (.cons (.ix (.pk 0) (.c (.int 3))) .nil))) (.seq (.ife (.nt (.call f_is_whole (.cons (.ix (.pk 0) (.c (.int 0))) (.cons (.c (.int 0)) (.cons (.bin .sub (.pk 2) (.c (.int 1))) .nil))))) .bad .skip) (.seq (.for_ (.nm 1) (.it (.call f_wrong_in_updates (.cons (.ix (.pk 0) (.c (.int 1))) (.cons (.sl 2) .nil)))) .bad) (.seq (.for_ (.nm 1) (.it (.call f_wrong_in_merge (.cons (.ix (.pk 0) (.c (.int 2))) (.cons (.sl 2) .nil)))) .bad) (.ret (.sl 0))))))))
theorem t_need_kind : tabOf G f_need_kind = some ⟨1, 3, b_need_kind⟩ := by kernel_rfl
def b_merged_of : ST := (.ret (.ix (.ix (.ix (.pk 0) (.c (.int 2))) (.pk 1)) (.pk 2)))
theorem t_merged_of : tabOf G f_merged_of = some ⟨3, 3, b_merged_of⟩ := by kernel_rfl
def b_found_of : ST := (.seq (.asgN 1 (.lst (.cons (.ix (.pk 0) (.c (.int 0))) .nil))) (.seq (.asg (.nm 2) (.callb f_next_of (.cons (.bor 0) (.cons (.bor 1) .nil)))) (.seq (.whl (.cmp .ne (.pk 2) (.lst .nil)) (.seq (.app 1 (.ix (.pk 2) (.c (.int 0)))) (.asg (.nm 2) (.callb f_next_of (.cons (.bor 0) (.cons (.bor 1) .nil)))))) (.retM 1))))
theorem t_found_of : tabOf G f_found_of = some ⟨1, 3, b_found_of⟩ := by kernel_rfl
def b_next_of : ST := (.seq (.asgN 2 (.comp [3, 4] (.nm 3) (.it (.pk 1)) (.c (.bl true)) (.gen (.nm 4) (.it (.ix (.pk 0) (.c (.int 1)))) (.c (.bl true)) (.yld (.ix (.pk 4) (.pk 3)))))) (.seq (.ext 2 (.comp [5, 6] (.nm 5) (.it (.pk 1)) (.c (.bl true)) (.gen (.nm 6) (.it (.sl 1)) (.c (.bl true)) (.yld (.call f_merged_of (.cons (.sl 0) (.cons (.sl 5) (.cons (.sl 6) .nil)))))))) (.retN (.comp [3] (.nm 3) (.it (.pk 2)) (.cmp .notin (.pk 3) (.pk 1)) (.yld (.sl 3))))))
theorem t_next_of : tabOf G f_next_of = some ⟨2, 7, b_next_of⟩ := by kernel_rfl
def b_coming_of : ST := (.ret (.pr .sorted (.cons (.call f_found_of (.cons (.sl 0) .nil)) .nil)))
theorem t_coming_of : tabOf G f_coming_of = some ⟨1, 1, b_coming_of⟩ := by kernel_rfl
def b_broken_by : ST := (.seq (.ife (.cmp .eq (.pk 1) (.c (.str ("start" : Str)))) (.seq (.asg (.nm 3) (.ix (.pk 0) (.c (.int 0)))) (.retN (.comp [4] (.nm 4) (.it (.pk 2)) (.oo (.cmp .ne (.call f_merged_of (.cons (.sl 0) (.cons (.sl 3) (.cons (.sl 4) .nil)))) (.pk 4)) (.cmp .ne (.call f_merged_of (.cons (.sl 0) (.cons (.sl 4) (.cons (.sl 3) .nil)))) (.pk 4))) (.yld (.tup (.cons (.sl 4) .nil)))))) .skip) (.seq (.ife (.cmp .eq (.pk 1) (.c (.str ("twice" : Str)))) (.retN (.comp [4] (.nm 4) (.it (.pk 2)) (.cmp .ne (.call f_merged_of (.cons (.sl 0) (.cons (.sl 4) (.cons (.sl 4) .nil)))) (.pk 4)) (.yld (.tup (.cons (.sl 4) .nil))))) .skip) (.seq (.ife (.cmp .eq (.pk 1) (.c (.str ("turn" : Str)))) (.retN (.comp [4, 5] (.nm 4) (.it (.pk 2)) (.c (.bl true)) (.gen (.nm 5) (.it (.sl 2)) (.cmp .ne (.call f_merged_of (.cons (.sl 0) (.cons (.sl 4) (.cons (.sl 5) .nil)))) (.call f_merged_of (.cons (.sl 0) (.cons (.sl 5) (.cons (.sl 4) .nil))))) (.yld (.tup (.cons (.sl 4) (.cons (.sl 5) .nil))))))) .skip) (.seq (.ife (.cmp .eq (.pk 1) (.c (.str ("rise" : Str)))) (.retN (.comp [4, 7, 8] (.nm 4) (.it (.pk 2)) (.c (.bl true)) (.gen (.tp [(.nm 7), (.nm 8)]) (.enm (.ix (.pk 0) (.c (.int 1)))) (.nt (.call f_does_rise (.cons (.sl 0) (.cons (.sl 4) (.cons (.ix (.pk 8) (.pk 4)) .nil))))) (.yld (.tup (.cons (.sl 4) (.cons (.sl 7) .nil))))))) .skip) (.retN (.comp [4, 5, 6] (.nm 4) (.it (.pk 2)) (.c (.bl true)) (.gen (.nm 5) (.it (.sl 2)) (.c (.bl true)) (.gen (.nm 6) (.it (.sl 2)) (.nt (.call f_do_group (.cons (.sl 0) (.cons (.sl 4) (.cons (.sl 5) (.cons (.sl 6) .nil)))))) (.yld (.tup (.cons (.sl 4) (.cons (.sl 5) (.cons (.sl 6) .nil)))))))))))))
theorem t_broken_by : tabOf G f_broken_by = some ⟨3, 9, b_broken_by⟩ := by kernel_rfl
def b_do_group : ST := (.seq (.par [(4, false), (5, false)] (.cons (.call f_merged_of (.cons (.sl 0) (.cons (.sl 1) (.cons (.sl 2) .nil)))) (.cons (.call f_merged_of (.cons (.sl 0) (.cons (.sl 2) (.cons (.sl 3) .nil)))) .nil))) (.ret (.cmp .eq (.call f_merged_of (.cons (.sl 0) (.cons (.sl 4) (.cons (.sl 3) .nil)))) (.call f_merged_of (.cons (.sl 0) (.cons (.sl 1) (.cons (.sl 5) .nil)))))))
theorem t_do_group : tabOf G f_do_group = some ⟨4, 6, b_do_group⟩ := by kernel_rfl
def b_does_rise : ST := (.ret (.an (.cmp .eq (.call f_merged_of (.cons (.sl 0) (.cons (.sl 1) (.cons (.sl 2) .nil)))) (.pk 2)) (.cmp .eq (.call f_merged_of (.cons (.sl 0) (.cons (.sl 2) (.cons (.sl 1) .nil)))) (.pk 2))))
theorem t_does_rise : tabOf G f_does_rise = some ⟨3, 3, b_does_rise⟩ := by kernel_rfl
def b_need_holding : ST := (.seq (.asg (.nm 1) (.call f_coming_of (.cons (.call f_need_kind (.cons (.sl 0) .nil)) .nil))) (.seq (.for_ (.nm 2) (.it (.c (.tup [(.str ("start" : Str)), (.str ("twice" : Str)), (.str ("turn" : Str)), (.str ("rise" : Str)), (.str ("group" : Str))]))) (.ife (.cmp .ne (.call f_broken_by (.cons (.sl 0) (.cons (.sl 2) (.cons (.sl 1) .nil)))) (.lst .nil)) .bad .skip)) (.ret (.sl 1))))
theorem t_need_holding : tabOf G f_need_holding = some ⟨1, 3, b_need_holding⟩ := by kernel_rfl
def b_need_coming : ST := (.ife (.oo (.nt (.call f_is_whole (.cons (.sl 1) (.cons (.c (.int 0)) (.cons (.ix (.pk 0) (.neg (.c (.int 1)))) .nil))))) (.cmp .notin (.pk 1) (.pk 0))) .bad .skip)
theorem t_need_coming : tabOf G f_need_coming = some ⟨2, 2, b_need_coming⟩ := by kernel_rfl
def b_is_below_in : ST := (.ret (.cmp .eq (.call f_merged_of (.cons (.sl 0) (.cons (.sl 1) (.cons (.sl 2) .nil)))) (.pk 2)))
theorem t_is_below_in : tabOf G f_is_below_in = some ⟨3, 3, b_is_below_in⟩ := by kernel_rfl
def b_least_among : ST := (.retN (.comp [2] (.nm 2) (.it (.pk 1)) (.nt (.pr .any (.cons (.comp [3] (.nm 3) (.it (.pk 1)) (.c (.bl true)) (.yld (.an (.cmp .ne (.pk 3) (.pk 2)) (.call f_is_below_in (.cons (.sl 0) (.cons (.sl 3) (.cons (.sl 2) .nil))))))) .nil))) (.yld (.sl 2))))
theorem t_least_among : tabOf G f_least_among = some ⟨2, 4, b_least_among⟩ := by kernel_rfl
def b_deltas : ST := (.seq (.asg (.nm 3) (.call f_need_holding (.cons (.sl 0) .nil))) (.seq (.xpr (.call f_need_coming (.cons (.sl 3) (.cons (.sl 1) .nil)))) (.seq (.xpr (.call f_need_coming (.cons (.sl 3) (.cons (.sl 2) .nil)))) (.seq (.asg (.nm 4) (.call f_merged_of (.cons (.sl 0) (.cons (.sl 1) (.cons (.sl 2) .nil))))) (.ret (.pr .tuple (.cons (.call f_least_among (.cons (.sl 0) (.cons (.comp [5] (.nm 5) (.it (.pk 3)) (.cmp .eq (.call f_merged_of (.cons (.sl 0) (.cons (.sl 1) (.cons (.sl 5) .nil)))) (.pk 4)) (.yld (.sl 5))) .nil))) .nil)))))))
theorem t_deltas : tabOf G f_deltas = some ⟨3, 6, b_deltas⟩ := by kernel_rfl
def b_need_update : ST := (.ife (.nt (.call f_is_whole (.cons (.sl 1) (.cons (.c (.int 0)) (.cons (.bin .sub (.pr .len (.cons (.ix (.pk 0) (.c (.int 1))) .nil)) (.c (.int 1))) .nil))))) .bad .skip)
theorem t_need_update : tabOf G f_need_update = some ⟨2, 2, b_need_update⟩ := by kernel_rfl
def b_constant_deltas : ST := (.seq (.asg (.nm 2) (.call f_need_holding (.cons (.sl 0) .nil))) (.seq (.xpr (.call f_need_update (.cons (.sl 0) (.cons (.sl 1) .nil)))) (.seq (.asg (.nm 3) (.ix (.ix (.pk 0) (.c (.int 1))) (.pk 1))) (.ret (.pr .tuple (.cons (.comp [4] (.nm 4) (.it (.pk 2)) (.pr .all (.cons (.comp [5] (.nm 5) (.it (.pk 2)) (.c (.bl true)) (.yld (.cmp .eq (.call f_merged_of (.cons (.sl 0) (.cons (.sl 5) (.cons (.sl 4) .nil)))) (.ix (.pk 3) (.pk 5))))) .nil)) (.yld (.sl 4))) .nil))))))
theorem t_constant_deltas : tabOf G f_constant_deltas = some ⟨2, 6, b_constant_deltas⟩ := by kernel_rfl
def b_law_mixed : ST := (.seq (.asg (.nm 2) (.bin .add (.bin .add (.bin .mod (.pr .int (.cons (.bin .mul (.bin .mul (.pk 0) (.bin .add (.c (.int 1)) (.bin .mul (.c (.int 2)) (.pk 1)))) (.c (.int 48271))) .nil)) (.c (.int 2147483647))) (.bin .mul (.bin .mul (.c (.int 7919)) (.pk 1)) (.pk 1))) (.bin .mul (.c (.int 104729)) (.pk 1)))) (.retN (.bin .fdiv (.bin .mod (.pr .int (.cons (.bin .mul (.pk 2) (.c (.int 69621))) .nil)) (.c (.int 2147483629))) (.c (.int 7)))))
theorem t_law_mixed : tabOf G f_law_mixed = some ⟨2, 3, b_law_mixed⟩ := by kernel_rfl
def b_law_like : ST := (.ret (.cmp .eq (.pr .repr (.cons (.pk 0) .nil)) (.pr .repr (.cons (.pk 1) .nil))))
theorem t_law_like : tabOf G f_law_like = some ⟨2, 2, b_law_like⟩ := by kernel_rfl
def b_law_join_table : ST := (.seq (.asg (.nm 1) (.draw (.sl 0) (.c (.int 5)))) (.seq (.ife (.cmp .eq (.pk 1) (.c (.int 0))) (.seq (.asg (.nm 2) (.bin .add (.c (.int 2)) (.draw (.sl 0) (.c (.int 6))))) (.seq (.asgN 3 (.lst (.cons (.pr .tuple (.cons (.comp [5] (.nm 5) (.rng (.c (.int 0)) (.pk 2)) (.c (.bl true)) (.yld (.pr .min (.cons (.bin .sub (.pk 2) (.c (.int 1))) (.cons (.bin .add (.pk 5) (.c (.int 1))) .nil))))) .nil)) .nil))) (.seq (.app 3 (.pr .tuple (.cons (.comp [5] (.nm 5) (.rng (.c (.int 0)) (.pk 2)) (.c (.bl true)) (.yld (.pr .max (.cons (.pk 5) (.cons (.bin .fdiv (.pk 2) (.c (.int 2))) .nil))))) .nil))) (.ret (.tup (.cons (.c (.int 0)) (.cons (.sl 3) (.cons (.pr .tuple (.cons (.comp [5] (.nm 5) (.rng (.c (.int 0)) (.pk 2)) (.c (.bl true)) (.yld (.pr .tuple (.cons (.comp [7] (.nm 7) (.rng (.c (.int 0)) (.pk 2)) (.c (.bl true)) (.yld (.pr .max (.cons (.pk 5) (.cons (.pk 7) .nil))))) .nil)))) .nil)) (.cons (.sl 2) .nil))))))))) .skip) (.seq (.asg (.nm 2) (.ix (.lst (.cons (.c (.int 4)) (.cons (.c (.int 8)) (.cons (.c (.int 6)) (.cons (.c (.int 8)) .nil))))) (.bin .sub (.pk 1) (.c (.int 1))))) (.seq (.ife (.cmp .ne (.pk 1) (.c (.int 3))) (.seq (.asgN 3 (.comp [6] (.nm 6) (.it (.slc (.tup (.cons (.c (.int 1)) (.cons (.c (.int 2)) (.cons (.c (.int 4)) .nil)))) .no (.part (.bin .add (.pk 1) (.c (.int 1)))))) (.c (.bl true)) (.yld (.pr .tuple (.cons (.comp [5] (.nm 5) (.rng (.c (.int 0)) (.pk 2)) (.c (.bl true)) (.yld (.ite (.cmp .eq (.bin .mod (.pr .int (.cons (.bin .fdiv (.pk 5) (.pk 6)) .nil)) (.c (.int 2))) (.c (.int 0))) (.bin .add (.pk 5) (.pk 6)) (.sl 5)))) .nil))))) (.seq (.ife (.cmp .eq (.pk 1) (.c (.int 4))) (.asgN 3 (.comp [6] (.nm 6) (.it (.tup (.cons (.c (.int 1)) (.cons (.c (.int 2)) (.cons (.c (.int 4)) .nil))))) (.c (.bl true)) (.yld (.bin .add (.tup (.cons (.sl 6) .nil)) (.pr .rangeT (.cons (.c (.int 1)) (.cons (.c (.int 8)) .nil))))))) .skip) (.seq (.asgN 4 (.comp [5] (.nm 5) (.rng (.c (.int 0)) (.pk 2)) (.c (.bl true)) (.yld (.pr .tuple (.cons (.comp [7] (.nm 7) (.rng (.c (.int 0)) (.pk 2)) (.c (.bl true)) (.yld (.call f_law_both_lots (.cons (.sl 5) (.cons (.sl 7) .nil))))) .nil))))) (.ret (.tup (.cons (.c (.int 0)) (.cons (.sl 3) (.cons (.pr .tuple (.cons (.pk 4) .nil)) (.cons (.sl 2) .nil))))))))) .skip) (.seq (.asgN 3 (.lst (.cons (.pr .tuple (.cons (.comp [5] (.nm 5) (.rng (.c (.int 0)) (.c (.int 6))) (.c (.bl true)) (.yld (.bin .add (.bin .mul (.pr .min (.cons (.bin .add (.bin .fdiv (.pk 5) (.c (.int 2))) (.c (.int 1))) (.cons (.c (.int 2)) .nil))) (.c (.int 2))) (.bin .mod (.pr .int (.cons (.pk 5) .nil)) (.c (.int 2)))))) .nil)) (.cons (.pr .tuple (.cons (.comp [5] (.nm 5) (.rng (.c (.int 0)) (.c (.int 6))) (.c (.bl true)) (.yld (.bin .add (.bin .mul (.bin .fdiv (.pk 5) (.c (.int 2))) (.c (.int 2))) (.c (.int 1))))) .nil)) .nil)))) (.seq (.asgN 4 (.lst .nil)) (.seq (.for_ (.nm 5) (.rng (.c (.int 0)) (.c (.int 6))) (.app 4 (.pr .tuple (.cons (.comp [7] (.nm 7) (.rng (.c (.int 0)) (.c (.int 6))) (.c (.bl true)) (.yld (.bin .add (.bin .mul (.pr .max (.cons (.bin .fdiv (.pk 5) (.c (.int 2))) (.cons (.bin .fdiv (.pk 7) (.c (.int 2))) .nil))) (.c (.int 2))) (.pr .max (.cons (.bin .mod (.pr .int (.cons (.pk 5) .nil)) (.c (.int 2))) (.cons (.bin .mod (.pr .int (.cons (.pk 7) .nil)) (.c (.int 2))) .nil)))))) .nil)))) (.ret (.tup (.cons (.c (.int 0)) (.cons (.sl 3) (.cons (.pr .tuple (.cons (.pk 4) .nil)) (.cons (.sl 2) .nil)))))))))))))
theorem t_law_join_table : tabOf G f_law_join_table = some ⟨1, 8, b_law_join_table⟩ := by kernel_rfl
def b_law_both_lots : ST := (.seq (.asg (.nm 2) (.c (.int 0))) (.seq (.for_ (.nm 3) (.it (.tup (.cons (.c (.int 1)) (.cons (.c (.int 2)) (.cons (.c (.int 4)) .nil))))) (.asg (.nm 2) (.bin .add (.pk 2) (.ite (.oo (.cmp .eq (.bin .mod (.pr .int (.cons (.bin .fdiv (.pk 0) (.pk 3)) .nil)) (.c (.int 2))) (.c (.int 1))) (.cmp .eq (.bin .mod (.pr .int (.cons (.bin .fdiv (.pk 1) (.pk 3)) .nil)) (.c (.int 2))) (.c (.int 1)))) (.pk 3) (.c (.int 0)))))) (.ret (.sl 2))))
theorem t_law_both_lots : tabOf G f_law_both_lots = some ⟨2, 4, b_law_both_lots⟩ := by kernel_rfl
def b_law_reads : ST := (.ret (.pr .tuple (.cons (.comp [2] (.nm 2) (.rng (.c (.int 0)) (.pk 1)) (.c (.bl true)) (.yld (.ite (.cmp .gt (.draw (.sl 0) (.c (.int 3))) (.c (.int 0))) (.sl 2) (.draw (.sl 0) (.c (.int 10)))))) .nil)))
theorem t_law_reads : tabOf G f_law_reads = some ⟨2, 3, b_law_reads⟩ := by kernel_rfl
def b_law_renumbered : ST := (.seq (.asg (.nm 2) (.pr .len (.cons (.pk 1) .nil))) (.seq (.asg (.nm 3) (.comp [7] (.nm 7) (.rng (.c (.int 0)) (.pk 2)) (.c (.bl true)) (.yld (.idx (.pk 1) (.pk 7))))) (.seq (.asg (.nm 4) (.pr .tuple (.cons (.comp [8] (.nm 8) (.it (.ix (.pk 0) (.c (.int 1)))) (.c (.bl true)) (.yld (.pr .tuple (.cons (.comp [6] (.nm 6) (.it (.pk 3)) (.c (.bl true)) (.yld (.ix (.pk 1) (.ix (.pk 8) (.pk 6))))) .nil)))) .nil))) (.seq (.asgN 5 (.lst .nil)) (.seq (.for_ (.nm 6) (.it (.sl 3)) (.app 5 (.pr .tuple (.cons (.comp [7] (.nm 7) (.it (.pk 3)) (.c (.bl true)) (.yld (.ix (.pk 1) (.ix (.ix (.ix (.pk 0) (.c (.int 2))) (.pk 6)) (.pk 7))))) .nil)))) (.ret (.tup (.cons (.ix (.pk 1) (.ix (.pk 0) (.c (.int 0)))) (.cons (.sl 4) (.cons (.pr .tuple (.cons (.pk 5) .nil)) (.cons (.pr .tuple (.cons (.comp [6] (.nm 6) (.it (.pk 3)) (.c (.bl true)) (.yld (.ix (.ix (.pk 0) (.c (.int 3))) (.pk 6)))) .nil)) .nil)))))))))))
theorem t_law_renumbered : tabOf G f_law_renumbered = some ⟨2, 9, b_law_renumbered⟩ := by kernel_rfl
def b_law_holding : ST := (.seq (.asg (.tp [(.nm 3), (.nm 4), (.nm 5), (.nm 6)]) (.call f_law_join_table (.cons (.sl 0) .nil))) (.seq (.asg (.nm 1) (.comp [9] (.nm 9) (.it (.pk 4)) (.cmp .gt (.draw (.sl 0) (.c (.int 4))) (.c (.int 0))) (.yld (.sl 9)))) (.seq (.asg (.nm 2) (.tup (.cons (.sl 3) (.cons (.pr .tuple (.cons (.ite (.cmp .ne (.pk 1) (.lst .nil)) (.pk 1) (.slc (.pk 4) .no (.part (.c (.int 1))))) .nil)) (.cons (.sl 5) (.cons (.call f_law_reads (.cons (.sl 0) (.cons (.sl 6) .nil))) .nil)))))) (.seq (.par [(7, true), (8, true)] (.cons (.pr .rangeL (.cons (.c (.int 0)) (.cons (.pk 6) .nil))) (.cons (.lst .nil) .nil))) (.seq (.ife (.cmp .eq (.draw (.sl 0) (.c (.int 2))) (.c (.int 0))) (.ret (.sl 2)) .skip) (.seq (.whl (.cmp .ne (.pk 7) (.lst .nil)) (.appPop 8 7 (.draw (.sl 0) (.pr .len (.cons (.pk 7) .nil))))) (.ret (.call f_law_renumbered (.cons (.sl 2) (.cons (.sl 8) .nil))))))))))
theorem t_law_holding : tabOf G f_law_holding = some ⟨1, 10, b_law_holding⟩ := by kernel_rfl
def b_law_coming : ST := (.seq (.par [(1, false), (2, false)] (.cons (.lst (.cons (.ix (.pk 0) (.c (.int 0))) .nil)) (.cons (.c (.int 0)) .nil))) (.seq (.whl (.cmp .lt (.pk 2) (.pr .len (.cons (.pk 1) .nil))) (.seq (.asg (.nm 2) (.pr .len (.cons (.pk 1) .nil))) (.for_ (.nm 3) (.it (.pr .list (.cons (.pk 1) .nil))) (.seq (.asg (.nm 4) (.bin .add (.comp [6] (.nm 6) (.it (.ix (.pk 0) (.c (.int 1)))) (.c (.bl true)) (.yld (.ix (.pk 6) (.pk 3)))) (.comp [7] (.nm 7) (.it (.pk 1)) (.c (.bl true)) (.yld (.ix (.ix (.ix (.pk 0) (.c (.int 2))) (.pk 3)) (.pk 7)))))) (.seq (.asg (.nm 4) (.bin .add (.pk 4) (.comp [7] (.nm 7) (.it (.pk 1)) (.c (.bl true)) (.yld (.ix (.ix (.ix (.pk 0) (.c (.int 2))) (.pk 7)) (.pk 3)))))) (.for_ (.nm 5) (.it (.sl 4)) (.asg (.nm 1) (.bin .add (.pk 1) (.ite (.cmp .notin (.pk 5) (.pk 1)) (.lst (.cons (.sl 5) .nil)) (.lst .nil)))))))))) (.ret (.pr .sorted (.cons (.pk 1) .nil)))))
theorem t_law_coming : tabOf G f_law_coming = some ⟨1, 8, b_law_coming⟩ := by kernel_rfl
def b_law_least : ST := (.ret (.pr .tuple (.cons (.comp [2] (.nm 2) (.it (.pk 1)) (.cmp .eq (.comp [3] (.nm 3) (.it (.pk 1)) (.an (.cmp .ne (.pk 3) (.pk 2)) (.cmp .eq (.ix (.ix (.pk 0) (.pk 3)) (.pk 2)) (.pk 2))) (.yld (.sl 3))) (.lst .nil)) (.yld (.sl 2))) .nil)))
theorem t_law_least : tabOf G f_law_least = some ⟨2, 4, b_law_least⟩ := by kernel_rfl
def b_law : ST := (.seq (.for_ (.nm 2) (.rng (.c (.int 0)) (.bin .add (.c (.int 3)) (.pr .min (.cons (.c (.int 5)) (.cons (.pr .len (.cons (.pk 0) .nil)) .nil))))) (.seq (.asg (.nm 9) (.call f_law_holding (.cons (.sl 1) .nil))) (.seq (.par [(12, false), (4, false), (13, false)] (.cons (.pr .repr (.cons (.pk 9) .nil)) (.cons (.ix (.pk 9) (.c (.int 2))) (.cons (.call f_law_coming (.cons (.sl 9) .nil)) .nil)))) (.seq (.for_ (.nm 10) (.it (.sl 13)) (.for_ (.nm 14) (.it (.sl 13)) (.seq (.asg (.nm 16) (.call f_law_least (.cons (.sl 4) (.cons (.comp [17] (.nm 17) (.it (.pk 13)) (.cmp .eq (.ix (.ix (.pk 4) (.pk 10)) (.pk 17)) (.ix (.ix (.pk 4) (.pk 10)) (.pk 14))) (.yld (.sl 17))) .nil)))) (.ife (.nt (.call f_law_like (.cons (.call f_deltas (.cons (.sl 9) (.cons (.sl 10) (.cons (.sl 14) .nil)))) (.cons (.sl 16) .nil)))) (.ret (.c (.bl false))) .skip)))) (.seq (.for_ (.nm 11) (.rng (.c (.int 0)) (.pr .len (.cons (.ix (.pk 9) (.c (.int 1))) .nil))) (.seq (.asg (.nm 15) (.ix (.ix (.pk 9) (.c (.int 1))) (.pk 11))) (.seq (.asg (.nm 16) (.pr .tuple (.cons (.comp [17] (.nm 17) (.it (.pk 13)) (.cmp .eq (.comp [10] (.nm 10) (.it (.pk 13)) (.cmp .ne (.ix (.ix (.pk 4) (.pk 10)) (.pk 17)) (.ix (.pk 15) (.pk 10))) (.yld (.sl 10))) (.lst .nil)) (.yld (.sl 17))) .nil))) (.ife (.nt (.call f_law_like (.cons (.lst (.cons (.call f_constant_deltas (.cons (.sl 9) (.cons (.sl 11) .nil))) (.cons (.call f_constant_deltas (.cons (.sl 9) (.cons (.sl 11) .nil))) .nil))) (.cons (.lst (.cons (.sl 16) (.cons (.sl 16) .nil))) .nil)))) (.ret (.c (.bl false))) .skip)))) (.ife (.cmp .ne (.pr .repr (.cons (.pk 9) .nil)) (.pk 12)) (.ret (.c (.bl false))) .skip)))))) (.seq (.asg (.nm 3) (.tup (.cons (.c (.int 0)) (.cons (.tup (.cons (.tup (.cons (.c (.int 1)) (.cons (.c (.int 4)) (.cons (.c (.int 4)) (.cons (.c (.int 4)) (.cons (.c (.int 4)) .nil)))))) (.cons (.tup (.cons (.c (.int 2)) (.cons (.c (.int 4)) (.cons (.c (.int 4)) (.cons (.c (.int 4)) (.cons (.c (.int 4)) .nil)))))) (.cons (.tup (.cons (.c (.int 3)) (.cons (.c (.int 4)) (.cons (.c (.int 4)) (.cons (.c (.int 4)) (.cons (.c (.int 4)) .nil)))))) .nil)))) (.cons (.tup .nil) (.cons (.tup (.cons (.c (.int 0)) (.cons (.c (.int 1)) (.cons (.c (.int 2)) (.cons (.c (.int 3)) (.cons (.c (.int 4)) .nil)))))) .nil)))))) (.seq (.asg (.nm 4) (.tup (.cons (.tup (.cons (.c (.int 0)) (.cons (.c (.int 1)) (.cons (.c (.int 2)) (.cons (.c (.int 3)) (.cons (.c (.int 4)) .nil)))))) (.cons (.tup (.cons (.c (.int 1)) (.cons (.c (.int 1)) (.cons (.c (.int 4)) (.cons (.c (.int 4)) (.cons (.c (.int 4)) .nil)))))) (.cons (.tup (.cons (.c (.int 2)) (.cons (.c (.int 4)) (.cons (.c (.int 2)) (.cons (.c (.int 4)) (.cons (.c (.int 4)) .nil)))))) (.cons (.tup (.cons (.c (.int 3)) (.cons (.c (.int 4)) (.cons (.c (.int 4)) (.cons (.c (.int 3)) (.cons (.c (.int 4)) .nil)))))) (.cons (.tup (.cons (.c (.int 4)) (.cons (.c (.int 4)) (.cons (.c (.int 4)) (.cons (.c (.int 4)) (.cons (.c (.int 4)) .nil)))))) .nil))))))) (.seq (.asg (.nm 3) (.bin .add (.bin .add (.slc (.pk 3) .no (.part (.c (.int 2)))) (.tup (.cons (.sl 4) .nil))) (.slc (.pk 3) (.part (.c (.int 3))) .no))) (.seq (.asg (.nm 5) (.tup (.cons (.c (.int 0)) (.cons (.tup (.cons (.tup (.cons (.c (.int 1)) (.cons (.c (.int 1)) .nil))) (.cons (.tup (.cons (.c (.int 0)) (.cons (.c (.int 1)) .nil))) .nil))) (.cons (.tup (.cons (.tup (.cons (.c (.int 0)) (.cons (.c (.int 1)) .nil))) (.cons (.tup (.cons (.c (.int 1)) (.cons (.c (.int 1)) .nil))) .nil))) (.cons (.tup (.cons (.c (.int 0)) (.cons (.c (.int 1)) .nil))) .nil)))))) (.seq (.asg (.nm 6) (.lst (.cons (.call f_deltas (.cons (.sl 3) (.cons (.c (.int 1)) (.cons (.c (.int 4)) .nil)))) (.cons (.call f_deltas (.cons (.sl 3) (.cons (.c (.int 0)) (.cons (.c (.int 4)) .nil)))) (.cons (.call f_deltas (.cons (.sl 3) (.cons (.c (.int 4)) (.cons (.c (.int 2)) .nil)))) (.cons (.call f_deltas (.cons (.sl 3) (.cons (.c (.int 1)) (.cons (.c (.int 2)) .nil)))) .nil)))))) (.seq (.asg (.nm 6) (.bin .add (.pk 6) (.lst (.cons (.call f_constant_deltas (.cons (.sl 3) (.cons (.c (.int 0)) .nil))) (.cons (.call f_constant_deltas (.cons (.sl 5) (.cons (.c (.int 0)) .nil))) (.cons (.call f_constant_deltas (.cons (.sl 5) (.cons (.c (.int 1)) .nil))) .nil)))))) (.seq (.ife (.nt (.call f_law_like (.cons (.sl 6) (.cons (.lst (.cons (.tup (.cons (.c (.int 2)) (.cons (.c (.int 3)) .nil))) (.cons (.tup (.cons (.c (.int 4)) .nil)) (.cons (.tup (.cons (.c (.int 0)) .nil)) (.cons (.tup (.cons (.c (.int 2)) (.cons (.c (.int 3)) .nil))) (.cons (.tup .nil) (.cons (.tup (.cons (.c (.int 1)) .nil)) (.cons (.tup (.cons (.c (.int 0)) .nil)) .nil)))))))) .nil)))) (.ret (.c (.bl false))) .skip) (.seq (.asg (.nm 4) (.tup (.cons (.tup (.cons (.c (.int 0)) (.cons (.c (.int 1)) (.cons (.c (.int 2)) (.cons (.c (.int 3)) (.cons (.c (.int 4)) .nil)))))) (.cons (.tup (.cons (.c (.int 1)) (.cons (.c (.int 1)) (.cons (.c (.int 3)) (.cons (.c (.int 3)) (.cons (.c (.int 4)) .nil)))))) (.cons (.tup (.cons (.c (.int 2)) (.cons (.c (.int 3)) (.cons (.c (.int 2)) (.cons (.c (.int 3)) (.cons (.c (.int 4)) .nil)))))) (.cons (.tup (.cons (.c (.int 3)) (.cons (.c (.int 3)) (.cons (.c (.int 3)) (.cons (.c (.int 3)) (.cons (.c (.int 4)) .nil)))))) (.cons (.tup (.cons (.c (.int 4)) (.cons (.c (.int 4)) (.cons (.c (.int 4)) (.cons (.c (.int 4)) (.cons (.c (.int 4)) .nil)))))) .nil))))))) (.seq (.asg (.nm 7) (.tup (.cons (.c (.int 0)) (.cons (.tup (.cons (.tup (.cons (.c (.int 1)) (.cons (.c (.int 1)) (.cons (.c (.int 2)) (.cons (.c (.int 3)) (.cons (.c (.int 4)) .nil)))))) (.cons (.tup (.cons (.c (.int 2)) (.cons (.c (.int 1)) (.cons (.c (.int 2)) (.cons (.c (.int 3)) (.cons (.c (.int 4)) .nil)))))) (.cons (.tup (.cons (.c (.int 0)) (.cons (.c (.int 1)) (.cons (.c (.int 2)) (.cons (.c (.int 4)) (.cons (.c (.int 4)) .nil)))))) .nil)))) (.cons (.sl 4) (.cons (.tup (.cons (.c (.int 0)) (.cons (.c (.int 1)) (.cons (.c (.int 2)) (.cons (.c (.int 3)) (.cons (.c (.int 4)) .nil)))))) .nil)))))) (.seq (.asg (.nm 8) (.tup (.cons (.c (.int 1)) (.cons (.tup (.cons (.tup (.cons (.c (.int 0)) (.cons (.c (.int 0)) .nil))) .nil)) (.cons (.tup (.cons (.tup (.cons (.c (.int 0)) (.cons (.c (.int 0)) .nil))) (.cons (.tup (.cons (.c (.int 0)) (.cons (.c (.int 1)) .nil))) .nil))) (.cons (.tup (.cons (.c (.int 0)) (.cons (.c (.int 1)) .nil))) .nil)))))) (.seq (.asg (.nm 6) (.lst (.cons (.call f_constant_deltas (.cons (.sl 7) (.cons (.c (.int 2)) .nil))) (.cons (.call f_deltas (.cons (.sl 8) (.cons (.c (.int 0)) (.cons (.c (.int 1)) .nil)))) (.cons (.call f_deltas (.cons (.sl 8) (.cons (.c (.int 1)) (.cons (.c (.int 0)) .nil)))) .nil))))) (.ret (.call f_law_like (.cons (.sl 6) (.cons (.lst (.cons (.tup .nil) (.cons (.tup (.cons (.c (.int 1)) .nil)) (.cons (.tup (.cons (.c (.int 0)) .nil)) .nil)))) .nil))))))))))))))))
theorem t_law : bodyOf G lawD rest = b_law := by kernel_rfl
end Pg
set_option Elab.async false
set_option linter.all false
set_option autoImplicit false
set_option maxRecDepth 100000
set_option maxHeartbeats 1000000
namespace Pg
open PySem L2 Pm Pp
variable {n : Nat} {g : DrawSt}
theorem c_is_whole {v : Val} {a b : Int} (hv : pl v = true) : callG G (n + 1) f_is_whole [v, .int a, .int b] g = .ok (.bl (isWhole v a b), false) g := by
  rw [call_of t_is_whole rfl (by decide)]
  cases v <;> simp [b_is_whole, vPrim, vIsi, isWhole, vCmp, pl] at hv ⊢
  rename_i i
  by_cases h : a ≤ i <;> simp [h]
theorem c_merged_of {k : Kd} (hk : k.Ok) {a b : Nat} (ha : a < k.n) (hb : b < k.n) : callG G (n + 1) f_merged_of [k.v, iN a, iN b] g = .ok (iN (k.mg a b), false) g := by
  rw [call_of t_merged_of rfl (by decide)]
  have h1 : a < k.m.length := by rw [hk.ml]; exact ha
  have h2 : b < (gL k.m a).length := by rw [(hk.mr _ (getD_memL h1)).1]; exact hb
  simp [b_merged_of, ix_tZZ h1, ix_tZ h2, Kd.mg]
theorem c_whole {x : Nat} {a b : Int} : callG G (n + 1) f_is_whole [iN x, .int a, .int b] g = .ok (.bl (isWhole (iN x) a b), false) g := c_is_whole rfl
theorem c_are_states {m : Nat} {row : List Nat} (h : rowOk m row) (hm : m ≤ 1000) : callG G (n + 2) f_are_states [tZ row, iN m] g = .ok (.bl true, false) g := by
  rw [call_of t_are_states rfl (by decide)]
  have hl := h.1
  have t : turns (oneT (callG G (n + 1)) B60 (.nm 2) (.c (.bl true)) (.yld (.call f_is_whole (.cons (.sl 2) (.cons (.c (.int 0)) (.cons (.bin .sub (.pk 1) (.c (.int 1))) .nil))))) [some (tZ row), some (iN m), none]) (row.map iN) [] g = .ok ((row.map iN).map fun x => .bl (isWhole x 0 (m - 1))) g := by
    refine turns_map (fun x hx => ?_) (by simp [lim]; omega)
    obtain ⟨y, _, rfl⟩ := List.mem_map.mp hx
    simp [oneT, c_whole]
  have a : vPrim .all [.lst ((row.map iN).map fun x => .bl (isWhole x 0 (m - 1)))] = some (.bl true) := by
    rw [all_map]
    congr 2
    rw [List.all_eq_true]
    intro x hx
    obtain ⟨y, hy, rfl⟩ := List.mem_map.mp hx
    have := h.2 y hy
    rw [whole_nat]
    simp; omega
  simp only [List.map_map] at t a
  simp [b_are_states, wipeE, t, a, hl]
theorem c_wrong_in_reads {k : Kd} (hk : k.Ok) : callG G (n + 2) f_wrong_in_reads [tZ k.r] g = .ok (.lst [], true) g := by
  rw [call_of t_wrong_in_reads rfl (by decide)]
  have h1 := hk.r1
  have h8 := hk.r8
  have t : turns (oneT (callG G (n + 1)) B60 (.tp [.nm 1, .nm 2]) (.nt (.call f_is_whole (.cons (.sl 2) (.cons (.c (.int 0)) (.cons (.c (.int 9)) .nil))))) (.yld (.tup (.cons (.sl 1) .nil))) [some (tZ k.r), none, none]) (enumV 0 (k.r.map iN)) [] g = .ok [] g := by
    refine turns_none fun x hx => ?_
    obtain ⟨j, y, hy, rfl⟩ := enum_mem hx
    obtain ⟨z, hz, rfl⟩ := List.mem_map.mp hy
    have := hk.r9 z hz
    have e : isWhole (iN z) 0 9 = true := by rw [whole_nat]; simp; omega
    simp [oneT, bindT, bindTs, c_whole, e]
  have a1 : decide ((1 : Int) ≤ (k.r.length : Int)) = true := by simp; omega
  have a2 : decide ((k.r.length : Int) ≤ 8) = true := by simp; omega
  simp [b_wrong_in_reads, wipeE, t, a1, a2, cut_nil, -decide_eq_true_eq]
theorem c_wrong_in_updates {k : Kd} (hk : k.Ok) : callG G (n + 3) f_wrong_in_updates [tZZ k.u, iN k.n] g = .ok (.lst [], true) g := by
  rw [call_of t_wrong_in_updates rfl (by decide)]
  have h1 := hk.u1
  have h4 := hk.u4
  have h8 := hk.r8
  have t : turns (oneT (callG G (n + 2)) B60 (.tp [.nm 2, .nm 3]) (.nt (.call f_are_states (.cons (.sl 3) (.cons (.sl 1) .nil)))) (.yld (.tup (.cons (.sl 2) .nil))) [some (tZZ k.u), some (iN k.n), none, none]) (enumV 0 (k.u.map tZ)) [] g = .ok [] g := by
    refine turns_none fun x hx => ?_
    obtain ⟨j, y, hy, rfl⟩ := enum_mem hx
    obtain ⟨z, hz, rfl⟩ := List.mem_map.mp hy
    simp [oneT, bindT, bindTs, c_are_states (hk.ur z hz) (by omega)]
  have a1 : decide ((1 : Int) ≤ (k.u.length : Int)) = true := by simp; omega
  have a2 : decide ((k.u.length : Int) ≤ 4) = true := by simp; omega
  simp [b_wrong_in_updates, wipeE, t, a1, a2, cut_nil, -decide_eq_true_eq]
theorem c_wrong_in_merge {k : Kd} (hk : k.Ok) : callG G (n + 3) f_wrong_in_merge [tZZ k.m, iN k.n] g = .ok (.lst [], true) g := by
  rw [call_of t_wrong_in_merge rfl (by decide)]
  have h8 := hk.r8
  have t : turns (oneT (callG G (n + 2)) B60 (.tp [.nm 2, .nm 3]) (.nt (.call f_are_states (.cons (.sl 3) (.cons (.sl 1) .nil)))) (.yld (.tup (.cons (.sl 2) .nil))) [some (tZZ k.m), some (iN k.n), none, none]) (enumV 0 (k.m.map tZ)) [] g = .ok [] g := by
    refine turns_none fun x hx => ?_
    obtain ⟨j, y, hy, rfl⟩ := enum_mem hx
    obtain ⟨z, hz, rfl⟩ := List.mem_map.mp hy
    simp [oneT, bindT, bindTs, c_are_states (hk.mr z hz) (by omega)]
  simp [b_wrong_in_merge, wipeE, t, hk.ml, cut_nil, -decide_eq_true_eq]
theorem c_need_kind {k : Kd} (hk : k.Ok) : callG G (n + 4) f_need_kind [k.v] g = .ok (k.v, false) g := by
  rw [call_of t_need_kind rfl (by decide)]
  have e : isWhole (iN k.s) 0 ((k.n : Int) - 1) = true := by
    rw [whole_nat]; have : k.s < k.n := hk.s; simp; omega
  have w1 := c_wrong_in_reads (n := n + 1) (g := g) hk
  have w2 := c_wrong_in_updates (n := n) (g := g) hk
  have w3 := c_wrong_in_merge (n := n) (g := g) hk
  simp [b_need_kind, w1, w2, w3, forT, c_whole, e]
end Pg
set_option Elab.async false
set_option linter.all false
set_option autoImplicit false
set_option maxRecDepth 100000
set_option maxHeartbeats 1000000
namespace Pg
open PySem L2 Pm Pp
variable {n : Nat} {g : DrawSt}
def jtRest : ST := match b_law_join_table with
  | .seq _ (.seq _ r) => r
  | _ => .bad
def jtIf : ST := match b_law_join_table with
  | .seq _ (.seq (.ife _ (.seq _ r) _) _) => r
  | _ => .bad
theorem jt_eq : b_law_join_table = .seq (.asg (.nm 1) (.draw (.sl 0) (.c (.int 5)))) (.seq (.ife (.cmp .eq (.pk 1) (.c (.int 0))) (.seq (.asg (.nm 2) (.bin .add (.c (.int 2)) (.draw (.sl 0) (.c (.int 6))))) jtIf) .skip) jtRest) := rfl
theorem jt1 : exs (callG G (n + 1)) B60 jtRest (jE (some (.int 1)) none) g = .ok (.rt (tabLot 4 [1, 2]).v false) g := by kernel_rfl
theorem jt2 : exs (callG G (n + 1)) B60 jtRest (jE (some (.int 2)) none) g = .ok (.rt (tabLot 8 [1, 2, 4]).v false) g := by kernel_rfl
theorem jt3 : exs (callG G (n + 1)) B60 jtRest (jE (some (.int 3)) none) g = .ok (.rt tabPair.v false) g := by kernel_rfl
theorem jt4 : exs (callG G (n + 1)) B60 jtRest (jE (some (.int 4)) none) g = .ok (.rt tabOne.v false) g := by kernel_rfl
theorem jm2 : exs (callG G (n + 1)) B60 jtIf (jE (some (.int 0)) (some (.int 2))) g = .ok (.rt (tabMax 2).v false) g := by kernel_rfl
theorem jm3 : exs (callG G (n + 1)) B60 jtIf (jE (some (.int 0)) (some (.int 3))) g = .ok (.rt (tabMax 3).v false) g := by kernel_rfl
theorem jm4 : exs (callG G (n + 1)) B60 jtIf (jE (some (.int 0)) (some (.int 4))) g = .ok (.rt (tabMax 4).v false) g := by kernel_rfl
theorem jm5 : exs (callG G (n + 1)) B60 jtIf (jE (some (.int 0)) (some (.int 5))) g = .ok (.rt (tabMax 5).v false) g := by kernel_rfl
theorem jm6 : exs (callG G (n + 1)) B60 jtIf (jE (some (.int 0)) (some (.int 6))) g = .ok (.rt (tabMax 6).v false) g := by kernel_rfl
theorem jm7 : exs (callG G (n + 1)) B60 jtIf (jE (some (.int 0)) (some (.int 7))) g = .ok (.rt (tabMax 7).v false) g := by kernel_rfl
theorem jmAll {w : Nat} (h : (w : Int) < 6) : ∃ t ∈ tabsK, exs (callG G (n + 1)) B60 jtIf (jE (some (.int 0)) (some (.int (2 + (w : Int))))) g = .ok (.rt t.v false) g := by
  have hw' : w = 0 ∨ w = 1 ∨ w = 2 ∨ w = 3 ∨ w = 4 ∨ w = 5 := by omega
  rcases hw' with h | h | h | h | h | h <;> rw [h]
  · exact ⟨tabMax 2, by simp [tabsK], jm2⟩
  · exact ⟨tabMax 3, by simp [tabsK], jm3⟩
  · exact ⟨tabMax 4, by simp [tabsK], jm4⟩
  · exact ⟨tabMax 5, by simp [tabsK], jm5⟩
  · exact ⟨tabMax 6, by simp [tabsK], jm6⟩
  · exact ⟨tabMax 7, by simp [tabsK], jm7⟩
theorem jtAll {v : Nat} (h : (v : Int) < 5) (h0 : v ≠ 0) : ∃ t ∈ tabsK, exs (callG G (n + 1)) B60 jtRest (jE (some (.int (v : Int))) none) g = .ok (.rt t.v false) g := by
  have hw' : v = 1 ∨ v = 2 ∨ v = 3 ∨ v = 4 := by omega
  rcases hw' with h | h | h | h <;> rw [h]
  · exact ⟨tabLot 4 [1, 2], by simp [tabsK], jt1⟩
  · exact ⟨tabLot 8 [1, 2, 4], by simp [tabsK], jt2⟩
  · exact ⟨tabPair, by simp [tabsK], jt3⟩
  · exact ⟨tabOne, by simp [tabsK], jt4⟩
theorem c_join_table (hs : g.spot + 2 < 2 ^ 60) : Dr (callG G (n + 2) f_law_join_table [.drw] g) g 2 fun r => ∃ t ∈ tabsK, r = (t.v, false) := by
  rw [call_of t_law_join_table rfl (by decide), jt_eq]
  simp only [List.map_cons, List.map_nil, List.nil_append, List.cons_append, Nat.reduceSub, List.replicate, x_seq, x_asg, e_draw, e_sl, e_c, getE_zero, o_some, b_ok, b_as]
  refine Ok_bind.mpr (draw_spec (by omega) (by omega) (by omega) fun v g1 hv hg => ?_)
  simp only [nm_set, List.length_cons, List.length_nil, Nat.reduceAdd, Nat.reduceLT, List.set_cons_succ, List.set_cons_zero, o_some, b_ok, thn_nx, x_ife, e_cmp, e_pk, getE_succ, getE_zero, e_c, eq_int, Option.map_some, truth_bl, b_as]
  by_cases h0 : v = 0
  · have hd : decide ((v : Int) = 0) = true := by simp [h0]
    rw [hd]
    simp only [tst_t, x_seq, x_asg, e_bin, e_draw, e_sl, e_c, getE_zero, o_some, b_ok, b_as]
    refine Ok_bind.mpr (draw_spec (by omega) (by omega) (by omega) fun w g2 hw hg2 => ?_)
    simp only [add_int, nm_set, List.length_cons, List.length_nil, Nat.reduceAdd, Nat.reduceLT, List.set_cons_succ, List.set_cons_zero, o_some, b_ok, thn_nx, h0]
    exact tab_fin (jmAll (n := n) (g := g2) hw) (by omega)
  · have hd : decide ((v : Int) = 0) = false := by simp; omega
    rw [hd]
    simp only [tst_f, x_skip, b_ok, thn_nx]
    exact tab_fin2 (jtAll (n := n) (g := g1) hv h0) (by omega)
theorem c_reads {s : Nat} (h8 : s ≤ 8) (hs : g.spot + 16 < 2 ^ 60) : Dr (callG G (n + 1) f_law_reads [.drw, iN s] g) g 16 fun r => ∃ rs : List Nat, rs.length = s ∧ (∀ x ∈ rs, x ≤ 9) ∧ r = (tZ rs, false) := by
  rw [call_of t_law_reads rfl (by decide)]
  have r0 := rangeV_nat (n := s) (by show s ≤ 100000; omega)
  simp [b_law_reads, r0, wipeE]
  refine Ok_bind.mpr ?_
  have key : Ok (turns (oneT (callG G n) B60 (.nm 2) (.c (.bl true)) (.yld (.ite (.cmp .gt (.draw (.sl 0) (.c (.int 3))) (.c (.int 0))) (.sl 2) (.draw (.sl 0) (.c (.int 10))))) [some .drw, some (iN s), none]) ((List.range s).map fun (k : Nat) => Val.int (k : Int)) [] g) fun ys g' => ∃ l : List Nat, ys = l.map iN ∧ l.length = ((List.range s).map fun (k : Nat) => Val.int (k : Int)).length ∧ (∀ x ∈ l, x ≤ 9) ∧ g'.spot ≤ g.spot + 2 * ((List.range s).map fun (k : Nat) => Val.int (k : Int)).length := by
    refine turns_inv (fun i acc g' => ∃ l : List Nat, acc = l.map iN ∧ l.length = i ∧ (∀ x ∈ l, x ≤ 9) ∧ g'.spot ≤ g.spot + 2 * i) ?_ ?_ ⟨[], rfl, rfl, by simp, by omega⟩
    · rintro i acc g' hi ⟨l, rfl, hl, _, _⟩
      simp at hi ⊢
      show l.length ≤ 100000
      omega
    · rintro i x acc g' hx ⟨l, rfl, hl, h9, hg⟩
      obtain ⟨hi, rfl⟩ := range_get hx
      simp [oneT, b_as]
      refine Ok_bind.mpr (draw_spec (by omega) (by omega) (by omega) fun v g1 hv hg1 => ?_)
      have fin : ∀ (y : Nat) (g2 : DrawSt), y ≤ 9 → g2.spot ≤ g.spot + 2 * (i + 1) → ∃ l' : List Nat, l.map iN ++ [iN y] = l'.map iN ∧ l'.length = i + 1 ∧ (∀ x ∈ l', x ≤ 9) ∧ g2.spot ≤ g.spot + 2 * (i + 1) := fun y g2 hy hg2 => ⟨l ++ [y], by simp, by simp [hl], fun x hx => by
        rcases List.mem_append.mp hx with hx | hx
        · exact h9 x hx
        · simp at hx; omega, hg2⟩
      by_cases q : 0 < v
      · simp [q]
        exact fin i g1 (by omega) (by omega)
      · simp [q]
        refine Ok_bind.mpr (draw_spec (by omega) (by omega) (by omega) fun w g2 hw hg2 => ?_)
        simp
        exact fin w g2 (by omega) (by omega)
  obtain ⟨ys, g', e, l, rfl, hl, h9, hg⟩ := key.ex
  refine .of (g := g') (a := l.map iN) (by rw [e]; rfl) ?_
  simp at hl hg ⊢
  exact ⟨by omega, l, hl, h9, rfl⟩
theorem c_renumbered {k : Kd} (hk : k.Ok) {ps : List Nat} (hp : PmK ps k.n) : callG G (n + 1) f_law_renumbered [k.v, .lst (ps.map iN)] g = .ok ((renum k ps).v, false) g := by
  have h8 : k.n ≤ 8 := hk.r8
  have hl : ps.length ≤ 8 := by rw [hp.len]; exact h8
  have bl : (back ps).length ≤ 1000 := by rw [back_len]; omega
  have blt := back_lt hp
  rw [call_of t_law_renumbered rfl (by decide)]
  have r0 := rangeV_nat (n := ps.length) (by show ps.length ≤ 100000; omega)
  have ixp : ∀ i, i < k.n → vIx (.lst (ps.map iN)) (.int (i : Int)) = some (iN (gN ps i)) := fun i hi => ix_lN (by rw [hp.len]; exact hi)
  have t1 : ∀ {a b c d e f : Option Val} {w : Val}, turns (oneT (callG G n) B60 (.nm 7) (.c (.bl true)) (.yld (.idx (.pk 1) (.pk 7))) [some w, some (.lst (ps.map iN)), a, b, c, d, e, none, f]) ((List.range ps.length).map iN) [] g = .ok ((back ps).map iN) g := fun {a b c d e f w} => by
    rw [turnsN (h := fun y => iN (ps.idxOf y)) (fun x hx => ?_) (by simp; omega)]
    · simp [back]
    · have hm := hp.mem x (by rw [List.mem_range, hp.len] at hx; exact hx)
      simp [oneT, isL, idx_lst hm]
  have t2 : ∀ {a c d e : Option Val} {w : Val} {row : List Nat}, rowOk k.n row → turns (oneT (callG G n) B60 (.nm 6) (.c (.bl true)) (.yld (.ix (.pk 1) (.ix (.pk 8) (.pk 6)))) [some w, some (.lst (ps.map iN)), a, some (.lst ((back ps).map iN)), c, d, none, e, some (tZ row)]) ((back ps).map iN) [] g = .ok (((back ps).map fun x => gN ps (gN row x)).map iN) g := fun {a c d e w row} hr => by
    rw [turnsN (h := fun x => iN (gN ps (gN row x))) (fun x hx => ?_) bl]
    · simp
    · have hx' := blt x hx
      have h1 : x < row.length := by rw [hr.1]; exact hx'
      have h2 : gN row x < k.n := getD_lt hr.2 h1
      simp [oneT, ix_tZ h1, ixp _ h2]
  have t3 : ∀ {a c d e f : Option Val} {w : Val}, turns (oneT (callG G n) B60 (.nm 8) (.c (.bl true)) (.yld (.pr .tuple (.cons (.comp [6] (.nm 6) (.it (.pk 3)) (.c (.bl true)) (.yld (.ix (.pk 1) (.ix (.pk 8) (.pk 6))))) .nil))) [some w, some (.lst (ps.map iN)), a, some (.lst ((back ps).map iN)), c, d, e, f, none]) (k.u.map tZ) [] g = .ok ((k.u.map fun row => (back ps).map fun x => gN ps (gN row x)).map tZ) g := fun {a c d e f w} => by
    rw [turnsL (H := fun row => tZ ((back ps).map fun x => gN ps (gN row x))) (fun x hx => ?_) (by have := hk.u4; omega)]
    · simp
    · simp only [oneT, nm_set, List.length_cons, List.length_nil, Nat.reduceAdd, Nat.reduceLT, List.set_cons_succ, List.set_cons_zero, o_some, b_ok, e_c, truth_bl, tst_t, e_yld, e_pr, e_cons, e_nil, e_comp, e_it, e_pk, getE_succ, getE_zero, items_lst, wipeE, t2 (hk.ur x hx), n_ok, prim_tuple, lst_tZ]
  have t4 : ∀ {a c d e f : Option Val} {x : Nat}, x < k.n → turns (oneT (callG G n) B60 (.nm 7) (.c (.bl true)) (.yld (.ix (.pk 1) (.ix (.ix (.ix (.pk 0) (.c (.int 2))) (.pk 6)) (.pk 7)))) [some k.v, some (.lst (ps.map iN)), a, some (.lst ((back ps).map iN)), c, d, some (iN x), none, f]) ((back ps).map iN) [] g = .ok (((back ps).map fun y => gN ps (k.mg x y)).map iN) g := fun {a c d e f x} hx => by
    rw [turnsN (h := fun y => iN (gN ps (k.mg x y))) (fun y hy => ?_) bl]
    · simp
    · have hy' := blt y hy
      have h1 : x < k.m.length := by rw [hk.ml]; exact hx
      have h2 : y < (gL k.m x).length := by rw [(hk.mr _ (getD_memL h1)).1]; exact hy'
      have h3 := hk.mg_lt hx hy'
      unfold Kd.mg at h3 ⊢
      simp [oneT, ix_tZZ h1, ix_tZ h2, ixp _ h3]
  have t5 : ∀ {a c d e f : Option Val}, turns (oneT (callG G n) B60 (.nm 6) (.c (.bl true)) (.yld (.ix (.ix (.pk 0) (.c (.int 3))) (.pk 6))) [some k.v, some (.lst (ps.map iN)), a, some (.lst ((back ps).map iN)), c, d, none, e, f]) ((back ps).map iN) [] g = .ok (((back ps).map fun x => gN k.r x).map iN) g := fun {a c d e f} => by
    rw [turnsN (h := fun x => iN (gN k.r x)) (fun x hx => ?_) bl]
    · simp
    · have h1 : x < k.r.length := blt x hx
      simp [oneT, ix_tZ h1]
  have loop : ∀ (l : List Nat) (acc : List Val) (a c f z : Option Val), (∀ x ∈ l, x < k.n) → acc.length + l.length ≤ 1000 → ∃ z', forT (bodyT (callG G n) B60 (.nm 6) (.app 5 (.pr .tuple (.cons (.comp [7] (.nm 7) (.it (.pk 3)) (.c (.bl true)) (.yld (.ix (.pk 1) (.ix (.ix (.ix (.pk 0) (.c (.int 2))) (.pk 6)) (.pk 7))))) .nil)))) (l.map iN) [some k.v, some (.lst (ps.map iN)), a, some (.lst ((back ps).map iN)), c, some (.lst acc), z, none, f] g
      = .ok (.nx [some k.v, some (.lst (ps.map iN)), a, some (.lst ((back ps).map iN)), c, some (.lst (acc ++ l.map fun x => tZ ((back ps).map fun y => gN ps (k.mg x y)))), z', none, f]) g := by
    intro l
    induction l with
    | nil => intro acc a c f z _ _; exact ⟨z, by simp [forT]⟩
    | cons x l ih =>
      intro acc a c f z hx hl
      simp only [List.length_cons] at hl
      obtain ⟨z', e⟩ := ih (acc ++ [tZ ((back ps).map fun y => gN ps (k.mg x y))]) a c f (some (iN x)) (fun y hy => hx y (List.mem_cons_of_mem _ hy)) (by simp; omega)
      refine ⟨z', ?_⟩
      have fa : ∀ v : Val, appV (some (.lst acc)) v = some (.lst (acc ++ [v])) := fun v => if_pos (show acc.length < 100000 by omega)
      show ((bodyT _ _ _ _ (iN x) _ g).bind _) = _
      simp only [bodyT, nm_set, List.length_cons, List.length_nil, Nat.reduceAdd, Nat.reduceLT, List.set_cons_succ, List.set_cons_zero, o_some, b_ok, x_app, getE_succ, getE_zero, lstE, e_pr, e_cons, e_nil, e_comp, e_it, e_pk, items_lst, wipeE, t4 (e := none) (hx x (List.mem_cons_self ..)), n_ok, prim_tuple, lst_tZ, fa, putE, if_true]
      rw [e]
      simp
  obtain ⟨z', le⟩ := loop (back ps) [] (some (iN ps.length)) (some (tZZ (k.u.map fun row => (back ps).map fun x => gN ps (gN row x)))) none none blt (by rw [back_len]; simp; omega)
  have hs0 := ixp k.s hk.s
  have eZZ : ∀ l : List (List Nat), Val.tup (l.map tZ) = tZZ l := fun _ => rfl
  have r0' : rangeV 0 (ps.length : Int) = some ((List.range ps.length).map iN) := r0
  simp only [b_law_renumbered, List.map_cons, List.map_nil, List.nil_append, List.cons_append, Nat.reduceSub, List.replicate, x_seq, x_asg, x_asgN, x_for, x_ret, e_pr, e_cons, e_nil, e_pk, e_sl, e_comp, e_rng, e_c, e_it, e_ix, e_tup, e_lst, getE_succ, getE_zero, o_some, b_ok, len_lst, List.length_map, nm_set, List.length_cons, List.length_nil, Nat.reduceAdd, Nat.reduceLT, List.set_cons_succ, List.set_cons_zero, thn_nx, asInt_int, r0', wipeE, t1, n_ok, kv_1, items_tZZ, t3, prim_tuple, eZZ, lim, Nat.reduceLeDiff, if_true, Nat.zero_le, putE, items_lst, le, kv_0, hs0, t5, lst_tZ, outOf_rt, thn_rt]
  simp [renum, Kd.v, tZZ]
def hoRest : ST := match b_law_holding with
  | .seq _ (.seq _ (.seq _ r)) => r
  | _ => .bad
/-- the end of a drawn kind: perhaps numbered anew -/
theorem ho_end {t : TabK} {k : Kd} (hd : DrawnK0 k t) (hs : g.spot + 9 < 2 ^ 60) {a b c d e : Option Val} :
    Dr ((exs (callG G (n + 2)) B60 hoRest [some .drw, a, some k.v, b, c, d, some (iN t.n), none, none, e] g).bind fun fl g => outOf fl g) g 9 fun r => ∃ k, DrawnK k ∧ r = (k.v, false) := by
  have o := tab_ok hd.tt
  have h8 := o.n8
  have r0 : vPrim .rangeL [.int 0, iN t.n] = some (.lst ((List.range t.n).map iN)) := by
    show (rangeV 0 (t.n : Int)).map Val.lst = _
    rw [rangeV_nat (by show t.n ≤ 100000; omega)]; rfl
  have hR : hoRest = .seq (.par [(7, true), (8, true)] (.cons (.pr .rangeL (.cons (.c (.int 0)) (.cons (.pk 6) .nil))) (.cons (.lst .nil) .nil))) (.seq (.ife (.cmp .eq (.draw (.sl 0) (.c (.int 2))) (.c (.int 0))) (.ret (.sl 2)) .skip) (.seq (.whl (.cmp .ne (.pk 7) (.lst .nil)) (.appPop 8 7 (.draw (.sl 0) (.pr .len (.cons (.pk 7) .nil))))) (.ret (.call f_law_renumbered (.cons (.sl 2) (.cons (.sl 8) .nil)))))) := rfl
  rw [hR]
  simp only [x_seq, x_par, e_cons, e_nil, e_pr, e_c, e_pk, getE_succ, getE_zero, o_some, b_ok, r0, e_lst, List.length_nil, lim, Nat.zero_le, if_true, bindP, List.length_cons, Nat.reduceAdd, Nat.reduceLT, List.set_cons_succ, List.set_cons_zero, thn_nx, x_ife, e_cmp, e_draw, e_sl, b_as]
  refine Ok_bind.mpr (draw_spec (by omega) (by omega) (by omega) fun v g1 hv hg1 => ?_)
  by_cases q : v = 0
  · have hdv : decide ((v : Int) = 0) = true := by simp [q]
    simp only [b_ok, eq_int, hdv, Option.map_some, o_some, truth_bl, tst_t, x_ret, e_sl, getE_succ, getE_zero, thn_rt, outOf_rt, Ok_ok]
    exact ⟨by omega, k, ⟨t, k, hd, .inl rfl⟩, rfl⟩
  · have hdv : decide ((v : Int) = 0) = false := by simp; omega
    simp only [b_ok, eq_int, hdv, Option.map_some, o_some, truth_bl, tst_f, x_skip, thn_nx, x_whl, b_as]
    refine Ok_bind.mpr ((whlT_inv (m := t.n) (fun m en g' => ∃ left pls : List Nat, en = [some .drw, a, some k.v, b, c, d, some (iN t.n), some (.lst (left.map iN)), some (.lst (pls.map iN)), e] ∧ left.length = m ∧ m + pls.length = t.n ∧ (∀ x ∈ left, x < t.n) ∧ (∀ x ∈ pls, x < t.n) ∧ (∀ y, y < t.n → y ∈ left ∨ y ∈ pls) ∧ g'.spot + m ≤ g1.spot + t.n)
      (fun en g' => ∃ pls : List Nat, en = [some .drw, a, some k.v, b, c, d, some (iN t.n), some (.lst []), some (.lst (pls.map iN)), e] ∧ PmK pls t.n ∧ g'.spot ≤ g1.spot + t.n) (fun _ _ _ => False) ?_ ⟨List.range t.n, [], rfl, by simp, by simp, fun x hx => by simpa using hx, by simp, fun y hy => .inl (by simpa using hy), by omega⟩ (by unfold whlMost; omega)).mono ?_)
    · rintro m en g' ⟨left, pls, rfl, hl, hm, h1, h2, h3, h4⟩
      by_cases hle : left = []
      · subst hle
        simp only [condT, e_cmp, e_pk, getE_succ, getE_zero, o_some, b_ok, e_lst, e_nil, List.length_nil, lim, Nat.zero_le, if_true, ne_nilN, decide_true, Bool.not_true, Option.map_some, truth_bl, Ok_ok]
        simp at hl
        subst hl
        exact ⟨pls, rfl, ⟨by omega, h2, fun y hy => (h3 y hy).elim (fun z => nomatch z) id⟩, by omega⟩
      · simp only [condT, e_cmp, e_pk, getE_succ, getE_zero, o_some, b_ok, e_lst, e_nil, List.length_nil, lim, Nat.zero_le, if_true, ne_nilN, hle, decide_false, Bool.not_false, Option.map_some, truth_bl, Ok_ok]
        have hpos : 0 < left.length := by cases left with | nil => exact absurd rfl hle | cons => simp
        obtain ⟨m', rfl⟩ : ∃ m', m = m' + 1 := ⟨m - 1, by omega⟩
        refine ⟨m', rfl, ?_⟩
        simp only [x_appPop, getE_succ, getE_zero, lstE, o_some, b_ok, e_draw, e_sl, e_pr, e_cons, e_nil, e_pk, len_lst, List.length_map, b_as]
        refine Ok_bind.mpr (draw_spec (by omega) (by omega) (by omega) fun j g2 hj hg2 => ?_)
        have hj' : j < left.length := by omega
        have hy : left[j]? = some (left[j]'hj') := by simp [hj']
        generalize left[j]'hj' = y at hy
        have hyl := h1 y (List.mem_of_getElem? hy)
        have fa : ∀ v : Val, appV (some (.lst (pls.map iN))) v = some (.lst (pls.map iN ++ [v])) := fun v => if_pos (show (pls.map iN).length < 100000 by simp; omega)
        simp only [pop_lst hy (by omega), o_some, b_ok, fa, List.length_cons, List.length_nil, Nat.reduceAdd, Nat.reduceLT, and_self, if_true, List.set_cons_succ, List.set_cons_zero, Ok_ok]
        refine .inl ⟨_, rfl, left.eraseIdx j, pls ++ [y], by simp, ?_, ?_, fun x hx => h1 x (List.mem_of_mem_eraseIdx hx), fun x hx => ?_, fun z hz => ?_, by omega⟩
        · rw [List.length_eraseIdx]; simp [hj']; omega
        · simp; omega
        · rcases List.mem_append.mp hx with hx | hx
          · exact h2 x hx
          · simp at hx; omega
        · rcases h3 z hz with q | q
          · rcases mem_erase' hy z q with q | q
            · exact .inl q
            · exact .inr (by simp [q])
          · exact .inr (by simp [q])
    · rintro fl g' (⟨en, rfl, pls, rfl, hp, hg⟩ | ⟨_, _, _, z⟩)
      · have hp' : PmK pls k.n := by rw [show k.n = t.n from hd.r]; exact hp
        simp only [thn_nx, x_ret, e_call, e_cons, e_nil, e_sl, getE_succ, getE_zero, o_some, b_ok, c_renumbered (n := n + 1) hd.ok hp', outOf_rt, Ok_ok]
        exact ⟨by omega, renum k pls, ⟨t, k, hd, .inr ⟨pls, hp', rfl⟩⟩, rfl⟩
      · exact z.elim
theorem c_holding (hs : g.spot + 40 < 2 ^ 60) : Dr (callG G (n + 3) f_law_holding [.drw] g) g 40 fun r => ∃ k, DrawnK k ∧ r = (k.v, false) := by
  rw [call_of t_law_holding rfl (by decide)]
  have hB : b_law_holding = .seq (.asg (.tp [(.nm 3), (.nm 4), (.nm 5), (.nm 6)]) (.call f_law_join_table (.cons (.sl 0) .nil))) (.seq (.asg (.nm 1) (.comp [9] (.nm 9) (.it (.pk 4)) (.cmp .gt (.draw (.sl 0) (.c (.int 4))) (.c (.int 0))) (.yld (.sl 9)))) (.seq (.asg (.nm 2) (.tup (.cons (.sl 3) (.cons (.pr .tuple (.cons (.ite (.cmp .ne (.pk 1) (.lst .nil)) (.pk 1) (.slc (.pk 4) .no (.part (.c (.int 1))))) .nil)) (.cons (.sl 5) (.cons (.call f_law_reads (.cons (.sl 0) (.cons (.sl 6) .nil))) .nil)))))) hoRest)) := rfl
  rw [hB]
  simp only [List.map_cons, List.map_nil, List.nil_append, List.cons_append, Nat.reduceSub, List.replicate, x_seq, x_asg, e_call, e_cons, e_nil, e_sl, getE_zero, o_some, b_ok, b_as]
  refine Ok_bind.mpr ((c_join_table (n := n) (g := g) (by omega)).mono ?_)
  rintro r g1 ⟨hg1, t, ht, rfl⟩
  have o := tab_ok ht
  have hu1 := o.u1
  have hu3 := o.u3
  have h8 := o.n8
  simp only [b_ok, TabK.v, bindT, bindTs, nm_set, List.length_cons, List.length_nil, Nat.reduceAdd, Nat.reduceLT, List.set_cons_succ, List.set_cons_zero, if_true, o_some, thn_nx, e_comp, e_it, e_pk, getE_succ, getE_zero, items_lst, wipeE, b_as]
  have key : Ok (turns (oneT (callG G (n + 2)) B60 (.nm 9) (.cmp .gt (.draw (.sl 0) (.c (.int 4))) (.c (.int 0))) (.yld (.sl 9)) [some .drw, none, none, some (iN 0), some (.lst (t.u.map tZ)), some (tZZ t.m), some (iN t.n), none, none, none]) (t.u.map tZ) [] g1) fun ys g' => ∃ us : List (List Nat), ys = us.map tZ ∧ us.Sublist (t.u.take (t.u.map tZ).length) ∧ g'.spot ≤ g1.spot + (t.u.map tZ).length := by
    refine turns_inv (fun i acc g' => ∃ us : List (List Nat), acc = us.map tZ ∧ us.Sublist (t.u.take i) ∧ g'.spot ≤ g1.spot + i) ?_ ?_ ⟨[], rfl, List.nil_sublist _, by omega⟩
    · rintro i acc g' hi ⟨us, rfl, hsub, _⟩
      have := hsub.length_le
      rw [List.length_take] at this
      show (us.map tZ).length ≤ 100000
      simp at hi ⊢
      omega
    · rintro i x acc g' hx ⟨us, rfl, hsub, hg⟩
      rw [List.getElem?_map] at hx
      cases hq : t.u[i]? with
      | none => rw [hq] at hx; cases hx
      | some row =>
      rw [hq] at hx
      cases hx
      have hi : i < t.u.length := (List.getElem?_eq_some_iff.mp hq).1
      obtain ⟨s1, s2⟩ := sub_take hsub hq
      simp only [oneT, nm_set, List.length_cons, List.length_nil, Nat.reduceAdd, Nat.reduceLT, List.set_cons_succ, List.set_cons_zero, o_some, b_ok, e_cmp, e_draw, e_sl, e_c, getE_zero, getE_succ, b_as]
      refine Ok_bind.mpr (draw_spec (by omega) (by omega) (by omega) fun v g2 hv hg2 => ?_)
      by_cases q : 0 < v
      · have hd : decide ((0 : Int) < (v : Int)) = true := by simp; omega
        simp only [gt_int, hd, Option.map_some, o_some, b_ok, truth_bl, tst_t, e_yld, e_sl, getE_succ, getE_zero, Ok_ok]
        exact ⟨us ++ [row], by simp, s2, by omega⟩
      · have hd : decide ((0 : Int) < (v : Int)) = false := by simp; omega
        simp only [gt_int, hd, Option.map_some, o_some, b_ok, truth_bl, tst_f, Ok_ok, List.append_nil]
        exact ⟨us, rfl, s1, by omega⟩
  obtain ⟨ys, g2, e, us, rfl, hsub, hg2⟩ := key.ex
  rw [List.length_map, List.take_length] at hsub
  rw [List.length_map] at hg2
  rw [e]
  -- the updates that are left, or the first one
  obtain ⟨us', hus', hu1', hsub'⟩ : ∃ us' : List (List Nat), (∀ g', ((R.of (vCmp .ne (.lst (us.map tZ)) (.lst [])) g').bind fun b g => tst b (R.ok (Val.lst (us.map tZ)) g) (R.of (vSlc (.lst (t.u.map tZ)) none (some 1)) g)) = R.ok (Val.lst (us'.map tZ)) g') ∧ 1 ≤ us'.length ∧ us'.Sublist t.u := by
    by_cases q : us = []
    · refine ⟨t.u.take 1, fun g' => ?_, by rw [List.length_take]; omega, List.take_sublist ..⟩
      have := take_cutL (xs := t.u.map tZ) (c := 1) (by simpa using hu1)
      rw [ne_nil, q]
      simp only [decide_true, Bool.not_true, o_some, b_ok, tst_f]
      rw [show ((1 : Nat) : Int) = 1 from rfl] at this
      rw [this, List.map_take]
      rfl
    · refine ⟨us, fun g' => ?_, ?_, hsub⟩
      · rw [ne_nil]; simp [q]
      · cases us with
        | nil => exact absurd rfl q
        | cons => simp
  have h2 : ∀ g', ev (callG G (n + 2)) B60 (.ite (.cmp .ne (.pk 1) (.lst .nil)) (.pk 1) (.slc (.pk 4) .no (.part (.c (.int 1))))) [some .drw, some (.lst (us.map tZ)), none, some (iN 0), some (.lst (t.u.map tZ)), some (tZZ t.m), some (iN t.n), none, none, none] g' = .ok (.lst (us'.map tZ)) g' := fun g' => by
    have := hus' g'
    rw [ne_nil] at this
    simp only [e_ite, e_cmp, e_pk, e_lst, e_nil, e_slc, e_ono, e_part, e_c, getE_succ, getE_zero, o_some, b_ok, List.length_nil, lim, Nat.zero_le, if_true, ne_nil, Option.map_some, truth_bl, asInt_int] at this ⊢
    exact this
  simp only [n_ok, b_ok, nm_set, List.length_cons, List.length_nil, Nat.reduceAdd, Nat.reduceLT, List.set_cons_succ, List.set_cons_zero, o_some, thn_nx, e_tup, e_cons, e_nil, e_sl, e_pr, h2, prim_tuple, getE_succ, getE_zero, e_call, b_as]
  refine Ok_bind.mpr ((c_reads (n := n + 1) (g := g2) h8 (by omega)).mono ?_)
  rintro r g3 ⟨hg3, rs, hr1, hr2, rfl⟩
  have hd : DrawnK0 ⟨0, us', t.m, rs⟩ t := ⟨ht, rfl, hu1', hsub', rfl, hr1, hr2⟩
  have kv : Val.tup [iN 0, .tup (us'.map tZ), tZZ t.m, tZ rs] = (⟨0, us', t.m, rs⟩ : Kd).v := rfl
  simp only [b_ok, List.length_cons, List.length_nil, Nat.reduceAdd, lim, Nat.reduceLeDiff, if_true, kv, nm_set, Nat.reduceLT, List.set_cons_succ, List.set_cons_zero, o_some, thn_nx]
  exact (ho_end (n := n) hd (by omega)).mono fun a g' ⟨h1, h2⟩ => ⟨by omega, h2⟩
end Pg
set_option Elab.async false
set_option linter.all false
set_option autoImplicit false
set_option maxRecDepth 100000
set_option maxHeartbeats 1000000
namespace Pg
open PySem L2 Pm Pp
variable {n : Nat} {g : DrawSt}
theorem c_like {a b : Val} {x y : Str} (ha : vPrim .repr [a] = some (.str x) ∧ PyData.strOk x = true) (hb : vPrim .repr [b] = some (.str y) ∧ PyData.strOk y = true) : callG G (n + 1) f_law_like [a, b] g = .ok (.bl (decide (x = y)), false) g := by
  rw [call_of t_law_like rfl (by decide)]
  have e : vCmp .eq (.str x) (.str y) = some (decide (x = y)) := vEq_str ha.2 hb.2
  simp [b_law_like, ha.1, hb.1, e]
end Pg
set_option Elab.async false
set_option linter.all false
set_option autoImplicit false
set_option maxRecDepth 100000
set_option maxHeartbeats 1000000
namespace Pg
open PySem L2 Pm Pp
variable {n : Nat} {g : DrawSt}
theorem c_next_of {k : Kd} (hk : k.Ok) {F : List Nat} (hF : ∀ x ∈ F, x < k.n) (hl : F.length ≤ 8) : callG G (n + 2) f_next_of [k.v, .lst (F.map iN)] g = .ok (.lst ((nextL k F).map iN), true) g := by
  rw [call_of t_next_of rfl (by decide)]
  have hu4 := hk.u4
  have lenU : (someU k F).length ≤ 32 := by
    have := flat_len (H := fun s => k.u.map fun row => gN row s) (c := 4) (l := F) fun x _ => by simpa using hu4
    unfold someU; omega
  have lenM : (someM k F).length ≤ 64 := by
    have := flat_len (H := fun a => F.map fun b => k.mg a b) (c := 8) (l := F) fun x _ => by simpa using hl
    unfold someM; omega
  have mapF : ∀ (l : List Nat) (H : Nat → List Nat), (l.flatMap fun x => (H x).map iN) = (l.flatMap H).map iN := fun l H => by
    induction l with
    | nil => rfl
    | cons x r ih => rw [List.flatMap_cons, List.flatMap_cons, ih, List.map_append]
  have t1 : ∀ {a b c : Option Val}, turns (oneT (callG G (n + 1)) B60 (.nm 3) (.c (.bl true)) (.gen (.nm 4) (.it (.ix (.pk 0) (.c (.int 1)))) (.c (.bl true)) (.yld (.ix (.pk 4) (.pk 3)))) [some k.v, some (.lst (F.map iN)), a, none, none, b, c]) (F.map iN) [] g = .ok ((someU k F).map iN) g := fun {a b c} => by
    have hU : (F.flatMap fun s => (k.u.map fun row => gN row s).map iN) = (someU k F).map iN := mapF F _
    rw [turnsFM (H := fun s => (k.u.map fun row => gN row s).map iN) (fun x hx => ?_) (by rw [hU, List.length_map]; simp; omega), hU]
    · simp
    · have t0 : turns (oneT (callG G (n + 1)) B60 (.nm 4) (.c (.bl true)) (.yld (.ix (.pk 4) (.pk 3))) [some k.v, some (.lst (F.map iN)), a, some (iN x), none, b, c]) (k.u.map tZ) [] g = .ok (k.u.map fun row => iN (gN row x)) g := turnsL (fun row hr => by
        have hx' : x < row.length := by rw [(hk.ur row hr).1]; exact hF x hx
        simp [oneT, ix_tZ hx']) (by omega)
      simp only [oneT, nm_set, List.length_cons, List.length_nil, Nat.reduceAdd, Nat.reduceLT, List.set_cons_succ, List.set_cons_zero, o_some, b_ok, e_c, truth_bl, tst_t, e_gen, e_it, e_ix, e_pk, getE_succ, getE_zero, kv_1, items_tZZ, t0, List.map_map]
      rfl
  have t2 : ∀ {a b c : Option Val}, turns (oneT (callG G (n + 1)) B60 (.nm 5) (.c (.bl true)) (.gen (.nm 6) (.it (.sl 1)) (.c (.bl true)) (.yld (.call f_merged_of (.cons (.sl 0) (.cons (.sl 5) (.cons (.sl 6) .nil)))))) [some k.v, some (.lst (F.map iN)), a, b, c, none, none]) (F.map iN) [] g = .ok ((someM k F).map iN) g := fun {a b c} => by
    have hU : (F.flatMap fun s => (F.map fun y => k.mg s y).map iN) = (someM k F).map iN := mapF F _
    rw [turnsFM (H := fun s => (F.map fun y => k.mg s y).map iN) (fun x hx => ?_) (by rw [hU, List.length_map]; simp; omega), hU]
    · simp
    · have t0 : turns (oneT (callG G (n + 1)) B60 (.nm 6) (.c (.bl true)) (.yld (.call f_merged_of (.cons (.sl 0) (.cons (.sl 5) (.cons (.sl 6) .nil))))) [some k.v, some (.lst (F.map iN)), a, b, c, some (iN x), none]) (F.map iN) [] g = .ok (F.map fun y => iN (k.mg x y)) g := turnsL (fun y hy => by
        simp [oneT, c_merged_of hk (hF x hx) (hF y hy)]) (by omega)
      simp only [oneT, nm_set, List.length_cons, List.length_nil, Nat.reduceAdd, Nat.reduceLT, List.set_cons_succ, List.set_cons_zero, o_some, b_ok, e_c, truth_bl, tst_t, e_gen, e_it, e_sl, getE_succ, getE_zero, items_lst, t0, List.map_map]
      rfl
  have t3 : ∀ {a b c d : Option Val}, turns (oneT (callG G (n + 1)) B60 (.nm 3) (.cmp .notin (.pk 3) (.pk 1)) (.yld (.sl 3)) [some k.v, some (.lst (F.map iN)), a, none, b, c, d]) ((someU k F ++ someM k F).map iN) [] g = .ok ((nextL k F).map iN) g := fun {a b c d} => turnsP (p := fun x => !decide (x ∈ F)) (y := iN) (fun x hx => by
    simp only [oneT, nm_set, List.length_cons, List.length_nil, Nat.reduceAdd, Nat.reduceLT, List.set_cons_succ, List.set_cons_zero, o_some, b_ok, e_cmp, e_pk, getE_succ, getE_zero, notin_lst, Option.map_some, truth_bl]
    cases h : (!decide (x ∈ F)) <;> simp) (by rw [List.length_append]; omega)
  have ad : extV (some (.lst ((someU k F).map iN))) (.lst ((someM k F).map iN)) = some (.lst ((someU k F ++ someM k F).map iN)) := by
    show (if ((someU k F).map iN).length + ((someM k F).map iN).length ≤ 100000 then _ else _) = _
    rw [if_pos (by simp; omega), List.map_append]
  simp only [b_next_of, List.map_cons, List.map_nil, List.nil_append, List.cons_append, Nat.reduceSub, List.replicate, x_seq, x_asgN, e_comp, e_it, e_pk, getE_succ, getE_zero, o_some, b_ok, items_lst, wipeE, List.set_cons_succ, List.set_cons_zero, t1, n_ok, putE, List.length_cons, List.length_nil, Nat.reduceAdd, Nat.reduceLT, if_true, thn_nx, x_ext, lstE, t2, ad, x_retN, t3, outOf_rt]
theorem next_bor {l : List Nat} : okBor (.lst (l.map iN)) true = true := by
  have : ∀ l : List Nat, lfs (l.map iN) = true := fun l => by induction l with
    | nil => rfl
    | cons x r ih => simp [lfs, lf, ih]
  simp [okBor, this]
/-- what was found: all that comes, each once -/
theorem c_found_of {k : Kd} (hk : k.Ok) : ∃ F : List Nat, F.Nodup ∧ (∀ x, x ∈ F ↔ Come k x) ∧ callG G (n + 3) f_found_of [k.v] g = .ok (.lst (F.map iN), true) g := by
  have h8 : k.n ≤ 8 := hk.r8
  have key : Ok (callG G (n + 3) f_found_of [k.v] g) fun r g' => g' = g ∧ ∃ F : List Nat, F.Nodup ∧ (∀ x, x ∈ F ↔ Come k x) ∧ r = (.lst (F.map iN), true) := by
    rw [call_of t_found_of rfl (by decide)]
    have nx : ∀ (F : List Nat) (g0 : DrawSt), F.Nodup → (∀ x ∈ F, Come k x) → lent (callG G (n + 2) f_next_of [k.v, .lst (F.map iN)] g0) = .ok (.lst ((nextL k F).map iN), true) g0 := fun F g0 nd hF => by
      have hlt : ∀ x ∈ F, x < k.n := fun x hx => (hF x hx).lt hk
      rw [c_next_of hk hlt (by have := nd_lenN nd hlt; omega)]
      simp [lent, next_bor]
    have s0 : Val.lst [iN k.s] = .lst ([k.s].map iN) := rfl
    have n0 := nx [k.s] g (by simp) (fun x hx => by simp at hx; rw [hx]; exact .s)
    simp only [b_found_of, List.map_cons, List.map_nil, List.nil_append, List.cons_append, Nat.reduceSub, List.replicate, x_seq, x_asgN, e_lst, e_cons, e_nil, e_ix, e_pk, e_c, getE_succ, getE_zero, o_some, b_ok, kv_0, List.length_cons, List.length_nil, Nat.reduceAdd, lim, Nat.reduceLeDiff, if_true, putE, Nat.reduceLT, List.set_cons_succ, List.set_cons_zero, thn_nx, x_asg, e_callb, e_bor, s0]
    simp only [List.map_cons, List.map_nil] at n0 ⊢
    rw [n0]
    simp only [b_ok, nm_set, List.length_cons, List.length_nil, Nat.reduceAdd, Nat.reduceLT, List.set_cons_succ, List.set_cons_zero, o_some, thn_nx, x_whl, b_as]
    refine Ok_bind.mpr ((whlT_inv (m := k.n - 1) (fun m e g' => g' = g ∧ ∃ F : List Nat, e = [some k.v, some (.lst (F.map iN)), some (.lst ((nextL k F).map iN))] ∧ F.Nodup ∧ (∀ x ∈ F, Come k x) ∧ k.s ∈ F ∧ m + F.length = k.n)
      (fun e g' => g' = g ∧ ∃ F : List Nat, F.Nodup ∧ (∀ x, x ∈ F ↔ Come k x) ∧ e = [some k.v, some (.lst (F.map iN)), some (.lst [])]) (fun _ _ _ => False) ?_ ⟨rfl, [k.s], rfl, by simp, fun x hx => by simp at hx; rw [hx]; exact .s, by simp, by have := hk.r1; have h1 : 1 ≤ k.n := hk.r1; simp; omega⟩ (by unfold whlMost; omega)).mono ?_)
    · rintro m e g' ⟨rfl, F, rfl, nd, hF, hsF, hm⟩
      have hlt : ∀ x ∈ F, x < k.n := fun x hx => (hF x hx).lt hk
      cases hN : nextL k F with
      | nil =>
        have e0 : vCmp .ne (.lst ([] : List Val)) (.lst []) = some false := by decide +kernel
        simp only [condT, e_cmp, e_pk, getE_succ, getE_zero, o_some, b_ok, e_lst, e_nil, List.map_nil, List.length_nil, lim, Nat.zero_le, if_true, e0, Option.map_some, truth_bl, Ok_ok]
        exact ⟨trivial, F, nd, fun x => ⟨hF x, fun c => (next_closed hsF hN).all c⟩, rfl⟩
      | cons y r =>
        have hy : y ∈ nextL k F := by rw [hN]; exact List.mem_cons_self ..
        obtain ⟨cy, ny⟩ := next_come hF hy
        have nd' : (F ++ [y]).Nodup := by
          rw [List.nodup_append]
          refine ⟨nd, by simp, fun a ha b hb => ?_⟩
          simp at hb
          rw [hb]
          exact fun q => ny (q ▸ ha)
        have hF' : ∀ x ∈ F ++ [y], Come k x := fun x hx => by
          rcases List.mem_append.mp hx with hx | hx
          · exact hF x hx
          · simp at hx; rw [hx]; exact cy
        have hl' := nd_lenN nd' (fun x hx => (hF' x hx).lt hk)
        rw [List.length_append] at hl'
        simp at hl'
        obtain ⟨m', rfl⟩ : ∃ m', m = m' + 1 := ⟨m - 1, by omega⟩
        have e1 : vCmp .ne (.lst ((y :: r).map iN)) (.lst []) = some true := by rw [ne_nilN]; simp
        simp only [condT, e_cmp, e_pk, getE_succ, getE_zero, o_some, b_ok, e_lst, e_nil, List.length_nil, lim, Nat.zero_le, if_true, e1, Option.map_some, truth_bl, Ok_ok]
        refine ⟨m', rfl, ?_⟩
        have fa : ∀ v : Val, appV (some (.lst (F.map iN))) v = some (.lst (F.map iN ++ [v])) := fun v => if_pos (show (F.map iN).length < 100000 by simp; omega)
        have i0 : vIx (.lst ((y :: r).map iN)) (.int 0) = some (iN y) := ix_mapL (i := 0) (xs := y :: r) rfl
        have ap : F.map iN ++ [iN y] = (F ++ [y]).map iN := by simp
        simp only [x_seq, x_app, getE_succ, getE_zero, lstE, o_some, b_ok, e_ix, e_pk, e_c, i0, fa, ap, putE, List.length_cons, List.length_nil, Nat.reduceAdd, Nat.reduceLT, if_true, List.set_cons_succ, List.set_cons_zero, thn_nx, x_asg, e_callb, e_cons, e_nil, e_bor, nx _ g' nd' hF', nm_set, Ok_ok]
        exact .inl ⟨_, rfl, trivial, F ++ [y], rfl, nd', hF', by simp [hsF], by simp; omega⟩
    · rintro fl g' (⟨e, rfl, rfl, F, nd, hF, rfl⟩ | ⟨_, _, _, z⟩)
      · simp only [thn_nx, x_retM, getE_succ, getE_zero, o_some, b_ok, outOf_rt, Ok_ok]
        exact ⟨trivial, F, nd, hF, rfl⟩
      · exact z.elim
  obtain ⟨a, g', e, rfl, F, nd, hF, rfl⟩ := key.ex
  exact ⟨F, nd, hF, e⟩
theorem c_coming_of {k : Kd} (hk : k.Ok) : callG G (n + 4) f_coming_of [k.v] g = .ok (.lst ((comL k).map iN), false) g := by
  obtain ⟨F, nd, hF, e⟩ := c_found_of (n := n) (g := g) hk
  rw [call_of t_coming_of rfl (by decide)]
  simp [b_coming_of, e, sort_com hk nd hF]
end Pg
set_option Elab.async false
set_option linter.all false
set_option autoImplicit false
set_option maxRecDepth 100000
set_option maxHeartbeats 1000000
namespace Pg
open PySem L2 Pm Pp
variable {n : Nat} {g : DrawSt}
theorem c_does_rise {k : Kd} (hk : k.Ok) {x y : Nat} (hx : x < k.n) (hy : y < k.n) : callG G (n + 2) f_does_rise [k.v, iN x, iN y] g = .ok (.bl (risesB k x y), false) g := by
  rw [call_of t_does_rise rfl (by decide)]
  simp only [b_does_rise, List.map_cons, List.map_nil, List.nil_append, List.cons_append, Nat.reduceSub, List.replicate, x_ret, e_an, e_cmp, e_call, e_cons, e_nil, e_sl, e_pk, getE_succ, getE_zero, o_some, b_ok, c_merged_of hk hx hy, c_merged_of hk hy hx, eq_nat, Option.map_some, asBl_bl, risesB]
  by_cases q : k.mg x y = y <;> simp [q]
theorem c_do_group {k : Kd} (hk : k.Ok) {x y z : Nat} (hx : x < k.n) (hy : y < k.n) (hz : z < k.n) : callG G (n + 2) f_do_group [k.v, iN x, iN y, iN z] g = .ok (.bl (groupB k x y z), false) g := by
  rw [call_of t_do_group rfl (by decide)]
  simp only [b_do_group, List.map_cons, List.map_nil, List.nil_append, List.cons_append, Nat.reduceSub, List.replicate, x_seq, x_par, bindP, List.length_cons, List.length_nil, Nat.reduceAdd, Nat.reduceLT, if_true, List.set_cons_succ, List.set_cons_zero, thn_nx, x_ret, e_cmp, e_call, e_cons, e_nil, e_sl, e_pk, getE_succ, getE_zero, o_some, b_ok, c_merged_of hk hx hy, c_merged_of hk hy hz, c_merged_of hk (hk.mg_lt hx hy) hz, c_merged_of hk hx (hk.mg_lt hy hz), eq_nat, Option.map_some, outOf_rt, groupB]
section
variable {k : Kd} {st : List Nat}
theorem tst_if {p : Bool} {y : Val} {g : DrawSt} : (tst p (R.ok [y] g) (R.ok [] g) : R (List Val)) = .ok (if p = true then [y] else []) g := by cases p <;> rfl
theorem tst_nif {p : Bool} {y : Val} {g : DrawSt} : (tst p (R.ok [] g) (R.ok [y] g) : R (List Val)) = .ok (if (!p) = true then [y] else []) g := by cases p <;> rfl
theorem c_broken_start (hk : k.Ok) (hst : ∀ x ∈ st, x < k.n) (hl : st.length ≤ 8) : callG G (n + 3) f_broken_by [k.v, .str "start", .lst (st.map iN)] g = .ok (.lst ((brkStart k st).map tZ), true) g := by
  rw [call_of t_broken_by rfl (by decide)]
  have q1 : vCmp .eq (.str "start") (.str "start") = some true := by decide +kernel
  have t : ∀ {a b c d e : Option Val}, turns (oneT (callG G (n + 2)) B60 (.nm 4) (.oo (.cmp .ne (.call f_merged_of (.cons (.sl 0) (.cons (.sl 3) (.cons (.sl 4) .nil)))) (.pk 4)) (.cmp .ne (.call f_merged_of (.cons (.sl 0) (.cons (.sl 4) (.cons (.sl 3) .nil)))) (.pk 4))) (.yld (.tup (.cons (.sl 4) .nil))) [some k.v, some (.str "start"), some (.lst (st.map iN)), some (iN k.s), none, a, b, c, d]) (st.map iN) [] g = .ok ((brkStart k st).map tZ) g := fun {a b c d e} => by
    have := turnsP (g := g) (f := oneT (callG G (n + 2)) B60 (.nm 4) (.oo (.cmp .ne (.call f_merged_of (.cons (.sl 0) (.cons (.sl 3) (.cons (.sl 4) .nil)))) (.pk 4)) (.cmp .ne (.call f_merged_of (.cons (.sl 0) (.cons (.sl 4) (.cons (.sl 3) .nil)))) (.pk 4))) (.yld (.tup (.cons (.sl 4) .nil))) [some k.v, some (.str "start"), some (.lst (st.map iN)), some (iN k.s), none, a, b, c, d]) (l := st) (F := iN) (p := fun x => !decide (k.mg k.s x = x) || !decide (k.mg x k.s = x)) (y := fun x => tZ [x]) (fun x hx => by
      simp only [oneT, nm_set, List.length_cons, List.length_nil, Nat.reduceAdd, Nat.reduceLT, List.set_cons_succ, List.set_cons_zero, o_some, b_ok, e_oo, e_cmp, e_call, e_cons, e_nil, e_sl, e_pk, getE_succ, getE_zero, c_merged_of hk hk.s (hst x hx), c_merged_of hk (hst x hx) hk.s, ne_nat, Option.map_some, asBl_bl]
      by_cases h1 : k.mg k.s x = x <;> by_cases h2 : k.mg x k.s = x <;> simp [h1, h2, lim, tZ]) (by omega)
    rw [this]; simp [brkStart]
  simp only [b_broken_by, List.map_cons, List.map_nil, List.nil_append, List.cons_append, Nat.reduceSub, List.replicate, x_seq, x_ife, e_cmp, e_pk, e_c, getE_succ, getE_zero, o_some, b_ok, q1, Option.map_some, truth_bl, tst_t, x_asg, e_ix, kv_0, nm_set, List.length_cons, List.length_nil, Nat.reduceAdd, Nat.reduceLT, List.set_cons_succ, List.set_cons_zero, thn_nx, x_retN, e_comp, e_it, items_lst, wipeE, t (e := none), n_ok, thn_rt, outOf_rt]
theorem c_broken_twice (hk : k.Ok) (hst : ∀ x ∈ st, x < k.n) (hl : st.length ≤ 8) : callG G (n + 3) f_broken_by [k.v, .str "twice", .lst (st.map iN)] g = .ok (.lst ((brkTwice k st).map tZ), true) g := by
  rw [call_of t_broken_by rfl (by decide)]
  have q1 : vCmp .eq (.str "twice") (.str "start") = some false := by decide +kernel
  have q2 : vCmp .eq (.str "twice") (.str "twice") = some true := by decide +kernel
  have t : ∀ {a b c d z : Option Val}, turns (oneT (callG G (n + 2)) B60 (.nm 4) (.cmp .ne (.call f_merged_of (.cons (.sl 0) (.cons (.sl 4) (.cons (.sl 4) .nil)))) (.pk 4)) (.yld (.tup (.cons (.sl 4) .nil))) [some k.v, some (.str "twice"), some (.lst (st.map iN)), z, none, a, b, c, d]) (st.map iN) [] g = .ok ((brkTwice k st).map tZ) g := fun {a b c d z} => by
    have := turnsP (g := g) (f := oneT (callG G (n + 2)) B60 (.nm 4) (.cmp .ne (.call f_merged_of (.cons (.sl 0) (.cons (.sl 4) (.cons (.sl 4) .nil)))) (.pk 4)) (.yld (.tup (.cons (.sl 4) .nil))) [some k.v, some (.str "twice"), some (.lst (st.map iN)), z, none, a, b, c, d]) (l := st) (F := iN) (p := fun x => !decide (k.mg x x = x)) (y := fun x => tZ [x]) (fun x hx => by
      simp only [oneT, nm_set, List.length_cons, List.length_nil, Nat.reduceAdd, Nat.reduceLT, List.set_cons_succ, List.set_cons_zero, o_some, b_ok, e_cmp, e_call, e_cons, e_nil, e_sl, e_pk, getE_succ, getE_zero, c_merged_of hk (hst x hx) (hst x hx), ne_nat, Option.map_some, truth_bl]
      by_cases h1 : k.mg x x = x <;> simp [h1, lim, tZ]) (by omega)
    rw [this]; simp [brkTwice]
  simp only [b_broken_by, List.map_cons, List.map_nil, List.nil_append, List.cons_append, Nat.reduceSub, List.replicate, x_seq, x_ife, e_cmp, e_pk, e_c, getE_succ, getE_zero, o_some, b_ok, q1, q2, Option.map_some, truth_bl, tst_t, tst_f, x_skip, thn_nx, x_retN, e_comp, e_it, items_lst, wipeE, List.set_cons_succ, List.set_cons_zero, t, n_ok, thn_rt, outOf_rt]
theorem c_broken_turn (hk : k.Ok) (hst : ∀ x ∈ st, x < k.n) (hl : st.length ≤ 8) : callG G (n + 3) f_broken_by [k.v, .str "turn", .lst (st.map iN)] g = .ok (.lst ((brkTurn k st).map tZ), true) g := by
  rw [call_of t_broken_by rfl (by decide)]
  have q1 : vCmp .eq (.str "turn") (.str "start") = some false := by decide +kernel
  have q2 : vCmp .eq (.str "turn") (.str "twice") = some false := by decide +kernel
  have q3 : vCmp .eq (.str "turn") (.str "turn") = some true := by decide +kernel
  have inner : ∀ {b c d z : Option Val} {x : Nat}, x < k.n → turns (oneT (callG G (n + 2)) B60 (.nm 5) (.cmp .ne (.call f_merged_of (.cons (.sl 0) (.cons (.sl 4) (.cons (.sl 5) .nil)))) (.call f_merged_of (.cons (.sl 0) (.cons (.sl 5) (.cons (.sl 4) .nil))))) (.yld (.tup (.cons (.sl 4) (.cons (.sl 5) .nil)))) [some k.v, some (.str "turn"), some (.lst (st.map iN)), z, some (iN x), none, b, c, d]) (st.map iN) [] g = .ok ((((st.filter fun y => !decide (k.mg x y = k.mg y x)).map fun y => [x, y]).map tZ)) g := fun {b c d z x} hx => by
    have := turnsP (g := g) (f := oneT (callG G (n + 2)) B60 (.nm 5) (.cmp .ne (.call f_merged_of (.cons (.sl 0) (.cons (.sl 4) (.cons (.sl 5) .nil)))) (.call f_merged_of (.cons (.sl 0) (.cons (.sl 5) (.cons (.sl 4) .nil))))) (.yld (.tup (.cons (.sl 4) (.cons (.sl 5) .nil)))) [some k.v, some (.str "turn"), some (.lst (st.map iN)), z, some (iN x), none, b, c, d]) (l := st) (F := iN) (p := fun y => !decide (k.mg x y = k.mg y x)) (y := fun y => tZ [x, y]) (fun y hy => by
      simp only [oneT, nm_set, List.length_cons, List.length_nil, Nat.reduceAdd, Nat.reduceLT, List.set_cons_succ, List.set_cons_zero, o_some, b_ok, e_cmp, e_call, e_cons, e_nil, e_sl, e_pk, getE_succ, getE_zero, c_merged_of hk hx (hst y hy), c_merged_of hk (hst y hy) hx, ne_nat, Option.map_some, truth_bl]
      by_cases h1 : k.mg x y = k.mg y x <;> simp [h1, lim, tZ]) (by omega)
    rw [this]; simp
  have t : ∀ {b c d z : Option Val}, turns (oneT (callG G (n + 2)) B60 (.nm 4) (.c (.bl true)) (.gen (.nm 5) (.it (.sl 2)) (.cmp .ne (.call f_merged_of (.cons (.sl 0) (.cons (.sl 4) (.cons (.sl 5) .nil)))) (.call f_merged_of (.cons (.sl 0) (.cons (.sl 5) (.cons (.sl 4) .nil))))) (.yld (.tup (.cons (.sl 4) (.cons (.sl 5) .nil))))) [some k.v, some (.str "turn"), some (.lst (st.map iN)), z, none, none, b, c, d]) (st.map iN) [] g = .ok ((brkTurn k st).map tZ) g := fun {b c d z} => by
    rw [turnsFM (H := fun x => ((st.filter fun y => !decide (k.mg x y = k.mg y x)).map fun y => [x, y]).map tZ) (fun x hx => ?_) ?_, flat_map]
    · rfl
    · have := flat_len (H := fun x => ((st.filter fun y => !decide (k.mg x y = k.mg y x)).map fun y => [x, y]).map tZ) (c := 8) (l := st) fun x _ => by
        rw [List.length_map, List.length_map]
        exact Nat.le_trans (List.length_filter_le ..) hl
      rw [List.length_nil]; omega
    · simp only [oneT, nm_set, List.length_cons, List.length_nil, Nat.reduceAdd, Nat.reduceLT, List.set_cons_succ, List.set_cons_zero, o_some, b_ok, e_c, truth_bl, tst_t, e_gen, e_it, e_sl, getE_succ, getE_zero, items_lst, inner (hst x hx)]
  simp only [b_broken_by, List.map_cons, List.map_nil, List.nil_append, List.cons_append, Nat.reduceSub, List.replicate, x_seq, x_ife, e_cmp, e_pk, e_c, getE_succ, getE_zero, o_some, b_ok, q1, q2, q3, Option.map_some, truth_bl, tst_t, tst_f, x_skip, thn_nx, x_retN, e_comp, e_it, items_lst, wipeE, List.set_cons_succ, List.set_cons_zero, t, n_ok, thn_rt, outOf_rt]
theorem c_broken_rise (hk : k.Ok) (hst : ∀ x ∈ st, x < k.n) (hl : st.length ≤ 8) : callG G (n + 3) f_broken_by [k.v, .str "rise", .lst (st.map iN)] g = .ok (.lst ((brkRise k st).map tZ), true) g := by
  rw [call_of t_broken_by rfl (by decide)]
  have q1 : vCmp .eq (.str "rise") (.str "start") = some false := by decide +kernel
  have q2 : vCmp .eq (.str "rise") (.str "twice") = some false := by decide +kernel
  have q3 : vCmp .eq (.str "rise") (.str "turn") = some false := by decide +kernel
  have q4 : vCmp .eq (.str "rise") (.str "rise") = some true := by decide +kernel
  have hu4 := hk.u4
  have hz : k.u.zipIdx.length ≤ 8 := by rw [List.length_zipIdx]; omega
  have inner : ∀ {a b z : Option Val} {x : Nat}, x < k.n → turns (oneT (callG G (n + 2)) B60 (.tp [.nm 7, .nm 8]) (.nt (.call f_does_rise (.cons (.sl 0) (.cons (.sl 4) (.cons (.ix (.pk 8) (.pk 4)) .nil))))) (.yld (.tup (.cons (.sl 4) (.cons (.sl 7) .nil)))) [some k.v, some (.str "rise"), some (.lst (st.map iN)), z, some (iN x), a, b, none, none]) (k.u.zipIdx.map fun p => Val.tup [iN p.2, tZ p.1]) [] g = .ok ((((k.u.zipIdx.filter fun p => !risesB k x (gN p.1 x)).map fun p => [x, p.2]).map tZ)) g := fun {a b z x} hx => by
    have := turnsP (g := g) (f := oneT (callG G (n + 2)) B60 (.tp [.nm 7, .nm 8]) (.nt (.call f_does_rise (.cons (.sl 0) (.cons (.sl 4) (.cons (.ix (.pk 8) (.pk 4)) .nil))))) (.yld (.tup (.cons (.sl 4) (.cons (.sl 7) .nil)))) [some k.v, some (.str "rise"), some (.lst (st.map iN)), z, some (iN x), a, b, none, none]) (l := k.u.zipIdx) (F := fun p => Val.tup [iN p.2, tZ p.1]) (p := fun p => !risesB k x (gN p.1 x)) (y := fun p => tZ [x, p.2]) (fun p hp => by
      have hr := hk.ur p.1 (List.fst_mem_of_mem_zipIdx hp)
      have hxl : x < p.1.length := by rw [hr.1]; exact hx
      have hlt : gN p.1 x < k.n := getD_lt hr.2 hxl
      simp only [oneT, bindT, bindTs, nm_set, List.length_cons, List.length_nil, Nat.reduceAdd, Nat.reduceLT, if_true, List.set_cons_succ, List.set_cons_zero, o_some, b_ok, e_nt, e_call, e_cons, e_nil, e_sl, e_ix, e_pk, getE_succ, getE_zero, ix_tZ hxl, c_does_rise hk hx hlt, asBl_bl, truth_bl]
      cases h1 : risesB k x (gN p.1 x) <;> simp [lim, tZ]) (by omega)
    rw [this]; simp
  have t : ∀ {a b z : Option Val}, turns (oneT (callG G (n + 2)) B60 (.nm 4) (.c (.bl true)) (.gen (.tp [.nm 7, .nm 8]) (.enm (.ix (.pk 0) (.c (.int 1)))) (.nt (.call f_does_rise (.cons (.sl 0) (.cons (.sl 4) (.cons (.ix (.pk 8) (.pk 4)) .nil))))) (.yld (.tup (.cons (.sl 4) (.cons (.sl 7) .nil))))) [some k.v, some (.str "rise"), some (.lst (st.map iN)), z, none, a, b, none, none]) (st.map iN) [] g = .ok ((brkRise k st).map tZ) g := fun {a b z} => by
    rw [turnsFM (H := fun x => ((k.u.zipIdx.filter fun p => !risesB k x (gN p.1 x)).map fun p => [x, p.2]).map tZ) (fun x hx => ?_) ?_, flat_map]
    · rfl
    · have := flat_len (H := fun x => ((k.u.zipIdx.filter fun p => !risesB k x (gN p.1 x)).map fun p => [x, p.2]).map tZ) (c := 8) (l := st) fun x _ => by
        rw [List.length_map, List.length_map]
        exact Nat.le_trans (List.length_filter_le ..) hz
      rw [List.length_nil]; omega
    · simp only [oneT, nm_set, List.length_cons, List.length_nil, Nat.reduceAdd, Nat.reduceLT, List.set_cons_succ, List.set_cons_zero, o_some, b_ok, e_c, truth_bl, tst_t, e_gen, e_enm, e_ix, e_pk, getE_succ, getE_zero, kv_1, items_tZZ, Option.map_some, enum_zip, inner (hst x hx)]
  simp only [b_broken_by, List.map_cons, List.map_nil, List.nil_append, List.cons_append, Nat.reduceSub, List.replicate, x_seq, x_ife, e_cmp, e_pk, e_c, getE_succ, getE_zero, o_some, b_ok, q1, q2, q3, q4, Option.map_some, truth_bl, tst_t, tst_f, x_skip, thn_nx, x_retN, e_comp, e_it, items_lst, wipeE, List.set_cons_succ, List.set_cons_zero, t, n_ok, thn_rt, outOf_rt]
theorem c_broken_group (hk : k.Ok) (hst : ∀ x ∈ st, x < k.n) (hl : st.length ≤ 8) : callG G (n + 3) f_broken_by [k.v, .str "group", .lst (st.map iN)] g = .ok (.lst ((brkGroup k st).map tZ), true) g := by
  rw [call_of t_broken_by rfl (by decide)]
  have q1 : vCmp .eq (.str "group") (.str "start") = some false := by decide +kernel
  have q2 : vCmp .eq (.str "group") (.str "twice") = some false := by decide +kernel
  have q3 : vCmp .eq (.str "group") (.str "turn") = some false := by decide +kernel
  have q4 : vCmp .eq (.str "group") (.str "rise") = some false := by decide +kernel
  have in2 : ∀ {a b z : Option Val} {x y : Nat}, x < k.n → y < k.n → turns (oneT (callG G (n + 2)) B60 (.nm 6) (.nt (.call f_do_group (.cons (.sl 0) (.cons (.sl 4) (.cons (.sl 5) (.cons (.sl 6) .nil)))))) (.yld (.tup (.cons (.sl 4) (.cons (.sl 5) (.cons (.sl 6) .nil))))) [some k.v, some (.str "group"), some (.lst (st.map iN)), z, some (iN x), some (iN y), none, a, b]) (st.map iN) [] g = .ok ((((st.filter fun w => !groupB k x y w).map fun w => [x, y, w]).map tZ)) g := fun {a b z x y} hx hy => by
    have := turnsP (g := g) (f := oneT (callG G (n + 2)) B60 (.nm 6) (.nt (.call f_do_group (.cons (.sl 0) (.cons (.sl 4) (.cons (.sl 5) (.cons (.sl 6) .nil)))))) (.yld (.tup (.cons (.sl 4) (.cons (.sl 5) (.cons (.sl 6) .nil))))) [some k.v, some (.str "group"), some (.lst (st.map iN)), z, some (iN x), some (iN y), none, a, b]) (l := st) (F := iN) (p := fun w => !groupB k x y w) (y := fun w => tZ [x, y, w]) (fun w hw => by
      simp only [oneT, nm_set, List.length_cons, List.length_nil, Nat.reduceAdd, Nat.reduceLT, List.set_cons_succ, List.set_cons_zero, o_some, b_ok, e_nt, e_call, e_cons, e_nil, e_sl, getE_succ, getE_zero, c_do_group hk hx hy (hst w hw), asBl_bl, truth_bl]
      cases h1 : groupB k x y w <;> simp [lim, tZ]) (by omega)
    rw [this]; simp
  have in1 : ∀ {a b z : Option Val} {x : Nat}, x < k.n → turns (oneT (callG G (n + 2)) B60 (.nm 5) (.c (.bl true)) (.gen (.nm 6) (.it (.sl 2)) (.nt (.call f_do_group (.cons (.sl 0) (.cons (.sl 4) (.cons (.sl 5) (.cons (.sl 6) .nil)))))) (.yld (.tup (.cons (.sl 4) (.cons (.sl 5) (.cons (.sl 6) .nil)))))) [some k.v, some (.str "group"), some (.lst (st.map iN)), z, some (iN x), none, none, a, b]) (st.map iN) [] g = .ok (((st.flatMap fun y => (st.filter fun w => !groupB k x y w).map fun w => [x, y, w]).map tZ)) g := fun {a b z x} hx => by
    rw [turnsFM (H := fun y => ((st.filter fun w => !groupB k x y w).map fun w => [x, y, w]).map tZ) (fun y hy => ?_) ?_, flat_map]
    · rfl
    · have := flat_len (H := fun y => ((st.filter fun w => !groupB k x y w).map fun w => [x, y, w]).map tZ) (c := 8) (l := st) fun y _ => by
        rw [List.length_map, List.length_map]
        exact Nat.le_trans (List.length_filter_le ..) hl
      rw [List.length_nil]; omega
    · simp only [oneT, nm_set, List.length_cons, List.length_nil, Nat.reduceAdd, Nat.reduceLT, List.set_cons_succ, List.set_cons_zero, o_some, b_ok, e_c, truth_bl, tst_t, e_gen, e_it, e_sl, getE_succ, getE_zero, items_lst, in2 hx (hst y hy)]
  have t : ∀ {a b z : Option Val}, turns (oneT (callG G (n + 2)) B60 (.nm 4) (.c (.bl true)) (.gen (.nm 5) (.it (.sl 2)) (.c (.bl true)) (.gen (.nm 6) (.it (.sl 2)) (.nt (.call f_do_group (.cons (.sl 0) (.cons (.sl 4) (.cons (.sl 5) (.cons (.sl 6) .nil)))))) (.yld (.tup (.cons (.sl 4) (.cons (.sl 5) (.cons (.sl 6) .nil))))))) [some k.v, some (.str "group"), some (.lst (st.map iN)), z, none, none, none, a, b]) (st.map iN) [] g = .ok ((brkGroup k st).map tZ) g := fun {a b z} => by
    have len1 : ∀ x : Nat, (st.flatMap fun y => (st.filter fun w => !groupB k x y w).map fun w => [x, y, w]).length ≤ 64 := fun x => by
      have := flat_len (H := fun y => (st.filter fun w => !groupB k x y w).map fun w => [x, y, w]) (c := 8) (l := st) fun y _ => by
        rw [List.length_map]
        exact Nat.le_trans (List.length_filter_le ..) hl
      omega
    rw [turnsFM (H := fun x => (st.flatMap fun y => (st.filter fun w => !groupB k x y w).map fun w => [x, y, w]).map tZ) (fun x hx => ?_) ?_, flat_map]
    · rfl
    · have := flat_len (H := fun x => (st.flatMap fun y => (st.filter fun w => !groupB k x y w).map fun w => [x, y, w]).map tZ) (c := 64) (l := st) fun x _ => by
        rw [List.length_map]; exact len1 x
      rw [List.length_nil]; omega
    · simp only [oneT, nm_set, List.length_cons, List.length_nil, Nat.reduceAdd, Nat.reduceLT, List.set_cons_succ, List.set_cons_zero, o_some, b_ok, e_c, truth_bl, tst_t, e_gen, e_it, e_sl, getE_succ, getE_zero, items_lst, in1 (hst x hx)]
  simp only [b_broken_by, List.map_cons, List.map_nil, List.nil_append, List.cons_append, Nat.reduceSub, List.replicate, x_seq, x_ife, e_cmp, e_pk, e_c, getE_succ, getE_zero, o_some, b_ok, q1, q2, q3, q4, Option.map_some, truth_bl, tst_t, tst_f, x_skip, thn_nx, x_retN, e_comp, e_it, items_lst, wipeE, List.set_cons_succ, List.set_cons_zero, t, n_ok, thn_rt, outOf_rt]
end
theorem com_len {k : Kd} (hk : k.Ok) : (comL k).length ≤ 8 := by
  have := List.length_filter_le (fun x => @decide (Come k x) (Classical.propDecidable _)) (List.range k.n)
  rw [List.length_range] at this
  have h8 : k.n ≤ 8 := hk.r8
  exact Nat.le_trans this h8
theorem c_need_holding {k : Kd} (hk : k.Ok) (h : Holds k (comL k)) : callG G (n + 5) f_need_holding [k.v] g = .ok (.lst ((comL k).map iN), false) g := by
  rw [call_of t_need_holding rfl (by decide)]
  have lt : ∀ x ∈ comL k, x < k.n := fun x hx => com_lt hk hx
  have e0 : vCmp .ne (.lst ([] : List Val)) (.lst []) = some false := by decide +kernel
  have w1 := c_need_kind (n := n) (g := g) hk
  have w2 := c_coming_of (n := n) (g := g) hk
  have b1 := c_broken_start (n := n + 1) (g := g) hk lt (com_len hk)
  have b2 := c_broken_twice (n := n + 1) (g := g) hk lt (com_len hk)
  have b3 := c_broken_turn (n := n + 1) (g := g) hk lt (com_len hk)
  have b4 := c_broken_rise (n := n + 1) (g := g) hk lt (com_len hk)
  have b5 := c_broken_group (n := n + 1) (g := g) hk lt (com_len hk)
  rw [h.b1] at b1
  rw [h.b2] at b2
  rw [h.b3] at b3
  rw [h.b4] at b4
  rw [h.b5] at b5
  simp only [List.map_nil] at b1 b2 b3 b4 b5
  simp only [b_need_holding, List.map_cons, List.map_nil, List.nil_append, List.cons_append, Nat.reduceSub, List.replicate, x_seq, x_asg, e_call, e_cons, e_nil, e_sl, getE_succ, getE_zero, o_some, b_ok, w1, w2, nm_set, List.length_cons, List.length_nil, Nat.reduceAdd, Nat.reduceLT, List.set_cons_succ, List.set_cons_zero, thn_nx, x_for, e_it, e_c, items_tup, forT, bodyT, x_ife, e_cmp, e_lst, lim, Nat.zero_le, if_true, b1, b2, b3, b4, b5, e0, Option.map_some, truth_bl, tst_f, x_skip, x_ret, outOf_rt]
end Pg
set_option Elab.async false
set_option linter.all false
set_option autoImplicit false
set_option maxRecDepth 100000
set_option maxHeartbeats 1000000
namespace Pg
open PySem L2 Pm Pp
variable {n : Nat} {g : DrawSt}
def addL (F : List Nat) : List Nat → List Nat
  | [] => F
  | z :: r => addL (if z ∈ F then F else F ++ [z]) r
theorem addL_ok {k : Kd} : ∀ {more F : List Nat}, F.Nodup → (∀ x ∈ F, Come k x) → (∀ x ∈ more, Come k x) → (∃ ext, addL F more = F ++ ext) ∧ (addL F more).Nodup ∧ (∀ x ∈ addL F more, Come k x) ∧ ∀ x ∈ more, x ∈ addL F more
  | [], F, nd, hF, _ => ⟨⟨[], by simp [addL]⟩, nd, hF, fun _ h => nomatch h⟩
  | z :: r, F, nd, hF, hm => by
    unfold addL
    have nd' : (if z ∈ F then F else F ++ [z]).Nodup := by
      split
      · exact nd
      · rename_i q
        rw [List.nodup_append]
        refine ⟨nd, by simp, fun a ha b hb => ?_⟩
        simp at hb
        rw [hb]
        exact fun e => q (e ▸ ha)
    have hF' : ∀ x ∈ (if z ∈ F then F else F ++ [z]), Come k x := fun x hx => by
      split at hx
      · exact hF x hx
      · rcases List.mem_append.mp hx with hx | hx
        · exact hF x hx
        · simp at hx; rw [hx]; exact hm z (List.mem_cons_self ..)
    obtain ⟨⟨ext, e⟩, h2, h3, h4⟩ := addL_ok nd' hF' fun x hx => hm x (List.mem_cons_of_mem _ hx)
    refine ⟨?_, h2, h3, fun x hx => ?_⟩
    · rw [e]
      split
      · exact ⟨ext, rfl⟩
      · exact ⟨[z] ++ ext, by simp⟩
    · rcases List.mem_cons.mp hx with rfl | hx
      · rw [e]
        split
        · rename_i q; exact List.mem_append_left _ q
        · simp
      · exact h4 x hx
theorem add_loop {k : Kd} (hk : k.Ok) {a2 a3 a4 a6 a7 : Option Val} : ∀ (more F : List Nat) (z : Option Val), F.Nodup → (∀ x ∈ F, Come k x) → (∀ x ∈ more, Come k x) → ∃ z', forT (bodyT (callG G n) B60 (.nm 5) (.asg (.nm 1) (.bin .add (.pk 1) (.ite (.cmp .notin (.pk 5) (.pk 1)) (.lst (.cons (.sl 5) .nil)) (.lst .nil))))) (more.map iN) [some k.v, some (.lst (F.map iN)), a2, a3, a4, z, a6, a7] g
    = .ok (.nx [some k.v, some (.lst ((addL F more).map iN)), a2, a3, a4, z', a6, a7]) g
  | [], F, z, _, _, _ => ⟨z, by simp [forT, addL]⟩
  | w :: r, F, z, nd, hF, hm => by
    have h8 : k.n ≤ 8 := hk.r8
    have hl := nd_lenN nd fun x hx => (hF x hx).lt hk
    have one : bodyT (callG G n) B60 (.nm 5) (.asg (.nm 1) (.bin .add (.pk 1) (.ite (.cmp .notin (.pk 5) (.pk 1)) (.lst (.cons (.sl 5) .nil)) (.lst .nil)))) (iN w) [some k.v, some (.lst (F.map iN)), a2, a3, a4, z, a6, a7] g = .ok (.nx [some k.v, some (.lst ((if w ∈ F then F else F ++ [w]).map iN)), a2, a3, a4, some (iN w), a6, a7]) g := by
      by_cases q : w ∈ F
      · have ad : vBin .add (.lst (F.map iN)) (.lst []) = some (.lst (F.map iN)) := by rw [add_lst (by simp; omega)]; simp
        simp only [bodyT, nm_set, List.length_cons, List.length_nil, Nat.reduceAdd, Nat.reduceLT, List.set_cons_succ, List.set_cons_zero, o_some, b_ok, x_asg, e_bin, e_pk, e_ite, e_cmp, getE_succ, getE_zero, notin_lst, q, decide_true, Bool.not_true, Option.map_some, truth_bl, tst_f, e_lst, e_nil, lim, Nat.zero_le, if_true, ad]
      · have ad : vBin .add (.lst (F.map iN)) (.lst [iN w]) = some (.lst ((F ++ [w]).map iN)) := by rw [add_lst (by simp; omega)]; simp
        simp only [bodyT, nm_set, List.length_cons, List.length_nil, Nat.reduceAdd, Nat.reduceLT, List.set_cons_succ, List.set_cons_zero, o_some, b_ok, x_asg, e_bin, e_pk, e_ite, e_cmp, getE_succ, getE_zero, notin_lst, q, decide_false, Bool.not_false, Option.map_some, truth_bl, tst_t, e_lst, e_cons, e_sl, e_nil, lim, Nat.reduceLeDiff, if_true, if_false, ad]
    have st := addL_ok (more := [w]) nd hF fun x hx => by simp at hx; rw [hx]; exact hm w (List.mem_cons_self ..)
    have e1 : addL F [w] = if w ∈ F then F else F ++ [w] := rfl
    rw [e1] at st
    obtain ⟨z', ih⟩ := add_loop hk (a2 := a2) (a3 := a3) (a4 := a4) (a6 := a6) (a7 := a7) r (if w ∈ F then F else F ++ [w]) (some (iN w)) st.2.1 st.2.2.1 fun x hx => hm x (List.mem_cons_of_mem _ hx)
    refine ⟨z', ?_⟩
    show ((bodyT _ _ _ _ (iN w) _ g).bind _) = _
    rw [one]
    exact ih
theorem c_law_coming {k : Kd} (hk : k.Ok) : callG G (n + 1) f_law_coming [k.v] g = .ok (.lst ((comL k).map iN), false) g := by
  have h8 : k.n ≤ 8 := hk.r8
  have hu4 := hk.u4
  refine eq_of_ok ?_
  rw [call_of t_law_coming rfl (by decide)]
  have s0 : Val.lst [iN k.s] = .lst ([k.s].map iN) := rfl
  simp only [b_law_coming, List.map_cons, List.map_nil, List.nil_append, List.cons_append, Nat.reduceSub, List.replicate, x_seq, x_par, e_cons, e_nil, e_lst, e_ix, e_pk, e_c, getE_succ, getE_zero, o_some, b_ok, kv_0, List.length_cons, List.length_nil, Nat.reduceAdd, lim, Nat.reduceLeDiff, if_true, bindP, Nat.reduceLT, List.set_cons_succ, List.set_cons_zero, thn_nx, x_whl, s0, b_as]
  simp only [List.map_cons, List.map_nil]
  refine Ok_bind.mpr ((whlT_inv (m := k.n) (fun m e g' => g' = g ∧ ∃ (F : List Nat) (ah : Nat) (x3 x4 x5 : Option Val), e = [some k.v, some (.lst (F.map iN)), some (iN ah), x3, x4, x5, none, none] ∧ F.Nodup ∧ (∀ x ∈ F, Come k x) ∧ k.s ∈ F ∧ ah ≤ F.length ∧ k.n ≤ m + ah ∧ (∀ x ∈ F.take ah, (∀ row ∈ k.u, gN row x ∈ F) ∧ ∀ y ∈ F.take ah, k.mg x y ∈ F))
    (fun e g' => g' = g ∧ ∃ (F : List Nat) (x2 x3 x4 x5 : Option Val), e = [some k.v, some (.lst (F.map iN)), x2, x3, x4, x5, none, none] ∧ F.Nodup ∧ ∀ x, x ∈ F ↔ Come k x) (fun _ _ _ => False) ?_ ⟨rfl, [k.s], 0, none, none, none, rfl, by simp, fun x hx => by simp at hx; rw [hx]; exact .s, by simp, by simp, by omega, by simp⟩ (by unfold whlMost; omega)).mono ?_)
  · rintro m e g' ⟨rfl, F, ah, x3, x4, x5, rfl, nd, hF, hs, hah, hm, hcl⟩
    have hl := nd_lenN nd fun x hx => (hF x hx).lt hk
    by_cases q : ah < F.length
    · simp only [condT, e_cmp, e_pk, e_pr, e_cons, e_nil, getE_succ, getE_zero, o_some, b_ok, len_lst, List.length_map, lt_int, Int.ofNat_lt, q, decide_true, Option.map_some, truth_bl, Ok_ok]
      obtain ⟨m', rfl⟩ : ∃ m', m = m' + 1 := ⟨m - 1, by omega⟩
      refine ⟨m', rfl, ?_⟩
      simp only [x_seq, x_asg, e_pr, e_cons, e_nil, e_pk, getE_succ, getE_zero, o_some, b_ok, len_lst, List.length_map, nm_set, List.length_cons, List.length_nil, Nat.reduceAdd, Nat.reduceLT, List.set_cons_succ, List.set_cons_zero, thn_nx, x_for, e_it, show vPrim .list [.lst (F.map iN)] = some (.lst (F.map iN)) from rfl, items_lst]
      refine (forT_all (fun i e g'' => g'' = g' ∧ ∃ (E : List Nat) (x3 x4 x5 : Option Val), e = [some k.v, some (.lst (E.map iN)), some (iN F.length), x3, x4, x5, none, none] ∧ E.Nodup ∧ (∀ x ∈ E, Come k x) ∧ (∃ ext, E = F ++ ext) ∧ ∀ x ∈ F.take i, (∀ row ∈ k.u, gN row x ∈ E) ∧ ∀ y ∈ F, k.mg x y ∈ E) ⟨rfl, F, x3, x4, x5, rfl, nd, hF, ⟨[], by simp⟩, by simp⟩ ?_).mono ?_
      · rintro i v e g'' hv ⟨rfl, E, y3, y4, y5, rfl, ndE, hE, ⟨ext, hext⟩, hcE⟩
        rw [List.getElem?_map] at hv
        cases hq : F[i]? with
        | none => rw [hq] at hv; cases hv
        | some x =>
        rw [hq] at hv
        cases hv
        have hxF := List.mem_of_getElem? hq
        have hx := (hF x hxF).lt hk
        have hlE := nd_lenN ndE fun x hx => (hE x hx).lt hk
        have hx1 : x < k.m.length := by rw [hk.ml]; exact hx
        have t1 : ∀ {a b c d e f : Option Val}, turns (oneT (callG G n) B60 (.nm 6) (.c (.bl true)) (.yld (.ix (.pk 6) (.pk 3))) [some k.v, a, b, some (iN x), c, d, none, f]) (k.u.map tZ) [] g'' = .ok ((k.u.map fun row => gN row x).map iN) g'' := fun {a b c d e f} => by
          rw [turnsL (H := fun row => iN (gN row x)) (fun row hr => ?_) (by omega)]
          · simp
          · have hxl : x < row.length := by rw [(hk.ur row hr).1]; exact hx
            simp [oneT, ix_tZ hxl]
        have t2 : ∀ {b c d e : Option Val}, turns (oneT (callG G n) B60 (.nm 7) (.c (.bl true)) (.yld (.ix (.ix (.ix (.pk 0) (.c (.int 2))) (.pk 3)) (.pk 7))) [some k.v, some (.lst (E.map iN)), b, some (iN x), c, d, e, none]) (E.map iN) [] g'' = .ok ((E.map fun y => k.mg x y).map iN) g'' := fun {b c d e} => by
          rw [turnsN (h := fun y => iN (k.mg x y)) (fun y hy => ?_) (by omega)]
          · simp
          · have hyl : y < (gL k.m x).length := by rw [(hk.mr _ (getD_memL hx1)).1]; exact (hE y hy).lt hk
            simp [oneT, ix_tZZ hx1, ix_tZ hyl, Kd.mg]
        have t3 : ∀ {b c d e : Option Val}, turns (oneT (callG G n) B60 (.nm 7) (.c (.bl true)) (.yld (.ix (.ix (.ix (.pk 0) (.c (.int 2))) (.pk 7)) (.pk 3))) [some k.v, some (.lst (E.map iN)), b, some (iN x), c, d, e, none]) (E.map iN) [] g'' = .ok ((E.map fun y => k.mg y x).map iN) g'' := fun {b c d e} => by
          rw [turnsN (h := fun y => iN (k.mg y x)) (fun y hy => ?_) (by omega)]
          · simp
          · have hy1 : y < k.m.length := by rw [hk.ml]; exact (hE y hy).lt hk
            have hxl : x < (gL k.m y).length := by rw [(hk.mr _ (getD_memL hy1)).1]; exact hx
            simp [oneT, ix_tZZ hy1, ix_tZ hxl, Kd.mg]
        have a1 : vBin .add (.lst ((k.u.map fun row => gN row x).map iN)) (.lst ((E.map fun y => k.mg x y).map iN)) = some (.lst (((k.u.map fun row => gN row x) ++ E.map fun y => k.mg x y).map iN)) := by rw [add_lst (by simp; omega), List.map_append]
        have a2 : vBin .add (.lst (((k.u.map fun row => gN row x) ++ E.map fun y => k.mg x y).map iN)) (.lst ((E.map fun y => k.mg y x).map iN)) = some (.lst ((((k.u.map fun row => gN row x) ++ E.map fun y => k.mg x y) ++ E.map fun y => k.mg y x).map iN)) := by rw [add_lst (by simp; omega), ← List.map_append]
        obtain ⟨mo, hmo⟩ : ∃ mo, mo = ((k.u.map fun row => gN row x) ++ E.map fun y => k.mg x y) ++ E.map fun y => k.mg y x := ⟨_, rfl⟩
        rw [← hmo] at a2
        have hmc : ∀ z ∈ mo, Come k z := fun z hz => by
          rw [hmo] at hz
          rcases List.mem_append.mp hz with hz | hz
          · rcases List.mem_append.mp hz with hz | hz
            · obtain ⟨row, hr, rfl⟩ := List.mem_map.mp hz; exact .u hr (hF x hxF)
            · obtain ⟨y, hy, rfl⟩ := List.mem_map.mp hz; exact .m (hF x hxF) (hE y hy)
          · obtain ⟨y, hy, rfl⟩ := List.mem_map.mp hz; exact .m (hE y hy) (hF x hxF)
        obtain ⟨z', le⟩ := add_loop (n := n) (g := g'') hk (a2 := some (iN F.length)) (a3 := some (iN x)) (a4 := some (.lst (mo.map iN))) (a6 := none) (a7 := none) mo E y5 ndE hE hmc
        obtain ⟨⟨ext2, e2⟩, nd2, c2, m2⟩ := addL_ok ndE hE hmc
        refine ok_nx (e' := [some k.v, some (.lst ((addL E mo).map iN)), some (iN F.length), some (iN x), some (.lst (mo.map iN)), z', none, none]) ?_ ⟨rfl, addL E mo, _, _, _, rfl, nd2, c2, ⟨ext ++ ext2, by rw [e2, hext, List.append_assoc]⟩, fun w hw => ?_⟩
        · simp only [bodyT, nm_set, List.length_cons, List.length_nil, Nat.reduceAdd, Nat.reduceLT, List.set_cons_succ, List.set_cons_zero, o_some, b_ok, x_seq, x_asg, e_bin, e_comp, e_it, e_ix, e_pk, e_c, getE_succ, getE_zero, kv_1, items_tZZ, items_lst, wipeE, t1 (e := none), t2, t3, n_ok, a1, a2, thn_nx, x_for, e_sl, le]
        · rw [List.take_add_one, hq] at hw
          rcases List.mem_append.mp hw with hw | hw
          · obtain ⟨h1, h2⟩ := hcE w hw
            exact ⟨fun row hr => by rw [e2]; exact List.mem_append_left _ (h1 row hr), fun y hy => by rw [e2]; exact List.mem_append_left _ (h2 y hy)⟩
          · simp at hw
            subst hw
            refine ⟨fun row hr => m2 _ ?_, fun y hy => m2 _ ?_⟩
            · rw [hmo]; exact List.mem_append_left _ (List.mem_append_left _ (List.mem_map.mpr ⟨row, hr, rfl⟩))
            · rw [hmo]; exact List.mem_append_left _ (List.mem_append_right _ (List.mem_map.mpr ⟨y, by rw [hext]; exact List.mem_append_left _ hy, rfl⟩))
      · rintro fl g'' ⟨e, rfl, rfl, E, y3, y4, y5, rfl, ndE, hE, ⟨ext, hext⟩, hcE⟩
        rw [List.length_map, List.take_length] at hcE
        have tk : E.take F.length = F := by rw [hext]; simp
        refine .inl ⟨_, rfl, rfl, E, F.length, y3, y4, y5, rfl, ndE, hE, by rw [hext]; exact List.mem_append_left _ hs, by rw [hext]; simp, by omega, fun x hx => ?_⟩
        rw [tk] at hx ⊢
        exact hcE x hx
    · simp only [condT, e_cmp, e_pk, e_pr, e_cons, e_nil, getE_succ, getE_zero, o_some, b_ok, len_lst, List.length_map, lt_int, Int.ofNat_lt, q, decide_false, Option.map_some, truth_bl, Ok_ok]
      have e1 : ah = F.length := by omega
      rw [e1, List.take_length] at hcl
      have cl : Closed k F := ⟨hs, fun row hr x hx => (hcl x hx).1 row hr, fun x hx y hy => (hcl x hx).2 y hy⟩
      exact ⟨trivial, F, _, _, _, _, rfl, nd, fun x => ⟨hF x, fun c => cl.all c⟩⟩
  · rintro fl g' (⟨e, rfl, rfl, F, x2, x3, x4, x5, rfl, nd, hF⟩ | ⟨_, _, _, z⟩)
    · simp only [thn_nx, x_ret, e_pr, e_cons, e_nil, e_pk, getE_succ, getE_zero, o_some, b_ok, sort_com hk nd hF, outOf_rt, Ok_ok]
      exact ⟨trivial, trivial⟩
    · exact z.elim
end Pg
set_option Elab.async false
set_option linter.all false
set_option autoImplicit false
set_option maxRecDepth 100000
set_option maxHeartbeats 1000000
namespace Pg
open PySem L2 Pm Pp
variable {n : Nat} {g : DrawSt}
theorem com_last {k : Kd} (hk : k.Ok) : ∃ (l : List Nat) (y : Nat), comL k = l ++ [y] ∧ ∀ x ∈ comL k, x ≤ y := by
  have hne : comL k ≠ [] := fun e => by
    have : k.s ∈ comL k := (mem_com hk).mpr .s
    rw [e] at this
    cases this
  obtain ⟨l, y, e⟩ : ∃ (l : List Nat) (y : Nat), comL k = l ++ [y] := ⟨(comL k).dropLast, (comL k).getLast hne, (List.dropLast_concat_getLast hne).symm⟩
  refine ⟨l, y, e, fun x hx => ?_⟩
  have pw : (comL k).Pairwise (· < ·) := List.pairwise_lt_range.filter _
  rw [e] at pw hx
  rw [List.pairwise_append] at pw
  rcases List.mem_append.mp hx with hx | hx
  · exact Nat.le_of_lt (pw.2.2 x hx y (by simp))
  · simp at hx; omega
theorem c_need_coming {k : Kd} (hk : k.Ok) {x : Nat} (hx : x ∈ comL k) : callG G (n + 2) f_need_coming [.lst ((comL k).map iN), iN x] g = .ok (.non, false) g := by
  rw [call_of t_need_coming rfl (by decide)]
  obtain ⟨l, y, e, hy⟩ := com_last hk
  have i1 : vIx (.lst ((comL k).map iN)) (.int (-1)) = some (iN y) := by rw [e]; exact ix_last
  have w : isWhole (iN x) 0 (y : Int) = true := by rw [whole_nat]; have := hy x hx; simp; omega
  simp only [b_need_coming, List.map_cons, List.map_nil, List.nil_append, List.cons_append, Nat.reduceSub, List.replicate, x_ife, e_oo, e_nt, e_call, e_cons, e_nil, e_sl, e_c, e_ix, e_pk, e_neg, getE_succ, getE_zero, o_some, b_ok, asInt_int, i1, c_whole, w, asBl_bl, Bool.not_true, tst_f, e_cmp, notin_lst, hx, decide_true, Option.map_some, truth_bl, x_skip, outOf_nx]
theorem c_is_below_in {k : Kd} (hk : k.Ok) {x y : Nat} (hx : x < k.n) (hy : y < k.n) : callG G (n + 2) f_is_below_in [k.v, iN x, iN y] g = .ok (.bl (decide (k.mg x y = y)), false) g := by
  rw [call_of t_is_below_in rfl (by decide)]
  simp only [b_is_below_in, List.map_cons, List.map_nil, List.nil_append, List.cons_append, Nat.reduceSub, List.replicate, x_ret, e_cmp, e_call, e_cons, e_nil, e_sl, e_pk, getE_succ, getE_zero, o_some, b_ok, c_merged_of hk hx hy, eq_nat, Option.map_some, outOf_rt]
def lessB (k : Kd) (x y : Nat) : Bool := !decide (y = x) && decide (k.mg y x = x)
def leastL (k : Kd) (l : List Nat) : List Nat := l.filter fun x => !(l.any fun y => lessB k x y)
theorem any_map {α : Type} {p : α → Bool} {xs : List α} : vPrim .any [.lst (xs.map fun x => .bl (p x))] = some (.bl (xs.any p)) := by
  show (boolsOf _).map _ = _
  rw [bools_map]
  simp [List.any_map]
theorem c_least_among {k : Kd} (hk : k.Ok) {l : List Nat} (hl : ∀ x ∈ l, x < k.n) (h8 : l.length ≤ 8) : callG G (n + 3) f_least_among [k.v, .lst (l.map iN)] g = .ok (.lst ((leastL k l).map iN), true) g := by
  rw [call_of t_least_among rfl (by decide)]
  have inner : ∀ {x : Nat}, x < k.n → turns (oneT (callG G (n + 2)) B60 (.nm 3) (.c (.bl true)) (.yld (.an (.cmp .ne (.pk 3) (.pk 2)) (.call f_is_below_in (.cons (.sl 0) (.cons (.sl 3) (.cons (.sl 2) .nil)))))) [some k.v, some (.lst (l.map iN)), some (iN x), none]) (l.map iN) [] g = .ok (l.map fun y => .bl (lessB k x y)) g := fun {x} hx => turnsL (fun y hy => by
    simp only [oneT, nm_set, List.length_cons, List.length_nil, Nat.reduceAdd, Nat.reduceLT, List.set_cons_succ, List.set_cons_zero, o_some, b_ok, e_c, truth_bl, tst_t, e_yld, e_an, e_cmp, e_pk, getE_succ, getE_zero, ne_nat, Option.map_some, asBl_bl, e_call, e_cons, e_nil, e_sl, c_is_below_in (n := n) hk (hl y hy) hx, lessB]
    by_cases h : y = x <;> simp [h]) (by omega)
  have t : turns (oneT (callG G (n + 2)) B60 (.nm 2) (.nt (.pr .any (.cons (.comp [3] (.nm 3) (.it (.pk 1)) (.c (.bl true)) (.yld (.an (.cmp .ne (.pk 3) (.pk 2)) (.call f_is_below_in (.cons (.sl 0) (.cons (.sl 3) (.cons (.sl 2) .nil))))))) .nil))) (.yld (.sl 2)) [some k.v, some (.lst (l.map iN)), none, none]) (l.map iN) [] g = .ok ((leastL k l).map iN) g := turnsP (p := fun x => !(l.any fun y => lessB k x y)) (y := iN) (fun x hx => by
    simp only [oneT, nm_set, List.length_cons, List.length_nil, Nat.reduceAdd, Nat.reduceLT, List.set_cons_succ, List.set_cons_zero, o_some, b_ok, e_nt, e_pr, e_cons, e_nil, e_comp, e_it, e_pk, getE_succ, getE_zero, items_lst, wipeE, inner (hl x hx), n_ok, any_map, asBl_bl, truth_bl]
    cases (l.any fun y => lessB k x y) <;> simp) (by omega)
  simp only [b_least_among, List.map_cons, List.map_nil, List.nil_append, List.cons_append, Nat.reduceSub, List.replicate, x_retN, e_comp, e_it, e_pk, getE_succ, getE_zero, o_some, b_ok, items_lst, wipeE, List.set_cons_succ, List.set_cons_zero, t, n_ok, outOf_rt]
noncomputable def delL (k : Kd) (x y : Nat) : List Nat := leastL k ((comL k).filter fun z => decide (k.mg x z = k.mg x y))
theorem del_lt {k : Kd} (hk : k.Ok) {p : Nat → Bool} : (∀ z ∈ (comL k).filter p, z < k.n) ∧ ((comL k).filter p).length ≤ 8 := ⟨fun z hz => com_lt hk (List.mem_filter.mp hz).1, Nat.le_trans (List.length_filter_le ..) (com_len hk)⟩
theorem c_deltas {k : Kd} (hk : k.Ok) (h : Holds k (comL k)) {x y : Nat} (hx : x ∈ comL k) (hy : y ∈ comL k) : callG G (n + 6) f_deltas [k.v, iN x, iN y] g = .ok (tZ (delL k x y), false) g := by
  rw [call_of t_deltas rfl (by decide)]
  have w1 := c_need_holding (n := n) (g := g) hk h
  have w2 := c_need_coming (n := n + 3) (g := g) hk hx
  have w3 := c_need_coming (n := n + 3) (g := g) hk hy
  have w4 := c_merged_of (n := n + 4) (g := g) hk (com_lt hk hx) (com_lt hk hy)
  have dl := del_lt hk (p := fun z => decide (k.mg x z = k.mg x y))
  have w5 := c_least_among (n := n + 2) (g := g) hk dl.1 dl.2
  have t : turns (oneT (callG G (n + 5)) B60 (.nm 5) (.cmp .eq (.call f_merged_of (.cons (.sl 0) (.cons (.sl 1) (.cons (.sl 5) .nil)))) (.pk 4)) (.yld (.sl 5)) [some k.v, some (iN x), some (iN y), some (.lst ((comL k).map iN)), some (iN (k.mg x y)), none]) ((comL k).map iN) [] g = .ok (((comL k).filter fun z => decide (k.mg x z = k.mg x y)).map iN) g := turnsP (y := iN) (fun z hz => by
    simp only [oneT, nm_set, List.length_cons, List.length_nil, Nat.reduceAdd, Nat.reduceLT, List.set_cons_succ, List.set_cons_zero, o_some, b_ok, e_cmp, e_call, e_cons, e_nil, e_sl, e_pk, getE_succ, getE_zero, c_merged_of (n := n + 4) hk (com_lt hk hx) (com_lt hk hz), eq_nat, Option.map_some, truth_bl]
    by_cases q : k.mg x z = k.mg x y <;> simp [q]) (by have := com_len hk; omega)
  simp only [b_deltas, List.map_cons, List.map_nil, List.nil_append, List.cons_append, Nat.reduceSub, List.replicate, x_seq, x_asg, x_xpr, e_call, e_cons, e_nil, e_sl, getE_succ, getE_zero, o_some, b_ok, w1, w2, w3, w4, nm_set, List.length_cons, List.length_nil, Nat.reduceAdd, Nat.reduceLT, List.set_cons_succ, List.set_cons_zero, thn_nx, x_ret, e_pr, e_comp, e_it, e_pk, items_lst, wipeE, t, n_ok, w5, prim_tuple, lst_tZ, outOf_rt, delL]
noncomputable def conL (k : Kd) (row : List Nat) : List Nat := (comL k).filter fun z => (comL k).all fun x => decide (k.mg x z = gN row x)
theorem c_constant_deltas {k : Kd} (hk : k.Ok) (h : Holds k (comL k)) {u : Nat} (hu : u < k.u.length) : callG G (n + 6) f_constant_deltas [k.v, iN u] g = .ok (tZ (conL k (gL k.u u)), false) g := by
  rw [call_of t_constant_deltas rfl (by decide)]
  have w1 := c_need_holding (n := n) (g := g) hk h
  have hw : isWhole (iN u) 0 ((k.u.length : Int) - 1) = true := by rw [whole_nat]; simp; omega
  have w2 : callG G (n + 5) f_need_update [k.v, iN u] g = .ok (.non, false) g := by
    rw [call_of t_need_update rfl (by decide)]
    simp only [b_need_update, List.map_cons, List.map_nil, List.nil_append, List.cons_append, Nat.reduceSub, List.replicate, x_ife, e_nt, e_call, e_cons, e_nil, e_sl, e_c, e_bin, e_pr, e_ix, e_pk, getE_succ, getE_zero, o_some, b_ok, kv_1, len_tZZ, sub_int, c_whole, hw, asBl_bl, Bool.not_true, truth_bl, tst_f, x_skip, outOf_nx]
  have hr := hk.ur _ (getD_memL hu)
  have cl := com_len hk
  have inner : ∀ {z : Nat}, z ∈ comL k → turns (oneT (callG G (n + 5)) B60 (.nm 5) (.c (.bl true)) (.yld (.cmp .eq (.call f_merged_of (.cons (.sl 0) (.cons (.sl 5) (.cons (.sl 4) .nil)))) (.ix (.pk 3) (.pk 5)))) [some k.v, some (iN u), some (.lst ((comL k).map iN)), some (tZ (gL k.u u)), some (iN z), none]) ((comL k).map iN) [] g = .ok ((comL k).map fun x => .bl (decide (k.mg x z = gN (gL k.u u) x))) g := fun {z} hz => turnsL (fun x hx => by
    have hxl : x < (gL k.u u).length := by rw [hr.1]; exact com_lt hk hx
    simp only [oneT, nm_set, List.length_cons, List.length_nil, Nat.reduceAdd, Nat.reduceLT, List.set_cons_succ, List.set_cons_zero, o_some, b_ok, e_c, truth_bl, tst_t, e_yld, e_cmp, e_call, e_cons, e_nil, e_sl, e_ix, e_pk, getE_succ, getE_zero, c_merged_of (n := n + 4) hk (com_lt hk hx) (com_lt hk hz), ix_tZ hxl, eq_nat, Option.map_some]) (by omega)
  have t : turns (oneT (callG G (n + 5)) B60 (.nm 4) (.pr .all (.cons (.comp [5] (.nm 5) (.it (.pk 2)) (.c (.bl true)) (.yld (.cmp .eq (.call f_merged_of (.cons (.sl 0) (.cons (.sl 5) (.cons (.sl 4) .nil)))) (.ix (.pk 3) (.pk 5))))) .nil)) (.yld (.sl 4)) [some k.v, some (iN u), some (.lst ((comL k).map iN)), some (tZ (gL k.u u)), none, none]) ((comL k).map iN) [] g = .ok ((conL k (gL k.u u)).map iN) g := turnsP (p := fun z => (comL k).all fun x => decide (k.mg x z = gN (gL k.u u) x)) (y := iN) (fun z hz => by
    simp only [oneT, nm_set, List.length_cons, List.length_nil, Nat.reduceAdd, Nat.reduceLT, List.set_cons_succ, List.set_cons_zero, o_some, b_ok, e_pr, e_cons, e_nil, e_comp, e_it, e_pk, getE_succ, getE_zero, items_lst, wipeE, inner hz, n_ok, all_map, truth_bl]
    cases ((comL k).all fun x => decide (k.mg x z = gN (gL k.u u) x)) <;> simp) (by omega)
  simp only [b_constant_deltas, List.map_cons, List.map_nil, List.nil_append, List.cons_append, Nat.reduceSub, List.replicate, x_seq, x_asg, x_xpr, e_call, e_cons, e_nil, e_sl, e_ix, e_c, e_pk, getE_succ, getE_zero, o_some, b_ok, w1, w2, kv_1, ix_tZZ hu, nm_set, List.length_cons, List.length_nil, Nat.reduceAdd, Nat.reduceLT, List.set_cons_succ, List.set_cons_zero, thn_nx, x_ret, e_pr, e_comp, e_it, items_lst, wipeE, t, n_ok, prim_tuple, lst_tZ, outOf_rt]
theorem eq_nilN {l : List Nat} : vCmp .eq (.lst (l.map iN)) (.lst []) = some (decide (l = [])) := by
  have h := ne_nilN (l := l)
  have h2 : (vCmp .eq (.lst (l.map iN)) (.lst [])).map (!·) = some (!decide (l = [])) := h
  cases q : vCmp .eq (.lst (l.map iN)) (.lst []) with
  | none => rw [q] at h2; cases h2
  | some b => rw [q] at h2; simp at h2; rw [h2]
theorem c_law_least {k : Kd} (hk : k.Ok) {l : List Nat} (hl : ∀ x ∈ l, x < k.n) (h8 : l.length ≤ 8) : callG G (n + 1) f_law_least [tZZ k.m, .lst (l.map iN)] g = .ok (tZ (leastL k l), false) g := by
  rw [call_of t_law_least rfl (by decide)]
  have inner : ∀ {x : Nat}, x < k.n → turns (oneT (callG G n) B60 (.nm 3) (.an (.cmp .ne (.pk 3) (.pk 2)) (.cmp .eq (.ix (.ix (.pk 0) (.pk 3)) (.pk 2)) (.pk 2))) (.yld (.sl 3)) [some (tZZ k.m), some (.lst (l.map iN)), some (iN x), none]) (l.map iN) [] g = .ok ((l.filter fun y => lessB k x y).map iN) g := fun {x} hx => turnsP (y := iN) (fun y hy => by
    have hy1 : y < k.m.length := by rw [hk.ml]; exact hl y hy
    have hx1 : x < (gL k.m y).length := by rw [(hk.mr _ (getD_memL hy1)).1]; exact hx
    simp only [oneT, nm_set, List.length_cons, List.length_nil, Nat.reduceAdd, Nat.reduceLT, List.set_cons_succ, List.set_cons_zero, o_some, b_ok, e_an, e_cmp, e_pk, e_ix, getE_succ, getE_zero, ne_nat, Option.map_some, asBl_bl, ix_tZZ hy1, ix_tZ hx1, eq_nat, lessB, Kd.mg]
    by_cases h : y = x <;> by_cases h2 : gN (gL k.m y) x = x <;> simp [h, h2]) (by omega)
  have t : turns (oneT (callG G n) B60 (.nm 2) (.cmp .eq (.comp [3] (.nm 3) (.it (.pk 1)) (.an (.cmp .ne (.pk 3) (.pk 2)) (.cmp .eq (.ix (.ix (.pk 0) (.pk 3)) (.pk 2)) (.pk 2))) (.yld (.sl 3))) (.lst .nil)) (.yld (.sl 2)) [some (tZZ k.m), some (.lst (l.map iN)), none, none]) (l.map iN) [] g = .ok ((leastL k l).map iN) g := turnsP (p := fun x => !(l.any fun y => lessB k x y)) (y := iN) (fun x hx => by
    simp only [oneT, nm_set, List.length_cons, List.length_nil, Nat.reduceAdd, Nat.reduceLT, List.set_cons_succ, List.set_cons_zero, o_some, b_ok, e_cmp, e_comp, e_it, e_pk, getE_succ, getE_zero, items_lst, wipeE, inner (hl x hx), n_ok, e_lst, e_nil, lim, Nat.zero_le, if_true, eq_nilN, Option.map_some, truth_bl]
    have e : decide ((l.filter fun y => lessB k x y) = []) = !(l.any fun y => lessB k x y) := by
      rw [Bool.eq_iff_iff]
      simp [List.filter_eq_nil_iff]
    rw [e]
    cases (l.any fun y => lessB k x y) <;> simp) (by omega)
  simp only [b_law_least, List.map_cons, List.map_nil, List.nil_append, List.cons_append, Nat.reduceSub, List.replicate, x_ret, e_pr, e_cons, e_nil, e_comp, e_it, e_pk, getE_succ, getE_zero, o_some, b_ok, items_lst, wipeE, List.set_cons_succ, List.set_cons_zero, t, n_ok, prim_tuple, lst_tZ, outOf_rt]
end Pg
set_option Elab.async false
set_option linter.all false
set_option autoImplicit false
set_option maxRecDepth 100000
set_option maxHeartbeats 1000000
namespace Pg
open PySem L2 Pm Pp
variable {n : Nat} {g : DrawSt}
def lwB : ST := match b_law with
  | .seq (.for_ _ _ b) _ => b
  | _ => .bad
def lwR : ST := match b_law with
  | .seq _ r => r
  | _ => .bad
theorem lw_eq : b_law = .seq (.for_ (.nm 2) (.rng (.c (.int 0)) (.bin .add (.c (.int 3)) (.pr .min (.cons (.c (.int 5)) (.cons (.pr .len (.cons (.pk 0) .nil)) .nil))))) lwB) lwR := rfl
def lwT : ST := match lwB with
  | .seq _ r => r
  | _ => .bad
theorem lwB_eq : lwB = .seq (.asg (.nm 9) (.call f_law_holding (.cons (.sl 1) .nil))) lwT := rfl
theorem sm_com {k : Kd} (hk : k.Ok) {l : List Nat} (hl : ∀ x ∈ l, x < k.n) (h8 : l.length ≤ 8) : SmV (tZ l) 100 3 := by
  have hn : k.n ≤ 8 := hk.r8
  exact (sm_tZ (m := 8) (fun x hx => by have := hl x hx; omega) h8).mono (by omega) (by omega)
theorem repr_sm {v : Val} {w d : Nat} (h : SmV v w d) (hw : w ≤ 100000) (hd : d ≤ 64) : vPrim .repr [v] = some (.str (shV v)) ∧ PyData.strOk (shV v) = true := repr_ok h.tm (Nat.le_trans h.wt hw) (Nat.le_trans h.dp hd)
theorem del_sm {k : Kd} (hk : k.Ok) {x y : Nat} : SmV (tZ (delL k x y)) 100 3 := by
  have dl := del_lt hk (p := fun z => decide (k.mg x z = k.mg x y))
  exact sm_com hk (fun z hz => dl.1 z (List.mem_filter.mp hz).1) (Nat.le_trans (List.length_filter_le ..) dl.2)
theorem con_sm {k : Kd} (hk : k.Ok) {row : List Nat} : SmV (tZ (conL k row)) 100 3 := by
  have dl := del_lt hk (p := fun z => (comL k).all fun x => decide (k.mg x z = gN row x))
  exact sm_com hk dl.1 dl.2
theorem turn_ok {k : Kd} (hk : k.Ok) (h : Holds k (comL k)) {a b x2 x3 x4 x5 x6 x7 x8 x10 x11 x12 x13 x14 x15 x16 x17 : Option Val} :
    Ok (exs (callG G (n + 10)) B60 lwT [a, b, x2, x3, x4, x5, x6, x7, x8, some k.v, x10, x11, x12, x13, x14, x15, x16, x17] g) fun fl g' => g' = g ∧ ∃ y4 y9 y10 y11 y12 y13 y14 y15 y16 y17, fl = .nx [a, b, x2, x3, y4, x5, x6, x7, x8, y9, y10, y11, y12, y13, y14, y15, y16, y17] := by
  have hT : lwT = .seq (.par [(12, false), (4, false), (13, false)] (.cons (.pr .repr (.cons (.pk 9) .nil)) (.cons (.ix (.pk 9) (.c (.int 2))) (.cons (.call f_law_coming (.cons (.sl 9) .nil)) .nil)))) (.seq (.for_ (.nm 10) (.it (.sl 13)) (.for_ (.nm 14) (.it (.sl 13)) (.seq (.asg (.nm 16) (.call f_law_least (.cons (.sl 4) (.cons (.comp [17] (.nm 17) (.it (.pk 13)) (.cmp .eq (.ix (.ix (.pk 4) (.pk 10)) (.pk 17)) (.ix (.ix (.pk 4) (.pk 10)) (.pk 14))) (.yld (.sl 17))) .nil)))) (.ife (.nt (.call f_law_like (.cons (.call f_deltas (.cons (.sl 9) (.cons (.sl 10) (.cons (.sl 14) .nil)))) (.cons (.sl 16) .nil)))) (.ret (.c (.bl false))) .skip)))) (.seq (.for_ (.nm 11) (.rng (.c (.int 0)) (.pr .len (.cons (.ix (.pk 9) (.c (.int 1))) .nil))) (.seq (.asg (.nm 15) (.ix (.ix (.pk 9) (.c (.int 1))) (.pk 11))) (.seq (.asg (.nm 16) (.pr .tuple (.cons (.comp [17] (.nm 17) (.it (.pk 13)) (.cmp .eq (.comp [10] (.nm 10) (.it (.pk 13)) (.cmp .ne (.ix (.ix (.pk 4) (.pk 10)) (.pk 17)) (.ix (.pk 15) (.pk 10))) (.yld (.sl 10))) (.lst .nil)) (.yld (.sl 17))) .nil))) (.ife (.nt (.call f_law_like (.cons (.lst (.cons (.call f_constant_deltas (.cons (.sl 9) (.cons (.sl 11) .nil))) (.cons (.call f_constant_deltas (.cons (.sl 9) (.cons (.sl 11) .nil))) .nil))) (.cons (.lst (.cons (.sl 16) (.cons (.sl 16) .nil))) .nil)))) (.ret (.c (.bl false))) .skip)))) (.ife (.cmp .ne (.pr .repr (.cons (.pk 9) .nil)) (.pk 12)) (.ret (.c (.bl false))) .skip))) := rfl
  rw [hT]
  have rk := repr_sm (sm_kd hk) (by omega) (by omega)
  have w1 := c_law_coming (n := n + 9) (g := g) hk
  have cl := com_len hk
  have i2 : ∀ {x y : Nat}, x ∈ comL k → y ∈ comL k → x < k.m.length ∧ y < (gL k.m x).length := fun {x y} hx hy => by
    have h1 : x < k.m.length := by rw [hk.ml]; exact com_lt hk hx
    exact ⟨h1, by rw [(hk.mr _ (getD_memL h1)).1]; exact com_lt hk hy⟩
  simp only [x_seq, x_par, e_cons, e_nil, e_pr, e_pk, e_ix, e_c, e_call, e_sl, getE_succ, getE_zero, o_some, b_ok, rk.1, kv_2, w1, bindP, List.length_cons, List.length_nil, Nat.reduceAdd, Nat.reduceLT, if_true, List.set_cons_succ, List.set_cons_zero, thn_nx, x_for, e_it, items_lst, b_as]
  refine Ok_bind.mpr ((forT_all (fun i e g' => g' = g ∧ ∃ y10 y14 y16, e = [a, b, x2, x3, some (tZZ k.m), x5, x6, x7, x8, some k.v, y10, x11, some (.str (shV k.v)), some (.lst ((comL k).map iN)), y14, x15, y16, x17]) ⟨rfl, _, _, _, rfl⟩ ?_).mono ?_)
  · rintro i v e g' hv ⟨rfl, y10, y14, y16, rfl⟩
    rw [List.getElem?_map] at hv
    cases hq : (comL k)[i]? with
    | none => rw [hq] at hv; cases hv
    | some x =>
    rw [hq] at hv
    cases hv
    have hx := List.mem_of_getElem? hq
    simp only [bodyT, nm_set, List.length_cons, List.length_nil, Nat.reduceAdd, Nat.reduceLT, List.set_cons_succ, List.set_cons_zero, o_some, b_ok, x_for, e_it, e_sl, getE_succ, getE_zero, items_lst]
    refine (forT_all (fun i e g'' => g'' = g' ∧ ∃ y14 y16, e = [a, b, x2, x3, some (tZZ k.m), x5, x6, x7, x8, some k.v, some (iN x), x11, some (.str (shV k.v)), some (.lst ((comL k).map iN)), y14, x15, y16, x17]) ⟨rfl, _, _, rfl⟩ ?_).mono ?_
    · rintro j v e g'' hv ⟨rfl, y14, y16, rfl⟩
      rw [List.getElem?_map] at hv
      cases hq2 : (comL k)[j]? with
      | none => rw [hq2] at hv; cases hv
      | some y =>
      rw [hq2] at hv
      cases hv
      have hy := List.mem_of_getElem? hq2
      have dl := del_lt hk (p := fun z => decide (k.mg x z = k.mg x y))
      have t : ∀ {p q : Option Val}, turns (oneT (callG G (n + 10)) B60 (.nm 17) (.cmp .eq (.ix (.ix (.pk 4) (.pk 10)) (.pk 17)) (.ix (.ix (.pk 4) (.pk 10)) (.pk 14))) (.yld (.sl 17)) [a, b, x2, x3, some (tZZ k.m), x5, x6, x7, x8, some k.v, some (iN x), x11, some (.str (shV k.v)), some (.lst ((comL k).map iN)), some (iN y), p, q, none]) ((comL k).map iN) [] g'' = .ok (((comL k).filter fun z => decide (k.mg x z = k.mg x y)).map iN) g'' := fun {p q} => turnsP (y := iN) (fun z hz => by
        obtain ⟨a1, a2⟩ := i2 hx hz
        obtain ⟨_, a3⟩ := i2 hx hy
        simp only [oneT, nm_set, List.length_cons, List.length_nil, Nat.reduceAdd, Nat.reduceLT, List.set_cons_succ, List.set_cons_zero, o_some, b_ok, e_cmp, e_ix, e_pk, getE_succ, getE_zero, ix_tZZ a1, ix_tZ a2, ix_tZ a3, eq_nat, Option.map_some, truth_bl, Kd.mg]
        by_cases q : gN (gL k.m x) z = gN (gL k.m x) y <;> simp [q]) (by omega)
      have w2 := c_law_least (n := n + 9) (g := g'') hk dl.1 dl.2
      have w3 := c_deltas (n := n + 4) (g := g'') hk h hx hy
      have rd := repr_sm (del_sm hk (x := x) (y := y)) (by omega) (by omega)
      have w4 := c_like (n := n + 9) (g := g'') rd rd
      unfold delL at w3 w4
      refine ok_nx (e' := [a, b, x2, x3, some (tZZ k.m), x5, x6, x7, x8, some k.v, some (iN x), x11, some (.str (shV k.v)), some (.lst ((comL k).map iN)), some (iN y), x15, some (tZ (delL k x y)), x17]) ?_ ⟨rfl, _, _, rfl⟩
      simp only [bodyT, nm_set, List.length_cons, List.length_nil, Nat.reduceAdd, Nat.reduceLT, List.set_cons_succ, List.set_cons_zero, o_some, b_ok, x_seq, x_asg, e_call, e_cons, e_nil, e_sl, e_comp, e_it, e_pk, getE_succ, getE_zero, items_lst, wipeE, t, n_ok, w2, thn_nx, x_ife, e_nt, w3, w4, decide_true, asBl_bl, Bool.not_true, truth_bl, tst_f, x_skip, delL]
    · rintro fl g'' ⟨e, rfl, rfl, y14, y16, rfl⟩
      exact ⟨_, rfl, rfl, _, _, _, rfl⟩
  · rintro fl g' ⟨e, rfl, rfl, y10, y14, y16, rfl⟩
    have hu4 := hk.u4
    have r0 : rangeV 0 (k.u.length : Int) = some ((List.range k.u.length).map fun (k : Nat) => Val.int (k : Int)) := rangeV_nat (by show k.u.length ≤ 100000; omega)
    simp only [thn_nx, x_for, e_rng, e_c, e_pr, e_cons, e_nil, e_ix, e_pk, getE_succ, getE_zero, o_some, b_ok, kv_1, len_tZZ, asInt_int, r0, b_as]
    refine Ok_bind.mpr ((forT_all (fun i e g'' => g'' = g' ∧ ∃ y11 y15 y16, e = [a, b, x2, x3, some (tZZ k.m), x5, x6, x7, x8, some k.v, y10, y11, some (.str (shV k.v)), some (.lst ((comL k).map iN)), y14, y15, y16, x17]) ⟨rfl, _, _, _, rfl⟩ ?_).mono ?_)
    · rintro i v e g'' hv ⟨rfl, y11, y15, y16, rfl⟩
      obtain ⟨hu, rfl⟩ := range_get hv
      have hr := hk.ur _ (getD_memL hu)
      have inner : ∀ {p q r : Option Val} {z : Nat}, z ∈ comL k → turns (oneT (callG G (n + 10)) B60 (.nm 10) (.cmp .ne (.ix (.ix (.pk 4) (.pk 10)) (.pk 17)) (.ix (.pk 15) (.pk 10))) (.yld (.sl 10)) [a, b, x2, x3, some (tZZ k.m), x5, x6, x7, x8, some k.v, none, p, some (.str (shV k.v)), some (.lst ((comL k).map iN)), q, some (tZ (gL k.u i)), r, some (iN z)]) ((comL k).map iN) [] g'' = .ok (((comL k).filter fun x => !decide (k.mg x z = gN (gL k.u i) x)).map iN) g'' := fun {p q r z} hz => turnsP (y := iN) (fun x hx => by
        obtain ⟨a1, a2⟩ := i2 hx hz
        have hxl : x < (gL k.u i).length := by rw [hr.1]; exact com_lt hk hx
        simp only [oneT, nm_set, List.length_cons, List.length_nil, Nat.reduceAdd, Nat.reduceLT, List.set_cons_succ, List.set_cons_zero, o_some, b_ok, e_cmp, e_ix, e_pk, getE_succ, getE_zero, ix_tZZ a1, ix_tZ a2, ix_tZ hxl, ne_nat, Option.map_some, truth_bl, Kd.mg]
        by_cases q : gN (gL k.m x) z = gN (gL k.u i) x <;> simp [q]) (by omega)
      have t : ∀ {p q r o : Option Val}, turns (oneT (callG G (n + 10)) B60 (.nm 17) (.cmp .eq (.comp [10] (.nm 10) (.it (.pk 13)) (.cmp .ne (.ix (.ix (.pk 4) (.pk 10)) (.pk 17)) (.ix (.pk 15) (.pk 10))) (.yld (.sl 10))) (.lst .nil)) (.yld (.sl 17)) [a, b, x2, x3, some (tZZ k.m), x5, x6, x7, x8, some k.v, o, p, some (.str (shV k.v)), some (.lst ((comL k).map iN)), q, some (tZ (gL k.u i)), r, none]) ((comL k).map iN) [] g'' = .ok ((conL k (gL k.u i)).map iN) g'' := fun {p q r o} => turnsP (p := fun z => (comL k).all fun x => decide (k.mg x z = gN (gL k.u i) x)) (y := iN) (fun z hz => by
        simp only [oneT, nm_set, List.length_cons, List.length_nil, Nat.reduceAdd, Nat.reduceLT, List.set_cons_succ, List.set_cons_zero, o_some, b_ok, e_cmp, e_comp, e_it, e_pk, getE_succ, getE_zero, items_lst, wipeE, inner hz, n_ok, e_lst, e_nil, lim, Nat.zero_le, if_true, eq_nilN, Option.map_some, truth_bl]
        have e : decide (((comL k).filter fun x => !decide (k.mg x z = gN (gL k.u i) x)) = []) = (comL k).all fun x => decide (k.mg x z = gN (gL k.u i) x) := by
          rw [Bool.eq_iff_iff]
          simp [List.filter_eq_nil_iff]
        rw [e]
        cases ((comL k).all fun x => decide (k.mg x z = gN (gL k.u i) x)) <;> simp) (by omega)
      have w3 := c_constant_deltas (n := n + 4) (g := g'') hk h hu
      have rc := repr_sm (sm_lst (mem2 (con_sm hk (row := gL k.u i)) (con_sm hk (row := gL k.u i)))) (by simp) (by omega)
      have w4 := c_like (n := n + 9) (g := g'') rc rc
      refine ok_nx (e' := [a, b, x2, x3, some (tZZ k.m), x5, x6, x7, x8, some k.v, y10, some (iN i), some (.str (shV k.v)), some (.lst ((comL k).map iN)), y14, some (tZ (gL k.u i)), some (tZ (conL k (gL k.u i))), x17]) ?_ ⟨rfl, _, _, _, rfl⟩
      simp only [bodyT, nm_set, List.length_cons, List.length_nil, Nat.reduceAdd, Nat.reduceLT, List.set_cons_succ, List.set_cons_zero, o_some, b_ok, x_seq, x_asg, e_ix, e_pk, e_c, getE_succ, getE_zero, kv_1, ix_tZZ hu, thn_nx, e_pr, e_cons, e_nil, e_comp, e_it, items_lst, wipeE, t, n_ok, prim_tuple, lst_tZ, x_ife, e_nt, e_call, e_lst, e_sl, w3, lim, Nat.reduceLeDiff, if_true, w4, decide_true, asBl_bl, Bool.not_true, truth_bl, tst_f, x_skip]
    · rintro fl g'' ⟨e, rfl, rfl, y11, y15, y16, rfl⟩
      have en : vCmp .ne (.str (shV k.v)) (.str (shV k.v)) = some false := by
        show (vEq (.str (shV k.v)) (.str (shV k.v))).map (!·) = _
        rw [vEq_str rk.2 rk.2]; simp
      simp only [thn_nx, x_ife, e_cmp, e_pr, e_cons, e_nil, e_pk, getE_succ, getE_zero, o_some, b_ok, rk.1, en, Option.map_some, truth_bl, tst_f, x_skip, Ok_ok]
      exact ⟨trivial, _, _, _, _, _, _, _, _, _, _, rfl⟩
theorem end_ok {a b x2 x3 x4 x5 x6 x7 x8 x9 x10 x11 x12 x13 x14 x15 x16 x17 : Option Val} : ∃ bb, exs (callG G (n + 10)) B60 lwR [a, b, x2, x3, x4, x5, x6, x7, x8, x9, x10, x11, x12, x13, x14, x15, x16, x17] g = .ok (.rt (.bl true) bb) g := ⟨false, by kernel_rfl⟩
theorem lawOk : LawOk L lawD im rest 100 := by
  intro k hk g hg0 hc hgr
  rw [show bodyOf (globOf L) lawD rest = b_law from t_law, lw_eq]
  have e0 : env0 lawD k im = [some (.scr k), some .drw, none, none, none, none, none, none, none, none, none, none, none, none, none, none, none, none] := by kernel_rfl
  rw [e0]
  have key : Ok (exs (callG (globOf L) 100) B60 (.seq (.for_ (.nm 2) (.rng (.c (.int 0)) (.bin .add (.c (.int 3)) (.pr .min (.cons (.c (.int 5)) (.cons (.pr .len (.cons (.pk 0) .nil)) .nil))))) lwB) lwR) [some (.scr k), some .drw, none, none, none, none, none, none, none, none, none, none, none, none, none, none, none, none] g) fun fl g' => ∃ b, fl = .rt (.bl true) b := by
    have mn : vPrim .min [.int 5, .int (k : Int)] = some (iN (min 5 k)) := by
      show some (Val.int (if (k : Int) < 5 then (k : Int) else 5)) = _
      congr 2
      split <;> omega
    have ln : vPrim .len [.scr k] = some (iN k) := rfl
    have ea : (3 : Int) + ((min 5 k : Nat) : Int) = ((3 + min 5 k : Nat) : Int) := by omega
    have r0 : rangeV 0 ((3 + min 5 k : Nat) : Int) = some ((List.range (3 + min 5 k)).map fun (k : Nat) => Val.int (k : Int)) := rangeV_nat (by show 3 + min 5 k ≤ 100000; omega)
    simp only [x_seq, x_for, e_rng, e_c, e_bin, e_pr, e_cons, e_nil, e_pk, getE_zero, o_some, b_ok, ln, mn, add_int, ea, asInt_int, r0]
    refine Ok_bind.mpr ((forT_all (fun i e g' => ∃ x2 x3 x4 x5 x6 x7 x8 x9 x10 x11 x12 x13 x14 x15 x16 x17, e = [some (.scr k), some .drw, x2, x3, x4, x5, x6, x7, x8, x9, x10, x11, x12, x13, x14, x15, x16, x17] ∧ g'.spot ≤ 1000 * i) ⟨_, _, _, _, _, _, _, _, _, _, _, _, _, _, _, _, rfl, by omega⟩ ?_).mono ?_)
    · rintro i x e g1 hx ⟨x2, x3, x4, x5, x6, x7, x8, x9, x10, x11, x12, x13, x14, x15, x16, x17, rfl, hg1⟩
      obtain ⟨hi, rfl⟩ := range_get hx
      have hi' : i < 13 := by omega
      rw [lwB_eq]
      simp only [bodyT, nm_set, List.length_cons, List.length_nil, Nat.reduceAdd, Nat.reduceLT, List.set_cons_succ, List.set_cons_zero, o_some, b_ok, x_seq, x_asg, e_call, e_cons, e_nil, e_sl, getE_succ, getE_zero, b_as]
      refine Ok_bind.mpr ((c_holding (n := 97) (g := g1) (by omega)).mono ?_)
      rintro r g2 ⟨h3, kd, hkd, rfl⟩
      simp only [b_ok, nm_set, List.length_cons, List.length_nil, Nat.reduceAdd, Nat.reduceLT, List.set_cons_succ, List.set_cons_zero, o_some, thn_nx]
      refine (turn_ok (n := 90) (g := g2) hkd.ok hkd.holdsC).mono ?_
      rintro fl g4 ⟨rfl, y4, y9, y10, y11, y12, y13, y14, y15, y16, y17, rfl⟩
      exact ⟨_, rfl, _, _, _, _, _, _, _, _, _, _, _, _, _, _, _, _, rfl, by omega⟩
    · rintro fl g' ⟨e, rfl, x2, x3, x4, x5, x6, x7, x8, x9, x10, x11, x12, x13, x14, x15, x16, x17, rfl, hg'⟩
      obtain ⟨bb, e⟩ := end_ok (n := 90) (g := g') (a := some (.scr k)) (b := some .drw) (x2 := x2) (x3 := x3) (x4 := x4) (x5 := x5) (x6 := x6) (x7 := x7) (x8 := x8) (x9 := x9) (x10 := x10) (x11 := x11) (x12 := x12) (x13 := x13) (x14 := x14) (x15 := x15) (x16 := x16) (x17 := x17)
      exact .of (g := g') (a := .rt (.bl true) bb) e ⟨bb, rfl⟩
  obtain ⟨fl, g', e, b, rfl⟩ := key.ex
  exact ⟨g', b, e⟩
end Pg
set_option Elab.async false
set_option linter.all false
set_option maxRecDepth 100000
set_option maxHeartbeats 0
namespace Pg
open PySem PySem.Spec PyProof.Rows L2 Pm
def nm0 : List Str := ["CopyError", "BadKind", "BadState", "BadNumber", "Splits", "MOST_STATES", "MOST_UPDATES", "MOST_READ", "is_whole", "are_states", "wrong_in_reads", "wrong_in_updates", "wrong_in_merge", "need_kind", "merged_of", "found_of", "next_of", "coming_of", "START", "TWICE", "TURN", "GROUP", "RISE", "RULES", "broken_by", "do_group", "does_rise", "need_holding", "need_coming", "is_below_in"]
def nm1 : List Str := ["least_among", "deltas", "need_update", "constant_deltas", "_law_mixed", "_law_folded", "_law_draw", "_law_begun", "_law_like", "_law_join_table", "_law_both_lots", "_law_reads", "_law_renumbered", "_law_holding", "_law_coming", "_law_least"]
def names : List Str := nm0 ++ nm1
abbrev Rw : PySem.W.OpenRow := PySem.W.OpenLaw.row PySem.Challenge.rw_copymerges_k87_whole_deltas
abbrev hk : PySem.W.Hook := hookP L
def ob (s : PySem.W.SharedT) : AlP := obG L (HandSHeadRun.getT s)
theorem ob_eq (s : PySem.W.SharedT) : ob s = hk.obs s.abs := obG_eq (HandSHeadRun.getT_eq s)
theorem run (w : World) : HandSHeadRun.RunEq Rw (PySem.W.view Rw.prog [52]) hk ob 20000 names w := by
  intro os
  kernel_rfl
end Pg
set_option Elab.async false
set_option linter.all false
namespace Pg
open PySem PySem.Spec PyProof.Rows L2 Pm
theorem room : Room 105 callerA := ⟨rfl, by decide +kernel, by decide +kernel⟩
theorem walk {q : Program} {loose : List Str} {XP : (Str → Option Value) → Heap → Prop} {d : DefRec} (hn : d.name = "law") (hdf : d.params.defaults = []) (ok : LawOk L lawD im rest 100) :
    PySem.W.WalkO q loose XP hk.says (PySem.W.OpenLaw.row PySem.Challenge.rw_copymerges_k87_whole_deltas).toRowW d [] (fun f vs => PySem.call f vs) := by
  refine walkG (l := PySem.Challenge.rw_copymerges_k87_whole_deltas) (n := 63) (k := 105) (x := "_law_script") rfl (by decide +kernel) hdf room fun w mg fa h ⟨K, hK, c⟩ G hm => ?_
  have hd : lawD ∈ L.dis := mem (i := 32) (by decide +kernel)
  obtain ⟨fd, F⟩ := says_def c.d hd
  obtain ⟨g1, g2, _⟩ := fn_law (P := prog) (w := w) (base := h) hK G c chk spc hd okl lb ok F
  rw [hn, g1] at hm
  cases hm
  refine ⟨K, fd, spLaw K, hK, g2, fun a ns hl H al hs => ⟨a, ns, rfl, al, hs, hl, fun _ => rfl⟩, fun base hb Gb => ?_⟩
  exact (fn_law (P := prog) (w := w) (base := base) hb Gb c chk spc hd okl lb ok F).2.2
end Pg
open PySem PySem.W PySem.Calls PyProof.Rows
set_option maxRecDepth 100000 in
set_option maxHeartbeats 0 in
theorem PySem.Challenge.cw_copymerges_k87_whole_deltas_holds : PySem.Challenge.rw_copymerges_k87_whole_deltas.Holds := by
  w_on; o_law
  refine HandSHeadRun.head_any (r := Pg.Rw) (q := PySem.W.view Pg.Rw.prog [52]) (H := Pg.hk) (ob := Pg.ob) (M := 20000) (loose := Pg.names) (kwd := []) Pg.ob_eq (by kernel_rfl) (fun s => by kernel_rfl) Pg.run (by rfl) (by rfl) (by rfl) (by rfl) (by first | assumption | decide +kernel) (by decide +kernel) ⟨rfl, rfl, rfl, rfl, rfl, by decide +kernel⟩ ?hw ?hc
  case hw => w_witness2
  case hc => exact Pg.walk rfl rfl Pg.lawOk
