import PyProof.Rows.All
import Wide.All
import OpenK.AllK
import Wide.FinOn
import HandS.ForMost
import HandS.ForExc
import HandS.Flow
import HandS.TupAny
import HandS.TupLe
import HandS.IsInst
import HandS.TupMul
import HandS.Text
import KE.SortData
import KE.DataCmp
import KE.GoesEnum
import KE.GoesZip
import HandS.Iter
import KE.KRevSl
import HandS.TupSets
import HandS.HotCalls
import HandS.ExcIs
import PySem.Challenge.RW_treefinds_k03_finds
set_option Elab.async false
set_option linter.all false
set_option maxRecDepth 100000
set_option maxHeartbeats 4000000
set_option autoImplicit false
/-! Tf1: a small evaluator for the Python that the program and the laws are written in, over PyData. -/
namespace Tf
open PySem

abbrev D := PyData
abbrev lim : Nat := 1000000

/-- a result: a value, an exception by its number, or nothing is told -/
inductive R (A : Type) where
  | ok (a : A)
  | exc (c : Nat)
  | fail
namespace R
def bind {A B : Type} : R A → (A → R B) → R B
  | .ok a, f => f a
  | .exc c, _ => .exc c
  | .fail, _ => .fail
/-- out of a comprehension no exception is told -/
def still {A : Type} : R A → R A
  | .ok a => .ok a
  | .exc _ => .fail
  | .fail => .fail
@[simp] theorem bind_ok {A B : Type} (a : A) (f : A → R B) : (R.ok a).bind f = f a := rfl
@[simp] theorem bind_exc {A B : Type} (c : Nat) (f : A → R B) : (R.exc c : R A).bind f = .exc c := rfl
@[simp] theorem bind_fail {A B : Type} (f : A → R B) : (R.fail : R A).bind f = .fail := rfl
@[simp] theorem still_ok {A : Type} (a : A) : (R.ok a).still = .ok a := rfl
end R

inductive Bi where
  | len | all | any | sum | tuple | int
inductive Ty where
  | int | str | bool | tuple | list

mutual
inductive Tg where
  | name (i : Nat)
  | tup (ts : Tgs)
inductive Tgs where
  | nil
  | cons (t : Tg) (r : Tgs)
end

mutual
inductive E where
  | var (i : Nat)
  | con (d : D)
  | glo (g : Nat)
  | tup (es : Es)
  | lst (l : L)
  | bin (op : Operator) (a b : E)
  | neg (a : E)
  | cmp (op : CmpOp) (a b : E)
  | cmp2 (o p : CmpOp) (a b c : E)
  | and (a b : E)
  | or (a b : E)
  | not (a : E)
  | ite (c a b : E)
  | idx (a i : E)
  | slc (a : E) (lo hi : Eo)
  | rev (a : E)
  | call (f : Nat) (es : Es)
  | isi (a : E) (t : Ty)
  | isi2 (a : E) (t u : Ty)
  | bi (b : Bi) (a : E)
  | min2 (a b : E)
  | lenO (i : Nat)
  | inO (neg : Bool) (a : E) (i : Nat)
  | cell (i : Nat) (e : E)
  | upper (a : E)
  | join (s a : E)
  | rows (a b : E)
inductive Es where
  | nil
  | cons (e : E) (r : Es)
inductive Eo where
  | no
  | yes (e : E)
inductive L where
  | disp (es : Es)
  | comp (t : Tg) (it : It) (c : Eo) (e : E)
  | cat (a b : E)
  | rep (a k : E)
  | ofs (a : E)
  | srt (a : E)
  | sset (a : E)
inductive It where
  | seq (a : E)
  | rng1 (a : E)
  | rng2 (a b : E)
  | enum (a : E)
  | zip (a b : E)
end

mutual
inductive S where
  | set (i : Nat) (e : E)
  | setL (i : Nat) (l : L)
  | frz (i : Nat)
  | unp (t : Tgs) (e : E)
  | par (i j : Nat) (a b : E)
  | parL (i j : Nat) (l : L) (b : E)
  | parR (i j : Nat) (a : E) (l : L)
  | app (i : Nat) (e : E)
  | ext (i : Nat) (e : E)
  | ret (e : E)
  | iff (c : E) (a b : Ss)
  | for_ (t : Tg) (it : It) (b : Ss)
  | whl (c : E) (b : Ss)
  | exp (e : E)
  | rai (c : Nat)
  | io (i : Nat) (a b : E)
inductive Ss where
  | nil
  | cons (s : S) (r : Ss)
end

/-- a slot: a shared value, an owned list, the script -/
inductive Sl where
  | sh (d : D)
  | ow (ds : List D)
  | scr (ns : List Int)
abbrev Sd := List (Option Sl)

/-! ### operations on data -/
def isTy : Ty → D → Bool
  | .int, .int _ => true
  | .int, .bool _ => true
  | .str, .str _ => true
  | .bool, .bool _ => true
  | .tuple, .tuple _ => true
  | .list, .list _ => true
  | _, _ => false
def truth : D → R Bool
  | .none => .ok false
  | .bool b => .ok b
  | .int i => .ok (i != 0)
  | .list xs => .ok (!xs.isEmpty)
  | .tuple xs => .ok (!xs.isEmpty)
  | _ => .fail
def binD : Operator → D → D → R D
  | .Add, .int i, .int j => .ok (.int (i + j))
  | .Add, .str x, .str y => if x.length + y.length ≤ lim then .ok (.str (x ++ y)) else .fail
  | .Add, .tuple xs, .tuple ys => if xs.length + ys.length ≤ lim then .ok (.tuple (xs ++ ys)) else .fail
  | .Sub, .int i, .int j => .ok (.int (i - j))
  | .Mult, .int i, .int j => if (-(2 ^ 64) < i ∧ i < 2 ^ 64) ∨ (-(2 ^ 64) < j ∧ j < 2 ^ 64) then .ok (.int (i * j)) else .fail
  | .Mult, .str x, .int j => if 0 ≤ j ∧ j ≤ 1000 ∧ x.length ≤ 1000 then .ok (.str (Txt.mul x j)) else .fail
  | .Mult, .tuple xs, .int j => if xs.isEmpty = false ∧ 2 ≤ j ∧ j ≤ 1000 ∧ xs.length ≤ 1000 then .ok (.tuple (List.replicate j.toNat xs).flatten) else .fail
  | .Mod, .int i, .int j => if 0 < j then .ok (.int (i % j)) else .fail
  | _, _, _ => .fail
def negD : D → R D
  | .int i => .ok (.int (-i))
  | _ => .fail
def near (a b : D) : Bool := decide (min a.depth b.depth ≤ 190)
def inD (x : D) (ys : List D) : Bool := ys.any fun y => PyData.eqv y x
/-- the sign c among the signs of a text -/
def cmpD : CmpOp → D → D → R Bool
  | .Eq, a, b => if near a b = true then .ok (PyData.eqv a b) else .fail
  | .NotEq, a, b => if near a b = true then .ok (!PyData.eqv a b) else .fail
  | .Lt, .int i, .int j => .ok (decide (i < j))
  | .LtE, .int i, .int j => .ok (decide (i ≤ j))
  | .Gt, .int i, .int j => .ok (decide (j < i))
  | .GtE, .int i, .int j => .ok (decide (j ≤ i))
  | .Gt, .tuple xs, .tuple ys => if PySem.W.alike (.tuple xs) (.tuple ys) = true ∧ near (.tuple xs) (.tuple ys) = true then .ok (PySem.W.dataLt (.tuple ys) (.tuple xs)) else .fail
  | .Is, .none, .none => .ok true
  | .Is, .bool _, .none => .ok false
  | .Is, .int _, .none => .ok false
  | .Is, .str _, .none => .ok false
  | .Is, .list _, .none => .ok false
  | .Is, .tuple _, .none => .ok false
  | .Is, .bool a, .bool b => .ok (decide (a = b))
  | .IsNot, .none, .none => .ok false
  | .IsNot, .bool _, .none => .ok true
  | .IsNot, .int _, .none => .ok true
  | .IsNot, .str _, .none => .ok true
  | .IsNot, .list _, .none => .ok true
  | .IsNot, .tuple _, .none => .ok true
  | .IsNot, .bool a, .bool b => .ok (!decide (a = b))
  | .In, x, .tuple ys => if x.depth ≤ 190 then .ok (inD x ys) else .fail
  | .In, x, .list ys => if x.depth ≤ 190 then .ok (inD x ys) else .fail
  | .In, .str x, .str y => .ok (!(Builtin.Str.occurrences y x 0 y.length 1).isEmpty)
  | .NotIn, x, .tuple ys => if x.depth ≤ 190 then .ok (!inD x ys) else .fail
  | .NotIn, x, .list ys => if x.depth ≤ 190 then .ok (!inD x ys) else .fail
  | .NotIn, .str x, .str y => .ok (!(!(Builtin.Str.occurrences y x 0 y.length 1).isEmpty))
  | _, _, _ => .fail
def idxD : D → D → R D
  | .tuple xs, .int i => match L2.atI xs i with
    | some d => .ok d
    | none => .fail
  | .list xs, .int i => match L2.atI xs i with
    | some d => .ok d
    | none => .fail
  | .str x, .int i => if x.length ≤ lim then (match L2.atI x.cps.toList i with
    | some c => .ok (.str ⟨#[c]⟩)
    | none => .fail) else .fail
  | _, _ => .fail
/-- the items of xs[lo:hi] -/
def cutD {A : Type} (xs : List A) (lo hi : Option Int) : List A := (xs.drop (HT.sIx xs.length 0 lo)).take (HT.sIx xs.length xs.length hi - HT.sIx xs.length 0 lo)
def slcD (lo hi : Option Int) : D → R D
  | .tuple xs => .ok (.tuple (cutD xs lo hi))
  | .str x => if x.length ≤ lim then .ok (.str ⟨(cutD x.cps.toList lo hi).toArray⟩) else .fail
  | _ => .fail
def revD : D → R D
  | .tuple xs => .ok (.tuple xs.reverse)
  | _ => .fail
def boolsOf : List D → Option (List Bool)
  | [] => some []
  | .bool b :: r => (boolsOf r).map (b :: ·)
  | _ :: _ => none
def intsOf : List D → Option (List Int)
  | [] => some []
  | .int i :: r => (intsOf r).map (i :: ·)
  | _ :: _ => none
def strsOf : List D → Option (List Str)
  | [] => some []
  | .str x :: r => (strsOf r).map (x :: ·)
  | _ :: _ => none
def biD : Bi → D → R D
  | .len, .tuple xs => .ok (.int xs.length)
  | .len, .list xs => .ok (.int xs.length)
  | .len, .str x => if x.length ≤ lim then .ok (.int x.length) else .fail
  | .all, .list xs => match boolsOf xs with
    | some bs => .ok (.bool (bs.all id))
    | none => .fail
  | .any, .list xs => match boolsOf xs with
    | some bs => .ok (.bool (bs.any id))
    | none => .fail
  | .sum, .list xs => match intsOf xs with
    | some ns => .ok (.int ns.sum)
    | none => .fail
  | .tuple, .list xs => .ok (.tuple xs)
  | .tuple, .tuple xs => .ok (.tuple xs)
  | .int, .bool b => .ok (.int (if b then 1 else 0))
  | .int, .int i => .ok (.int i)
  | _, _ => .fail
def min2D : D → D → R D
  | .int i, .int j => .ok (.int (if j < i then j else i))
  | _, _ => .fail
def upperD : D → R D
  | .str x => if x.length ≤ lim then .ok (.str ⟨x.cps.map PyProof.Rows.up1⟩) else .fail
  | _ => .fail
def joinD : D → D → R D
  | _, _ => .fail

/-! ### targets -/
mutual
def slotsT : Tg → List Nat
  | .name i => [i]
  | .tup ts => slotsTs ts
def slotsTs : Tgs → List Nat
  | .nil => []
  | .cons t r => slotsT t ++ slotsTs r
end
mutual
def bindT : Tg → D → Sd → Option Sd
  | .name i, d, s => some (s.set i (some (.sh d)))
  | .tup ts, d, s => match d with
    | .tuple ds => bindTs ts ds s
    | _ => none
def bindTs : Tgs → List D → Sd → Option Sd
  | .nil, ds, s => match ds with
    | [] => some s
    | _ => none
  | .cons t r, ds, s => match ds with
    | d :: ds' => match bindT t d s with
      | some s' => bindTs r ds' s'
      | none => none
    | [] => none
end
def wipeD (s : Sd) : List Nat → Sd
  | [] => s
  | v :: vs => (wipeD s vs).set v none

structure EvC where
  call : Nat → List D → R D
  gv : Nat → Option D
  wf : Nat
  io : D → D → List D → Option (List D)

def compGo (f : D → R (Option D)) : List D → R (List D)
  | [] => .ok []
  | d :: r => (f d).still.bind fun o => (compGo f r).bind fun ys => .ok (match o with | some y => y :: ys | none => ys)

/-- enumerate -/
def enumD : Nat → List D → List D
  | _, [] => []
  | k, d :: r => .tuple [.int k, d] :: enumD (k + 1) r
def zipD : List D → List D → List D
  | x :: xs, y :: ys => .tuple [x, y] :: zipD xs ys
  | _, _ => []
def rangeD (lo : Int) : Nat → List D
  | 0 => []
  | n + 1 => .int lo :: rangeD (lo + 1) n
def itemsOf : D → R (List D)
  | .list xs => .ok xs
  | .tuple xs => .ok xs
  | .str x => .ok (x.cps.toList.map fun c => .str ⟨#[c]⟩)
  | _ => .fail
def seqOf : D → R (List D)
  | .list xs => .ok xs
  | .tuple xs => .ok xs
  | _ => .fail
def tupOf : D → R (List D)
  | .tuple xs => .ok xs
  | _ => .fail
def listOf : D → R (List D)
  | .list xs => .ok xs
  | _ => .fail
def intOf : D → R Int
  | .int i => .ok i
  | _ => .fail
def rng (lo hi : Int) : R (List D) := if -(2 ^ 62) ≤ lo ∧ lo < 2 ^ 62 ∧ -(2 ^ 62) ≤ hi ∧ hi < 2 ^ 62 then .ok (rangeD lo (hi - lo).toNat) else .fail
def repD : List D → D → R (List D)
  | xs, .int k => if 0 ≤ k ∧ k ≤ 1000 ∧ xs.length ≤ 1000 then .ok (List.replicate k.toNat xs).flatten else .fail
  | _, _ => .fail
def catD (xs ys : List D) : R (List D) := if xs.length + ys.length ≤ lim then .ok (xs ++ ys) else .fail
/-- sorted; sorted(set(..)) -/
def isTupB : D → Bool
  | .tuple _ => true
  | _ => false
def noTupB : D → Bool
  | .tuple _ => false
  | .none => false
  | _ => true
def leD (a b : D) : Bool := !PySem.W.dataLt b a
def sortOk (xs : List D) : Bool := (xs.all fun d => xs.all fun e => PySem.W.alike d e) && (xs.all isTupB || xs.all noTupB) && (xs.all fun d => decide (d.depth ≤ 150)) && decide (xs.length ≤ lim)
def srtD (xs : List D) : R (List D) := if sortOk xs = true then .ok (xs.mergeSort leD) else .fail
/-- rows of numbers, as Python orders them -/
def leI : List Int → List Int → Bool
  | [], _ => true
  | _ :: _, [] => false
  | x :: xs, y :: ys => if x = y then leI xs ys else decide (x < y)
def encI (k : List Int) : D := .tuple (k.map .int)
def rowOf : D → Option (List Int)
  | .tuple xs => intsOf xs
  | _ => none
def rowsOfD : List D → Option (List (List Int))
  | [] => some []
  | d :: r => match rowOf d, rowsOfD r with
    | some k, some ks => some (k :: ks)
    | _, _ => none
def ssetD (xs : List D) : R (List D) := match rowsOfD xs with
  | some ks => if ks.eraseDups.length < 63 ∧ xs.length ≤ lim then .ok ((ks.eraseDups.mergeSort leI).map encI) else .fail
  | none => .fail

mutual
def ev (C : EvC) : E → Sd → R D
  | .var i, s => match s[i]? with
    | some (some (.sh d)) => .ok d
    | _ => .fail
  | .con d, _ => .ok d
  | .glo g, _ => match C.gv g with
    | some d => .ok d
    | none => .fail
  | .tup es, s => (evs C es s).bind fun ds => .ok (.tuple ds)
  | .lst l, s => (evL C l s).bind fun ds => .ok (.list ds)
  | .bin op a b, s => (ev C a s).bind fun x => (ev C b s).bind fun y => binD op x y
  | .neg a, s => (ev C a s).bind negD
  | .cmp op a b, s => (ev C a s).bind fun x => (ev C b s).bind fun y => (cmpD op x y).bind fun t => .ok (.bool t)
  | .cmp2 o p a b c, s => (ev C a s).bind fun x => (ev C b s).bind fun y => (cmpD o x y).bind fun t => match t with
    | true => (ev C c s).bind fun z => (cmpD p y z).bind fun t => .ok (.bool t)
    | false => .ok (.bool false)
  | .and a b, s => (ev C a s).bind fun x => (truth x).bind fun t => match t with
    | true => ev C b s
    | false => .ok x
  | .or a b, s => (ev C a s).bind fun x => (truth x).bind fun t => match t with
    | true => .ok x
    | false => ev C b s
  | .not a, s => (ev C a s).bind fun x => (truth x).bind fun t => .ok (.bool (!t))
  | .ite c a b, s => (ev C c s).bind fun x => (truth x).bind fun t => match t with
    | true => ev C a s
    | false => ev C b s
  | .idx a i, s => (ev C a s).bind fun x => (ev C i s).bind fun y => idxD x y
  | .slc a lo hi, s => (ev C a s).bind fun x => (evo C lo s).bind fun l => (evo C hi s).bind fun h => slcD l h x
  | .rev a, s => (ev C a s).bind revD
  | .call f es, s => (evs C es s).bind fun ds => C.call f ds
  | .isi a t, s => (ev C a s).bind fun x => .ok (.bool (isTy t x))
  | .isi2 a t u, s => (ev C a s).bind fun x => .ok (.bool (isTy t x || isTy u x))
  | .bi b a, s => (ev C a s).bind fun x => biD b x
  | .min2 a b, s => (ev C a s).bind fun x => (ev C b s).bind fun y => min2D x y
  | .lenO i, s => match s[i]? with
    | some (some (.ow ds)) => .ok (.int ds.length)
    | _ => .fail
  | .inO neg a i, s => (ev C a s).bind fun x => match s[i]? with
    | some (some (.ow ds)) => if x.depth ≤ 190 then .ok (.bool (if neg then !inD x ds else inD x ds)) else .fail
    | _ => .fail
  | .cell i e, s => match s[i]? with
    | some (some (.scr ns)) => (ev C e s).bind fun x => match x with
      | .int k => if 0 ≤ k then .ok (.int (ns.getD k.toNat 0)) else .fail
      | _ => .fail
    | _ => .fail
  | .upper a, s => (ev C a s).bind upperD
  | .join a b, s => (ev C a s).bind fun x => (ev C b s).bind fun y => joinD x y
  | .rows a b, s => (ev C a s).bind fun x => (ev C b s).bind fun y => match C.io x y [] with
    | some es => .ok (.tuple es)
    | none => .fail
def evs (C : EvC) : Es → Sd → R (List D)
  | .nil, _ => .ok []
  | .cons e r, s => (ev C e s).bind fun x => (evs C r s).bind fun xs => .ok (x :: xs)
/-- a slice's part -/
def evo (C : EvC) : Eo → Sd → R (Option Int)
  | .no, _ => .ok none
  | .yes e, s => (ev C e s).bind fun x => (intOf x).bind fun i => .ok (some i)
/-- a comprehension's test -/
def evc (C : EvC) : Eo → Sd → R Bool
  | .no, _ => .ok true
  | .yes e, s => (ev C e s).bind truth
def evL (C : EvC) : L → Sd → R (List D)
  | .disp es, s => evs C es s
  | .comp t it c e, s => (evI C it s).bind fun items => if items.length ≤ lim then
      compGo (fun d => match bindT t d (wipeD s (slotsT t)) with
        | none => .fail
        | some s' => (evc C c s').bind fun b => match b with
          | true => (ev C e s').bind fun y => .ok (some y)
          | false => .ok none) items
      else .fail
  | .cat a b, s => (ev C a s).bind fun x => (ev C b s).bind fun y => (listOf x).bind fun xs => (listOf y).bind fun ys => catD xs ys
  | .rep a k, s => (ev C a s).bind fun x => (ev C k s).bind fun y => (listOf x).bind fun xs => repD xs y
  | .ofs a, s => (ev C a s).bind seqOf
  | .srt a, s => (ev C a s).bind fun x => (seqOf x).bind srtD
  | .sset a, s => (ev C a s).bind fun x => (listOf x).bind ssetD
def evI (C : EvC) : It → Sd → R (List D)
  | .seq a, s => (ev C a s).bind itemsOf
  | .rng1 a, s => (ev C a s).bind fun x => (intOf x).bind fun i => rng 0 i
  | .rng2 a b, s => (ev C a s).bind fun x => (ev C b s).bind fun y => (intOf x).bind fun i => (intOf y).bind fun j => rng i j
  | .enum a, s => (ev C a s).bind fun x => (seqOf x).bind fun xs => .ok (enumD 0 xs)
  | .zip a b, s => (ev C a s).bind fun x => (ev C b s).bind fun y => (tupOf x).bind fun xs => (tupOf y).bind fun ys => .ok (zipD xs ys)
end

inductive Out where
  | nx (s : Sd)
  | rt (d : D)
  | exc (c : Nat)
  | fail
def R.out {A : Type} : R A → (A → Out) → Out
  | .ok a, f => f a
  | .exc c, _ => .exc c
  | .fail, _ => .fail
@[simp] theorem R.out_ok {A : Type} (a : A) (f : A → Out) : (R.ok a).out f = f a := rfl
def Out.then : Out → (Sd → Out) → Out
  | .nx s, f => f s
  | .rt d, _ => .rt d
  | .exc c, _ => .exc c
  | .fail, _ => .fail
@[simp] theorem Out.then_nx (s : Sd) (f : Sd → Out) : (Out.nx s).then f = f s := rfl
@[simp] theorem Out.then_rt (d : D) (f : Sd → Out) : (Out.rt d).then f = .rt d := rfl

def loopFor (t : Tg) (f : Sd → Out) : List D → Sd → Out
  | [], s => .nx s
  | d :: r, s => match bindT t d s with
    | none => .fail
    | some s' => (f s').then (loopFor t f r)
def loopWhile (c : Sd → R Bool) (f : Sd → Out) : Nat → Sd → Out
  | 0, _ => .fail
  | n + 1, s => (c s).out fun b => match b with
    | true => (f s).then (loopWhile c f n)
    | false => .nx s

mutual
def evS (C : EvC) : S → Sd → Out
  | .set i e, s => (ev C e s).out fun d => .nx (s.set i (some (.sh d)))
  | .setL i l, s => (evL C l s).out fun ds => .nx (s.set i (some (.ow ds)))
  | .frz i, s => match s[i]? with
    | some (some (.ow ds)) => .nx (s.set i (some (.sh (.list ds))))
    | _ => .nx s
  | .unp t e, s => (ev C e s).out fun d => match bindT (.tup t) d s with
    | some s' => .nx s'
    | none => .fail
  | .par i j a b, s => (ev C a s).out fun x => (ev C b s).out fun y => .nx ((s.set i (some (.sh x))).set j (some (.sh y)))
  | .parL i j l b, s => (evL C l s).out fun xs => (ev C b s).out fun y => .nx ((s.set i (some (.ow xs))).set j (some (.sh y)))
  | .parR i j a l, s => (ev C a s).out fun x => (evL C l s).out fun ys => .nx ((s.set i (some (.sh x))).set j (some (.ow ys)))
  | .app i e, s => match s[i]? with
    | some (some (.ow ds)) => (ev C e s).out fun d => if ds.length < lim then .nx (s.set i (some (.ow (ds ++ [d])))) else .fail
    | _ => .fail
  | .ext i e, s => match s[i]? with
    | some (some (.ow ds)) => ((ev C e s).bind listOf).out fun es => if ds.length + es.length ≤ lim then .nx (s.set i (some (.ow (ds ++ es)))) else .fail
    | _ => .fail
  | .ret e, s => (ev C e s).out fun d => .rt d
  | .iff c a b, s => ((ev C c s).bind truth).out fun t => match t with
    | true => evSs C a s
    | false => evSs C b s
  | .for_ t it b, s => (evI C it s).out fun items => loopFor t (fun s' => evSs C b s') items s
  | .whl c b, s => loopWhile (fun s' => (ev C c s').bind truth) (fun s' => evSs C b s') C.wf s
  | .exp e, s => (ev C e s).out fun _ => .nx s
  | .rai c, _ => .exc c
  | .io i a b, s => match s[i]? with
    | some (some (.ow ds)) => (ev C a s).out fun x => (ev C b s).out fun y => match C.io x y ds with
      | some es => .nx (s.set i (some (.ow es)))
      | none => .fail
    | _ => .fail
def evSs (C : EvC) : Ss → Sd → Out
  | .nil, s => .nx s
  | .cons x r, s => (evS C x s).then fun s' => evSs C r s'
end

structure Fn where
  np : Nat
  nn : Nat
  body : Ss
def start0 (f : Fn) (sl : List (Option Sl)) : Sd := sl ++ List.replicate (f.nn - f.np) none
def Out.res : Out → R D
  | .nx _ => .ok .none
  | .rt d => .ok d
  | .exc c => .exc c
  | .fail => .fail
def runF (C : EvC) (f : Fn) (ds : List D) : R D :=
  if ds.length = f.np then (evSs C f.body (start0 f (ds.map fun d => some (.sh d)))).res else .fail
/-- the word of an error -/
def wordS : Nat → Str
  | 0 => "no node"
  | _ => "no text"
/-- behind a try -/
def caught (kd : Nat) : R D → R D
  | .ok d => .ok d
  | .exc c => if c < 2 then .ok (match kd with | 0 => .str (wordS c) | _ => .none) else .fail
  | .fail => .fail
/-- what stands at a place of the table: a def of the text, or a function that is shown by hand (n: the level) -/
inductive Fk where
  | fn (f : Fn)
  | tr (f : Fn) (kd : Nat)
  | prim (m : Nat → List D → R D)
abbrev Io := Nat → D → D → List D → Option (List D)
def run (tbl : List Fk) (gv : Nat → Option D) (io : Io) : Nat → Nat → List D → R D
  | 0, _, _ => .fail
  | n + 1, f, ds => match tbl[f]? with
    | some (.fn x) => runF ⟨run tbl gv io n, gv, 1000, io n⟩ x ds
    | some (.tr x kd) => caught kd (runF ⟨run tbl gv io n, gv, 1000, io n⟩ x ds)
    | some (.prim m) => m n ds
    | none => .fail
/-- a def whose last parameter is a list that it makes longer: its loop, and what the list is then -/
def ioF (C : EvC) (nn : Nat) (m : S) (x y : D) (ds : List D) : Option (List D) :=
  match evS C m ([some (.sh x), some (.sh y), some (.ow ds)] ++ List.replicate (nn - 3) none) with
  | .nx s => match (s[2]? : Option (Option Sl)) with
    | some (some (Sl.ow es)) => some es
    | _ => none
  | _ => none
/-- the law itself: its one parameter is the script -/
def runLaw (tbl : List Fk) (gv : Nat → Option D) (io : Io) (n : Nat) (f : Fn) (ns : List Int) : R D :=
  (evSs ⟨run tbl gv io n, gv, 1000, io n⟩ f.body (start0 f [some (.scr ns)])).res
end Tf
/-! Tf2a: how values of the abstract heap stand for data; the operations. -/
namespace Tf
open PySem L2

/-! ### heaps -/
def Le (H H' : Hp) : Prop := ∀ a o, H a = some o → H' a = some o
theorem Le.refl (H : Hp) : Le H H := fun _ _ h => h
theorem Le.trans {H H1 H2 : Hp} (a : Le H H1) (b : Le H1 H2) : Le H H2 := fun x o h => b x o (a x o h)
theorem Le.non {H H' : Hp} (h : Le H H') {a : Addr} (e : H' a = none) : H a = none := by
  cases q : H a with
  | none => rfl
  | some o => rw [h a o q] at e; cases e
theorem Le.fresh {H : Hp} {a : Addr} {o : HO} (h : H a = none) : Le H (upd H a o) := fun b u e => by
  rw [upd_ne (ne_of_none e h)]; exact e
theorem Le.upd2 {F H : Hp} {a : Addr} {o : HO} (h : Le F H) : Le (upd F a o) (upd H a o) := fun b u e => by
  by_cases hb : b = a
  · subst hb; rw [upd_same] at e ⊢; exact e
  · rw [upd_ne hb] at e ⊢; exact h b u e
theorem Le.updR {F H : Hp} {a : Addr} {o : HO} (h : Le F H) (hn : F a = none) : Le F (upd H a o) := fun b u e => by
  rw [upd_ne (ne_of_none e hn)]; exact h b u e
theorem Le.rd {H H' : Hp} {a : Addr} {u : HO} (e : Le H H') (h : Rd H a u) : Rd H' a u := by
  rcases h with h | ⟨o, h⟩
  · exact Or.inl (e a _ h)
  · exact Or.inr ⟨o, e a _ h⟩
theorem Le.sqL {K : PySem.W.Frag} {H H' : Hp} {a : Addr} {xs : List V} (e : Le H H') (h : SqL K H a xs) : SqL K H' a xs := by
  rcases h with h | h
  · exact Or.inl (e.rd h)
  · exact Or.inr h
theorem Le.sqT {K : PySem.W.Frag} {H H' : Hp} {a : Addr} {xs : List V} (e : Le H H') (h : SqT K H a xs) : SqT K H' a xs := by
  rcases h with h | h
  · exact Or.inl (e.rd h)
  · exact Or.inr h

/-! ### data -/
/-- a plain text -/
def asc (x : Str) : Prop := ∀ c ∈ x.cps.toList, c < 128
theorem asc.ok {x : Str} (h : asc x) : PyData.strOk x = true := by
  unfold PyData.strOk
  rw [← Array.all_toList, List.all_eq_true]
  intro c hc
  have := h c hc
  simp; omega
theorem asc.append {x y : Str} (h : asc x) (k : asc y) : asc (x ++ y) := by
  intro c hc
  have e : (x ++ y).cps = x.cps ++ y.cps := rfl
  rw [e, Array.toList_append, List.mem_append] at hc
  rcases hc with hc | hc
  · exact h c hc
  · exact k c hc
theorem asc.mul {x : Str} (h : asc x) (n : Int) : asc (Txt.mul x n) := by
  have all : ∀ (k : Nat) (acc : Array Nat), (∀ c ∈ acc.toList, c < 128) → ∀ c ∈ ((List.replicate k x.cps).foldl (· ++ ·) acc).toList, c < 128 := by
    intro k
    induction k with
    | zero => intro acc ha; simpa using ha
    | succ k ih =>
      intro acc ha
      rw [List.replicate_succ, List.foldl_cons]
      refine ih _ fun c hc => ?_
      rw [Array.toList_append, List.mem_append] at hc
      rcases hc with hc | hc
      · exact ha c hc
      · exact h c hc
  unfold Txt.mul
  split
  · intro c hc; exact absurd hc (by simp [Str.empty])
  · split
    · exact h
    · exact all _ _ (by simp)
mutual
inductive Rep (K : PySem.W.Frag) (F : Hp) : V → D → Prop
  | non : Rep K F .non .none
  | bl (b : Bool) : Rep K F (.bl b) (.bool b)
  | int (i : Int) : Rep K F (.int i) (.int i)
  | str (x : Str) (h : asc x) : Rep K F (.str x) (.str x)
  | lst {a : Addr} {xs : List V} {ds : List D} : F a = some (.lst xs) → RepA K F xs ds → Rep K F (.ref a) (.list ds)
  | tup {a : Addr} {xs : List V} {ds : List D} : SqT K F a xs → RepA K F xs ds → Rep K F (.ref a) (.tuple ds)
inductive RepA (K : PySem.W.Frag) (F : Hp) : List V → List D → Prop
  | nil : RepA K F [] []
  | cons {v : V} {vs : List V} {d : D} {ds : List D} : Rep K F v d → RepA K F vs ds → RepA K F (v :: vs) (d :: ds)
end
section
variable {K : PySem.W.Frag} {F F' : Hp}
mutual
theorem Rep.mono (h : Le F F') : ∀ (d : D) {v : V}, Rep K F v d → Rep K F' v d
  | .none, _, r => by cases r; exact .non
  | .bool b, _, r => by cases r; exact .bl b
  | .int i, _, r => by cases r; exact .int i
  | .str x, _, r => by cases r; exact .str x ‹_›
  | .list ds, _, r => by
    cases r with
    | lst e q => exact .lst (h _ _ e) (RepA.mono h ds q)
  | .tuple ds, _, r => by
    cases r with
    | tup e q => exact .tup (h.sqT e) (RepA.mono h ds q)
  | .dict _, _, r => by cases r
theorem RepA.mono (h : Le F F') : ∀ (ds : List D) {vs : List V}, RepA K F vs ds → RepA K F' vs ds
  | [], _, r => by cases r; exact .nil
  | d :: ds, _, r => by
    cases r with
    | cons a b => exact .cons (Rep.mono h d a) (RepA.mono h ds b)
end
mutual
theorem Rep.dp : ∀ (d : D) {v : V}, Rep K F v d → Dp K F v d
  | .none, _, r => by cases r; exact .non
  | .bool b, _, r => by cases r; exact .bl b
  | .int i, _, r => by cases r; exact .int i
  | .str x, _, r => by cases r; exact .str x
  | .list ds, _, r => by
    cases r with
    | lst e q => exact .lst (SqL.of e) (RepA.dp ds q)
  | .tuple ds, _, r => by
    cases r with
    | tup e q => exact .tup e (RepA.dp ds q)
  | .dict _, _, r => by cases r
theorem RepA.dp : ∀ (ds : List D) {vs : List V}, RepA K F vs ds → DpAll K F vs ds
  | [], _, r => by cases r; exact .nil
  | d :: ds, _, r => by
    cases r with
    | cons a b => exact .cons (Rep.dp d a) (RepA.dp ds b)
end
mutual
theorem Rep.lay : ∀ (d : D) {v : V}, Rep K F v d → d.canLay0 = true
  | .none, _, r => by simp [PyData.canLay0]
  | .bool b, _, r => by simp [PyData.canLay0]
  | .int i, _, r => by simp [PyData.canLay0]
  | .str x, _, r => by cases r with | str _ h => simp only [PyData.canLay0]; exact h.ok
  | .list ds, _, r => by
    cases r with
    | lst e q => simp only [PyData.canLay0]; exact RepA.lay ds q
  | .tuple ds, _, r => by
    cases r with
    | tup e q => simp only [PyData.canLay0]; exact RepA.lay ds q
  | .dict _, _, r => by cases r
theorem RepA.lay : ∀ (ds : List D) {vs : List V}, RepA K F vs ds → PyData.canLayAll0 ds = true
  | [], _, r => by simp [PyData.canLayAll0]
  | d :: ds, _, r => by
    cases r with
    | cons a b => simp [PyData.canLayAll0, Rep.lay d a, RepA.lay ds b]
end
theorem RepA.length {vs : List V} : ∀ {ds : List D}, RepA K F vs ds → vs.length = ds.length := by
  induction vs with
  | nil => intro ds r; cases r; rfl
  | cons v vs ih =>
    intro ds r
    cases r with
    | cons a b => simp [ih b]
theorem RepA.get {vs : List V} : ∀ {ds : List D} {i : Nat} {d : D}, RepA K F vs ds → ds[i]? = some d → ∃ v, vs[i]? = some v ∧ Rep K F v d := by
  induction vs with
  | nil => intro ds i d r e; cases r; simp at e
  | cons v vs ih =>
    intro ds i d r e
    cases r with
    | cons a b =>
      cases i with
      | zero => simp at e; subst e; exact ⟨v, rfl, a⟩
      | succ i => simpa using ih b (by simpa using e)
theorem RepA.append {vs ws : List V} {ds es : List D} (a : RepA K F vs ds) (b : RepA K F ws es) : RepA K F (vs ++ ws) (ds ++ es) := by
  induction vs generalizing ds with
  | nil => cases a; exact b
  | cons v vs ih =>
    cases a with
    | cons x y => exact .cons x (ih y)
theorem RepA.take {vs : List V} {ds : List D} (a : RepA K F vs ds) (n : Nat) : RepA K F (vs.take n) (ds.take n) := by
  induction n generalizing vs ds with
  | zero => exact .nil
  | succ n ih =>
    cases a with
    | nil => exact .nil
    | cons x y => exact .cons x (ih y)
theorem RepA.drop {vs : List V} {ds : List D} (a : RepA K F vs ds) (n : Nat) : RepA K F (vs.drop n) (ds.drop n) := by
  induction n generalizing vs ds with
  | zero => exact a
  | succ n ih =>
    cases a with
    | nil => exact .nil
    | cons x y => exact ih y
theorem RepA.reverse {vs : List V} {ds : List D} (a : RepA K F vs ds) : RepA K F vs.reverse ds.reverse := by
  induction vs generalizing ds with
  | nil => cases a; exact .nil
  | cons v vs ih =>
    cases a with
    | cons x y => rw [List.reverse_cons, List.reverse_cons]; exact (ih y).append (.cons x .nil)
theorem RepA.rep {vs : List V} {ds : List D} (a : RepA K F vs ds) : ∀ k : Nat, RepA K F (List.replicate k vs).flatten (List.replicate k ds).flatten
  | 0 => .nil
  | k + 1 => by rw [List.replicate_succ, List.replicate_succ, List.flatten_cons, List.flatten_cons]; exact a.append (RepA.rep a k)
theorem RepA.cut {vs : List V} {ds : List D} (a : RepA K F vs ds) (lo hi : Option Int) : RepA K F (cutV vs lo hi) (cutD ds lo hi) := by
  unfold cutV cutD
  rw [a.length]
  exact (a.drop _).take _
end

/-! ### from (F, H) to (F', H'): what was known stays, what is newly known is new -/
def Stp (F H F' H' : Hp) : Prop := Le F F' ∧ Le F' H' ∧ Le H H' ∧ ∀ a o, F' a = some o → F a = some o ∨ H a = none
theorem Stp.refl {F H : Hp} (h : Le F H) : Stp F H F H := ⟨.refl _, h, .refl _, fun _ _ e => .inl e⟩
theorem Stp.trans {F H F1 H1 F2 H2 : Hp} (a : Stp F H F1 H1) (b : Stp F1 H1 F2 H2) : Stp F H F2 H2 :=
  ⟨a.1.trans b.1, b.2.1, a.2.2.1.trans b.2.2.1, fun x o e => by
    rcases b.2.2.2 x o e with h | h
    · exact a.2.2.2 x o h
    · exact .inr (a.2.2.1.non h)⟩
/-- a new object, known at once -/
theorem Stp.new {F H : Hp} (h : Le F H) {p : Addr} {o : HO} (hp : H p = none) : Stp F H (upd F p o) (upd H p o) :=
  ⟨.fresh (h.non hp), h.upd2, .fresh hp, fun a u e => by
    by_cases hb : a = p
    · subst hb; exact .inr hp
    · rw [upd_ne hb] at e; exact .inl e⟩
/-- a new object, not known yet -/
theorem Stp.loose {F H : Hp} (h : Le F H) {p : Addr} {o : HO} (hp : H p = none) : Stp F H F (upd H p o) :=
  ⟨.refl _, h.updR (h.non hp), .fresh hp, fun _ _ e => .inl e⟩
/-- a new list becomes known -/
theorem Stp.know {F H F' H' : Hp} (s : Stp F H F' H') {p : Addr} {o : HO} (hp : H p = none) (ho : H' p = some o) (hf : F' p = none) : Stp F H (upd F' p o) H' :=
  ⟨s.1.trans (.fresh hf), fun a u e => by
    by_cases hb : a = p
    · subst hb; rw [upd_same] at e; cases e; exact ho
    · rw [upd_ne hb] at e; exact s.2.1 a u e, s.2.2.1, fun a u e => by
    by_cases hb : a = p
    · subst hb; exact .inr hp
    · rw [upd_ne hb] at e; exact s.2.2.2 a u e⟩

/-- an answer of a rule by values -/
def ans (K : PySem.W.Frag) (F H : Hp) (r : R D) (Q : VK) : Prop := match r with
  | .ok d => ∀ v F' H', Stp F H F' H' → Rep K F' v d → Q v H'
  | _ => False
/-- a new list -/
def ansL (K : PySem.W.Frag) (F H : Hp) (r : R (List D)) (Q : VK) : Prop := match r with
  | .ok ds => ∀ p vs F' H', Stp F H F' H' → H p = none → F' p = none → H' p = some (.lst vs) → RepA K F' vs ds → Q (.ref p) H'
  | _ => False
def ansB (H : Hp) (r : R Bool) (Q : VK) : Prop := match r with
  | .ok b => Q (.bl b) H
  | _ => False

theorem ans.flat {K : PySem.W.Frag} {F H : Hp} {d : D} {v : V} {Q : VK} (h : ans K F H (.ok d) Q) (l : Le F H) (r : Rep K F v d) : Q v H := h v F H (.refl l) r
theorem ans.tup {K : PySem.W.Frag} {F H : Hp} {ds : List D} {vs : List V} {Q : VK} (h : ans K F H (.ok (.tuple ds)) Q) (l : Le F H) (r : RepA K F vs ds) {p : Addr} (hp : H p = none) : Q (.ref p) (upd H p (.tup vs)) :=
  h _ _ _ (.new l hp) (.tup (SqT.of upd_same) (RepA.mono (.fresh (l.non hp)) _ r))

theorem lim_le {n : Nat} (h : n ≤ lim) : n ≤ sizeLine := Nat.le_trans h (by decide)

/-! ### the operations -/
section
variable {X : Cx}
def rBin (K : PySem.W.Frag) (op : Operator) : R2 := fun x y H Q => ∃ F d e, Le F H ∧ Rep K F x d ∧ Rep K F y e ∧ ans K F H (binD op d e) Q
theorem op_bin (op : Operator) : OpR X (binaryOp op) (rBin X.K op) := by
  intro pins s σ H x y v u Q I rx ry h
  obtain ⟨F, d, e, l, hd, he, q⟩ := h
  unfold binD at q
  split at q
  · cases hd; cases he
    exact op_add pins s σ H _ _ v u Q I rx ry ⟨_, _, rfl, rfl, q.flat l (.int _)⟩
  · split at q
    · rename_i hz
      cases hd; cases he
      exact op_add_str pins s σ H _ _ v u Q I rx ry ⟨_, _, rfl, rfl, lim_le hz, q.flat l (.str _ (asc.append ‹_› ‹_›))⟩
    · exact q.elim
  · split at q
    · rename_i hz
      cases hd with
      | tup e1 a1 =>
        cases he with
        | tup e2 a2 =>
          have k1 := a1.length
          have k2 := a2.length
          refine op_catA pins s σ H _ _ v u Q I rx ry ⟨_, _, _, _, rfl, rfl, l.sqT e1, l.sqT e2, lim_le (by omega), fun z => ?_, fun z1 z2 => ?_, fun z1 z2 p hp => ?_⟩
          · subst z; cases a1; exact q.flat l (.tup e2 a2)
          · subst z2; cases a2; exact q.flat l (.tup e1 (by rw [List.append_nil]; exact a1))
          · exact q.tup l (a1.append a2) hp
    · exact q.elim
  · cases hd; cases he
    exact op_sub pins s σ H _ _ v u Q I rx ry ⟨_, _, rfl, rfl, q.flat l (.int _)⟩
  · split at q
    · rename_i hz
      cases hd; cases he
      exact op_mul pins s σ H _ _ v u Q I rx ry ⟨_, _, rfl, rfl, hz, q.flat l (.int _)⟩
    · exact q.elim
  · split at q
    · rename_i z j hz
      cases hd; cases he
      obtain ⟨t, rfl⟩ := rx
      obtain ⟨t', rfl⟩ := ry
      refine SB.mul ⟨by simp; omega, fun h1 _ => ?_, fun h1 _ => ?_⟩ fun t'' k => ⟨.str _, H, I.tok _, ⟨_, rfl⟩, q.flat l (.str _ (asc.mul ‹_› _))⟩
      · intro h2
        have e1 : (1000 : Int) ≤ (2 ^ 63 - 1) / j := by
          rw [Int.le_ediv_iff_mul_le (by omega)]; omega
        have : (z.length : Int) ≤ 1000 := by omega
        omega
      · have e2 : z.length * j.toNat ≤ 1000 * 1000 := Nat.mul_le_mul hz.2.2 (by omega)
        unfold Builtin.Str.tooLong
        simp [sizeLine_eq]; omega
    · exact q.elim
  · split at q
    · rename_i hz
      cases he
      cases hd with
      | tup e1 a1 =>
        have k1 := a1.length
        refine op_repT pins s σ H _ _ v u Q I rx ry ⟨_, _, _, rfl, rfl, l.sqT e1, ?_, hz.2.1, hz.2.2.1, by omega, fun p hp => q.tup l (a1.rep _) hp⟩
        intro z; subst z; cases a1; exact absurd hz.1 (by simp)
    · exact q.elim
  · split at q
    · rename_i hz
      cases hd; cases he
      exact op_mod pins s σ H _ _ v u Q I rx ry ⟨_, _, rfl, rfl, hz, q.flat l (.int _)⟩
    · exact q.elim
  · exact q.elim
end
end Tf
/-! Tf2b: comparisons, subscripts, built-ins. -/
namespace Tf
open PySem L2
section
variable {X : Cx} {pins : List (Addr × Obj)} {σ : L2.St} {H : Hp} {s : Shared}
theorem Rep.reads {K : PySem.W.Frag} {F : Hp} {d : D} {x : V} {v : Value} (I : Inv X pins σ H s) (e : X.K = K) (l : Le F H) (r : Rep K F x d) (rx : RelV x v) : ∃ as, Reads s.heap v d as := by
  subst e
  exact Dp.reads I d x v (Rep.dp d (Rep.mono l d r)) rx
theorem depthAll_lay (ds : List D) : True := trivial

def rCmp (K : PySem.W.Frag) (op : CmpOp) : R2 := fun x y H Q => ∃ F d e, Le F H ∧ Rep K F x d ∧ Rep K F y e ∧ ansB H (cmpD op d e) Q
theorem op_cmp (hu : X.A.units + 200 < cLine) (op : CmpOp) : OpR X (compareOp op) (rCmp X.K op) := by
  intro pins s σ H x y v u Q I rx ry h
  obtain ⟨F, d, e, l, hd, he, q⟩ := h
  unfold cmpD at q
  have isn : ∀ b, decide (x = V.non) = b → op = .Is → y = .non → Q (.bl b) H → wpAny (model X.prog X.w) X.A (compareOp op v u) (EP X pins σ Q) X.xe s := fun b e1 e2 e3 q' => by
    clear q
    subst e2
    refine op_isN pins s σ H _ _ v u Q I rx ry ⟨e3, ?_⟩
    rw [e1]; exact q'
  have isn' : ∀ b, (!decide (x = V.non)) = b → op = .IsNot → y = .non → Q (.bl b) H → wpAny (model X.prog X.w) X.A (compareOp op v u) (EP X pins σ Q) X.xe s := fun b e1 e2 e3 q' => by
    clear q
    subst e2
    refine op_notN pins s σ H _ _ v u Q I rx ry ⟨e3, ?_⟩
    rw [e1]; exact q'
  split at q
  · split at q
    · rename_i hz
      obtain ⟨as, r1⟩ := hd.reads I rfl l rx
      obtain ⟨bs, r2⟩ := he.reads I rfl l ry
      have hz' := of_decide_eq_true hz
      exact SeqAt.compareEq_reads r1 r2 (Rep.lay _ hd) (Rep.lay _ he) (by omega) ⟨.bl _, H, I, rfl, q⟩
    · exact q.elim
  · split at q
    · rename_i hz
      obtain ⟨as, r1⟩ := hd.reads I rfl l rx
      obtain ⟨bs, r2⟩ := he.reads I rfl l ry
      have hz' := of_decide_eq_true hz
      exact SeqAt.compareNe_reads r1 r2 (Rep.lay _ hd) (Rep.lay _ he) (by omega) ⟨.bl _, H, I, rfl, q⟩
    · exact q.elim
  · cases hd; cases he; exact op_lt pins s σ H _ _ v u Q I rx ry ⟨_, _, rfl, rfl, q⟩
  · cases hd; cases he; exact op_le pins s σ H _ _ v u Q I rx ry ⟨_, _, rfl, rfl, q⟩
  · cases hd; cases he; exact op_gt pins s σ H _ _ v u Q I rx ry ⟨_, _, rfl, rfl, q⟩
  · cases hd; cases he; exact op_ge pins s σ H _ _ v u Q I rx ry ⟨_, _, rfl, rfl, q⟩
  · split at q
    · rename_i hz
      obtain ⟨as, r1⟩ := hd.reads I rfl l rx
      obtain ⟨bs, r2⟩ := he.reads I rfl l ry
      have hz' := of_decide_eq_true hz.2
      exact PySem.W.gt_data r1 r2 hz.1 (by intro z; cases z) (by omega) ⟨.bl _, H, I, rfl, q⟩
    · exact q.elim
  · cases hd; cases he; exact isn true (by simp) rfl rfl q
  · cases hd; cases he; exact isn false (by simp) rfl rfl q
  · cases hd; cases he; exact isn false (by simp) rfl rfl q
  · cases hd; cases he; exact isn false (by simp) rfl rfl q
  · cases hd; cases he; exact isn false (by simp) rfl rfl q
  · cases hd; cases he; exact isn false (by simp) rfl rfl q
  · cases hd; cases he; exact op_is_bl pins s σ H _ _ v u Q I rx ry ⟨_, _, rfl, rfl, q⟩
  · cases hd; cases he; exact isn' false (by simp) rfl rfl q
  · cases hd; cases he; exact isn' true (by simp) rfl rfl q
  · cases hd; cases he; exact isn' true (by simp) rfl rfl q
  · cases hd; cases he; exact isn' true (by simp) rfl rfl q
  · cases hd; cases he; exact isn' true (by simp) rfl rfl q
  · cases hd; cases he; exact isn' true (by simp) rfl rfl q
  · cases hd; cases he; exact op_isnot_bl pins s σ H _ _ v u Q I rx ry ⟨_, _, rfl, rfl, q⟩
  · split at q
    · rename_i hz
      obtain ⟨as, r1⟩ := hd.reads I rfl l rx
      obtain ⟨bs, r2⟩ := he.reads I rfl l ry
      exact SeqAt.in_tuple_reads r2 r1 (Rep.lay _ he) (Rep.lay _ hd) (by omega) ⟨.bl _, H, I, rfl, q⟩
    · exact q.elim
  · split at q
    · rename_i hz
      obtain ⟨as, r1⟩ := hd.reads I rfl l rx
      obtain ⟨bs, r2⟩ := he.reads I rfl l ry
      exact SeqAt.in_list_reads r2 r1 (Rep.lay _ he) (Rep.lay _ hd) (by omega) ⟨.bl _, H, I, rfl, q⟩
    · exact q.elim
  · cases hd; cases he; exact op_in_str pins s σ H _ _ v u Q I rx ry ⟨_, _, rfl, rfl, q⟩
  · split at q
    · rename_i hz
      obtain ⟨as, r1⟩ := hd.reads I rfl l rx
      obtain ⟨bs, r2⟩ := he.reads I rfl l ry
      exact SeqAt.notIn_tuple_reads r2 r1 (Rep.lay _ he) (Rep.lay _ hd) (by omega) ⟨.bl _, H, I, rfl, q⟩
    · exact q.elim
  · split at q
    · rename_i hz
      obtain ⟨as, r1⟩ := hd.reads I rfl l rx
      obtain ⟨bs, r2⟩ := he.reads I rfl l ry
      exact SeqAt.notIn_list_reads r2 r1 (Rep.lay _ he) (Rep.lay _ hd) (by omega) ⟨.bl _, H, I, rfl, q⟩
    · exact q.elim
  · cases hd; cases he; exact op_notIn_str pins s σ H _ _ v u Q I rx ry ⟨_, _, rfl, rfl, q⟩
  · exact q.elim

/-- truth -/
theorem tru_of {K : PySem.W.Frag} {F : Hp} {d : D} {x : V} {b : Bool} (l : Le F H) (r : Rep K F x d) (e : truth d = .ok b) : TruV K x H b := by
  cases r with
  | non => cases e; rfl
  | bl b => cases e; rfl
  | int i => cases e; rfl
  | str x h => cases e
  | lst h a =>
    cases e
    refine .inl ⟨_, SqL.of (l _ _ h), ?_⟩
    cases a <;> rfl
  | tup h a =>
    cases e
    refine .inr (.inl ⟨_, l.sqT h, ?_⟩)
    cases a <;> rfl

/-- x[i] -/
theorem RepA.atI {K : PySem.W.Frag} {F : Hp} {vs : List V} {ds : List D} {i : Int} {d : D} (r : RepA K F vs ds) (e : L2.atI ds i = some d) : ∃ v, L2.atI vs i = some v ∧ Rep K F v d := by
  unfold L2.atI at e ⊢
  rw [r.length]
  cases h : ixN ds.length i with
  | none => rw [h] at e; cases e
  | some j =>
    rw [h] at e
    exact r.get e
theorem asc.at {x : Str} (h : asc x) {i : Int} {c : Nat} (e : L2.atI x.cps.toList i = some c) : asc ⟨#[c]⟩ := by
  obtain ⟨j, _, e2, _⟩ := atI_get e
  intro y hy
  have : y = c := by simpa using hy
  subst this
  exact h _ (List.mem_of_getElem? e2)
def rIdx (K : PySem.W.Frag) : R2 := fun x y H Q => ∃ F d e, Le F H ∧ Rep K F x d ∧ Rep K F y e ∧ ans K F H (idxD d e) Q
theorem ix_any : IxR X (rIdx X.K) := by
  intro value slice pins s σ H x y v u Q I rx ry h hs
  obtain ⟨F, d, e, l, hd, he, q⟩ := h
  unfold idxD at q
  split at q
  · split at q
    · rename_i hz
      cases he
      cases hd with
      | tup h1 a1 =>
        obtain ⟨w, e1, r1⟩ := a1.atI hz
        refine ix_tup value slice pins s σ H _ _ v u Q I rx ry ⟨_, _, _, _, rfl, rfl, l.sqT h1, e1, q.flat l r1⟩ hs
    · exact q.elim
  · split at q
    · rename_i hz
      cases he
      cases hd with
      | lst h1 a1 =>
        obtain ⟨w, e1, r1⟩ := a1.atI hz
        refine ix_list value slice pins s σ H _ _ v u Q I rx ry ⟨_, _, _, _, rfl, rfl, SqL.of (l _ _ h1), e1, q.flat l r1⟩ hs
    · exact q.elim
  · split at q
    · split at q
      · rename_i hl _ _ hz
        cases he
        cases hd with
        | str _ ha => refine ix_str value slice pins s σ H _ _ v u Q I rx ry ⟨_, _, _, rfl, rfl, lim_le hl, hz, q.flat l (.str _ (ha.at hz))⟩ hs
      · exact q.elim
    · exact q.elim
  · exact q.elim

/-- x[lo:hi] -/
def rSlc (K : PySem.W.Frag) : V → Option Int → Option Int → Hp → VK → Prop := fun x lo hi H Q => ∃ F d, Le F H ∧ Rep K F x d ∧ ans K F H (slcD lo hi d) Q
theorem cut_whole {A : Type} (xs : List A) (lo hi : Option Int) (h : HT.sIx xs.length 0 lo = 0 ∧ HT.sIx xs.length xs.length hi = xs.length) : cutD xs lo hi = xs := by
  unfold cutD
  rw [h.1, h.2]
  simp
theorem asc.cut {x : Str} (h : asc x) (lo hi : Option Int) : asc ⟨(cutD x.cps.toList lo hi).toArray⟩ := by
  intro c hc
  have hc' : c ∈ cutD x.cps.toList lo hi := by simpa using hc
  unfold cutD at hc'
  exact h c (List.mem_of_mem_drop (List.mem_of_mem_take hc'))
theorem sl_any : SlR X (rSlc X.K) := by
  intro pins s σ H x v vl vu lo hi sl Q I rx hs pl pu h
  obtain ⟨F, d, l, hd, q⟩ := h
  unfold slcD at q
  split at q
  · cases hd with
    | tup h1 a1 =>
      refine sl_tupA pins s σ H _ v vl vu lo hi sl Q I rx hs pl pu ⟨_, _, rfl, l.sqT h1, fun hw => ?_, fun hw p hp => q.tup l (a1.cut lo hi) hp⟩
      rw [a1.length] at hw
      rw [cut_whole _ _ _ hw] at q
      exact q.flat l (.tup h1 a1)
  · split at q
    · rename_i hl
      cases hd with
      | str _ ha =>
        refine sl_str pins s σ H _ v vl vu lo hi sl Q I rx hs pl pu ⟨_, rfl, lim_le hl, ?_⟩
        exact q.flat l (.str _ (ha.cut lo hi))
    · exact q.elim
  · exact q.elim

/-! ### built-ins of one argument -/
theorem bools_of {K : PySem.W.Frag} {F : Hp} {vs : List V} : ∀ {ds : List D} {bs : List Bool}, RepA K F vs ds → boolsOf ds = some bs → vs = bs.map V.bl := by
  induction vs with
  | nil => intro ds bs r e; cases r; cases e; rfl
  | cons v vs ih =>
    intro ds bs r e
    cases r with
    | cons a b =>
      cases a <;> simp only [boolsOf, Option.map_eq_some_iff, reduceCtorEq] at e
      obtain ⟨bs', e1, rfl⟩ := e
      rw [ih b e1]; rfl
theorem ints_of {K : PySem.W.Frag} {F : Hp} {vs : List V} : ∀ {ds : List D} {bs : List Int}, RepA K F vs ds → intsOf ds = some bs → vs = bs.map V.int := by
  induction vs with
  | nil => intro ds bs r e; cases r; cases e; rfl
  | cons v vs ih =>
    intro ds bs r e
    cases r with
    | cons a b =>
      cases a <;> simp only [intsOf, Option.map_eq_some_iff, reduceCtorEq] at e
      obtain ⟨bs', e1, rfl⟩ := e
      rw [ih b e1]; rfl
def biName : Bi → Str
  | .len => "len"
  | .all => "all"
  | .any => "any"
  | .sum => "sum"
  | .tuple => "tuple"
  | .int => "int"
def biVal : Bi → Value
  | .len => .builtin "len"
  | .all => .builtin "all"
  | .any => .builtin "any"
  | .sum => .builtin "sum"
  | .tuple => .type "tuple"
  | .int => .type "int"
def rBi (K : PySem.W.Frag) (b : Bi) : List V → Hp → VK → Prop := fun xs H Q => ∃ x F d, xs = [x] ∧ Le F H ∧ Rep K F x d ∧ ans K F H (biD b d) Q
theorem call_bi (hc : X.calm = true) (b : Bi) : CallR X (biVal b) (rBi X.K b) := by
  intro pins s σ H xs us Q I r h
  obtain ⟨x, F, d, rfl, l, hd, q⟩ := h
  unfold biD at q
  split at q
  · cases hd with
    | tup h1 a1 =>
      refine call_len pins s σ H _ us Q I r ⟨_, _, rfl, .inr ⟨_, l.sqT h1, rfl⟩, ?_⟩
      rw [a1.length]; exact q.flat l (.int _)
  · cases hd with
    | lst h1 a1 =>
      refine call_len pins s σ H _ us Q I r ⟨_, _, rfl, .inl ⟨_, SqL.of (l _ _ h1), rfl⟩, ?_⟩
      rw [a1.length]; exact q.flat l (.int _)
  · split at q
    · rename_i hz
      cases hd with
      | str _ ha => exact call_len pins s σ H _ us Q I r ⟨_, _, rfl, ⟨lim_le hz, rfl⟩, q.flat l (.int _)⟩
    · exact q.elim
  · split at q
    · rename_i hz
      cases hd with
      | lst h1 a1 =>
        have e := bools_of a1 hz
        subst e
        exact cr_all hc pins s σ H _ us Q I r ⟨_, _, rfl, SqL.of (l _ _ h1), q.flat l (.bl _)⟩
    · exact q.elim
  · split at q
    · rename_i hz
      cases hd with
      | lst h1 a1 =>
        have e := bools_of a1 hz
        subst e
        exact cr_any hc pins s σ H _ us Q I r ⟨_, _, rfl, SqL.of (l _ _ h1), q.flat l (.bl _)⟩
    · exact q.elim
  · split at q
    · rename_i hz
      cases hd with
      | lst h1 a1 =>
        have e := ints_of a1 hz
        subst e
        exact cr_sum hc pins s σ H _ us Q I r ⟨_, _, rfl, SqL.of (l _ _ h1), q.flat l (.int _)⟩
    · exact q.elim
  · cases hd with
    | lst h1 a1 => exact call_tuple_of pins s σ H _ us Q I r ⟨_, _, rfl, .inl ⟨SqL.of (l _ _ h1), fun p hp => q.tup l a1 hp⟩⟩
  · cases hd with
    | tup h1 a1 => exact call_tuple_of pins s σ H _ us Q I r ⟨_, _, rfl, .inr ⟨l.sqT h1, q.flat l (.tup h1 a1)⟩⟩
  · cases hd with
    | bl b => exact call_int1 pins s σ H _ us Q I r (.inr ⟨_, rfl, q.flat l (.int _)⟩)
  · cases hd with
    | int b => exact call_int1 pins s σ H _ us Q I r (.inl ⟨_, rfl, q.flat l (.int _)⟩)
  · exact q.elim
def rMin2 (K : PySem.W.Frag) : List V → Hp → VK → Prop := fun xs H Q => ∃ x y F d e, xs = [x, y] ∧ Le F H ∧ Rep K F x d ∧ Rep K F y e ∧ ans K F H (min2D d e) Q
theorem call_mn (hc : X.calm = true) : CallR X (.builtin "min") (rMin2 X.K) := by
  intro pins s σ H xs us Q I r h
  obtain ⟨x, y, F, d, e, rfl, l, hd, he, q⟩ := h
  unfold min2D at q
  split at q
  · cases hd; cases he
    exact call_min2 hc pins s σ H _ us Q I r ⟨_, _, rfl, q.flat l (.int _)⟩
  · exact q.elim
/-- list(x) -/
def rOfs (K : PySem.W.Frag) : List V → Hp → VK → Prop := fun xs H Q => ∃ x F d, xs = [x] ∧ Le F H ∧ Rep K F x d ∧ ansL K F H (seqOf d) Q
theorem call_ofs : CallR X (.type "list") (rOfs X.K) := by
  intro pins s σ H xs us Q I r h
  obtain ⟨x, F, d, rfl, l, hd, q⟩ := h
  unfold seqOf at q
  split at q
  · cases hd with
    | lst h1 a1 => exact call_list_of pins s σ H _ us Q I r ⟨_, _, rfl, .inl (SqL.of (l _ _ h1)), fun p hp => q p _ F _ (.loose l hp) hp (l.non hp) upd_same a1⟩
  · cases hd with
    | tup h1 a1 => exact call_list_of pins s σ H _ us Q I r ⟨_, _, rfl, .inr (l.sqT h1), fun p hp => q p _ F _ (.loose l hp) hp (l.non hp) upd_same a1⟩
  · exact q.elim
/-- xs + ys, lists -/
def rCatL (K : PySem.W.Frag) : R2 := fun x y H Q => ∃ F d e, Le F H ∧ Rep K F x d ∧ Rep K F y e ∧ ansL K F H ((listOf d).bind fun xs => (listOf e).bind fun ys => catD xs ys) Q
theorem op_catL : OpR X (binaryOp .Add) (rCatL X.K) := by
  intro pins s σ H x y v u Q I rx ry h
  obtain ⟨F, d, e, l, hd, he, q⟩ := h
  cases hd with
  | lst h1 a1 =>
    cases he with
    | lst h2 a2 =>
      simp only [listOf, R.bind_ok, catD] at q
      split at q
      · rename_i hz
        have k1 := a1.length
        have k2 := a2.length
        exact op_cat pins s σ H _ _ v u Q I rx ry ⟨_, _, _, _, rfl, rfl, l _ _ h1, l _ _ h2, lim_le (by omega), fun p hp => q p _ F _ (.loose l hp) hp (l.non hp) upd_same (a1.append a2)⟩
      · exact q.elim
    | _ => exact q.elim
  | _ => exact q.elim
/-- xs * k, a list -/
def rRepL (K : PySem.W.Frag) : R2 := fun x y H Q => ∃ F d e, Le F H ∧ Rep K F x d ∧ Rep K F y e ∧ ansL K F H ((listOf d).bind fun xs => repD xs e) Q
theorem op_repL : OpR X (binaryOp .Mult) (rRepL X.K) := by
  intro pins s σ H x y v u Q I rx ry h
  obtain ⟨F, d, e, l, hd, he, q⟩ := h
  cases hd with
  | lst h1 a1 =>
    cases he with
    | int k =>
      simp only [listOf, R.bind_ok, repD] at q
      split at q
      · rename_i hz
        have k1 := a1.length
        refine op_rep pins s σ H _ _ v u Q I rx ry ⟨_, _, _, rfl, rfl, l _ _ h1, by omega, by omega, ?_, fun p hp => q p _ F _ (.loose l hp) hp (l.non hp) upd_same (a1.rep _)⟩
        rw [k1, sizeLine_eq]
        have e2 : (_ : List D).length * k.toNat ≤ 1000 * 1000 := Nat.mul_le_mul hz.2.2 (by omega)
        omega
      · exact q.elim
    | _ => exact q.elim
  | _ => exact q.elim

/-! ### isinstance -/
def tyName : Ty → String
  | .int => "int"
  | .str => "str"
  | .bool => "bool"
  | .tuple => "tuple"
  | .list => "list"
/-- the built-in class of a datum -/
def clsOf : D → String
  | .none => "NoneType"
  | .bool _ => "bool"
  | .int _ => "int"
  | .str _ => "str"
  | .list _ => "list"
  | .tuple _ => "tuple"
  | .dict _ => "dict"
theorem tyX_of {K : PySem.W.Frag} {F : Hp} {d : D} {x : V} (l : Le F H) (r : Rep K F x d) : TyX K H x (.type (clsOf d)) := by
  cases r with
  | non => exact .base .non
  | bl b => exact .base (.bl b)
  | int i => exact .base (.int i)
  | str x h => exact .base (.str x)
  | lst h a => exact .base (.lst (l _ _ h))
  | tup h a =>
    rcases l.sqT h with (h | ⟨o, h⟩) | ⟨o, its, n, h, c, _⟩
    · exact .base (.tup h)
    · exact .fTuple h
    · exact .kTuple h c
theorem kit_isTy (t : Ty) {K : PySem.W.Frag} {F : Hp} {d : D} {x : V} (r : Rep K F x d) : PySem.W.kitOne K (.type (clsOf d)) (.type (tyName t)) = some (isTy t d) := by
  cases r <;> cases t <;> exact kit_ty (by simp only [clsOf, tyName, isTy]; decide +kernel)
def rIsT (K : PySem.W.Frag) (t : Ty) : List V → Hp → VK → Prop := fun xs H Q => ∃ x F d, xs = [x, .ty (tyName t)] ∧ Le F H ∧ Rep K F x d ∧ Q (.bl (isTy t d)) H
theorem call_isT (t : Ty) : CallR X (.builtin "isinstance") (rIsT X.K t) := by
  intro pins s σ H xs us Q I r h
  obtain ⟨x, F, d, rfl, l, hd, q⟩ := h
  exact call_isi pins s σ H _ us Q I r ⟨_, _, _, _, _, rfl, .ty _, tyX_of l hd, kit_isTy t hd, q⟩
def rIsT2 (K : PySem.W.Frag) (t u : Ty) : List V → Hp → VK → Prop := fun xs H Q => ∃ x p F d, xs = [x, .ref p] ∧ H p = some (.tup [.ty (tyName t), .ty (tyName u)]) ∧ Le F H ∧ Rep K F x d ∧ Q (.bl (isTy t d || isTy u d)) H
theorem call_isT2 (t t' : Ty) : CallR X (.builtin "isinstance") (rIsT2 X.K t t') := by
  intro pins s σ H xs us Q I r h
  obtain ⟨x, p, F, d, rfl, hp, l, hd, q⟩ := h
  refine call_isiT pins s σ H _ us Q I r ⟨_, _, _, _, _, _, rfl, hp, .cons (.ty _) (.cons (.ty _) .nil), tyX_of l hd, ?_, q⟩
  refine kitAny_cons (kit_isTy t hd) (fun e => kitAny_cons (kit_isTy t' hd) (fun e2 => by rw [e, e2]; exact kitAny_nil) (fun e2 => by rw [e2]; simp)) (fun e => by rw [e]; simp)
end
end Tf
/-! Tf2c: enumerate and zip of tuples; a for over whatever the data is. -/
namespace Tf
open PySem
theorem meets_enum1 {v : Value} {o : Obj} {H : Heap → Prop} (B : Begins v o H) :
    Meets (Builtin.«enumerate.__new__» ⟨[.type "enumerate", v], []⟩) (fun _ R s => H s.heap ∧
      R (.ok (.ret (.ref (s.heap.push o).objs.size))) { s with heap := (s.heap.push o).push { cls := .type "enumerate", data := .fields #[.none, .bool false, .ref s.heap.objs.size, rawInt 0, .none, .none] } }) :=
  .of_wp fun prog w A R s h => by
    obtain ⟨hp, g, d, tk, os⟩ := s; obtain ⟨h1, h⟩ := h
    have hsub := sub_enumerate
    have q1 : ∀ {A' : Around} {E : Value → Shared → Prop} {Q : Value → Shared → Prop}, Q (.ref hp.objs.size) ⟨hp.push o, g, d, tk, os⟩ → wpAny (model prog w) A' (pyIter v) Q E ⟨hp, g, d, tk, os⟩ :=
      fun q => B.iter prog w _ _ ⟨hp, g, d, tk, os⟩ _ h1 q
    wp_walk using q1
    refine wpAny_stack_any fun st => wpAny_pure ?_
    split
    · rename_i c _ _ _ _ _
      cases (c == Value.type "enumerate")
      · wp_walk using q1
        exact ⟨_, rfl, h⟩
      · wp_walk using q1
        exact ⟨_, rfl, h⟩
    · wp_walk using q1
      exact ⟨_, rfl, h⟩
section
variable {prog : Program} {w : World} {A : Around} {E : Value → Shared → Prop} {s : Shared}
theorem enum1_begins {v : Value} {o : Obj} {H : Heap → Prop} {Q : Value → Shared → Prop} (B : Begins v o H) (h1 : H s.heap)
    (h : ∀ h', IsEnum h' (s.heap.objs.size + 1) s.heap.objs.size 0 .none → h'.get? s.heap.objs.size = some o → h'.objs.size = s.heap.objs.size + 2 →
      (∀ b o, s.heap.get? b = some o → h'.get? b = some o) → Q (.ref (s.heap.objs.size + 1)) { s with heap := h' }) :
    wpAny (model prog w) A (call (.type "enumerate") [v]) Q E s := by
  refine callType_new F.called_enumerate (by decide) (F.typeCall_enumerate_1 _) (F.newCall_enumerate_1 _) (fun obj => F.args_object_init_2 obj _) F.entry_enumerate_new
    (meets_enum1 B) ⟨h1, ?_⟩
  have hz : (s.heap.push o).objs.size = s.heap.objs.size + 1 := Heap.size_push ..
  show _ ∧ _
  rw [hz]
  have he : IsEnum ((s.heap.push o).push { cls := .type "enumerate", data := .fields #[.none, .bool false, .ref s.heap.objs.size, rawInt 0, .none, .none] }) (s.heap.objs.size + 1) s.heap.objs.size 0 .none := by
    have := Heap.get?_push_size (s.heap.push o) (o := { cls := .type "enumerate", data := .fields #[.none, .bool false, .ref s.heap.objs.size, rawInt 0, .none, .none] }) rfl
    rw [hz] at this; exact this
  refine ⟨⟨_, he, rfl⟩, h _ he (Heap.get?_push_of_some _ (Heap.get?_push_size _ B.free)) (by rw [Heap.size_push, hz]) fun b o x => Heap.get?_push_of_some _ (Heap.get?_push_of_some _ x)⟩
end
end Tf

namespace Tf
open PySem L2
/-! ### enumerate(tuple) -/
def IteT (K : PySem.W.Frag) (a : Addr) : L2.It :=
  ⟨fun i H => ∃ (xs : List V) (x : V), SqT K H a xs ∧ xs[i]? = some x, fun i H v H' => ∃ T x, v = .ref T ∧ H T = none ∧ H' = upd H T (.tup [.int (i : Nat), x]) ∧ ∀ xs, SqT K H a xs → xs[i]? = some x, fun i H => ∃ xs : List V, SqT K H a xs ∧ xs.length = i⟩
theorem turn_enumT {P : Program} {w : World} {K : PySem.W.Frag} {elts : List Expr} {kk : Nat} {tpos : Pos} (a e it : Addr) (hae : e ≠ a) (hai : a ≠ it) :
    Turn P w K (.Tuple elts kk tpos) (IteT K a) [e, it] e (fun i h => (∃ old, IsEnum h e it ((i : Nat) : Int) old) ∧ h.IsTupleIter it a i ∧ e ≠ it) where
  mem := by simp
  obj := fun i h st b hb => by
    obtain ⟨⟨old, he⟩, ⟨o, ho, hc, hd⟩, _⟩ := st
    have e' : b = e ∨ b = it := by simpa using hb
    rcases e' with z | z
    · rw [z]; exact ⟨_, he, fun v q => nomatch q⟩
    · rw [z]; exact ⟨o, ho, fun v q => by rw [hd] at q; cases q⟩
  keep := fun i h h' st k => let ⟨⟨old, he⟩, hi, hne⟩ := st; ⟨⟨old, k e (by simp) _ he⟩, hi.at fun o q => k it (by simp) o q, hne⟩
  item := by
    intro X hP hw hK hc i pins s σ H E I hf st hg
    subst hP hw hK
    obtain ⟨⟨old, he⟩, hit, hne⟩ := st
    obtain ⟨xs, x, hq, hx⟩ := hg
    obtain ⟨its, rv, p, hz⟩ := I.tuple hq
    obtain ⟨u, hu, ru⟩ := rv.get hx
    have hel : e < s.heap.objs.size := Heap.lt_size he
    have hil : it < s.heap.objs.size := by obtain ⟨_, q, _⟩ := hit; exact Heap.lt_size q
    have hef : e ∉ [it, a] := by simp [hne, hae]
    refine wpAny_pyNext_enum_itemD (Draws.tuple (A := X.A.in1) (I.ok.hd hc) it a hai its.toArray) he ⟨hit, (show s.heap.IsTuple a its.toArray from p)⟩ (by simpa using (List.getElem?_eq_some_iff.mp hu).1) hne hef fun u' h' tk hPu ho hit' hT hsz hk => ?_
    have eu : u' = u := by
      have z : its.toArray[i]? = some u := by simpa using hu
      rw [z] at hPu
      exact (Option.some.inj hPu).symm
    subst eu
    refine ⟨_, rfl, wpAny_letOwnedTupleGo_enum (s := { s with heap := h', toks := tk + 1 }) ho fun h'' he' sb => ?_⟩
    have hT2 : h''.get? s.heap.objs.size = some { cls := .type "tuple", data := .seq #[.int i tk, u'] } := (sb.2 _ (Nat.ne_of_gt hel)).trans hT
    have new : ObjOk X.prog X.w (upd H s.heap.objs.size (.tup [.int (i : Nat), x])) h'' s.heap.objs.size (.tup [.int (i : Nat), x]) :=
      ⟨by show 2 ≤ sizeLine; decide, [.int i tk, u'], .cons ⟨_, rfl⟩ (.cons ru .nil), ⟨_, hT2, rfl, _, rfl⟩⟩
    have I1 : Inv X pins σ (upd H s.heap.objs.size (.tup [.int (i : Nat), x])) { s with heap := h'', toks := tk + 1 } :=
      I.turnedNew (ch := [e, it]) (fun b ob hb q => (sb.2 b (fun z => hb (by simp [z]))).trans (hk b ob (fun z => hb (by simp [z])) (fun z => hb (by simp [z])) q)) hf (Nat.le_refl _) new
    refine ⟨.ref s.heap.objs.size, _, I1, rfl, ⟨_, x, rfl, I.hok.fresh (Nat.le_refl _), rfl, fun ys hy => by rw [I.tuple_inj hy hq]; exact hx⟩, ⟨⟨u', ?_⟩, hit'.1.at fun o q => (sb.2 it (Ne.symm hne)).trans q, hne⟩, fun b hb => ?_⟩
    · have e1 : ((i + 1 : Nat) : Int) = (i : Int) + 1 := by omega
      rw [e1]; exact he'
    · have hb' : b < s.heap.objs.size := by
        have e' : b = e ∨ b = it := by simpa using hb
        rcases e' with z | z
        · rw [z]; exact hel
        · rw [z]; exact hil
      rw [upd_ne (Nat.ne_of_lt hb')]
      exact (hf b hb).1
  done := by
    intro X hP hw hK hc i pins s σ H E I hf st hg
    subst hP hw hK
    obtain ⟨⟨old, he⟩, hit, hne⟩ := st
    obtain ⟨xs, hq, hx⟩ := hg
    obtain ⟨its, rv, p, hz⟩ := I.tuple hq
    obtain ⟨f0, f1, f2, f3, f4, f5⟩ := hf it (by simp)
    have hl := rv.length
    have hn : its.toArray.size = i := by simp; omega
    refine wpAny_pyNext_enum_endD (Draws.tuple (A := X.A.in1) (I.ok.hd hc) it a hai its.toArray) he ?_ fun h' eb => ⟨rfl, I.turned (t' := s.toks) (fun b o hb q => eb b o hb q) f0 f1 f3 f4 f5⟩
    rw [hn]
    exact ⟨hit, p⟩
  self := fun A i s Q E st h => let ⟨⟨_, he⟩, _⟩ := st; wpAny_pyIter_enum he h

/-! ### zip(tuple, tuple) -/
def ItzT (K : PySem.W.Frag) (a b : Addr) : L2.It :=
  ⟨fun i H => ∃ (xs ys : List V) (x y : V), SqT K H a xs ∧ SqT K H b ys ∧ xs[i]? = some x ∧ ys[i]? = some y,
    fun i H v H' => ∃ T x y, v = .ref T ∧ H T = none ∧ H' = upd H T (.tup [x, y]) ∧ (∀ xs, SqT K H a xs → xs[i]? = some x) ∧ ∀ ys, SqT K H b ys → ys[i]? = some y,
    fun i H => ∃ xs ys : List V, SqT K H a xs ∧ SqT K H b ys ∧ i ≤ xs.length ∧ i ≤ ys.length ∧ (i = xs.length ∨ i = ys.length)⟩
theorem turn_zipT {P : Program} {w : World} {K : PySem.W.Frag} {elts : List Expr} {kk : Nat} {tpos : Pos} {a b z TI TO i1 i2 : Addr} (D : ZipSep2 z TI TO i1 i2 [i1, a] [i2, b]) (h1a : a ≠ i1) (h2b : b ≠ i2) :
    Turn P w K (.Tuple elts kk tpos) (ItzT K a b) [z, TI, TO, i1, i2] z (fun i h => IsZip h z TI TO .none ∧ IsTupOf2 h TI (.ref i1) (.ref i2) ∧ (∃ x y, IsTupOf2 h TO x y) ∧ h.IsTupleIter i1 a i ∧ h.IsTupleIter i2 b i) where
  mem := by simp
  obj := fun i h st c hc => by
    obtain ⟨hz, hTI, ⟨x, y, hTO⟩, ⟨o1, e1, _, d1⟩, ⟨o2, e2, _, d2⟩⟩ := st
    have e' : c = z ∨ c = TI ∨ c = TO ∨ c = i1 ∨ c = i2 := by simpa using hc
    rcases e' with q | q | q | q | q
    · rw [q]; exact ⟨_, hz, fun v q => nomatch q⟩
    · rw [q]; exact ⟨_, hTI, fun v q => nomatch q⟩
    · rw [q]; exact ⟨_, hTO, fun v q => nomatch q⟩
    · rw [q]; exact ⟨o1, e1, fun v q => by rw [d1] at q; cases q⟩
    · rw [q]; exact ⟨o2, e2, fun v q => by rw [d2] at q; cases q⟩
  keep := fun i h h' st k => by
    obtain ⟨hz, hTI, ⟨x, y, hTO⟩, h1, h2⟩ := st
    exact ⟨k z (by simp) _ hz, k TI (by simp) _ hTI, ⟨x, y, k TO (by simp) _ hTO⟩, h1.at fun o q => k i1 (by simp) o q, h2.at fun o q => k i2 (by simp) o q⟩
  item := by
    intro X hP hw hK hc i pins s σ H E I hf st hg
    subst hP hw hK
    obtain ⟨hz, hTI, ⟨x0, y0, hTO⟩, h1, h2⟩ := st
    obtain ⟨xs, ys, x, y, hqx, hqy, hx, hy⟩ := hg
    obtain ⟨its, rv, p, _⟩ := I.tuple hqx
    obtain ⟨its2, rv2, p2, _⟩ := I.tuple hqy
    obtain ⟨u, hu, ru⟩ := rv.get hx
    obtain ⟨u2, hu2, ru2⟩ := rv2.get hy
    have hzl : z < s.heap.objs.size := Heap.lt_size hz
    refine wpAny_pyNext_zipD2_item D (Draws.tuple (A := X.A.in1) (I.ok.hd hc) i1 a h1a its.toArray) (Draws.tuple (A := X.A.in1) (I.ok.hd hc) i2 b h2b its2.toArray) hz hTI hTO ⟨h1, p⟩ ⟨h2, p2⟩
      (by simpa using (List.getElem?_eq_some_iff.mp hu).1) (by simpa using (List.getElem?_eq_some_iff.mp hu2).1) fun v1 v2 h' tk hp1 hp2 z' TO' h1' h2' hT hsz hk => ?_
    have eu : v1 = u := by
      have q : its.toArray[i]? = some u := by simpa using hu
      rw [q] at hp1
      exact (Option.some.inj hp1).symm
    have eu2 : v2 = u2 := by
      have q : its2.toArray[i]? = some u2 := by simpa using hu2
      rw [q] at hp2
      exact (Option.some.inj hp2).symm
    subst eu eu2
    refine ⟨_, rfl, wpAny_letOwnedTupleGo_zip (s := { s with heap := h', toks := tk }) z' fun h'' z'' sb => ?_⟩
    have hT2 : h''.get? s.heap.objs.size = some { cls := .type "tuple", data := .seq #[v1, v2] } := (sb.2 _ (Nat.ne_of_gt hzl)).trans hT
    have new : ObjOk X.prog X.w (upd H s.heap.objs.size (.tup [x, y])) h'' s.heap.objs.size (.tup [x, y]) :=
      ⟨by show 2 ≤ sizeLine; decide, [v1, v2], .cons ru (.cons ru2 .nil), ⟨_, hT2, rfl, _, rfl⟩⟩
    have I1 : Inv X pins σ (upd H s.heap.objs.size (.tup [x, y])) { s with heap := h'', toks := tk } :=
      I.turnedNew (t' := tk) (ch := [z, TI, TO, i1, i2]) (fun c o hb q => (sb.2 c (fun q' => hb (by simp [q']))).trans (hk c o (fun q' => hb (by simp [q'])) (fun q' => hb (by simp [q'])) (fun q' => hb (by simp [q'])) (fun q' => hb (by simp [q'])) q)) hf (Nat.le_refl _) new
    refine ⟨.ref s.heap.objs.size, _, I1, rfl, ⟨_, x, y, rfl, I.hok.fresh (Nat.le_refl _), rfl, fun l hl => by rw [I.tuple_inj hl hqx]; exact hx, fun l hl => by rw [I.tuple_inj hl hqy]; exact hy⟩, ⟨z'', ?_, ⟨v1, v2, ?_⟩, ?_, ?_⟩, fun c hcm => ?_⟩
    · exact (sb.2 _ D.TIz).trans (hk _ _ D.TIz D.TITO D.TIi1 D.TIi2 hTI)
    · exact (sb.2 _ D.TOz).trans TO'
    · exact h1'.1.at fun o q => (sb.2 _ (Ne.symm D.zi1)).trans q
    · exact h2'.1.at fun o q => (sb.2 _ (Ne.symm D.zi2)).trans q
    · have hlt : c < s.heap.objs.size := by
        have e' : c = z ∨ c = TI ∨ c = TO ∨ c = i1 ∨ c = i2 := by simpa using hcm
        rcases e' with q | q | q | q | q
        · rw [q]; exact hzl
        · rw [q]; exact Heap.lt_size hTI
        · rw [q]; exact Heap.lt_size hTO
        · rw [q]; obtain ⟨_, e1, _⟩ := h1; exact Heap.lt_size e1
        · rw [q]; obtain ⟨_, e2, _⟩ := h2; exact Heap.lt_size e2
      rw [upd_ne (Nat.ne_of_lt hlt)]
      exact (hf c hcm).1
  done := by
    intro X hP hw hK hc i pins s σ H E I hf st hg
    subst hP hw hK
    obtain ⟨hz, hTI, ⟨x0, y0, hTO⟩, h1, h2⟩ := st
    obtain ⟨xs, ys, hqx, hqy, l1, l2, hend⟩ := hg
    obtain ⟨its, rv, p, _⟩ := I.tuple hqx
    obtain ⟨its2, rv2, p2, _⟩ := I.tuple hqy
    have k1 := rv.length
    have k2 := rv2.length
    exact wpAny_pyNext_zipD2_end D (Draws.tuple (A := X.A.in1) (I.ok.hd hc) i1 a h1a its.toArray) (Draws.tuple (A := X.A.in1) (I.ok.hd hc) i2 b h2b its2.toArray) hz hTI hTO ⟨h1, p⟩ ⟨h2, p2⟩ (by simp; omega) (by simp; omega) (by simp; omega) fun h' tk hk =>
      ⟨rfl, I.turnedL (t' := tk) (ch := [z, TI, TO, i1, i2]) (fun c o hb q =>
        hk c o (fun q' => hb (by simp [q'])) (fun q' => hb (by simp [q'])) (fun q' => hb (by simp [q'])) (fun q' => hb (by simp [q'])) q) hf⟩
  self := fun A i s Q E st h => wpAny_pyIter_zip st.1 h

/-! ### what is walked, by data -/
section
variable {X : Cx} {tg : Expr}
/-- a list, a tuple, a text -/
def iSeq (K : PySem.W.Frag) (te : TE) : TI := fun σ H R => te σ H fun x H1 => (∃ a xs, x = .ref a ∧ SqL K H1 a xs ∧ R (Itl K a) H1) ∨ (∃ a xs, x = .ref a ∧ SqT K H1 a xs ∧ R (Itt K a) H1) ∨ ∃ z, x = .str z ∧ R (Its z) H1
theorem pi_seq {l : Expr} {tl : TE} (hl : PE X l tl) : PI X tg l (iSeq X.K tl) := by
  refine ⟨fun pins s σ H R I h => ?_⟩
  refine thn (hl.run pins s σ H _ I h) fun v s1 ⟨x, H1, I1, r1, q1⟩ => ?_
  rcases q1 with ⟨a, xs, e, hq, q⟩ | ⟨a, xs, e, hq, q⟩ | ⟨z, e, q⟩
  · subst e
    cases r1
    obtain ⟨its, rv, p, hz⟩ := I1.list hq
    refine wpAny_pyIter_list p.isList ?_
    refine ⟨s1.heap.objs.size, [s1.heap.objs.size], _, _, H1, rfl, I1.kept (t' := s1.toks) fun b o e => Heap.get?_push_of_some _ e, turn_list a _, ⟨_, Heap.get?_push_size _ rfl, rfl, rfl⟩, fun b hb => ?_, q⟩
    have e : b = s1.heap.objs.size := by simpa using hb
    subst e
    exact I1.fpOk (Nat.le_refl _) (I1.hok.fresh (Nat.le_refl _))
  · subst e
    cases r1
    obtain ⟨its, rv, p, hz⟩ := I1.tuple hq
    refine wpAny_pyIter_tuple (show s1.heap.IsTuple a its.toArray from p) ?_
    refine ⟨s1.heap.objs.size, [s1.heap.objs.size], _, _, H1, rfl, I1.kept (t' := s1.toks) fun b o e => Heap.get?_push_of_some _ e, turn_tuple a _, ⟨_, Heap.get?_push_size _ rfl, rfl, rfl⟩, fun b hb => ?_, q⟩
    have e : b = s1.heap.objs.size := by simpa using hb
    subst e
    exact I1.fpOk (Nat.le_refl _) (I1.hok.fresh (Nat.le_refl _))
  · subst e
    obtain ⟨t, rfl⟩ := r1
    cases ha : z.cps.all (· < 128)
    · exact wpAny_pyIter_wide ha (pi_one (tk := s1.toks) I1 _ (turn_str _ z t "str_iterator" (.inr rfl)) ⟨_, Heap.get?_push_size _ rfl, rfl, rfl⟩ q)
    · exact wpAny_pyIter_ascii ha (pi_one (tk := s1.toks) I1 _ (turn_str _ z t "str_ascii_iterator" (.inl rfl)) ⟨_, Heap.get?_push_size _ rfl, rfl, rfl⟩ q)
/-- enumerate of a list or a tuple -/
def iEnumA (K : PySem.W.Frag) (ta : TA) : TI := fun σ H R => ta σ H fun vs H1 => (∃ a xs, vs = [.ref a] ∧ SqL K H1 a xs ∧ R (Ite K a) H1) ∨ ∃ a xs, vs = [.ref a] ∧ SqT K H1 a xs ∧ R (IteT K a) H1
theorem pi_enumA {e : Expr} {ta : TA} {p pos tpos : Pos} {elts : List Expr} {kk : Nat} (hg : Gl X "enumerate") (hm : X.mg "enumerate" = none) (ha : PA X [e] ta) (hs : starEach [e] X.env = [(false, eval e X.env)]) :
    PI X (.Tuple elts kk tpos) (.Call (.Name "enumerate" p) [e] [] pos) (iEnumA X.K ta) := by
  refine ⟨fun pins s σ H R I h => ?_⟩
  refine PyProof.Rows.Call_ (ld_blt I hg hm PyProof.Rows.boot_enumerate (PyProof.Rows.callWith_type1 (thn (ha.run pos pins s σ H _ I h) fun us s1 ⟨vs, H1, I1, r1, q1⟩ => ?_) hs rfl))
  have fp2 : ∀ b ∈ [s1.heap.objs.size + 1, s1.heap.objs.size], FpOk X pins H1 b := fun b hb => by
    have e' : b = s1.heap.objs.size + 1 ∨ b = s1.heap.objs.size := by simpa using hb
    have hle : s1.heap.objs.size ≤ b := by
      rcases e' with z | z
      · rw [z]; exact Nat.le_add_right _ _
      · rw [z]; exact Nat.le_refl _
    exact I1.fpOk hle (I1.hok.fresh hle)
  rcases q1 with ⟨a, xs, ex, hq, q⟩ | ⟨a, xs, ex, hq, q⟩
  · subst ex
    cases r1 with
    | cons r rr =>
      cases rr
      cases r
      obtain ⟨its, rv, p', hz⟩ := I1.list hq
      refine call_enumerate_list p'.isList fun h' he hit hsz hk => wpAny_pyIter_enum he ?_
      have I2 : Inv X pins σ H1 { s1 with heap := h' } := I1.kept (t' := s1.toks) hk
      exact ⟨s1.heap.objs.size + 1, [s1.heap.objs.size + 1, s1.heap.objs.size], _, _, H1, rfl, I2, turn_enum a (s1.heap.objs.size + 1) s1.heap.objs.size, ⟨⟨.none, he⟩, hit, Nat.succ_ne_self _⟩, fp2, q⟩
  · subst ex
    cases r1 with
    | cons r rr =>
      cases rr
      cases r
      obtain ⟨its, rv, p', hz⟩ := I1.tuple hq
      have hlt : a < s1.heap.objs.size := p'.lt
      refine enum1_begins (begins_tuple a its.toArray) (show s1.heap.IsTuple a its.toArray from p') fun h' he hit hsz hk => wpAny_pyIter_enum he ?_
      have I2 : Inv X pins σ H1 { s1 with heap := h' } := I1.kept (t' := s1.toks) hk
      exact ⟨s1.heap.objs.size + 1, [s1.heap.objs.size + 1, s1.heap.objs.size], _, _, H1, rfl, I2, turn_enumT a (s1.heap.objs.size + 1) s1.heap.objs.size (Nat.ne_of_gt (Nat.lt_succ_of_lt hlt)) (Nat.ne_of_lt hlt), ⟨⟨.none, he⟩, ⟨_, hit, rfl, rfl⟩, Nat.succ_ne_self _⟩, fp2, q⟩
def iZipT (K : PySem.W.Frag) (ta : TA) : TI := fun σ H R => ta σ H fun vs H1 => ∃ a b xs ys, vs = [.ref a, .ref b] ∧ SqT K H1 a xs ∧ SqT K H1 b ys ∧ R (ItzT K a b) H1
theorem pi_zipT {e e2 : Expr} {ta : TA} {p pos tpos : Pos} {elts : List Expr} {kk : Nat} (hg : Gl X "zip") (hm : X.mg "zip" = none) (ha : PA X [e, e2] ta)
    (hs : starEach [e, e2] X.env = (false, eval e X.env) :: starEach [e2] X.env) (hpl : (backTo pos (starEach [e2] X.env)).any (·.1) = false) :
    PI X (.Tuple elts kk tpos) (.Call (.Name "zip" p) [e, e2] [] pos) (iZipT X.K ta) := by
  refine ⟨fun pins s σ H R I h => ?_⟩
  refine PyProof.Rows.Call_ (ld_blt I hg hm PyProof.Rows.boot_zip (PyProof.Rows.callWith_type1 (thn (ha.run pos pins s σ H _ I h) fun us s1 ⟨vs, H1, I1, r1, q1⟩ => ?_) hs hpl))
  obtain ⟨a, b, xs, ys, ex, hqx, hqy, q⟩ := q1
  subst ex
  cases r1 with
  | cons r rr =>
    cases rr with
    | cons r' rr =>
      cases rr
      cases r
      cases r'
      obtain ⟨its, rv, p1, _⟩ := I1.tuple hqx
      obtain ⟨its2, rv2, p2, _⟩ := I1.tuple hqy
      have la : a < s1.heap.objs.size := p1.lt
      have lb : b < s1.heap.objs.size := p2.lt
      refine zip_begins2 (begins_tuple a its.toArray) (begins_tuple b its2.toArray) (show s1.heap.IsTuple a its.toArray from p1) (show s1.heap.IsTuple b its2.toArray from p2) fun h' hz hTI hTO h1 h2 hsz hk => wpAny_pyIter_zip hz ?_
      have I2 : Inv X pins σ H1 { s1 with heap := h' } := I1.kept (t' := s1.toks) hk
      have sep : ZipSep2 (s1.heap.objs.size + 4) (s1.heap.objs.size + 2) (s1.heap.objs.size + 3) s1.heap.objs.size (s1.heap.objs.size + 1) [s1.heap.objs.size, a] [s1.heap.objs.size + 1, b] :=
        zip_sep2 (N := s1.heap.objs.size) (fp1 := [a]) (fp2 := [b]) (fun c hc => by rw [List.mem_singleton.mp hc]; exact la) (fun c hc => by rw [List.mem_singleton.mp hc]; exact lb)
      refine ⟨s1.heap.objs.size + 4, [s1.heap.objs.size + 4, s1.heap.objs.size + 2, s1.heap.objs.size + 3, s1.heap.objs.size, s1.heap.objs.size + 1], _, _, H1, rfl, I2, turn_zipT sep (Nat.ne_of_lt la) (Nat.ne_of_lt (Nat.lt_succ_of_lt lb)), ⟨hz, hTI, ⟨_, _, hTO⟩, ⟨_, h1, rfl, rfl⟩, ⟨_, h2, rfl, rfl⟩⟩, fun c hcm => ?_, q⟩
      have e' : c = s1.heap.objs.size + 4 ∨ c = s1.heap.objs.size + 2 ∨ c = s1.heap.objs.size + 3 ∨ c = s1.heap.objs.size ∨ c = s1.heap.objs.size + 1 := by simpa using hcm
      have hle : s1.heap.objs.size ≤ c := by
        rcases e' with z | z | z | z | z
        · rw [z]; exact Nat.le_add_right _ _
        · rw [z]; exact Nat.le_add_right _ _
        · rw [z]; exact Nat.le_add_right _ _
        · rw [z]; exact Nat.le_refl _
        · rw [z]; exact Nat.le_add_right _ _
      exact I1.fpOk hle (I1.hok.fresh hle)
end
end Tf
/-! Tf2d: the slots; readings; the check of expressions. -/
namespace Tf
open PySem L2

/-! ### slots -/
/-- slot i of the frame stands for what the evaluator has there -/
def SlOk (K : PySem.W.Frag) (F H : Hp) (v : V) : Sl → Prop
  | .sh d => Rep K F v d
  | .ow ds => ∃ a vs, v = .ref a ∧ F a = none ∧ H a = some (.lst vs) ∧ RepA K F vs ds
  | .scr ns => ∃ a, v = .ref a ∧ SqL K F a (ns.map V.int)
structure Rst (K : PySem.W.Frag) (F H : Hp) (σ : L2.St) (d : Sd) : Prop where
  len : σ.length = d.length
  le : Le F H
  sl : ∀ (i : Nat) (x : Sl), d[i]? = some (some x) → ∃ v, σ[i]? = some (some v) ∧ SlOk K F H v x
  dj : ∀ (i j : Nat) (xs ys : List D) (a : Addr), i ≠ j → d[i]? = some (some (.ow xs)) → d[j]? = some (some (.ow ys)) → σ[i]? = some (some (.ref a)) → σ[j]? ≠ some (some (.ref a))
section
variable {K : PySem.W.Frag} {F H F' H' : Hp} {σ : L2.St} {d : Sd}
theorem SlOk.step {v : V} {x : Sl} (h : SlOk K F H v x) (s : Stp F H F' H') : SlOk K F' H' v x := by
  cases x with
  | sh d => exact Rep.mono s.1 _ h
  | ow ds =>
    obtain ⟨a, vs, e, n, hh, r⟩ := h
    refine ⟨a, vs, e, ?_, s.2.2.1 _ _ hh, RepA.mono s.1 _ r⟩
    cases q : F' a with
    | none => rfl
    | some o =>
      rcases s.2.2.2 a o q with z | z
      · rw [n] at z; cases z
      · rw [hh] at z; cases z
  | scr ns =>
    obtain ⟨a, e, q⟩ := h
    exact ⟨a, e, s.1.sqL q⟩
theorem Rst.step (h : Rst K F H σ d) (s : Stp F H F' H') : Rst K F' H' σ d :=
  ⟨h.len, s.2.1, fun i x e => let ⟨v, e1, q⟩ := h.sl i x e; ⟨v, e1, q.step s⟩, h.dj⟩
/-- a slot gets a shared value -/
theorem Rst.setSh (h : Rst K F H σ d) (i : Nat) {v : V} {x : D} (r : Rep K F v x) : Rst K F H (σ.set i (some v)) (d.set i (some (.sh x))) := by
  refine ⟨by simp [h.len], h.le, fun j y e => ?_, fun j k xs ys a hjk e1 e2 e3 => ?_⟩
  · by_cases hj : i = j
    · subst hj
      have hi : i < d.length := by
        have := List.getElem?_eq_some_iff.mp e
        simpa using this.1
      rw [List.getElem?_set_self hi] at e
      cases e
      exact ⟨v, List.getElem?_set_self (by rw [h.len]; exact hi), r⟩
    · rw [List.getElem?_set_ne hj] at e
      rw [List.getElem?_set_ne hj]
      exact h.sl j y e
  · have hj : i ≠ j := by
      intro z; subst z
      have hi : i < d.length := by
        have := List.getElem?_eq_some_iff.mp e1
        simpa using this.1
      rw [List.getElem?_set_self hi] at e1; cases e1
    have hk : i ≠ k := by
      intro z; subst z
      have hi : i < d.length := by
        have := List.getElem?_eq_some_iff.mp e2
        simpa using this.1
      rw [List.getElem?_set_self hi] at e2; cases e2
    rw [List.getElem?_set_ne hj] at e1 e3
    rw [List.getElem?_set_ne hk] at e2
    rw [List.getElem?_set_ne hk]
    exact h.dj j k xs ys a hjk e1 e2 e3
/-- a slot gets a list of its own -/
theorem Rst.setOw (h : Rst K F H σ d) (i : Nat) {a : Addr} {vs : List V} {xs : List D} (hn : F a = none) (hh : H a = some (.lst vs)) (r : RepA K F vs xs)
    (nw : ∀ (j : Nat) (ys : List D), j ≠ i → d[j]? = some (some (.ow ys)) → σ[j]? ≠ some (some (.ref a))) : Rst K F H (σ.set i (some (.ref a))) (d.set i (some (.ow xs))) := by
  refine ⟨by simp [h.len], h.le, fun j y e => ?_, fun j k xs' ys a' hjk e1 e2 e3 => ?_⟩
  · by_cases hj : i = j
    · subst hj
      have hi : i < d.length := by
        have := List.getElem?_eq_some_iff.mp e
        simpa using this.1
      rw [List.getElem?_set_self hi] at e
      cases e
      exact ⟨_, List.getElem?_set_self (by rw [h.len]; exact hi), a, vs, rfl, hn, hh, r⟩
    · rw [List.getElem?_set_ne hj] at e
      rw [List.getElem?_set_ne hj]
      exact h.sl j y e
  · by_cases hj : i = j
    · subst hj
      have hi : i < σ.length := by
        have := List.getElem?_eq_some_iff.mp e3
        simpa using this.1
      rw [List.getElem?_set_self hi] at e3
      cases e3
      rw [List.getElem?_set_ne hjk] at e2
      rw [List.getElem?_set_ne hjk]
      exact nw k ys (Ne.symm hjk) e2
    · rw [List.getElem?_set_ne hj] at e1 e3
      by_cases hk : i = k
      · subst hk
        intro e4
        have hi : i < σ.length := by
          have := List.getElem?_eq_some_iff.mp e4
          simpa using this.1
        rw [List.getElem?_set_self hi] at e4
        cases e4
        exact nw j xs' hjk e1 e3
      · rw [List.getElem?_set_ne hk] at e2
        rw [List.getElem?_set_ne hk]
        exact h.dj j k xs' ys a' hjk e1 e2 e3
theorem Rst.setNone (h : Rst K F H σ d) (i : Nat) : Rst K F H (σ.set i none) (d.set i none) := by
  have no : ∀ (j : Nat) (x : Sl), (d.set i none)[j]? = some (some x) → i ≠ j ∧ d[j]? = some (some x) := fun j x e => by
    by_cases hj : i = j
    · subst hj
      by_cases hi : i < d.length
      · rw [List.getElem?_set_self hi] at e; cases e
      · rw [List.getElem?_eq_none (by simpa using hi)] at e; cases e
    · rw [List.getElem?_set_ne hj] at e
      exact ⟨hj, e⟩
  refine ⟨by simp [h.len], h.le, fun j y e => ?_, fun j k xs ys a hjk e1 e2 e3 => ?_⟩
  · obtain ⟨hj, e⟩ := no j y e
    rw [List.getElem?_set_ne hj]
    exact h.sl j y e
  · obtain ⟨hj, e1⟩ := no j _ e1
    obtain ⟨hk, e2⟩ := no k _ e2
    rw [List.getElem?_set_ne hj] at e3
    rw [List.getElem?_set_ne hk]
    exact h.dj j k xs ys a hjk e1 e2 e3
theorem Rst.wipe (h : Rst K F H σ d) : ∀ vs : List Nat, Rst K F H (L2.wipe σ vs) (wipeD d vs)
  | [] => h
  | v :: vs => (Rst.wipe h vs).setNone v
end

/-! ### readings -/
section
variable (K : PySem.W.Frag) (EX : Nat → Hp → Prop) (C : EvC)
/-- what an expression's answer must lead to -/
def okE (F H : Hp) (r : R D) (Q : VK) : Prop := match r with
  | .ok d => ∀ v F' H', Stp F H F' H' → Rep K F' v d → Q v H'
  | .exc c => ∀ F' H', Stp F H F' H' → EX c H'
  | .fail => False
def okEs (F H : Hp) (r : R (List D)) (Q : List V → Hp → Prop) : Prop := match r with
  | .ok ds => ∀ vs F' H', Stp F H F' H' → RepA K F' vs ds → Q vs H'
  | .exc c => ∀ F' H', Stp F H F' H' → EX c H'
  | .fail => False
def okL (F H : Hp) (r : R (List D)) (Q : VK) : Prop := match r with
  | .ok ds => ∀ p vs F' H', Stp F H F' H' → H p = none → F' p = none → H' p = some (.lst vs) → RepA K F' vs ds → Q (.ref p) H'
  | .exc c => ∀ F' H', Stp F H F' H' → EX c H'
  | .fail => False
/-- an answer that no heap object belongs to -/
def okA {A : Type} (F H : Hp) (r : R A) (Q : A → Hp → Prop) : Prop := match r with
  | .ok a => ∀ F' H', Stp F H F' H' → Q a H'
  | .exc c => ∀ F' H', Stp F H F' H' → EX c H'
  | .fail => False
def tE (m : E) : TE := fun σ H Q => ∃ F d, Rst K F H σ d ∧ okE K EX F H (ev C m d) Q
def tEs (m : Es) : TA := fun σ H Q => ∃ F d, Rst K F H σ d ∧ okEs K EX F H (evs C m d) Q
def tL (m : L) : TE := fun σ H Q => ∃ F d, Rst K F H σ d ∧ okL K EX F H (evL C m d) Q
def tO (m : Eo) : TO := fun σ H Q => ∃ F d, Rst K F H σ d ∧ okA EX F H (evo C m d) Q
/-- as a test -/
def tT (m : E) : TT := fun σ H Q => ∃ F d, Rst K F H σ d ∧ okA EX F H ((ev C m d).bind truth) Q
def tC1 (m : Eo) : TT := fun σ H Q => ∃ F d, Rst K F H σ d ∧ okA EX F H (evc C m d) Q
end
section
variable {K : PySem.W.Frag} {EX : Nat → Hp → Prop} {F H F1 H1 : Hp}
theorem okE.mono {r : R D} {Q : VK} (h : okE K EX F H r Q) (s : Stp F H F1 H1) : okE K EX F1 H1 r Q := by
  cases r with
  | ok d => exact fun v F' H' s' => h v F' H' (s.trans s')
  | exc c => exact fun F' H' s' => h F' H' (s.trans s')
  | fail => exact h
theorem okEs.mono {r : R (List D)} {Q : List V → Hp → Prop} (h : okEs K EX F H r Q) (s : Stp F H F1 H1) : okEs K EX F1 H1 r Q := by
  cases r with
  | ok d => exact fun v F' H' s' => h v F' H' (s.trans s')
  | exc c => exact fun F' H' s' => h F' H' (s.trans s')
  | fail => exact h
theorem okL.mono {r : R (List D)} {Q : VK} (h : okL K EX F H r Q) (s : Stp F H F1 H1) : okL K EX F1 H1 r Q := by
  cases r with
  | ok d => exact fun p vs F' H' s' hp => h p vs F' H' (s.trans s') (s.2.2.1.non hp)
  | exc c => exact fun F' H' s' => h F' H' (s.trans s')
  | fail => exact h
theorem okA.mono {A : Type} {r : R A} {Q : A → Hp → Prop} (h : okA EX F H r Q) (s : Stp F H F1 H1) : okA EX F1 H1 r Q := by
  cases r with
  | ok d => exact fun F' H' s' => h F' H' (s.trans s')
  | exc c => exact fun F' H' s' => h F' H' (s.trans s')
  | fail => exact h
/-- first one, then the rest: whatever the rest's wish is -/
class Wish (K : PySem.W.Frag) (EX : Nat → Hp → Prop) {B : Type} (W : Hp → Hp → R B → Prop) : Prop where
  mono : ∀ {F H F1 H1 r}, W F H r → Stp F H F1 H1 → W F1 H1 r
  exc : ∀ {F H c}, W F H (.exc c) → ∀ F' H', Stp F H F' H' → EX c H'
  fail : ∀ {F H}, ¬ W F H .fail
theorem wE (Q : VK) : Wish K EX (fun F H r => okE K EX F H r Q) := ⟨fun h s => okE.mono h s, fun h => h, fun h => h⟩
theorem wEs (Q : List V → Hp → Prop) : Wish K EX (fun F H r => okEs K EX F H r Q) := ⟨fun h s => okEs.mono h s, fun h => h, fun h => h⟩
theorem wL (Q : VK) : Wish K EX (fun F H r => okL K EX F H r Q) := ⟨fun h s => okL.mono h s, fun h => h, fun h => h⟩
theorem wA {A : Type} (Q : A → Hp → Prop) : Wish K EX (fun F H r => okA EX F H r Q) := ⟨fun h s => okA.mono h s, fun h => h, fun h => h⟩
theorem okE.bind {B : Type} {W : Hp → Hp → R B → Prop} (w : Wish K EX W) {r : R D} {f : D → R B} {G : VK} (h : W F H (r.bind f))
    (k : ∀ d v F1 H1, Stp F H F1 H1 → Rep K F1 v d → W F1 H1 (f d) → G v H1) : okE K EX F H r G := by
  cases r with
  | ok d => exact fun v F' H' s rp => k d v F' H' s rp (w.mono h s)
  | exc c => exact w.exc h
  | fail => exact (w.fail h).elim
theorem okEs.bind {B : Type} {W : Hp → Hp → R B → Prop} (w : Wish K EX W) {r : R (List D)} {f : List D → R B} {G : List V → Hp → Prop} (h : W F H (r.bind f))
    (k : ∀ d v F1 H1, Stp F H F1 H1 → RepA K F1 v d → W F1 H1 (f d) → G v H1) : okEs K EX F H r G := by
  cases r with
  | ok d => exact fun v F' H' s rp => k d v F' H' s rp (w.mono h s)
  | exc c => exact w.exc h
  | fail => exact (w.fail h).elim
theorem okL.bind {B : Type} {W : Hp → Hp → R B → Prop} (w : Wish K EX W) {r : R (List D)} {f : List D → R B} {G : VK} (h : W F H (r.bind f))
    (k : ∀ ds p vs F1 H1, Stp F H F1 H1 → H p = none → F1 p = none → H1 p = some (.lst vs) → RepA K F1 vs ds → W F1 H1 (f ds) → G (.ref p) H1) : okL K EX F H r G := by
  cases r with
  | ok d => exact fun p vs F' H' s a b c rp => k d p vs F' H' s a b c rp (w.mono h s)
  | exc c => exact w.exc h
  | fail => exact (w.fail h).elim
theorem okA.bind {A B : Type} {W : Hp → Hp → R B → Prop} (w : Wish K EX W) {r : R A} {f : A → R B} {G : A → Hp → Prop} (h : W F H (r.bind f))
    (k : ∀ a F1 H1, Stp F H F1 H1 → W F1 H1 (f a) → G a H1) : okA EX F H r G := by
  cases r with
  | ok d => exact fun F' H' s => k d F' H' s (w.mono h s)
  | exc c => exact w.exc h
  | fail => exact (w.fail h).elim
theorem okE.ans {r : R D} {Q : VK} (h : okE K EX F H r Q) (n : ∀ c, r ≠ .exc c) : Tf.ans K F H r Q := by
  cases r with
  | ok d => exact h
  | exc c => exact absurd rfl (n c)
  | fail => exact h
theorem okL.ans {r : R (List D)} {Q : VK} (h : okL K EX F H r Q) (n : ∀ c, r ≠ .exc c) : Tf.ansL K F H r Q := by
  cases r with
  | ok d => exact h
  | exc c => exact absurd rfl (n c)
  | fail => exact h
end
theorem _root_.L2.PE.imp {X : Cx} {e : Expr} {t t' : TE} (h : PE X e t) (i : ∀ σ H Q, t' σ H Q → t σ H Q) : PE X e t' := ⟨fun pins s σ H Q I q => h.run pins s σ H Q I (i σ H Q q)⟩
theorem _root_.L2.PT.imp {X : Cx} {e : Expr} {t t' : TT} (h : PT X e t) (i : ∀ σ H Q, t' σ H Q → t σ H Q) : PT X e t' := ⟨fun pins s σ H Q I q => h.run pins s σ H Q I (i σ H Q q)⟩
theorem _root_.L2.PW.imp {X : Cx} {e : Expr} {t t' : TT} (h : PW X e t) (i : ∀ σ H Q, t' σ H Q → t σ H Q) : PW X e t' := ⟨fun w pins s σ H Q I q => h.run w pins s σ H Q I (i σ H Q q)⟩
theorem _root_.L2.PA.imp {X : Cx} {e : List Expr} {t t' : TA} (h : PA X e t) (i : ∀ σ H Q, t' σ H Q → t σ H Q) : PA X e t' := ⟨fun p pins s σ H Q I q => h.run p pins s σ H Q I (i σ H Q q)⟩
theorem _root_.L2.PO.imp {X : Cx} {e : Option Expr} {t t' : TO} (h : PO X e t) (i : ∀ σ H Q, t' σ H Q → t σ H Q) : PO X e t' := ⟨fun pins s σ H Q I q => h.run pins s σ H Q I (i σ H Q q)⟩
theorem _root_.L2.PS.imp {X : Cx} {e : Stmt} {t t' : TS} (h : PS X e t) (i : ∀ D σ H, t' D σ H → t D σ H) : PS X e t' := ⟨fun pins s σ H D I q => h.run pins s σ H D I (i D σ H q)⟩
theorem _root_.L2.PSs.imp {X : Cx} {e : List Stmt} {t t' : TS} (h : PSs X e t) (i : ∀ D σ H, t' D σ H → t D σ H) : PSs X e t' := ⟨fun pins s σ H D I q => h.run pins s σ H D I (i D σ H q)⟩
theorem _root_.L2.PI.imp {X : Cx} {tg e : Expr} {t t' : TI} (h : PI X tg e t) (i : ∀ σ H Q, t' σ H Q → t σ H Q) : PI X tg e t' := ⟨fun pins s σ H Q I q => h.run pins s σ H Q I (i σ H Q q)⟩
end Tf
/-! Tf2e: the check of expressions. -/
namespace Tf
open PySem L2

structure Ck where
  N : List Str
  fns : List (Option Str)
  gls : List (Option Str)
  xcs : List (Option Str)
  io : Option Str

def visB (sc : Scope) (x : Str) : Bool := match sc.names.lookup x with
  | some .local => true
  | some .cell => true
  | some .free => true
  | _ => false
def locB (sc : Scope) (x : Str) : Bool := match sc.names.lookup x with
  | some .local => true
  | some .cell => true
  | _ => false
def isLoc (sc : Scope) (x : Str) : Bool := match sc.names.lookup x with
  | some .local => true
  | _ => false
def gloB (sc : Scope) (x : Str) : Bool := match sc.names.lookup x with
  | some .globalImplicit => true
  | _ => false
def nmOk (x : Str) : Bool := !(x == ("__debug__" : Str)) && !(x == ("__classdict__" : Str))
def conOk : D → Const → Bool
  | .none, .none => true
  | .bool b, .bool c => b == c
  | .int i, .int j => decide (i = j)
  | .str x, .str y => decide (x = y) && x.cps.all (· < 128)
  | _, _ => false
def noStar : Expr → Bool
  | .Starred _ _ => false
  | _ => true
def isName : Expr → Bool
  | .Name _ _ => true
  | _ => false
def noSlice : Expr → Bool
  | .Slice _ _ _ _ => false
  | _ => true
mutual
def chkT (c : Ck) : Tg → Scope → (Str → Bool) → Expr → Bool
  | .name i, sc, fn, e => match e with
    | .Name x _ => decide (c.N[i]? = some x) && locB sc x && (fn x || isLoc sc x)
    | _ => false
  | .tup ts, sc, fn, e => match e with
    | .Tuple es _ _ => chkTs c ts sc fn es
    | _ => false
def chkTs (c : Ck) : Tgs → Scope → (Str → Bool) → List Expr → Bool
  | .nil, _, _, es => match es with
    | [] => true
    | _ => false
  | .cons t r, sc, fn, es => match es with
    | e :: es' => chkT c t sc fn e && chkTs c r sc fn es'
    | [] => false
end
def ownOf (c : Ck) (is : List Nat) : List (Str × Nat) := is.map fun i => (c.N.getD i "", i)
def isTupTg : Tg → Bool
  | .tup _ => true
  | _ => false
def blName (x y : Str) (sc : Scope) : Bool := decide (x = y) && gloB sc x
/-- what may stand as a test -/
def tst : E → Bool
  | .and a b => tst a && tst b
  | .or a b => tst a && tst b
  | .not a => tst a
  | .ite _ _ _ => false
  | _ => true
mutual
def chkE (c : Ck) : E → Scope → (Str → Bool) → Expr → Bool
  | .var i, sc, _, e => match e with
    | .Name x _ => decide (c.N[i]? = some x) && visB sc x && nmOk x
    | _ => false
  | .con d, _, _, e => match e with
    | .Constant k _ _ => conOk d k
    | _ => false
  | .glo g, sc, _, e => match e with
    | .Name x _ => decide (c.gls[g]? = some (some x)) && gloB sc x && nmOk x
    | _ => false
  | .tup es, sc, fn, e => match e with
    | .Tuple xs _ _ => chkEs c es sc fn xs && decide (xs.length ≤ 1000)
    | _ => false
  | .lst l, sc, fn, e => chkL c l sc fn e
  | .bin op a b, sc, fn, e => match e with
    | .BinOp x o y _ => decide (o = op) && chkE c a sc fn x && chkE c b sc fn y
    | _ => false
  | .neg a, sc, fn, e => match e with
    | .UnaryOp .USub x _ => chkE c a sc fn x
    | _ => false
  | .cmp op a b, sc, fn, e => match e with
    | .Compare x [o] [y] _ => decide (o = op) && chkE c a sc fn x && chkE c b sc fn y && !behindInMarks op y
    | _ => false
  | .cmp2 o p a b d, sc, fn, e => match e with
    | .Compare x [o', p'] [y, z] _ => decide (o' = o) && decide (p' = p) && chkE c a sc fn x && chkE c b sc fn y && chkE c d sc fn z && decide (o ≠ .In) && decide (o ≠ .NotIn) && decide (p ≠ .In) && decide (p ≠ .NotIn)
    | _ => false
  | .and a b, sc, fn, e => match e with
    | .BoolOp .And (x :: y :: rest) pos => chkE c a sc fn x && (match rest with
      | [] => chkE c b sc fn y
      | z :: rest' => chkE c b sc fn (.BoolOp .And (y :: z :: rest') pos))
    | _ => false
  | .or a b, sc, fn, e => match e with
    | .BoolOp .Or (x :: y :: rest) pos => chkE c a sc fn x && (match rest with
      | [] => chkE c b sc fn y
      | z :: rest' => chkE c b sc fn (.BoolOp .Or (y :: z :: rest') pos))
    | _ => false
  | .not a, sc, fn, e => match e with
    | .UnaryOp .Not x _ => chkE c a sc fn x
    | _ => false
  | .ite t a b, sc, fn, e => match e with
    | .IfExp x y z _ => tst t && chkE c t sc fn x && chkE c a sc fn y && chkE c b sc fn z
    | _ => false
  | .idx a i, sc, fn, e => match e with
    | .Subscript x y _ => chkE c a sc fn x && chkE c i sc fn y && noSlice y
    | _ => false
  | .slc a lo hi, sc, fn, e => match e with
    | .Subscript x (.Slice l u none _) _ => chkE c a sc fn x && chkO c lo sc fn l && chkO c hi sc fn u
    | _ => false
  | .rev a, sc, fn, e => match e with
    | .Subscript x (.Slice none none (some (.UnaryOp .USub (.Constant (.int 1) _ _) _)) _) _ => chkE c a sc fn x
    | _ => false
  | .call f es, sc, fn, e => match e with
    | .Call (.Name x _) xs [] _ => decide (c.fns[f]? = some (some x)) && gloB sc x && nmOk x && chkEs c es sc fn xs
    | _ => false
  | .isi a t, sc, fn, e => match e with
    | .Call (.Name x _) [y, .Name z _] [] _ => blName x "isinstance" sc && blName z (tyName t) sc && chkE c a sc fn y
    | _ => false
  | .isi2 a t u, sc, fn, e => match e with
    | .Call (.Name x _) [y, .Tuple [.Name z _, .Name z' _] _ _] [] _ => blName x "isinstance" sc && blName z (tyName t) sc && blName z' (tyName u) sc && chkE c a sc fn y
    | _ => false
  | .bi b a, sc, fn, e => match e with
    | .Call (.Name x _) [y] [] _ => blName x (biName b) sc && chkE c a sc fn y
    | _ => false
  | .min2 a b, sc, fn, e => match e with
    | .Call (.Name x _) [y, z] [] _ => blName x "min" sc && chkE c a sc fn y && chkE c b sc fn z
    | _ => false
  | .lenO i, sc, _, e => match e with
    | .Call (.Name x _) [.Name y _] [] _ => blName x "len" sc && decide (c.N[i]? = some y) && visB sc y && nmOk y
    | _ => false
  | .inO neg a i, sc, fn, e => match e with
    | .Compare x [o] [.Name y _] _ => decide (o = if neg then .NotIn else .In) && chkE c a sc fn x && decide (c.N[i]? = some y) && visB sc y && nmOk y
    | _ => false
  | .cell i a, sc, fn, e => match e with
    | .Call (.Name x _) [.Name y _, z] [] _ => decide (x = "_law_cell") && gloB sc x && decide (c.N[i]? = some y) && visB sc y && nmOk y && chkE c a sc fn z
    | _ => false
  | .upper a, sc, fn, e => match e with
    | .Call (.Attribute x n p) [] [] q => isName x && decide (n = "upper") && (p.endLine == q.line) && chkE c a sc fn x
    | _ => false
  | .join _ _, _, _, _ => false
  | .rows a b, sc, fn, e => match e with
    | .Call (.Name x _) [y, z, .List [] _] [] _ => decide (c.io = some x) && gloB sc x && nmOk x && chkE c a sc fn y && chkE c b sc fn z
    | _ => false
def chkEs (c : Ck) : Es → Scope → (Str → Bool) → List Expr → Bool
  | .nil, _, _, es => match es with
    | [] => true
    | _ => false
  | .cons m r, sc, fn, es => match es with
    | e :: es' => chkE c m sc fn e && chkEs c r sc fn es'
    | [] => false
def chkO (c : Ck) : Eo → Scope → (Str → Bool) → Option Expr → Bool
  | .no, _, _, e => match e with
    | none => true
    | some _ => false
  | .yes m, sc, fn, e => match e with
    | none => false
    | some x => chkE c m sc fn x
def chkC (c : Ck) : Eo → Scope → (Str → Bool) → List Expr → Bool
  | .no, _, _, e => match e with
    | [] => true
    | _ => false
  | .yes m, sc, fn, e => match e with
    | [x] => tst m && chkE c m sc fn x
    | _ => false
def chkL (c : Ck) : L → Scope → (Str → Bool) → Expr → Bool
  | .disp es, sc, fn, e => match e with
    | .List xs _ => chkEs c es sc fn xs && decide (xs.length ≤ 1000)
    | _ => false
  | .comp t it f m, sc, fn, e => match e with
    | .ListComp elt [⟨tg, iter, ifs, 0⟩] scope _ => blkC c.N sc scope (ownOf c (slotsT t)) && chkI c it (isTupTg t) sc fn iter &&
        chkT c t (relS scope sc) (fun x => scope.names.lookup x == some .cell) tg &&
        chkC c f (relS scope sc) (fun x => scope.names.lookup x == some .cell) ifs &&
        chkE c m (relS scope sc) (fun x => scope.names.lookup x == some .cell) elt
    | _ => false
  | .cat a b, sc, fn, e => match e with
    | .BinOp x .Add y _ => chkE c a sc fn x && chkE c b sc fn y
    | _ => false
  | .rep a b, sc, fn, e => match e with
    | .BinOp x .Mult y _ => chkE c a sc fn x && chkE c b sc fn y
    | _ => false
  | .ofs a, sc, fn, e => match e with
    | .Call (.Name x _) [y] [] _ => blName x "list" sc && chkE c a sc fn y
    | _ => false
  | .srt a, sc, fn, e => match e with
    | .Call (.Name x _) [y] [] _ => blName x "sorted" sc && chkE c a sc fn y
    | _ => false
  | .sset a, sc, fn, e => match e with
    | .Call (.Name x _) [.Call (.Name z _) [y] [] _] [] _ => blName x "sorted" sc && blName z "set" sc && chkE c a sc fn y
    | _ => false
def chkI (c : Ck) : It → Bool → Scope → (Str → Bool) → Expr → Bool
  | .seq a, _, sc, fn, e => chkE c a sc fn e
  | .rng1 a, _, sc, fn, e => match e with
    | .Call (.Name x _) [y] [] _ => blName x "range" sc && chkE c a sc fn y
    | _ => false
  | .rng2 a b, _, sc, fn, e => match e with
    | .Call (.Name x _) [y, z] [] _ => blName x "range" sc && chkE c a sc fn y && chkE c b sc fn z
    | _ => false
  | .enum a, tup, sc, fn, e => match e with
    | .Call (.Name x _) [y] [] _ => tup && blName x "enumerate" sc && chkE c a sc fn y
    | _ => false
  | .zip a b, tup, sc, fn, e => match e with
    | .Call (.Name x _) [y, z] [] _ => tup && blName x "zip" sc && chkE c a sc fn y && chkE c b sc fn z
    | _ => false
end

/-! ### what the check gives of the written expression -/
theorem chkE_noStar (c : Ck) (m : E) (sc : Scope) (fn : Str → Bool) (e : Expr) (h : chkE c m sc fn e = true) : noStar e = true := by
  cases e with
  | Starred x p =>
    cases m with
    | lst l =>
      unfold chkE at h
      cases l <;> (unfold chkL at h; exact absurd h (by simp))
    | _ => unfold chkE at h; exact absurd h (by simp)
  | _ => rfl
theorem starEach_cons {e : Expr} {es : List Expr} {env : Env} (h : noStar e = true) : starEach (e :: es) env = (false, eval e env) :: starEach es env := by
  cases e <;> first | rfl | exact absurd h (by simp [noStar])
theorem chkEs_stars (c : Ck) : ∀ (m : Es) (sc : Scope) (fn : Str → Bool) (es : List Expr) (env : Env) (pos : Pos), chkEs c m sc fn es = true → (backTo pos (starEach es env)).any (·.1) = false
  | .nil, sc, fn, es, env, pos, h => by
    unfold chkEs at h
    cases es with
    | nil => rfl
    | cons e es => exact absurd h (by simp)
  | .cons m r, sc, fn, es, env, pos, h => by
    unfold chkEs at h
    cases es with
    | nil => exact absurd h (by simp)
    | cons e es =>
      simp only [Bool.and_eq_true] at h
      rw [starEach_cons (chkE_noStar c m sc fn e h.1)]
      have ih := chkEs_stars c r sc fn es env pos h.2
      unfold backTo at ih ⊢
      simp only [List.map_cons, List.any_cons, Bool.false_or]
      exact ih
/-- a list, a tuple .. as a plain index -/
theorem plainIx_of {y : Expr} (h : noSlice y = true) : PlainIx y := by
  intro o i
  cases y <;> first | rfl | exact absurd h (by simp [noSlice])
theorem folded_of {c : Ck} {it : It} {tup : Bool} {sc : Scope} {fn : Str → Bool} {e : Expr} {env : Env} (h : chkI c it tup sc fn e = true) : ∀ x, foldedSetIterable e env x = pure x := by
  intro x
  cases e with
  | Set elts k p =>
    cases it with
    | seq a =>
      unfold chkI at h
      cases a with
      | lst l =>
        unfold chkE at h
        cases l <;> (unfold chkL at h; exact absurd h (by simp))
      | _ => unfold chkE at h; exact absurd h (by simp)
    | _ => unfold chkI at h; exact absurd h (by simp)
  | _ => rfl
end Tf
/-! Tf2f: what is walked, targets, the ambient. -/
namespace Tf
open PySem L2

/-! ### no operation tells an exception -/
theorem binD_nx (op : Operator) (x y : D) (c : Nat) : binD op x y ≠ .exc c := by
  unfold binD; split <;> (try split) <;> simp
theorem cmpD_nx (op : CmpOp) (x y : D) (c : Nat) : cmpD op x y ≠ .exc c := by
  unfold cmpD; split <;> (try split) <;> simp
theorem idxD_nx (x y : D) (c : Nat) : idxD x y ≠ .exc c := by
  unfold idxD; split <;> (try split) <;> (try split) <;> simp
theorem slcD_nx (lo hi : Option Int) (x : D) (c : Nat) : slcD lo hi x ≠ .exc c := by
  unfold slcD; split <;> (try split) <;> simp
theorem biD_nx (b : Bi) (x : D) (c : Nat) : biD b x ≠ .exc c := by
  unfold biD; split <;> (try split) <;> simp
theorem min2D_nx (x y : D) (c : Nat) : min2D x y ≠ .exc c := by
  unfold min2D; split <;> simp
theorem seqOf_nx (x : D) (c : Nat) : seqOf x ≠ .exc c := by
  unfold seqOf; split <;> simp
theorem listOf_nx (x : D) (c : Nat) : listOf x ≠ .exc c := by
  unfold listOf; split <;> simp
theorem cat_nx (x y : D) (c : Nat) : ((listOf x).bind fun xs => (listOf y).bind fun ys => catD xs ys) ≠ .exc c := by
  cases x <;> cases y <;> simp only [listOf, R.bind_ok, R.bind_fail, catD, ne_eq, reduceCtorEq, not_false_eq_true]
  split <;> simp
theorem rep_nx (x y : D) (c : Nat) : ((listOf x).bind fun xs => repD xs y) ≠ .exc c := by
  cases x <;> cases y <;> simp only [listOf, R.bind_ok, R.bind_fail, repD, ne_eq, reduceCtorEq, not_false_eq_true]
  split <;> simp
theorem negD_nx (x : D) (c : Nat) : negD x ≠ .exc c := by
  unfold negD; split <;> simp
theorem compGo_nx (f : D → R (Option D)) : ∀ (xs : List D) (c : Nat), compGo f xs ≠ .exc c
  | [], c => by simp [compGo]
  | x :: xs, c => by
    unfold compGo
    cases f x with
    | ok o =>
      have ih := compGo_nx f xs
      cases h : compGo f xs with
      | ok ys => simp
      | exc c' => exact absurd h (ih c')
      | fail => simp
    | exc c' => simp [R.still]
    | fail => simp [R.still]

/-! ### a walked thing -/
structure Wk (K : PySem.W.Frag) (J : L2.It) (F0 : Hp) (items : List D) : Prop where
  go : ∀ (i : Nat) (F H : Hp), Le F0 F → Le F H → i < items.length → J.go i H
  stop : ∀ (F H : Hp), Le F0 F → Le F H → J.stop items.length H
  yld : ∀ (i : Nat) (F H : Hp) (x : V) (H' : Hp) (d : D), Le F0 F → Le F H → J.yld i H x H' → items[i]? = some d → ∃ F', Stp F H F' H' ∧ Rep K F' x d
def okI (K : PySem.W.Frag) (EX : Nat → Hp → Prop) (F H : Hp) (r : R (List D)) (Q : L2.It → Hp → Prop) : Prop := match r with
  | .ok items => ∀ J F' H', Stp F H F' H' → Wk K J F' items → Q J H'
  | .exc c => ∀ F' H', Stp F H F' H' → EX c H'
  | .fail => False
def tI (K : PySem.W.Frag) (EX : Nat → Hp → Prop) (C : EvC) (m : It) : TI := fun σ H Q => ∃ F d, Rst K F H σ d ∧ okI K EX F H (evI C m d) Q
section
variable {K : PySem.W.Frag} {EX : Nat → Hp → Prop} {F H F1 H1 : Hp}
theorem okI.mono {r : R (List D)} {Q : L2.It → Hp → Prop} (h : okI K EX F H r Q) (s : Stp F H F1 H1) : okI K EX F1 H1 r Q := by
  cases r with
  | ok d => exact fun J F' H' s' => h J F' H' (s.trans s')
  | exc c => exact fun F' H' s' => h F' H' (s.trans s')
  | fail => exact h
theorem wI (Q : L2.It → Hp → Prop) : Wish K EX (fun F H r => okI K EX F H r Q) := ⟨fun h s => okI.mono h s, fun h => h, fun h => h⟩
theorem okI.bind {B : Type} {W : Hp → Hp → R B → Prop} (w : Wish K EX W) {r : R (List D)} {f : List D → R B} {G : L2.It → Hp → Prop} (h : W F H (r.bind f))
    (k : ∀ items J F1 H1, Stp F H F1 H1 → Wk K J F1 items → W F1 H1 (f items) → G J H1) : okI K EX F H r G := by
  cases r with
  | ok d => exact fun J F' H' s wk => k d J F' H' s wk (w.mono h s)
  | exc c => exact w.exc h
  | fail => exact (w.fail h).elim
theorem Wk.list {a : Addr} {xs : List V} {ds : List D} (h : F a = some (.lst xs)) (r : RepA K F xs ds) : Wk K (Itl K a) F ds where
  go := fun i F' H' l l' hi => by
    have hi' : i < xs.length := by rw [r.length]; exact hi
    exact ⟨xs, xs[i], SqL.of (l' _ _ (l _ _ h)), by simp [hi']⟩
  stop := fun F' H' l l' => ⟨xs, SqL.of (l' _ _ (l _ _ h)), by rw [r.length]; exact Nat.le_refl _⟩
  yld := fun i F' H' x H'' d l l' y e => by
    obtain ⟨e1, y⟩ := y
    subst e1
    obtain ⟨v, e2, r2⟩ := r.get e
    have := y xs (SqL.of (l' _ _ (l _ _ h)))
    rw [e2] at this
    cases this
    exact ⟨F', .refl l', Rep.mono l _ r2⟩
theorem Wk.tup {a : Addr} {xs : List V} {ds : List D} (h : SqT K F a xs) (r : RepA K F xs ds) : Wk K (Itt K a) F ds where
  go := fun i F' H' l l' hi => by
    have hi' : i < xs.length := by rw [r.length]; exact hi
    exact ⟨xs, xs[i], l'.sqT (l.sqT h), by simp [hi']⟩
  stop := fun F' H' l l' => ⟨xs, l'.sqT (l.sqT h), by rw [r.length]; exact Nat.le_refl _⟩
  yld := fun i F' H' x H'' d l l' y e => by
    obtain ⟨e1, y⟩ := y
    subst e1
    obtain ⟨v, e2, r2⟩ := r.get e
    have := y xs (l'.sqT (l.sqT h))
    rw [e2] at this
    cases this
    exact ⟨F', .refl l', Rep.mono l _ r2⟩
theorem Wk.str {z : Str} (h : asc z) : Wk K (Its z) F (z.cps.toList.map fun c => .str ⟨#[c]⟩) where
  go := fun i F' H' l l' hi => by
    show i < z.cps.size
    simpa using hi
  stop := fun F' H' l l' => by
    show z.cps.size ≤ _
    simp
  yld := fun i F' H' x H'' d l l' y e => by
    obtain ⟨e1, c, e2, e3⟩ := y
    subst e1 e3
    rw [List.getElem?_map] at e
    have e4 : z.cps.toList[i]? = some c := by simpa using e2
    rw [e4] at e
    cases e
    refine ⟨F', .refl l', .str _ fun y hy => ?_⟩
    have : y = c := by simpa using hy
    subst this
    exact h _ (List.mem_of_getElem? e4)
theorem rangeD_length : ∀ (n : Nat) (lo : Int), (rangeD lo n).length = n
  | 0, _ => rfl
  | n + 1, lo => by simp [rangeD, rangeD_length n]
theorem rangeD_get : ∀ (n : Nat) (lo : Int) (i : Nat) (d : D), (rangeD lo n)[i]? = some d → d = .int (lo + i) ∧ i < n
  | 0, _, i, d, e => by simp [rangeD] at e
  | n + 1, lo, 0, d, e => by simp [rangeD] at e; simp [e]
  | n + 1, lo, i + 1, d, e => by
    have ih := rangeD_get n (lo + 1) i d (by simpa [rangeD] using e)
    refine ⟨?_, by omega⟩
    rw [ih.1]
    congr 1
    omega
theorem Wk.rng {lo : Int} {n : Nat} : Wk K (Itr lo n) F (rangeD lo n) where
  go := fun i F' H' l l' hi => by rw [rangeD_length] at hi; exact hi
  stop := fun F' H' l l' => by rw [rangeD_length]; exact Nat.le_refl _
  yld := fun i F' H' x H'' d l l' y e => by
    obtain ⟨e1, e2⟩ := y
    subst e1 e2
    obtain ⟨rfl, _⟩ := rangeD_get n lo i d e
    exact ⟨F', .refl l', .int _⟩
theorem enumD_length : ∀ (xs : List D) (k : Nat), (enumD k xs).length = xs.length
  | [], _ => rfl
  | x :: xs, k => by simp [enumD, enumD_length xs]
theorem enumD_get : ∀ (xs : List D) (k i : Nat) (d : D), (enumD k xs)[i]? = some d → ∃ x, xs[i]? = some x ∧ d = .tuple [.int ((k + i : Nat) : Int), x]
  | [], _, _, _, e => by simp [enumD] at e
  | x :: xs, k, 0, d, e => by simp [enumD] at e; exact ⟨x, rfl, by simp [e]⟩
  | x :: xs, k, i + 1, d, e => by
    obtain ⟨y, h1, h2⟩ := enumD_get xs (k + 1) i d (by simpa [enumD] using e)
    refine ⟨y, by simpa using h1, ?_⟩
    rw [h2]
    have : k + 1 + i = k + (i + 1) := by omega
    rw [this]
theorem Wk.enumL {a : Addr} {xs : List V} {ds : List D} (h : F a = some (.lst xs)) (r : RepA K F xs ds) : Wk K (Ite K a) F (enumD 0 ds) where
  go := fun i F' H' l l' hi => by
    rw [enumD_length] at hi
    have hi' : i < xs.length := by rw [r.length]; exact hi
    exact ⟨xs, xs[i], SqL.of (l' _ _ (l _ _ h)), by simp [hi']⟩
  stop := fun F' H' l l' => ⟨xs, SqL.of (l' _ _ (l _ _ h)), by rw [r.length, enumD_length]; exact Nat.le_refl _⟩
  yld := fun i F' H' x H'' d l l' y e => by
    obtain ⟨T, z, e1, e2, e3, y⟩ := y
    subst e1 e3
    obtain ⟨w, e4, rfl⟩ := enumD_get ds 0 i d e
    obtain ⟨v, e5, r2⟩ := r.get e4
    have := y xs (SqL.of (l' _ _ (l _ _ h)))
    rw [e5] at this
    cases this
    refine ⟨_, .new l' e2, .tup (SqT.of upd_same) (.cons ?_ (.cons (Rep.mono (l.trans (.fresh (l'.non e2))) _ r2) .nil))⟩
    rw [Nat.zero_add]
    exact .int _
theorem Wk.enumT {a : Addr} {xs : List V} {ds : List D} (h : SqT K F a xs) (r : RepA K F xs ds) : Wk K (IteT K a) F (enumD 0 ds) where
  go := fun i F' H' l l' hi => by
    rw [enumD_length] at hi
    have hi' : i < xs.length := by rw [r.length]; exact hi
    exact ⟨xs, xs[i], l'.sqT (l.sqT h), by simp [hi']⟩
  stop := fun F' H' l l' => ⟨xs, l'.sqT (l.sqT h), by rw [r.length, enumD_length]⟩
  yld := fun i F' H' x H'' d l l' y e => by
    obtain ⟨T, z, e1, e2, e3, y⟩ := y
    subst e1 e3
    obtain ⟨w, e4, rfl⟩ := enumD_get ds 0 i d e
    obtain ⟨v, e5, r2⟩ := r.get e4
    have := y xs (l'.sqT (l.sqT h))
    rw [e5] at this
    cases this
    refine ⟨_, .new l' e2, .tup (SqT.of upd_same) (.cons ?_ (.cons (Rep.mono (l.trans (.fresh (l'.non e2))) _ r2) .nil))⟩
    rw [Nat.zero_add]
    exact .int _
theorem zipD_length : ∀ (xs ys : List D), (zipD xs ys).length = min xs.length ys.length
  | [], ys => by simp [zipD]
  | _ :: _, [] => by simp [zipD]
  | x :: xs, y :: ys => by simp [zipD, zipD_length xs ys]
theorem zipD_get : ∀ (xs ys : List D) (i : Nat) (d : D), (zipD xs ys)[i]? = some d → ∃ x y, xs[i]? = some x ∧ ys[i]? = some y ∧ d = .tuple [x, y]
  | [], ys, _, _, e => by simp [zipD] at e
  | _ :: _, [], _, _, e => by simp [zipD] at e
  | x :: xs, y :: ys, 0, d, e => by simp [zipD] at e; exact ⟨x, y, rfl, rfl, e.symm⟩
  | x :: xs, y :: ys, i + 1, d, e => by
    obtain ⟨a, b, h1, h2, h3⟩ := zipD_get xs ys i d (by simpa [zipD] using e)
    exact ⟨a, b, by simpa using h1, by simpa using h2, h3⟩
theorem Wk.zipT {a b : Addr} {xs ys : List V} {ds es : List D} (h : SqT K F a xs) (r : RepA K F xs ds) (h' : SqT K F b ys) (r' : RepA K F ys es) : Wk K (ItzT K a b) F (zipD ds es) where
  go := fun i F' H' l l' hi => by
    rw [zipD_length] at hi
    have hi1 : i < xs.length := by rw [r.length]; omega
    have hi2 : i < ys.length := by rw [r'.length]; omega
    exact ⟨xs, ys, xs[i], ys[i], l'.sqT (l.sqT h), l'.sqT (l.sqT h'), by simp [hi1], by simp [hi2]⟩
  stop := fun F' H' l l' => ⟨xs, ys, l'.sqT (l.sqT h), l'.sqT (l.sqT h'), by rw [r.length, zipD_length]; omega, by rw [r'.length, zipD_length]; omega, by rw [r.length, r'.length, zipD_length]; omega⟩
  yld := fun i F' H' x H'' d l l' y e => by
    obtain ⟨T, z, z', e1, e2, e3, y, y'⟩ := y
    subst e1 e3
    obtain ⟨w, w', e4, e4', rfl⟩ := zipD_get ds es i d e
    obtain ⟨v, e5, r2⟩ := r.get e4
    obtain ⟨v', e5', r2'⟩ := r'.get e4'
    have q := y xs (l'.sqT (l.sqT h))
    rw [e5] at q
    cases q
    have q' := y' ys (l'.sqT (l.sqT h'))
    rw [e5'] at q'
    cases q'
    exact ⟨_, .new l' e2, .tup (SqT.of upd_same) (.cons (Rep.mono (l.trans (.fresh (l'.non e2))) _ r2) (.cons (Rep.mono (l.trans (.fresh (l'.non e2))) _ r2') .nil))⟩
end

/-! ### targets -/
def lenTs : Tgs → Nat
  | .nil => 0
  | .cons _ r => lenTs r + 1
mutual
def gTg (K : PySem.W.Frag) : Tg → TG
  | .name i => gName i
  | .tup ts => gTup K (lenTs ts) (gTgs K ts)
def gTgs (K : PySem.W.Frag) : Tgs → TGs
  | .nil => gNil
  | .cons t r => gCons (gTg K t) (gTgs K r)
end
theorem assignEach_cons {e : Expr} {es : List Expr} {env : Env} (h : noStar e = true) : assignEach (e :: es) env = (false, assign e env) :: assignEach es env := by
  cases e <;> first | rfl | exact absurd h (by simp [noStar])
theorem chkT_noStar (c : Ck) (t : Tg) (sc : Scope) (fn : Str → Bool) (e : Expr) (h : chkT c t sc fn e = true) : noStar e = true := by
  cases e with
  | Starred x p => cases t <;> (unfold chkT at h; exact absurd h (by simp))
  | _ => rfl
theorem chkTs_each (c : Ck) : ∀ (ts : Tgs) (sc : Scope) (fn : Str → Bool) (es : List Expr) (env : Env), chkTs c ts sc fn es = true → (assignEach es env).length = lenTs ts ∧ (assignEach es env).findIdx? (·.1) = none
  | .nil, sc, fn, es, env, h => by
    unfold chkTs at h
    cases es with
    | nil => exact ⟨rfl, rfl⟩
    | cons e es => exact absurd h (by simp)
  | .cons t r, sc, fn, es, env, h => by
    unfold chkTs at h
    cases es with
    | nil => exact absurd h (by simp)
    | cons e es =>
      simp only [Bool.and_eq_true] at h
      rw [assignEach_cons (chkT_noStar c t sc fn e h.1)]
      have ih := chkTs_each c r sc fn es env h.2
      refine ⟨by simp [lenTs, ih.1], ?_⟩
      rw [List.findIdx?_cons, ih.2]
      rfl
theorem loc_of {sc : Scope} {x : Str} (h : locB sc x = true) : Loc sc x := by
  unfold locB at h
  split at h <;> first | exact .inl (by assumption) | exact .inr (by assumption) | cases h
theorem vis_of {sc : Scope} {x : Str} (h : visB sc x = true) : Vis sc x := by
  unfold visB at h
  split at h <;> first | exact .inl (by assumption) | exact .inr (.inl (by assumption)) | exact .inr (.inr (by assumption)) | cases h
theorem isLoc_of {sc : Scope} {x : Str} (h : isLoc sc x = true) : sc.names.lookup x = some .local := by
  unfold isLoc at h
  split at h <;> first | assumption | cases h
theorem glo_of {X : Cx} {x : Str} (h : gloB X.env.scope x = true) : Gl X x := by
  unfold gloB at h
  split at h <;> first | assumption | cases h
section
variable {X : Cx} {c : Ck}
mutual
theorem sTg (hN : X.N = c.N) (nd : X.N.Nodup) (hc : X.calm = true) : ∀ (t : Tg) (e : Expr), chkT c t X.env.scope X.fn e = true → PG X e (gTg X.K t)
  | .name i, e, h => by
    unfold chkT at h
    split at h
    · simp only [Bool.and_eq_true, Bool.or_eq_true, decide_eq_true_eq] at h
      unfold gTg
      exact pg_name nd (by rw [hN]; exact h.1.1) (loc_of h.1.2) (h.2.imp (fun z => z) isLoc_of)
    · exact absurd h (by simp)
  | .tup ts, e, h => by
    unfold chkT at h
    split at h
    · unfold gTg
      obtain ⟨h1, h2⟩ := chkTs_each c ts _ _ _ X.env h
      exact pg_tup hc (sTgs hN nd hc ts _ h) h1 h2
    · exact absurd h (by simp)
theorem sTgs (hN : X.N = c.N) (nd : X.N.Nodup) (hc : X.calm = true) : ∀ (t : Tgs) (es : List Expr), chkTs c t X.env.scope X.fn es = true → PGs X es (gTgs X.K t)
  | .nil, es, h => by
    unfold chkTs at h
    cases es with
    | nil => unfold gTgs; exact pgs_nil
    | cons e es => exact absurd h (by simp)
  | .cons t r, es, h => by
    unfold chkTs at h
    cases es with
    | nil => exact absurd h (by simp)
    | cons e es =>
      simp only [Bool.and_eq_true] at h
      unfold gTgs
      refine pgs_cons (sTg hN nd hc t e h.1) (sTgs hN nd hc r es h.2) ?_
      rw [assignEach_cons (chkT_noStar c t _ _ e h.1)]
      rfl
end
end
theorem wipe_set {σ : L2.St} {x : Option V} {i : Nat} : ∀ {vs : List Nat}, i ∈ vs → L2.wipe (σ.set i x) vs = L2.wipe σ vs
  | [], h => by cases h
  | v :: vs, h => by
    unfold L2.wipe
    have out : ∀ {us : List Nat}, i ∉ us → L2.wipe (σ.set i x) us = (L2.wipe σ us).set i x := by
      intro us
      induction us with
      | nil => intro _; rfl
      | cons u us ih =>
        intro hu
        simp only [List.mem_cons, not_or] at hu
        unfold L2.wipe
        rw [ih hu.2, List.set_comm _ _ hu.1]
    by_cases hi : i ∈ vs
    · rw [wipe_set hi]
    · have e : i = v := by
        rcases List.mem_cons.mp h with z | z
        · exact z
        · exact absurd z hi
      subst e
      rw [out hi, List.set_set]
section
variable {K : PySem.W.Frag} {F H : Hp}
mutual
theorem bindT_ok : ∀ (t : Tg) (d : D) (s s' : Sd) (v : V) (σ : L2.St) (Q : L2.St → Hp → Prop), bindT t d s = some s' → Rep K F v d → Rst K F H σ s →
    (∀ σ', Rst K F H σ' s' → (∀ vs, (∀ i ∈ slotsT t, i ∈ vs) → L2.wipe σ' vs = L2.wipe σ vs) → Q σ' H) → gTg K t v σ H Q
  | .name i, d, s, s', v, σ, Q, e, r, R, k => by
    unfold bindT at e
    cases e
    unfold gTg gName
    exact k _ (R.setSh i r) fun vs hv => wipe_set (hv i (by simp [slotsT]))
  | .tup ts, d, s, s', v, σ, Q, e, r, R, k => by
    unfold bindT at e
    split at e
    · cases r with
      | tup h a =>
        unfold gTg gTup
        have hl : lenTs ts = _ := bindTs_len ts _ s s' e
        refine ⟨_, _, rfl, R.le.sqT h, by rw [a.length, hl], bindTs_ok ts _ s s' _ σ Q e a R fun σ' R' w => k σ' R' fun vs hv => w vs fun i hi => hv i (by simpa [slotsT] using hi)⟩
    · cases e
theorem bindTs_len : ∀ (ts : Tgs) (ds : List D) (s s' : Sd), bindTs ts ds s = some s' → lenTs ts = ds.length
  | .nil, ds, s, s', e => by
    unfold bindTs at e
    cases ds with
    | nil => rfl
    | cons d ds => cases e
  | .cons t r, ds, s, s', e => by
    unfold bindTs at e
    cases ds with
    | nil => cases e
    | cons d ds =>
      simp only at e
      split at e
      · simp [lenTs, bindTs_len r ds _ s' e]
      · cases e
theorem bindTs_ok : ∀ (ts : Tgs) (ds : List D) (s s' : Sd) (vs : List V) (σ : L2.St) (Q : L2.St → Hp → Prop), bindTs ts ds s = some s' → RepA K F vs ds → Rst K F H σ s →
    (∀ σ', Rst K F H σ' s' → (∀ us, (∀ i ∈ slotsTs ts, i ∈ us) → L2.wipe σ' us = L2.wipe σ us) → Q σ' H) → gTgs K ts vs σ H Q
  | .nil, ds, s, s', vs, σ, Q, e, r, R, k => by
    unfold bindTs at e
    cases ds with
    | nil =>
      cases e
      cases r
      unfold gTgs gNil
      exact ⟨rfl, k σ R fun _ _ => rfl⟩
    | cons d ds => cases e
  | .cons t tr, ds, s, s', vs, σ, Q, e, r, R, k => by
    unfold bindTs at e
    cases ds with
    | nil => cases e
    | cons d ds =>
      simp only at e
      split at e
      · rename_i s1 e1
        cases r with
        | cons r1 r2 =>
          unfold gTgs gCons
          refine ⟨_, _, rfl, bindT_ok t d s s1 _ σ _ e1 r1 R fun σ1 R1 w1 => bindTs_ok tr ds s1 s' _ σ1 Q e r2 R1 fun σ2 R2 w2 => k σ2 R2 fun us hu => ?_⟩
          rw [w2 us fun i hi => hu i (by simp [slotsTs, hi]), w1 us fun i hi => hu i (by simp [slotsTs, hi])]
      · cases e
end
end
end Tf
/-! Tf2r: tuple[::-1]. -/
namespace Tf
open PySem L2 PyProof.Rows HT
theorem fmap_congr {A B : Type} {f g : A → Option B} : ∀ {l : List A}, (∀ a ∈ l, f a = g a) → l.filterMap f = l.filterMap g
  | [], _ => rfl
  | a :: l, h => by
    rw [List.filterMap_cons, List.filterMap_cons, h a (by simp), fmap_congr fun b hb => h b (by simp [hb])]
section
variable {prog : Program} {w : World} {A : Around} {E : Value → Shared → Prop} {s : Shared}
theorem rev_adjust (n : Nat) : Builtin.Slice.sliceAdjust none none (-1) (n : Int) = ((n : Int) - 1, -1) := by
  unfold Builtin.Slice.sliceAdjust
  simp
theorem rev_places (n : Nat) : Builtin.Slice.slicePlaces ((n : Int) - 1) (-1) (-1) = n := by
  unfold Builtin.Slice.slicePlaces
  have h1 : ¬ ((-1 : Int) > 0) := by decide
  rw [if_neg h1]
  by_cases h : (n : Int) - 1 > -1
  · rw [if_pos h, show (- -1 : Int) = 1 by decide, Int.ediv_one]
    omega
  · rw [if_neg h]
    omega
theorem sliceApplied_rev {sl : Addr} {t : Tok} {n : Nat} {Q : Int × Int × Nat → Shared → Prop} (hs : s.heap.IsSliceOf sl .none .none (.int (-1) t))
    (h : Q ((n : Int) - 1, -1, n) s) : wpAny (model prog w) A (Builtin.Slice.sliceApplied (.ref sl) (pure (n : Int))) Q E s := by
  obtain ⟨os, hos, hcs, hds⟩ := id hs
  unfold Builtin.Slice.sliceApplied Builtin.Slice.sliceFields
  refine wpAny_bind (wpAny_bind (wpAny_field hos hds (x := .none) rfl (wpAny_bind (wpAny_field hos hds (x := .none) rfl (wpAny_bind (wpAny_field hos hds (x := .int (-1) t) rfl (wpAny_pure ?_)))))))
  refine wpAny_bind (slicePart_int ?_)
  show wpAny _ _ (if ((-1 : Int) == 0) = true then _ else _) _ _ s
  rw [if_neg (by decide)]
  refine wpAny_bind (slicePart_none (wpAny_bind (slicePart_none (wpAny_bind (wpAny_pure ?_)))))
  show wpAny _ _ (match Builtin.Slice.sliceAdjust none none (-1) (n : Int) with | (lo, hi) => pure (lo, (-1 : Int), Builtin.Slice.slicePlaces lo hi (-1))) _ _ s
  rw [rev_adjust]
  show wpAny _ _ (pure ((n : Int) - 1, (-1 : Int), Builtin.Slice.slicePlaces ((n : Int) - 1) (-1) (-1))) _ _ s
  rw [rev_places]
  exact wpAny_pure h
theorem rev_pick (xs : Array Value) : ((List.range xs.size).filterMap fun (m : Nat) => xs[(((xs.size : Int) - 1) + (m : Int) * (-1)).toNat]?).toArray = xs.toList.reverse.toArray := by
  congr 1
  have e : ∀ m ∈ List.range xs.size, xs[(((xs.size : Int) - 1) + (m : Int) * (-1)).toNat]? = xs[xs.size - 1 - m]? := by
    intro m hm
    have := List.mem_range.mp hm
    congr 1
    omega
  have e2 : ((List.range xs.size).filterMap fun (m : Nat) => xs[(((xs.size : Int) - 1) + (m : Int) * (-1)).toNat]?) = (List.range xs.size).filterMap fun m => xs[xs.size - 1 - m]? := by
    exact fmap_congr e
  rw [e2]
  have e3 : ((List.range xs.size).filterMap fun m => xs[xs.size - 1 - m]?) = ((List.range xs.size).map fun k => xs.size - 1 - k).filterMap (xs[·]?) := by
    rw [List.filterMap_map]; rfl
  rw [e3, PySem.W.krv_range, List.filterMap_reverse, PySem.W.krv_all]
theorem getItem_tuple_rev {t sl : Addr} {tk : Tok} {items : Array Value} {Q : Value → Shared → Prop} (ht : IsTup s.heap t items) (hs : s.heap.IsSliceOf sl .none .none (.int (-1) tk))
    (h : Q (.ref s.heap.objs.size) { s with heap := s.heap.push { cls := .type "tuple", data := .seq items.toList.reverse.toArray } })
    (hsz : items.size ≤ sizeLine) : wpAny (model prog w) A (getItem (.ref t) (.ref sl)) Q E s := by
  have htake : sizeOk (.seq items.toList.reverse.toArray) := by
    show items.toList.reverse.toArray.size ≤ sizeLine
    simpa using hsz
  obtain ⟨os, hos, hcs, hds⟩ := id hs
  have hTs : s.TypeIs (.ref sl) "slice" := ⟨os, hos, hcs⟩
  unfold getItem
  try with_reducible refine wpAny_holding ?_
  first | refine wpAny_bind (wpAny_pure ?_) | skip
  refine wpAny_bind (wpAny_sequenceKey ht.typeIs (by decide) ?_)
  refine wpAny_bind (wpAny_callSpecial?_slot (name := Str.ofString "__getitem__") ht.typeIs PyProof.Rows.slot_tuple_getitem
    (wpAny_call_entry PyProof.Rows.slot_tuple_getitem ht.typeIs entry_tuple_getitem ?_ (args_tuple_getitem _ _)))
  show wpAny _ _ (Builtin.Tuple.tupleItemsOf (.ref t) >>= _) _ _ s
  refine wpAny_bind (tupleItemsOf_ ht ?_)
  refine wpAny_bind (wpAny_typeOf hTs ?_)
  rw [if_pos (by decide)]
  refine wpAny_bind (sliceApplied_rev hs ?_)
  have hno : ¬ (((items.size : Int) - 1 == 0 && (-1 : Int) == 1 && items.size == items.size) = true) := by simp
  show wpAny _ _ (if ((items.size : Int) - 1 == 0 && (-1 : Int) == 1 && items.size == items.size) = true then _ else _) _ _ s
  rw [if_neg hno, rev_pick]
  first
    | exact wpAny_bind (m := Builtin.Tuple.tupleExact _) (wpAny_newObj_type (wpAny_pure ⟨_, rfl, wpAny_pure h⟩) htake)
    | exact wpAny_bind (m := Builtin.Tuple.tupleExact _) (wpAny_newObj_type (wpAny_bind (wpAny_pure (wpAny_pure ⟨_, rfl, wpAny_pure h⟩))) htake)
    | exact wpAny_bind (wpAny_bind (m := Builtin.Tuple.tupleExact _) (wpAny_newObj_type (wpAny_pure (wpAny_pure ⟨_, rfl, wpAny_pure h⟩)) htake))
    | exact wpAny_bind (wpAny_bind (m := Builtin.Tuple.tupleExact _) (wpAny_newObj_type (wpAny_pure ⟨_, rfl, wpAny_pure h⟩) htake))
end
section
variable {X : Cx} {e : Expr} {te : TE} {j : Nat} {p1 p2 p3 pos : Pos}
def tRevT (K : PySem.W.Frag) (te : TE) : TE := fun σ H Q => te σ H fun x H1 => ∃ a xs, x = .ref a ∧ SqT K H1 a xs ∧ ∀ p, H1 p = none → Q (.ref p) (upd H1 p (.tup xs.reverse))
theorem pe_revT (he : PE X e te) : PE X (.Subscript e (.Slice none none (some (.UnaryOp .USub (.Constant (.int 1) j p1) p3)) p2) pos) (tRevT X.K te) := by
  refine ⟨fun pins s σ H Q I h => ?_⟩
  refine Subscript_ (thn (he.run pins s σ H _ I h) fun v s1 ⟨x, H1, I1, r1, q1⟩ => ?_)
  obtain ⟨a, xs, rfl, hq, q⟩ := q1
  cases r1
  refine wpAny_Slice ?_
  rw [evalPart_none]
  refine wpAny_pure (wpAny_pure ?_)
  rw [evalPart_some]
  refine thn ((pe_un un_neg (pe_int (i := 1))).run pins s1 σ H1 (fun u H2 => u = .int (-1) ∧ H2 = H1) I1 ⟨1, rfl, rfl, rfl⟩) fun u s2 ⟨y, H2, I2, r2, e1, e2⟩ => ?_
  subst e1 e2
  obtain ⟨tk, rfl⟩ := r2
  have I4 : Inv X pins σ H2 { s2 with heap := s2.heap.push { cls := .type "slice", data := .fields #[.none, .none, .int (-1) tk] } } := I2.kept (t' := s2.toks) fun b ob q => Heap.get?_push_of_some _ q
  obtain ⟨its, rv, p, hz⟩ := I4.tuple hq
  have hl := rv.length
  show wpAny (model X.prog X.w) X.A (subscriptTail e _ (.ref a) (.ref s2.heap.objs.size)) (EP X pins σ Q) X.xe { s2 with heap := s2.heap.push { cls := .type "slice", data := .fields #[.none, .none, .int (-1) tk] } }
  refine tail_any (ops := [.ref a, .ref s2.heap.objs.size]) p.typeIs slot_tuple_getitem.lookup (getItem_tuple_rev p (Heap.IsSliceOf.new ..) ?_ (by rw [List.size_toArray]; omega)) (by with_unfolding_all rfl)
  have hf := I4.hok.fresh (Nat.le_refl _)
  refine ⟨.ref _, upd H2 _ (.tup xs.reverse), I4.laid (fun b u e => Heap.get?_push_of_some _ e) (Nat.le_refl _) ⟨by simpa using hz, its.reverse, rv.reverse, ?_⟩, rfl, q _ hf⟩
  exact ⟨_, Heap.get?_push_size _ rfl, rfl, _, rfl⟩
end
end Tf
/-! Tf2s: sorting tuples, empty ones too. -/
namespace Tf
open PySem PySem.W PyProof.Rows PySem.SeqAt
section
variable {prog : Program} {w : World} {A : Around} {E : Value → Shared → Prop} {s : Shared}
theorem call_tuple_lt' {Q : Value → Shared → Prop} {l b : Addr} {items items2 : Array Value} {e r : Nat → Bool} (hl : s.heap.IsTuple l items) (hb : s.heap.IsTuple b items2)
    (he : ∀ j (h1 : j < items.size) (h2 : j < items2.size), EqAt A.in1 s items[j] items2[j] (e j)) (hr : ∀ j (h1 : j < items.size) (h2 : j < items2.size), e j = false → RcLt A.in1 s items[j] items2[j] (r j))
    (hq : Q (.bool (firstLt e r (decide (items.size < items2.size)) (List.range (min items.size items2.size)))) s) : wpAny (model prog w) A (call (.builtin "tuple.__lt__") [.ref l, .ref b]) Q E s := by
  obtain ⟨⟨c1, d1, da1, sl1⟩, ho, hc, n, hd⟩ := id hl
  obtain ⟨⟨c2, d2, da2, sl2⟩, ho2, hc2, n2, hd2⟩ := id hb
  simp only at hc hd hc2 hd2
  subst hc hd hc2 hd2
  exact call_meets F.slot_tuple_lt ⟨_, ho, rfl⟩ F.entry_tuple_lt (F.args_tuple_lt_2 _ _) (tuple_ltAt l b items items2 n n2 d1 d2 sl1 sl2 e r) ⟨ho, ho2, he, hr, hq⟩
theorem oneLt_tup {xs ys : List PyData} {a b : Value} {as bs : List Addr} {Q : Bool → Shared → Prop} (ra : Reads s.heap a (.tuple xs) as) (rb : Reads s.heap b (.tuple ys) bs) (h : alike (.tuple xs) (.tuple ys) = true)
    (hu : A.units + min (PyData.tuple xs).depth (PyData.tuple ys).depth < cLine) (hq : Q (dataLt (.tuple xs) (.tuple ys)) s) : wpAny (model prog w) A (oneLt' true a b) Q E s := by
  have hal : alikeAll xs ys = true := by simpa [alike] using h
  cases ra with
  | @tuple l o vs n _ as1 h1 h2 h3 h4 =>
    cases rb with
    | @tuple l' o' vs' n' _ bs1 k1 k2 k3 k4 =>
      have n1 : vs.size = xs.length := by simpa using ReadsAll.length _ _ _ h4
      have n2 : vs'.size = ys.length := by simpa using ReadsAll.length _ _ _ k4
      rw [dataLt_tuple, ← firstLt_toks xs ys hal, ← n1, ← n2] at hq
      rw [oneLt'_eq]
      simp only [if_true]
      refine wpAny_bind (wpAny_cRoomFor (room_here hu) (wpAny_bind ?_))
      refine wpAny_callSpecialIfBound?_slot (T := "tuple") ⟨_, h1, h2⟩ F.slot_tuple_lt ?_
      refine call_tuple_lt' (e := pairEq xs ys) (r := fun j => dataLt (xs.getD j .none) (ys.getD j .none)) ⟨_, h1, h2, _, h3⟩ ⟨_, k1, k2, _, k3⟩ (fun j j1 j2 => ?_) (fun j j1 j2 hj => ?_) (wpAny_truthy_bool hq)
      · have q := eqAt_alikeAll xs ys A.in1 s _ _ _ _ h4 k4 hal (room_in hu) j (by simpa using j1) (by simpa using j2)
        simpa using q
      · have q := rcLt_alikeAll xs ys A.in1 s _ _ _ _ h4 k4 hal (room_in hu) j (by simpa using j1) (by simpa using j2) hj
        simpa using q
def hasItem : PyData → Bool
  | .tuple (_ :: _) => true
  | _ => false
theorem firsts_any {M : Model} : ∀ {vs : List Value} {ds : List PyData}, EachIs (fun v d => ∃ as, Reads s.heap v d as) vs ds → (∀ d ∈ ds, ∃ xs, d = .tuple xs) →
    ∃ os : List (Option Value), os.map (·.isSome) = ds.map hasItem ∧ ∀ (Q : List (Option Value) → Shared → Prop), Q os s → wpAny M A (vs.mapM firstOfTuple') Q E s
  | _, _, .nil, _ => ⟨[], rfl, fun Q h => by rw [List.mapM_nil]; exact wpAny_pure h⟩
  | _, _, .cons (b := d) ⟨as, r⟩ t, ht => by
    obtain ⟨os, e1, e2⟩ := firsts_any t fun d hd => ht d (List.mem_cons_of_mem _ hd)
    obtain ⟨xs, rfl⟩ := ht d (List.mem_cons_self ..)
    cases r with
    | @tuple a o its n _ _ ho hc hd hr =>
      refine ⟨its[0]? :: os, ?_, fun Q h => ?_⟩
      · rw [List.map_cons, List.map_cons, e1]
        congr 1
        have hl := SeqAt.ReadsAll.length _ _ _ hr
        cases xs with
        | nil =>
          have : its.size = 0 := by simpa using hl
          simp [this, hasItem]
        | cons x r =>
          have : 0 < its.size := by
            have : its.size = r.length + 1 := by simpa using hl
            omega
          simp [this, hasItem]
      · rw [List.mapM_cons]
        refine wpAny_bind ?_
        rw [kas_first_eq]
        refine wpAny_bind (Looks.here (show Looks M s.heap (typeOf (.ref a)) o.cls from (Looks.ld ho).andThen .now) ?_)
        rw [hc, if_neg (by first | decide | simp)]
        refine wpAny_bind (listItems_at ho hd (wpAny_pure (wpAny_bind ?_)))
        exact e2 (fun bs s' => wpAny M A (pure (its[0]? :: bs)) Q E s') (wpAny_pure h)
/-- tuples that are alike can be sorted, empty ones too -/
theorem sortsAt_tup {vs : List Value} {ds : List PyData} (e : EachIs (fun v d => ∃ as, Reads s.heap v d as) vs ds) (hal : AllAlike ds) (ht : ∀ d ∈ ds, ∃ xs, d = .tuple xs) (hu : ∀ d, d ∈ ds → A.units + d.depth < cLine) : SortsAt prog w A s (dataKind s.heap ds) vs := by
  by_cases hne : ∀ d, d ∈ ds → ∃ x r, d = .tuple (x :: r)
  · exact SortsAt.data e hal (.inl hne) hu
  have room : ∀ {d d' : PyData}, d ∈ ds → A.units + min d.depth d'.depth < cLine := fun {d d'} hd => Nat.lt_of_le_of_lt (Nat.add_le_add_left (Nat.min_le_left _ _) _) (hu d hd)
  have keys : ∀ v, v ∈ vs → ∃ a, (dataKind s.heap ds).keyOf v = some a := fun v hv => by
    obtain ⟨d, hd, as, r⟩ := e.left v hv
    exact ⟨_, dataKind_some hal hd r⟩
  have some0 : ∃ d ∈ ds, hasItem d = false := by
    refine Classical.byContradiction fun z => hne fun d hd => ?_
    obtain ⟨xs, rfl⟩ := ht d hd
    cases xs with
    | nil => exact absurd ⟨_, hd, rfl⟩ z
    | cons x r => exact ⟨x, r, rfl⟩
  have notall : ∀ os : List (Option Value), os.map (·.isSome) = ds.map hasItem → (os.toArray.all fun x => x.isSome) = false := fun os q => by
    obtain ⟨d, hd, h0⟩ := some0
    have hm : false ∈ os.map (·.isSome) := by rw [q, ← h0]; exact List.mem_map_of_mem hd
    obtain ⟨o, ho, h1⟩ := List.mem_map.mp hm
    rw [List.all_toArray, List.all_eq_false]
    exact ⟨o, ho, by simp [h1]⟩
  cases ds with
  | nil => obtain ⟨d, hd, _⟩ := some0; cases hd
  | cons d0 ds0 =>
  by_cases h0 : hasItem d0 = true
  · refine ⟨keys, general', ?_, fun h2 E Q hq => ?_⟩
    · intro E x y a b Q ha hb hq
      obtain ⟨d, as, hd, ra, rfl⟩ := dataKind_inv ha
      obtain ⟨d', as', hd', rb, rfl⟩ := dataKind_inv hb
      obtain ⟨xs, rfl⟩ := ht d hd
      exact oneLt_alike (f := false) (fun z => by cases z) ra rb (hal _ hd _ hd') (by simp) (room hd) hq
    · obtain ⟨os, q1, q2⟩ := firsts_any (M := model prog w) (A := A) (E := E) e ht
      rw [keyKind'_eq, List.mapM_toArray, map_eq_pure_bind]
      refine wpAny_bind (wpAny_bind (q2 _ (wpAny_pure ?_)))
      have hos : (os.toArray[0]?.bind id).isSome = true := by
        cases os with
        | nil => cases q1
        | cons o r =>
          rw [List.map_cons, List.map_cons] at q1
          injection q1 with q1 _
          rw [h0] at q1
          simpa using q1
      rw [if_neg (by rw [notall os q1]; simp), if_pos hos]
      exact wpAny_pure hq
  · simp only [Bool.not_eq_true] at h0
    refine ⟨keys, oneType', ?_, fun h2 E Q hq => ?_⟩
    · intro E x y a b Q ha hb hq
      obtain ⟨d, as, hd, ra, rfl⟩ := dataKind_inv ha
      obtain ⟨d', as', hd', rb, rfl⟩ := dataKind_inv hb
      obtain ⟨xs, rfl⟩ := ht d hd
      obtain ⟨ys, rfl⟩ := ht d' hd'
      rw [keyLt'_oneType]
      exact oneLt_tup ra rb (hal _ hd _ hd') (room hd) hq
    · obtain ⟨os, q1, q2⟩ := firsts_any (M := model prog w) (A := A) (E := E) e ht
      rw [keyKind'_eq, List.mapM_toArray, map_eq_pure_bind]
      refine wpAny_bind (wpAny_bind (q2 _ (wpAny_pure ?_)))
      have hos : ¬ (os.toArray[0]?.bind id).isSome = true := by
        cases os with
        | nil => cases q1
        | cons o r =>
          rw [List.map_cons, List.map_cons] at q1
          injection q1 with q1 _
          rw [h0] at q1
          simpa using q1
      rw [if_neg (by rw [notall os q1]; simp), if_neg hos]
      rw [oneTypeOnly'_eq, List.mapM_toArray, map_eq_pure_bind]
      refine wpAny_bind (wpAny_bind (wpAny_bind (kas_mapM (r := Value.type "tuple") _ (fun v hv Q' hq' => ?_) (wpAny_pure ?_))))
      · obtain ⟨d, hd, as, r⟩ := e.left v hv
        obtain ⟨xs, rfl⟩ := ht d hd
        exact (looks_reads r).here hq'
      · match vs, h2 with
        | v1 :: v2 :: rest, _ =>
          have hall : ((List.map (fun _ => Value.type "tuple") (v1 :: v2 :: rest)).toArray.all fun x => x == Value.type "tuple") = true := by
            simp only [List.all_toArray, List.all_map, List.all_eq_true]
            intro _ _
            exact beq_self_eq_true _
          have h00 : (List.map (fun _ => Value.type "tuple") (v1 :: v2 :: rest)).toArray[0]? = some (Value.type "tuple") := by simp
          rw [h00]
          simp only [hall, if_true]
          exact wpAny_pure (wpAny_pure hq)
/-- a tuple's items, gathered -/
theorem collect_tup {l : Addr} {vs : List Value} {Q : List Value → Shared → Prop} (ht : s.heap.IsTuple l vs.toArray) (hz : vs.length ≤ sizeLine)
    (hq : Q vs { s with heap := (s.heap.push (seqObj "list" #[] 0)).update s.heap.objs.size (Obj.mapSeq (· ++ vs.toArray)) }) :
    wpAny (model prog w) A (collect (.ref l)) Q E s := by
  obtain ⟨ob, hob, hcl, nn, hda⟩ := id ht
  unfold collect
  refine wpAny_bind (wpAny_runValue (codeAny_builtin entry_proto_collect' ?_))
  show wpAny _ _ (do again (.builtin "list.__iadd__" ⟨[← newList [], .ref l], []⟩)) _ _ s
  refine wpAny_bind (wpAny_newList (wpAny_pure ⟨Code.quiet_builtin _ (by decide +kernel), codeAny_builtin entry_list_iadd' ?_⟩))
  have hob' : (s.heap.push (seqObj "list" #[] 0)).get? l = some ob := Heap.get?_push_of_some _ hob
  have hw : wpAny (model prog w) A (do
      let o ← load s.heap.objs.size
      match o.data with
      | .seq xs _ => pure xs.toList
      | _ => unsupported "internal:collect") Q E { s with heap := (s.heap.push (seqObj "list" #[] 0)).update s.heap.objs.size (Obj.mapSeq (· ++ vs.toArray)) } := by
    refine wpAny_bind (wpAny_load (get?_update_seq (Heap.get?_push_size _ rfl) _) ?_)
    have ev : ((#[] : Array Value) ++ vs.toArray).toList = vs := by simp
    show wpAny _ _ (pure ((#[] : Array Value) ++ vs.toArray).toList) Q E _
    rw [ev]
    exact wpAny_pure hq
  show wpAny _ _ (Builtin.List.listExtendWith (.ref s.heap.objs.size) (.ref l) (.ref s.heap.objs.size)) _ _ { s with heap := s.heap.push (seqObj "list" #[] 0) }
  unfold Builtin.List.listExtendWith
  refine wpAny_bind (wpAny_typeOf (T := "tuple") ⟨ob, hob', hcl⟩ ?_)
  have et : (Value.type "tuple" == Value.type "tuple") = true := by rfl
  rw [if_pos (by rw [et]; simp)]
  refine wpAny_bind (listItems_at hob' hda (wpAny_bind (listItems_at (xs := #[]) (n := 0) (Heap.get?_push_size _ rfl) rfl ?_)))
  rw [if_neg (by simp)]
  refine wpAny_bind (listUpdate_at (xs := #[]) (n := 0) (Heap.get?_push_size _ rfl) rfl (wpAny_pure hw) (Nat.zero_le _) ?_)
  show (#[] ++ vs.toArray).size ≤ sizeLine + 1
  simp only [Array.size_append, List.size_toArray, List.length_nil]
  omega
theorem sorted_seq {l : Addr} {vs : List Value} {κ : KeyKind} {Q : Value → Shared → Prop} (hl : s.heap.IsList l vs.toArray ∨ s.heap.IsTuple l vs.toArray) (S : SortsAt prog w A.in1.in1 { s with heap := sortingHeap (copyHeap s.heap vs) (s.heap.objs.size + 1) vs } κ vs) (hL : vs.length ≤ sizeLine)
    (hq : Q (.ref (s.heap.objs.size + 1)) { s with heap := sortedAll s.heap vs (sortVals κ false vs vs).toArray }) : wpAny (model prog w) A (call (.builtin "sorted") [.ref l]) Q E s := by
  rcases hl with hl | hl
  · exact sorted_vals hl S hL hq
  refine Calls.call_function_entry kind_sorted plain_sorted entry_sorted (args_sorted1 _) ?_
  unfold Builtin.«sorted»
  refine wpAny_bind (m := checkCount "sorted" 1 1 _) (wpAny_pure (wpAny_bind (collect_tup hl hL (wpAny_bind (wpAny_newList ?_ hL)))))
  have sz : ((s.heap.push (seqObj "list" #[] 0)).update s.heap.objs.size (Obj.mapSeq (· ++ vs.toArray))).objs.size = s.heap.objs.size + 1 := by
    rw [Heap.size_update, size_push']
  show wpAny _ _ _ _ _ { s with heap := copyHeap s.heap vs }
  rw [sz]
  refine wpAny_bind (wpAny_holding (wpAny_call_entry slot_list_sort ⟨_, copyHeap_at s.heap vs, rfl⟩ entry_list_sort ?bd (args_list_sort _)))
  case bd =>
    exact list_sort_vals (s := { s with heap := copyHeap s.heap vs }) (copyHeap_at s.heap vs) S hL ⟨_, rfl, wpAny_pure ⟨_, rfl, hq⟩⟩
end
open L2
theorem EachIs.of_rep {K : PySem.W.Frag} {F : Hp} {P : Value → V × D → Prop} : ∀ {xs : List V} {ds : List D} {us : List Value}, RepA K F xs ds → Vals xs us → (∀ x d u, Rep K F x d → RelV x u → P u (x, d)) → EachIs P us (xs.zip ds)
  | _, _, _, .nil, .nil, _ => .nil
  | _, _, _, .cons r a, .cons v t, h => .cons (h _ _ _ r v) (EachIs.of_rep a t h)
theorem rep_zip {K : PySem.W.Frag} {F : Hp} : ∀ {xs : List V} {ds : List D}, RepA K F xs ds → ∀ b ∈ xs.zip ds, Rep K F b.1 b.2
  | _, _, .nil, b, hb => by cases hb
  | _, _, .cons r a, b, hb => by
    rcases List.mem_cons.mp hb with rfl | hb
    · exact r
    · exact rep_zip a b hb
theorem repA_of {K : PySem.W.Frag} {F : Hp} : ∀ (bs : List (V × D)), (∀ b ∈ bs, Rep K F b.1 b.2) → RepA K F (bs.map (·.1)) (bs.map (·.2))
  | [], _ => .nil
  | b :: bs, h => .cons (h b (List.mem_cons_self ..)) (repA_of bs fun c hc => h c (List.mem_cons_of_mem _ hc))
theorem zip_snd : ∀ {xs : List V} {ds : List D}, xs.length = ds.length → (xs.zip ds).map (·.2) = ds
  | [], [], _ => rfl
  | x :: xs, d :: ds, h => by rw [List.zip_cons_cons, List.map_cons, zip_snd (by simpa using h)]
  | [], _ :: _, h => by cases h
  | _ :: _, [], h => by cases h
theorem vals_each : ∀ {us : List Value} {bs : List (V × D)}, EachIs (fun v b => RelV b.1 v) us bs → Vals (bs.map (·.1)) us
  | _, _, .nil => .nil
  | _, _, .cons r t => .cons r (vals_each t)
theorem sortedMap (bs : List (V × D)) : (bs.mergeSort (dataLe false fun b : V × D => b.2)).map (·.2) = (bs.map (·.2)).mergeSort leD :=
  List.map_mergeSort fun a _ b _ => rfl
theorem sortOk_inv {ds : List D} (h : sortOk ds = true) : AllAlike ds ∧ ((∀ d ∈ ds, ∃ xs, d = .tuple xs) ∨ (∀ d, d ∈ ds → d ≠ .none ∧ ∀ xs, d ≠ .tuple xs)) ∧ (∀ d ∈ ds, d.depth ≤ 150) ∧ ds.length ≤ lim := by
  unfold sortOk at h
  simp only [Bool.and_eq_true, Bool.or_eq_true, decide_eq_true_eq] at h
  obtain ⟨⟨⟨h1, h2⟩, h3⟩, h4⟩ := h
  refine ⟨fun d hd e he => List.all_eq_true.mp (List.all_eq_true.mp h1 d hd) e he, ?_, fun d hd => of_decide_eq_true (List.all_eq_true.mp h3 d hd), h4⟩
  rcases h2 with h2 | h2
  · refine .inl fun d hd => ?_
    have := List.all_eq_true.mp h2 d hd
    cases d with
    | tuple xs => exact ⟨xs, rfl⟩
    | _ => cases this
  · refine .inr fun d hd => ?_
    have := List.all_eq_true.mp h2 d hd
    cases d with
    | tuple xs => cases this
    | none => cases this
    | _ => exact ⟨fun z => (nomatch z), fun xs z => (nomatch z)⟩
section
variable {X : Cx}
/-- sorted(x), a list or a tuple -/
def rSrt (K : PySem.W.Frag) : List V → Hp → VK → Prop := fun xs H Q => ∃ x F d, xs = [x] ∧ Le F H ∧ Rep K F x d ∧ ansL K F H ((seqOf d).bind srtD) Q
theorem call_srt (hu : X.A.units + 200 < cLine) : CallR X (.builtin "sorted") (rSrt X.K) := by
  intro pins s σ H xs us Q I r h
  obtain ⟨x, F, d, rfl, l, hd, q⟩ := h
  have main : ∀ (a : Addr) (vs : List V) (ds : List D) (its : List Value), us = [.ref a] → Vals vs its → its.length ≤ sizeLine → (s.heap.IsList a its.toArray ∨ s.heap.IsTuple a its.toArray) → RepA X.K F vs ds → ansL X.K F H (srtD ds) Q → wpAny (model X.prog X.w) X.A (call (.builtin "sorted") us) (EP X pins σ Q) X.xe s := by
    intro a vs ds its e1 rv hz hl ra qq
    subst e1
    unfold srtD at qq
    split at qq
    · rename_i hok
      obtain ⟨h1, h2, h3, h4⟩ := sortOk_inv hok
      have hlen := ra.length
      have hsnd := zip_snd hlen
      have er : EachIs (fun v (b : V × D) => ∃ as, Reads s.heap v b.2 as) its (vs.zip ds) := EachIs.of_rep ra rv fun x d u rx ru => rx.reads I rfl l ru
      have eR : EachIs (fun v (b : V × D) => RelV b.1 v) its (vs.zip ds) := EachIs.of_rep ra rv fun x d u rx ru => ru
      have er' : EachIs (fun v (b : V × D) => ∃ as, Reads (sortingHeap (copyHeap s.heap its) (s.heap.objs.size + 1) its) v b.2 as) its (vs.zip ds) := er.mono fun _ _ ⟨as, rr⟩ => ⟨as, PyProof.Rows.Reads.keeps (fun _ _ => sorting_copy_old) rr⟩
      have hal : AllAlike ((vs.zip ds).map fun b => b.2) := by rw [hsnd]; exact h1
      have hbd : ∀ d, d ∈ (vs.zip ds).map (fun b => b.2) → X.A.in1.in1.units + d.depth < cLine := fun d hd => by
        rw [hsnd] at hd
        have := h3 d hd
        show X.A.units + 1 + 1 + d.depth < cLine
        omega
      have SA : SortsAt X.prog X.w X.A.in1.in1 { s with heap := sortingHeap (copyHeap s.heap its) (s.heap.objs.size + 1) its } (dataKind (sortingHeap (copyHeap s.heap its) (s.heap.objs.size + 1) its) ((vs.zip ds).map fun b => b.2)) its := by
        have em := each_map (R := fun v d => ∃ as, Reads (sortingHeap (copyHeap s.heap its) (s.heap.objs.size + 1) its) v d as) (fun b : V × D => b.2) er'
        rcases h2 with h2 | h2
        · exact sortsAt_tup (s := { s with heap := sortingHeap (copyHeap s.heap its) (s.heap.objs.size + 1) its }) em hal (by rw [hsnd]; exact h2) hbd
        · exact SortsAt.data (s := { s with heap := sortingHeap (copyHeap s.heap its) (s.heap.objs.size + 1) its }) em hal (.inr (by rw [hsnd]; exact h2)) hbd
      refine sorted_seq hl SA hz ?_
      have eo := sortVals_data false eR er' hal
      have hn : H (s.heap.objs.size + 1) = none := I.hok.fresh (Nat.le_succ _)
      obtain ⟨n, hat⟩ := sortedAll_at s.heap its (sortVals (dataKind (sortingHeap (copyHeap s.heap its) (s.heap.objs.size + 1) its) ((vs.zip ds).map fun b => b.2)) false its its).toArray
      have rs : RepA X.K F (((vs.zip ds).mergeSort (dataLe false fun b : V × D => b.2)).map (·.1)) (ds.mergeSort leD) := by
        have q1 := repA_of (K := X.K) (F := F) ((vs.zip ds).mergeSort (dataLe false fun b : V × D => b.2)) fun b hb => rep_zip ra b ((List.mergeSort_perm _ _).mem_iff.mp hb)
        rw [sortedMap, hsnd] at q1
        exact q1
      have hl2 : (((vs.zip ds).mergeSort (dataLe false fun b : V × D => b.2)).map (·.1)).length ≤ sizeLine := by
        rw [List.length_map, List.length_mergeSort, List.length_zip, hlen, Nat.min_self, sizeLine_eq]
        have : lim = 1000000 := rfl
        omega
      exact ⟨.ref (s.heap.objs.size + 1), upd H (s.heap.objs.size + 1) (.lst (((vs.zip ds).mergeSort (dataLe false fun b : V × D => b.2)).map (·.1))), I.laid (t' := s.toks) (fun b o e => sortedAll_old e) (Nat.le_succ _) ⟨hl2, _, n, vals_each eo, hat⟩, rfl,
        qq _ _ F _ (.loose l hn) hn (l.non hn) upd_same rs⟩
    · exact qq.elim
  unfold seqOf at q
  split at q
  · cases hd with
    | lst h1 a1 =>
      obtain ⟨its, rv, pl, hz⟩ := I.list (SqL.of (l _ _ h1))
      exact main _ _ _ its (Vals.ref1 r) rv (by rw [← rv.length]; exact hz) (.inl pl.isList) a1 q
  · cases hd with
    | tup h1 a1 =>
      obtain ⟨its, rv, ht, hz⟩ := I.tuple (l.sqT h1)
      exact main _ _ _ its (Vals.ref1 r) rv (by rw [← rv.length]; exact hz) (.inr ht) a1 q
  · exact q.elim
end
end Tf
/-! Tf2t: set(xs) of tuples of ints, any number of items, fewer than 63 different ones; sorted(set(xs)). -/
namespace Tf
open PySem PySem.Spec PyProof.Rows L2
section
variable {P : Program} {w : World} {A : Around} {E : Value → Shared → Prop} {s : Shared}
/-- few different ones -/
def Few (ks : List (Addr × List Int)) : Prop := ∀ L : List (Addr × List Int), (∀ p ∈ L, p ∈ ks) → (L.map (·.2)).Nodup → L.length + 1 < 64
theorem upd_few {It : Addr} {fp wr : List Addr} {G : Array GenState → Array GenState → Prop} {Pv : Nat → Value → Prop} {St : Nat → Shared → Prop} {R : Result → Shared → Prop} {ks : List (Addr × List Int)}
    (W : WalksS P w A.in1 It fp wr G ks.length Pv St) (a : Addr) (ha : a ∉ fp) (few : Few ks) (hv : ∀ i v, Pv i v → ∃ p, ks[i]? = some p ∧ v = .ref p.1)
    (hb : Heap) (tp : ∀ p ∈ ks, IsT P w hb p.2 p.1) (fa : hb.get? a = none) (fw : ∀ b ∈ wr, hb.get? b = none) (room : A.in1.units < cLine) :
    ∀ (m i : Nat) (s : Shared) (L : List (Addr × List Int)) (es : Array (Int × Value)) (ep : Nat) (t : SetTable), ks.length - i = m → i ≤ ks.length → St i s → (∀ b o, hb.get? b = some o → s.heap.get? b = some o) → SetTR P w s.heap a L es ep t → Got ks i L →
      (∀ s' L es ep t, Moved (a :: wr) G s s' → SetTR P w s'.heap a L es ep t → Got ks ks.length L → (∀ b o, hb.get? b = some o → s'.heap.get? b = some o) → R (.ok (.ret .none)) s') →
      codeAny (model P w) A (.builtin "set.update.loop" ⟨[.ref a, .ref It], []⟩) R s := by
  have aw : a ∉ wr := fun z => ha (W.sub _ z)
  have inc : ∀ b ∈ wr, b ∈ a :: wr := fun b z => List.mem_cons_of_mem _ z
  have keep : ∀ {s s' : Shared}, Moved wr G s s' → (∀ b o, hb.get? b = some o → s.heap.get? b = some o) → ∀ b o, hb.get? b = some o → s'.heap.get? b = some o := fun mv kp b o q =>
    mv.heap b o (fun z => by rw [fw b z] at q; cases q) (kp b o q)
  intro m
  induction m with
  | zero =>
    intro i s L es ep t e1 e2 e3 kp T g fin
    obtain rfl : i = ks.length := by omega
    refine codeAny_builtin F.entry_set_update_loop ?_; rw [Around.under_plainId F.plain_set_update_loop _]
    show wpAny _ A.in1 (pyNext (.ref It) >>= _) _ _ s
    refine wpAny_bind (W.done s _ _ e3 fun s1 mv => ?_)
    have kp1 := keep mv kp
    refine wpAny_pure (fin s1 L es ep t (mv.mono inc) (T.keep (fun o q => mv.heap a o aw q) fun p hp => isT_keep (tp p ?_) kp1) g kp1)
    exact List.mem_of_mem_take (g.sub p hp)
  | succ m ih =>
    intro i s L es ep t e1 e2 e3 kp T g fin
    have lt : i < ks.length := by omega
    refine codeAny_builtin F.entry_set_update_loop ?_; rw [Around.under_plainId F.plain_set_update_loop _]
    show wpAny _ A.in1 (pyNext (.ref It) >>= _) _ _ s
    refine wpAny_bind (W.item i s _ _ lt e3 fun v s1 hP st1 mv => ?_)
    obtain ⟨p, hp, rfl⟩ := hv i v hP
    have kp1 := keep mv kp
    have inL : ∀ q ∈ L, q ∈ ks := fun q z => List.mem_of_mem_take (g.sub q z)
    have T1 : SetTR P w s1.heap a L es ep t := T.keep (fun o q => mv.heap a o aw q) fun q z => isT_keep (tp q (inL q z)) kp1
    have hx : IsT P w s1.heap p.2 p.1 := isT_keep (tp p (List.mem_of_getElem? hp)) kp1
    show wpAny _ A.in1 (holding [Value.ref p.1] (setAdd a (.ref p.1)) >>= _) _ _ s1
    refine wpAny_bind (wpAny_holding ?_); unfold setAdd
    refine wpAny_holding (wpAny_bind (wpAny_pyHash_tuple room hx ?_))
    refine add_at (s := { s1 with toks := s1.toks + (p.2.length + 1) }) T1 hx room (few L inL T1.nd) fun bb h2 L2 es2 ep2 t2 same T2 c1 c2 => ?_
    have g2 : Got ks (i + 1) L2 := by
      by_cases c : p.2 ∈ L.map (·.2)
      · rw [c1 c]; exact g.same hp c
      · exact g.more hp (c2 c)
    have kp2 : ∀ b o, hb.get? b = some o → h2.get? b = some o := fun b o q => (same.2 b (fun z => by rw [z, fa] at q; cases q)).trans (kp1 b o q)
    refine wpAny_pure ⟨plainId_quiet F.plain_set_update_loop _, ih (i + 1) _ L2 es2 ep2 t2 (by omega) lt (W.frame _ s1 _ _ st1 (Nat.le_add_right _ _) fun b z o q => ?_) kp2 T2 g2 fun s3 L3 es3 ep3 t3 mv3 T3 g3 kp3 => ?_⟩
    · rw [same.2 b (fun z' : b = a => ha (by rw [← z']; exact z))]; exact q
    · refine fin s3 L3 es3 ep3 t3 (Moved.trans W.gtrans ((mv.mono inc).then_heap (Nat.le_add_right _ _) fun b o z q => ?_) mv3) T3 g3 kp3
      rw [same.2 b (fun z' : b = a => z (by rw [z']; exact List.mem_cons_self))]; exact q
/-- a set as it is made -/
abbrev set0 (w : World) : Obj := { cls := .type "set", dict := none, data := .set #[] 0 (.fresh 0 0 (!w.params.followText "set-order")) }
theorem set_few {l : Addr} {items : Array Value} (ks : List (Addr × List Int)) {Q : Value → Shared → Prop} (calm : A.handled = none) (hl : s.heap.IsList l items) (hit : items.toList = ks.map fun p => Value.ref p.1)
    (tp : ∀ p ∈ ks, IsT P w s.heap p.2 p.1) (few : Few ks) (room : A.units + 3 < cLine)
    (fin : ∀ (h2 : Heap) (tk : Nat) L es ep t, SetTR P w h2 s.heap.objs.size L es ep t → Got ks ks.length L → (∀ b o, s.heap.get? b = some o → h2.get? b = some o) → Q (.ref s.heap.objs.size) { s with heap := h2, toks := tk }) :
    wpAny (model P w) A (call (.type "set") [.ref l]) Q E s := by
  have sz : items.size = ks.length := by
    have q := congrArg List.length hit
    simpa using q
  obtain ⟨c, tl, hmro⟩ := F.called_set.mro
  have hmade := F.called_set.made
  have hsub := F.called_set.sub
  refine wpAny_call (codeAny_of_tree ?_)
  show wpAny _ _ (callAny (.type "set") _) _ _ _
  refine wpAny_pure ⟨Code.quiet_builtin _ (by decide +kernel), codeAny_builtin F.entry_type_call ?_⟩
  rw [Around.under_plain (weight_type_call_type "set" [.ref l] []) rfl]
  have h1 := F.called_set.notType
  have h2 := F.called_set.canCreate
  have hct := F.typeCall_set_1 (.ref l)
  repeat (any_goals (first | assumption | wp_step))
  refine codeAny_mono (code_set_led1 (.ref l) (E := E) (Q₁ := fun ob s1 => ob = .ref s.heap.objs.size ∧ s1 = { s with heap := s.heap.push (set0 w) }) ⟨rfl, rfl⟩) fun r s1 hr => ?_
  cases r with
  | error e => exact hr
  | ok fl =>
    cases fl with
    | ret ob =>
      obtain ⟨rfl, rfl⟩ := hr
      have hS : (s.heap.push (set0 w)).get? s.heap.objs.size = some (set0 w) := Heap.get?_push_size _ rfl
      have hT : Shared.TypeIs { s with heap := s.heap.push (set0 w) } (.ref s.heap.objs.size) "set" := ⟨_, hS, rfl⟩
      have hli := F.called_set.init.lookup
      have hbi := F.called_set.init.bind (.ref s.heap.objs.size)
      repeat (any_goals (first | assumption | wp_step))
      refine codeAny_mono (codeAny_call_builtin (R := wants (fun r s2 => r = .none ∧ ∃ h2 tk L es ep t, s2 = { s with heap := h2, toks := tk } ∧ SetTR P w h2 s.heap.objs.size L es ep t ∧ Got ks ks.length L ∧
          (∀ b o, s.heap.get? b = some o → h2.get? b = some o)) E) F.called_set.init.plain F.entry_set_init (check_set_init_1 hT ?_)) fun r2 s2 hr2 => ?_
      · obtain ⟨⟨ocls, odict, odata, oslots⟩, hol, hcl, nl, hdl⟩ := hl
        simp only at hcl hdl
        subst hcl; subst hdl
        have hol1 : (s.heap.push (set0 w)).get? l = some { cls := .type "list", dict := odict, data := .seq items nl, slots := oslots } := Heap.get?_push_of_some _ hol
        have hsls := F.sub_list_set
        have hslf := F.sub_list_frozenset
        have hne : (Value.type "list" == Value.type "dict") = false := by decide
        have hl1 : (s.heap.push (set0 w)).IsList l items := ⟨_, hol1, rfl, nl, rfl⟩
        unfold Builtin.«set.__init__» noKeywords Builtin.Frozenset.updateFrom
        generalize hPI : pyIter = PI
        wp_walk
        subst hPI
        refine wpAny_pyIter_list hl1 (wpAny_bind (wpAny_runValue ?_))
        have lS : l < s.heap.objs.size := Heap.lt_size hol
        have c3 : A.in1.in1.in1.handled = none := by simp [calm]
        have z1 : (s.heap.push (set0 w)).objs.size = s.heap.objs.size + 1 := Heap.size_push ..
        have nI : l ≠ (s.heap.push (set0 w)).objs.size := by rw [z1]; exact Nat.ne_of_lt (Nat.lt_succ_of_lt lS)
        have nf : s.heap.objs.size ∉ [(s.heap.push (set0 w)).objs.size, l] := by
          rw [z1]; simp only [List.mem_cons, List.not_mem_nil, or_false, not_or]
          exact ⟨Nat.ne_of_lt (Nat.lt_succ_self _), Nat.ne_of_gt lS⟩
        have hval : ∀ (i : Nat) (v : Value), items[i]? = some v → ∃ p, ks[i]? = some p ∧ v = .ref p.1 := fun i v hv => by
          have q : items.toList[i]? = some v := by rw [Array.getElem?_toList]; exact hv
          rw [hit, List.getElem?_map] at q
          obtain ⟨p, hp, e⟩ := Option.map_eq_some_iff.mp q
          exact ⟨p, hp, e.symm⟩
        have gone : ∀ b, s.heap.objs.size ≤ b → s.heap.get? b = none := fun b hb => by
          cases q : s.heap.get? b with
          | none => rfl
          | some o => exact absurd (Nat.lt_of_lt_of_le (Heap.lt_size q) hb) (Nat.lt_irrefl _)
        have WL := (Walks.list (prog := P) (w := w) c3 (s.heap.push (set0 w)).objs.size l nI items).toS
        rw [sz] at WL
        refine upd_few WL s.heap.objs.size nf few hval s.heap tp (gone _ (Nat.le_refl _)) (fun b hb => gone b (by rw [List.mem_singleton.mp hb, z1]; exact Nat.le_succ _)) room ks.length 0 _ [] #[] 0 _ (by omega) (Nat.zero_le _)
          ⟨⟨_, Heap.get?_push_size _ rfl, rfl, rfl⟩, (hl1.push _)⟩ (fun b o e => Heap.get?_push_of_some _ (Heap.get?_push_of_some _ e)) (setTR_fresh (Heap.get?_push_of_some _ hS)) (Got.zero ks) ?hR
        case hR =>
          intro s3 L es ep t mv T g kp
          obtain ⟨h3, g3, d3, tk3, os3⟩ := s3
          obtain rfl : g3 = s.gens := mv.gens
          obtain rfl : d3 = s.drawn := mv.drawn
          obtain rfl : os3 = s.os := mv.os
          show wpAny _ _ _ _ _ _
          refine wpAny_pure ?_
          show wpAny _ _ (ret Value.none) _ _ _
          exact wpAny_pure ⟨rfl, h3, tk3, L, es, ep, t, rfl, T, g, kp⟩
      · cases r2 with
        | error e => exact hr2
        | ok fl2 =>
          cases fl2 with
          | ret r =>
            obtain ⟨rfl, h3, tk, L, es, ep, t, rfl, T, g, kp⟩ := hr2
            repeat (any_goals (first | assumption | wp_step))
            exact fin _ _ _ _ _ _ T g kp
          | _ => exact hr2.elim
    | _ => exact hr.elim
end
end Tf
/-! Tf2v: rows of numbers in order; sorted(set(xs)). -/
namespace Tf
open PySem PySem.W PyProof.Rows
theorem leI_total : ∀ a b : List Int, leI a b = true ∨ leI b a = true
  | [], _ => .inl rfl
  | _ :: _, [] => .inr rfl
  | x :: xs, y :: ys => by
    unfold leI
    by_cases h : x = y
    · subst h; simp only [if_true]; exact leI_total xs ys
    · rw [if_neg h, if_neg (fun z => h z.symm)]
      simp only [decide_eq_true_eq]; omega
theorem leI_anti : ∀ a b : List Int, leI a b = true → leI b a = true → a = b
  | [], [], _, _ => rfl
  | [], _ :: _, _, h => by cases h
  | _ :: _, [], h, _ => by cases h
  | x :: xs, y :: ys, h1, h2 => by
    unfold leI at h1 h2
    by_cases h : x = y
    · subst h; simp only [if_true] at h1 h2; rw [leI_anti xs ys h1 h2]
    · rw [if_neg h] at h1; rw [if_neg (fun z => h z.symm)] at h2
      simp only [decide_eq_true_eq] at h1 h2; omega
theorem leI_trans : ∀ a b c : List Int, leI a b = true → leI b c = true → leI a c = true
  | [], _, _, _, _ => rfl
  | _ :: _, [], _, h, _ => by cases h
  | _ :: _, _ :: _, [], _, h => by cases h
  | x :: xs, y :: ys, z :: zs, h1, h2 => by
    unfold leI at h1 h2 ⊢
    by_cases h : x = y
    · subst h
      simp only [if_true] at h1
      by_cases h' : x = z
      · subst h'; simp only [if_true] at h2 ⊢; exact leI_trans xs ys zs h1 h2
      · rw [if_neg h'] at h2 ⊢; exact h2
    · rw [if_neg h] at h1
      simp only [decide_eq_true_eq] at h1
      by_cases h' : y = z
      · subst h'; rw [if_neg h]; exact decide_eq_true h1
      · rw [if_neg h'] at h2
        simp only [decide_eq_true_eq] at h2
        rw [if_neg (by omega)]; exact decide_eq_true (by omega)
/-- two rows in order with the same things are the same -/
theorem sorted_eq {A : Type} {le : A → A → Bool} (anti : ∀ a b, le a b = true → le b a = true → a = b) : ∀ {xs ys : List A}, xs.Pairwise (fun a b => le a b = true) → ys.Pairwise (fun a b => le a b = true) → xs.Perm ys → xs = ys
  | [], ys, _, _, p => by rw [List.nil_perm.mp p]
  | x :: xs, [], _, _, p => by cases (List.perm_nil.mp p)
  | x :: xs, y :: ys, h1, h2, p => by
    obtain ⟨a1, a2⟩ := List.pairwise_cons.mp h1
    obtain ⟨b1, b2⟩ := List.pairwise_cons.mp h2
    have e : x = y := by
      rcases List.mem_cons.mp (p.mem_iff.mp (List.mem_cons_self (a := x))) with z | z
      · exact z
      · rcases List.mem_cons.mp (p.mem_iff.mpr (List.mem_cons_self (a := y))) with z' | z'
        · exact z'.symm
        · exact anti x y (a1 y z') (b1 x z)
    subst e
    rw [sorted_eq anti a2 b2 p.cons_inv]
theorem sortI (ks : List (List Int)) : (ks.mergeSort leI).Pairwise (fun a b => leI a b = true) :=
  List.pairwise_mergeSort (fun a b c h1 h2 => leI_trans a b c h1 h2) (fun a b => by
    rcases leI_total a b with h | h
    · simp [h]
    · simp [h]) ks
theorem rowLt_ints : ∀ a b : List Int, PyProof.Rows.lexLt itemOrd (keyToksAll (b.map .int)) (keyToksAll (a.map .int)) = !leI a b
  | [], [] => by simp only [List.map_nil, leI]; decide
  | [], y :: ys => by
    rw [List.map_nil, List.map_cons, toks_all_cons]
    simp only [leI, keyToksAll]
    rw [lex_diff (by simp)]
    decide
  | x :: xs, [] => by
    rw [List.map_nil, List.map_cons, toks_all_cons]
    simp only [leI, keyToksAll]
    rw [lex_diff (by simp)]
    decide
  | x :: xs, y :: ys => by
    rw [List.map_cons, List.map_cons, dataLt_cons (by simp [alike])]
    unfold leI
    by_cases h : x = y
    · subst h
      rw [if_pos (by simp [PyData.eqv]), if_pos rfl]
      exact rowLt_ints xs ys
    · rw [if_neg (by simp [PyData.eqv]; omega), if_neg h, dataLt_int]
      rw [Bool.eq_iff_iff]; simp; omega
theorem leD_encI (a b : List Int) : leD (encI a) (encI b) = leI a b := by
  unfold leD encI
  rw [dataLt_tuple, rowLt_ints, Bool.not_not]
theorem perm_lift {A B : Type} {f : A → B} {us vs : List B} (h : us.Perm vs) : ∀ {L : List A}, vs = L.map f → ∃ L1 : List A, L1.Perm L ∧ us = L1.map f := by
  induction h with
  | nil => intro L e; exact ⟨[], by rw [List.map_eq_nil_iff.mp e.symm], rfl⟩
  | cons x p ih =>
    intro L e
    cases L with
    | nil => cases e
    | cons l L =>
      simp only [List.map_cons, List.cons.injEq] at e
      obtain ⟨L1, p1, e1⟩ := ih e.2
      exact ⟨l :: L1, p1.cons l, by rw [List.map_cons, ← e.1, e1]⟩
  | swap x y l =>
    intro L e
    match L, e with
    | a :: b :: L, e =>
      simp only [List.map_cons, List.cons.injEq] at e
      exact ⟨b :: a :: L, .swap .., by simp only [List.map_cons]; rw [← e.1, ← e.2.1, ← e.2.2]⟩
  | trans p1 p2 ih1 ih2 =>
    intro L e
    obtain ⟨L2, q2, e2⟩ := ih2 e
    obtain ⟨L1, q1, e1⟩ := ih1 e2
    exact ⟨L1, q1.trans q2, e1⟩
open L2 PySem.Spec
section
variable {P : Program} {w : World} {A : Around} {E : Value → Shared → Prop} {s : Shared}
theorem isT_reads {h : Heap} {k : List Int} {b : Addr} (x : IsT P w h k b) : ∃ as, Reads h (.ref b) (encI k) as := by
  obtain ⟨o, items, n, ho, hc, hd, hi⟩ := x
  have go : ∀ {k : List Int} {vs : List Value}, IntsAre vs k → ReadsAll h vs (k.map .int) [] := by
    intro k vs hv
    induction hv with
    | nil => exact .nil
    | cons n t _ ih => exact .cons (.int n t) ih
  exact ⟨_, .tuple ho hc hd (go (ints_of_items hi))⟩
theorem alike_rows (a b : List Int) : alike (encI a) (encI b) = true := by
  unfold encI
  simp only [alike]
  exact alike_ints a b
theorem depth_row (a : List Int) : (encI a).depth ≤ 1 := by
  unfold encI
  simp only [PyData.depth, depth_ints]
  omega
theorem sorted_few {a : Addr} {L : List (Addr × List Int)} {es : Array (Int × Value)} {ep : Nat} {t : SetTable} {Q : Value → Shared → Prop} (R : SetTR P w s.heap a L es ep t) (calm : A.handled = none) (room : A.units + 200 < cLine)
    (fin : ∀ s2 p (out : Array Value) (c : Nat) (L2 : List (Addr × List Int)), (∀ b o, s.heap.get? b = some o → s2.heap.get? b = some o) → s2.gens = s.gens → s2.os = s.os → s.heap.objs.size ≤ p →
      s2.heap.get? p = some (seqObj "list" out c) → out.toList = L2.map (fun q => Value.ref q.1) → L2.Perm L → L2.Pairwise (fun q r => leI q.2 r.2 = true) → Q (.ref p) s2) :
    wpAny (model P w) A (call (.builtin "sorted") [.ref a]) Q E s := by
  obtain ⟨o, ho, hex, hd⟩ := R.ob
  have few := R.few
  refine Calls.call_function_entry kind_sorted plain_sorted entry_sorted (args_sorted1 _) ?_
  unfold Builtin.«sorted»
  refine wpAny_bind (m := checkCount "sorted" 1 1 _) (wpAny_pure (wpAny_bind ?_))
  refine collect_set (A := A.in1) calm ⟨o, ho, hex.1, hd⟩ R.fits (by rw [R.size]; unfold scanBound; omega) R.tab.ris R.led fun s1 vs k1 hz g1 o1 pm => ?_
  have hes : es.toList.map (·.2) = L.map fun q => Value.ref q.1 := by
    rw [R.rows]; unfold L2.rowsOf; rw [List.map_map] <;> rfl
  obtain ⟨L1, p1, rfl⟩ := perm_lift pm hes
  have hl1 : L1.length < 64 := by rw [p1.length_eq]; exact few
  refine wpAny_bind (wpAny_newList ?_ (by rw [sizeLine_eq, List.length_map]; omega))
  have hoL : (s1.heap.push (seqObj "list" (L1.map fun q => Value.ref q.1).toArray 0)).get? s1.heap.objs.size = some (seqObj "list" (L1.map fun q => Value.ref q.1).toArray 0) := Heap.get?_push_size _ rfl
  generalize hH : s1.heap.push (seqObj "list" (L1.map fun q => Value.ref q.1).toArray 0) = hp at hoL
  have kp : ∀ b u, s.heap.get? b = some u → b ≠ s1.heap.objs.size ∧ hp.get? b = some u := fun b u e => by
    have q := k1 b u e
    refine ⟨Nat.ne_of_lt (Heap.lt_size q), ?_⟩
    rw [← hH]; exact Heap.get?_push_of_some _ q
  have eR : EachIs (fun v (p : Addr × List Int) => v = Value.ref p.1) (L1.map fun q => Value.ref q.1) L1 := by
    have go : ∀ l : List (Addr × List Int), EachIs (fun v (p : Addr × List Int) => v = Value.ref p.1) (l.map fun q => Value.ref q.1) l := by
      intro l
      induction l with
      | nil => exact .nil
      | cons x l ih => exact .cons rfl ih
    exact go L1
  have er : EachIs (fun v (p : Addr × List Int) => ∃ as, Reads (sortingHeap hp s1.heap.objs.size (L1.map fun q => Value.ref q.1)) v (encI p.2) as) (L1.map fun q => Value.ref q.1) L1 := by
    have go : ∀ l : List (Addr × List Int), (∀ p ∈ l, p ∈ L) → EachIs (fun v (p : Addr × List Int) => ∃ as, Reads (sortingHeap hp s1.heap.objs.size (L1.map fun q => Value.ref q.1)) v (encI p.2) as) (l.map fun q => Value.ref q.1) l := by
      intro l
      induction l with
      | nil => intro _; exact .nil
      | cons x l ih =>
        intro hm
        refine .cons ?_ (ih fun p hp => hm p (List.mem_cons_of_mem _ hp))
        obtain ⟨as, r⟩ := isT_reads (R.tup x (hm x (List.mem_cons_self ..)))
        exact ⟨as, PyProof.Rows.Reads.keeps (fun b u e => sortingHeap_old (kp b u e).1 (kp b u e).2) r⟩
    exact go L1 fun p hp => p1.mem_iff.mp hp
  have hal : AllAlike (L1.map fun p => encI p.2) := AllAlike.of fun b b' => alike_rows b.2 b'.2
  have SA : SortsAt P w A.in1.in1 { s1 with heap := sortingHeap hp s1.heap.objs.size (L1.map fun q => Value.ref q.1) } (dataKind (sortingHeap hp s1.heap.objs.size (L1.map fun q => Value.ref q.1)) (L1.map fun p => encI p.2)) (L1.map fun q => Value.ref q.1) := by
    refine sortsAt_tup (s := { s1 with heap := sortingHeap hp s1.heap.objs.size (L1.map fun q => Value.ref q.1) }) (each_map (R := fun v d => ∃ as, Reads (sortingHeap hp s1.heap.objs.size (L1.map fun q => Value.ref q.1)) v d as) (fun p : Addr × List Int => encI p.2) er) hal (fun d hd => ?_) fun d hd => ?_
    · obtain ⟨p, _, rfl⟩ := List.mem_map.mp hd
      exact ⟨_, rfl⟩
    · obtain ⟨p, _, rfl⟩ := List.mem_map.mp hd
      have := depth_row p.2
      show A.units + 1 + 1 + (encI p.2).depth < cLine
      omega
  refine wpAny_bind (wpAny_holding (wpAny_call_entry slot_list_sort ⟨_, hoL, rfl⟩ entry_list_sort (list_sort_vals (s := { s1 with heap := hp }) hoL SA (by rw [sizeLine_eq, List.length_map]; omega) ⟨_, rfl, ?_⟩) (args_list_sort _)))
  have eo := sortVals_data false eR er hal
  generalize hO : sortVals (dataKind (sortingHeap hp s1.heap.objs.size (L1.map fun q => Value.ref q.1)) (L1.map fun p => encI p.2)) false (L1.map fun q => Value.ref q.1) (L1.map fun q => Value.ref q.1) = out at eo
  obtain ⟨c, hc⟩ := sortedHeap_at (vs := L1.map fun q => Value.ref q.1) (out := out.toArray) hoL
  have back : ∀ {us : List Value} {l : List (Addr × List Int)}, EachIs (fun v (p : Addr × List Int) => v = Value.ref p.1) us l → us = l.map fun q => Value.ref q.1 := by
    intro us l h
    induction h with
    | nil => rfl
    | cons e _ ih => rw [List.map_cons, ← ih, e]
  have le2 : dataLe false (fun p : Addr × List Int => encI p.2) = fun p q => leI p.2 q.2 := by
    funext p q
    exact leD_encI p.2 q.2
  rw [le2] at eo
  refine wpAny_pure ⟨_, rfl, fin _ s1.heap.objs.size out.toArray c (L1.mergeSort fun p q => leI p.2 q.2) (fun b u e => ?_) g1 o1 hz hc (by simpa using back eo) ((List.mergeSort_perm _ _).trans p1) ?_⟩
  · show (sortedHeap hp s1.heap.objs.size _ _).get? b = some u
    rw [sortedHeap_old (kp b u e).1 (Heap.lt_size (kp b u e).2)]
    exact (kp b u e).2
  · exact List.pairwise_mergeSort (fun a b c h1 h2 => leI_trans a.2 b.2 c.2 h1 h2) (fun a b => by
      rcases leI_total a.2 b.2 with h | h
      · simp [h]
      · simp [h]) L1
end
/-! ### as rules -/
theorem ints_rep {K : PySem.W.Frag} {F : Hp} : ∀ {vs : List V} {ds : List D} {k : List Int}, RepA K F vs ds → intsOf ds = some k → vs = k.map V.int ∧ ds = k.map .int
  | _, [], k, h, e => by
    cases h
    cases e
    exact ⟨rfl, rfl⟩
  | _, d :: ds, k, h, e => by
    cases h with
    | cons r a =>
      cases r with
      | int i =>
        simp only [intsOf] at e
        obtain ⟨k', e1, rfl⟩ := Option.map_eq_some_iff.mp e
        obtain ⟨h1, h2⟩ := ints_rep a e1
        exact ⟨by rw [h1]; rfl, by rw [h2]; rfl⟩
      | _ => cases e
theorem row_rep {K : PySem.W.Frag} {F : Hp} {v : V} {d : D} {k : List Int} (r : Rep K F v d) (e : rowOf d = some k) : ∃ b, v = .ref b ∧ SqT K F b (k.map V.int) ∧ d = encI k := by
  cases r with
  | tup h1 a1 =>
    obtain ⟨h2, h3⟩ := ints_rep a1 e
    subst h2
    exact ⟨_, rfl, h1, by rw [h3]; rfl⟩
  | _ => cases e
theorem rows_rep {K : PySem.W.Frag} {F : Hp} : ∀ {vs : List V} {ds : List D} {ks : List (List Int)}, RepA K F vs ds → rowsOfD ds = some ks → ∃ L : List (Addr × List Int), L.map (·.2) = ks ∧ vs = L.map (fun p => V.ref p.1) ∧ ∀ p ∈ L, SqT K F p.1 (p.2.map V.int)
  | _, [], ks, h, e => by
    cases h
    cases e
    exact ⟨[], rfl, rfl, fun p hp => by cases hp⟩
  | _, d :: ds, ks, h, e => by
    cases h with
    | cons r a =>
      unfold rowsOfD at e
      split at e
      · rename_i k ks' e1 e2
        cases e
        obtain ⟨b, rfl, h1, _⟩ := row_rep r e1
        obtain ⟨L, h2, h3, h4⟩ := rows_rep a e2
        refine ⟨(b, k) :: L, by rw [List.map_cons, h2], by rw [List.map_cons, h3], fun p hp => ?_⟩
        rcases List.mem_cons.mp hp with rfl | hp
        · exact h1
        · exact h4 p hp
      · cases e
theorem nodup_le {A : Type} [DecidableEq A] : ∀ {xs ys : List A}, xs.Nodup → (∀ x ∈ xs, x ∈ ys) → xs.length ≤ ys.length
  | [], _, _, _ => Nat.zero_le _
  | x :: xs, ys, nd, h => by
    obtain ⟨n1, n2⟩ := List.nodup_cons.mp nd
    have hx := h x (List.mem_cons_self ..)
    have := nodup_le (xs := xs) (ys := ys.erase x) n2 fun z hz => (List.mem_erase_of_ne (a := z) (b := x) fun e => n1 (by rw [← e]; exact hz)).mpr (h z (List.mem_cons_of_mem _ hz))
    rw [List.length_erase_of_mem hx] at this
    have : 0 < ys.length := List.length_pos_of_mem hx
    simp only [List.length_cons]
    omega
theorem few_of {L : List (Addr × List Int)} {ks : List (List Int)} (e : L.map (·.2) = ks) (h : ks.eraseDups.length < 63) : Few L := by
  intro M hm nd
  have hs : (M.map (·.2)).length ≤ ks.eraseDups.length := by
    refine nodup_le nd fun x hx => ?_
    obtain ⟨p, hp, rfl⟩ := List.mem_map.mp hx
    rw [List.mem_eraseDups, ← e]
    exact List.mem_map_of_mem (hm p hp)
  rw [List.length_map] at hs
  omega
theorem nodup_dups {A : Type} [BEq A] [LawfulBEq A] : ∀ (n : Nat) (l : List A), l.length ≤ n → l.eraseDups.Nodup
  | _, [], _ => by rw [List.eraseDups_nil]; exact List.nodup_nil
  | 0, _ :: _, h => by simp at h
  | n + 1, x :: l, h => by
    rw [List.eraseDups_cons, List.nodup_cons]
    refine ⟨fun z => ?_, nodup_dups n _ ?_⟩
    · rw [List.mem_eraseDups, List.mem_filter] at z
      simp at z
    · have := List.length_filter_le (fun b => !b == x) l
      simp only [List.length_cons] at h
      omega
section
variable {X : Cx}
/-- set(x), x a list of rows of numbers -/
def rSetD (K : PySem.W.Frag) (P : Program) (w : World) : List V → Hp → VK → Prop := fun xs H Q => ∃ x F ds ks, xs = [x] ∧ Le F H ∧ Rep K F x (.list ds) ∧ rowsOfD ds = some ks ∧ ks.eraseDups.length < 63 ∧
  ∀ (L M : List (Addr × List Int)) (a : Addr), L.map (·.2) = ks → (∀ p ∈ L, SqT K F p.1 (p.2.map V.int)) → H a = none → (∀ p ∈ M, p ∈ L) → (∀ p ∈ L, p.2 ∈ M.map (·.2)) → (M.map (·.2)).Nodup → Q (.ref a) (upd H a (SetTO P w a M))
theorem call_setD (hc : X.calm = true) (hu : X.A.units + 200 < cLine) : CallR X (.type "set") (rSetD X.K X.prog X.w) := by
  intro pins s σ H xs us Q I r h
  obtain ⟨x, F, ds, ks, rfl, l, hd, hr, hf, q⟩ := h
  cases hd with
  | @lst ad vs _ h1 a1 =>
    obtain ⟨L, e1, e2, e3⟩ := rows_rep a1 hr
    rw [Vals.ref1 r]
    obtain ⟨its, rv, pl, hz⟩ := I.list (SqL.of (l _ _ h1))
    have hn : H s.heap.objs.size = none := I.hok.fresh (Nat.le_refl _)
    subst e2
    refine set_few (P := X.prog) (w := X.w) L (I.ok.hd hc) pl.isList (by simpa using refs_of_vals rv) (fun p hp => I.isT (l.sqT (e3 p hp))) (few_of e1 hf) (by omega) fun h2 tk M es ep t R g k => ?_
    refine ⟨.ref s.heap.objs.size, _, I.laid (t' := tk) k (Nat.le_refl _) (setTO_new R.t0), rfl, q L M _ e1 e3 hn (fun p hp => List.mem_of_mem_take (g.sub p hp)) (fun p hp => g.all p (by rw [List.take_length]; exact hp)) R.nd⟩
/-- sorted(set) -/
def rSortD (K : PySem.W.Frag) (P : Program) (w : World) : List V → Hp → VK → Prop := fun vs H Q => ∃ (a : Addr) (L : List (Addr × List Int)), vs = [V.ref a] ∧ H a = some (SetTO P w a L) ∧ (∀ p ∈ L, SqT K H p.1 (p.2.map V.int)) ∧
  ∀ (M : List (Addr × List Int)) (p : Addr), M.Perm L → M.Pairwise (fun q r => leI q.2 r.2 = true) → H p = none → Q (.ref p) (upd H p (.lst (M.map fun q => V.ref q.1)))
theorem call_sortD (hc : X.calm = true) (hu : X.A.units + 200 < cLine) : CallR X (.builtin "sorted") (rSortD X.K X.prog X.w) := by
  intro pins s σ H vs us Q I r h
  obtain ⟨a, L, rfl, ha, hk, q⟩ := h
  have R0 : SetT0 X.prog X.w s.heap a L := (I.hok a _ ha).1
  obtain ⟨es, ep, t, R⟩ := R0.full fun p hp => I.isT (hk p hp)
  rw [Vals.ref1 r]
  refine sorted_few R (I.ok.hd hc) hu fun s2 p out c M k g o hp hg hout pm pw => ?_
  have fewM : M.length < 64 := by rw [pm.length_eq]; exact R.few
  have hn : H p = none := I.hok.fresh hp
  have J : Inv X pins σ (upd H p (.lst (M.map fun q => V.ref q.1))) { s with heap := s2.heap, gens := s2.gens, drawn := s2.drawn, toks := s2.toks } :=
    I.call (ch := []) (Un.laid k hp hn) (I.hok.laid k hp ⟨by rw [List.length_map, sizeLine_eq]; omega, out.toList, c, by rw [hout]; exact vals_of_refs M, hg⟩) (by rw [g]; exact I.bare) (fun _ z => nomatch z)
  have e : s2 = { s with heap := s2.heap, gens := s2.gens, drawn := s2.drawn, toks := s2.toks } := by
    cases s2; cases s; cases o; rfl
  rw [e]
  exact ⟨.ref p, _, J, rfl, q M p pm pw hn⟩
end
theorem repA_rows {K : PySem.W.Frag} {F : Hp} : ∀ (M : List (Addr × List Int)), (∀ p ∈ M, SqT K F p.1 (p.2.map V.int)) → RepA K F (M.map fun q => V.ref q.1) ((M.map (·.2)).map encI)
  | [], _ => .nil
  | p :: M, h => by
    refine .cons (.tup (h p (List.mem_cons_self ..)) ?_) (repA_rows M fun q hq => h q (List.mem_cons_of_mem _ hq))
    have go : ∀ k : List Int, RepA K F (k.map V.int) (k.map .int) := by
      intro k
      induction k with
      | nil => exact .nil
      | cons i k ih => exact .cons (.int i) ih
    exact go p.2
/-- the members in order are the one row in order -/
theorem rows_one {L M N : List (Addr × List Int)} {ks : List (List Int)} (e : L.map (·.2) = ks) (h1 : ∀ p ∈ M, p ∈ L) (h2 : ∀ p ∈ L, p.2 ∈ M.map (·.2)) (nd : (M.map (·.2)).Nodup) (pm : N.Perm M) (pw : N.Pairwise (fun q r => leI q.2 r.2 = true)) : N.map (·.2) = ks.eraseDups.mergeSort leI := by
  refine sorted_eq leI_anti (List.pairwise_map.mpr pw) (sortI _) (((pm.map (·.2)).trans ?_).trans (List.mergeSort_perm _ _).symm)
  refine (List.perm_ext_iff_of_nodup nd (nodup_dups _ _ (Nat.le_refl _))).mpr fun x => ?_
  rw [List.mem_eraseDups, ← e]
  constructor
  · intro hx
    obtain ⟨p, hp, rfl⟩ := List.mem_map.mp hx
    exact List.mem_map_of_mem (h1 p hp)
  · intro hx
    obtain ⟨p, hp, rfl⟩ := List.mem_map.mp hx
    exact h2 p hp
end Tf
/-! Tf2g: expressions. -/
namespace Tf
open PySem L2

def bnames : List Str := ["len", "all", "any", "sum", "tuple", "int", "min", "list", "isinstance", "str", "bool", "range", "enumerate", "zip", "sorted", "set"]
/-- a def's promise: its answer by the evaluator -/
def spR (K : PySem.W.Frag) (xv : Nat → Value) (m : List D → R D) : Sp := fun vs H Q E => ∃ F ds, Le F H ∧ RepA K F vs ds ∧ (match m ds with
  | .ok d => ∀ v F' H', Stp F H F' H' → Rep K F' v d → Q v H'
  | .exc c => ∀ F' H', Stp F H F' H' → E (xv c) none H'
  | .fail => False)
def spCell (K : PySem.W.Frag) : Sp := fun vs H Q _ => ∃ (a : Addr) (ns : List Int) (k : Int), vs = [.ref a, .int k] ∧ SqL K H a (ns.map V.int) ∧ 0 ≤ k ∧ Q (.int (ns.getD k.toNat 0)) H
/-- a heap without one object -/
def del (H : Hp) (a : Addr) : Hp := fun b => if b = a then none else H b
theorem del_same {H : Hp} {a : Addr} : del H a a = none := by unfold del; rw [if_pos rfl]
theorem del_ne {H : Hp} {a b : Addr} (h : b ≠ a) : del H a b = H b := by unfold del; rw [if_neg h]
theorem Le.del {H : Hp} {a : Addr} : Le (del H a) H := fun b o e => by
  by_cases h : b = a
  · subst h; rw [del_same] at e; cases e
  · rw [del_ne h] at e; exact e
theorem Le.toDel {F H : Hp} {a : Addr} (l : Le F H) (hn : F a = none) : Le F (Tf.del H a) := fun b o e => by
  have h : b ≠ a := fun z => by subst z; rw [hn] at e; cases e
  rw [del_ne h]; exact l b o e
/-- a def whose third parameter is a list that it makes longer -/
def spIo (K : PySem.W.Frag) (m : D → D → List D → Option (List D)) : Sp := fun vs H Q _ => ∃ (F : Hp) (x y : D) (ds es : List D) (a : Addr) (v1 v2 : V) (xs : List V), vs = [v1, v2, .ref a] ∧ Le F H ∧ F a = none ∧ H a = some (.lst xs) ∧ Rep K F v1 x ∧ Rep K F v2 y ∧ RepA K F xs ds ∧ m x y ds = some es ∧
  ∀ v F1 F2 H' xs', Stp F (del H a) F1 H' → F1 a = none → H' a = some (.lst xs') → RepA K F1 xs' es → Stp F (del H a) F2 H' → Rep K F2 v (.tuple es) → Q v H'
structure Amb (c : Ck) (C : EvC) (xv : Nat → Value) (P : Program) (w : World) (K : PySem.W.Frag) (mg : Str → Option Value) (base : Heap) (k : Nat) : Prop where
  fn : ∀ (f : Nat) (x : Str), c.fns[f]? = some (some x) → ∃ a fd ps, FnOk P w K mg base (CX P w) k a fd ps (spR K xv (C.call f)) ∧ mg x = some (.ref a) ∧ PySem.W.keepIn K (.ref a) = true ∧ Binds K fd ps []
  gv : ∀ (g : Nat) (x : Str) (d : D), c.gls[g]? = some (some x) → C.gv g = some d → ∃ u v, mg x = some u ∧ RelV v u ∧ Rep K (fun _ => none) v d
  bl : ∀ x ∈ bnames, mg x = none
  xc : ∀ (n : Nat) (x : Str), c.xcs[n]? = some (some x) → ∃ a, xv n = .ref a ∧ mg x = some (.ref a) ∧ PySem.W.excIn K a [.type "ValueError", .type "Exception", .type "BaseException", .type "object"] "ValueError.__new__" = true ∧
    PySem.W.keepIn K (.ref a) = true ∧ PySem.W.subIn K (.ref a) (.type "BaseException") = some true ∧ PySem.W.typeIn K (.ref a) = some (.type "type")
  cl : ∃ a fd ps, FnOk P w K mg base (CX P w) k a fd ps (spCell K) ∧ mg "_law_cell" = some (.ref a) ∧ PySem.W.keepIn K (.ref a) = true ∧ Binds K fd ps []
  io : ∀ x, c.io = some x → ∃ a fd ps, FnOk P w K mg base (CX P w) k a fd ps (spIo K C.io) ∧ mg x = some (.ref a) ∧ PySem.W.keepIn K (.ref a) = true ∧ Binds K fd ps []
def xwish (xv : Nat → Value) (EX : Nat → Hp → Prop) : XK := fun cls d H => ∃ n, cls = xv n ∧ d = none ∧ EX n H
structure CxOk (c : Ck) (C : EvC) (xv : Nat → Value) (k : Nat) (X : Cx) (EX : Nat → Hp → Prop) : Prop where
  amb : Amb c C xv X.prog X.w X.K X.mg X.base k
  nm : X.N = c.N
  nd : X.N.Nodup
  calm : X.calm = true
  room : Room k X.A
  pas : Passes (CX X.prog X.w) X (xwish xv EX)
theorem CxOk.blk {c : Ck} {C : EvC} {xv : Nat → Value} {k : Nat} {X : Cx} {EX : Nat → Hp → Prop} (h : CxOk c C xv k X EX) (s : Shared) (H : Hp) (scope : Scope) (cenv : Env) (fp : List Addr) :
    CxOk c C xv k (X.blk s H scope cenv fp) (fun _ _ => False) :=
  ⟨h.amb, h.nm, h.nd, h.calm, h.room, fun pins σ H s e s' I q => by
    obtain ⟨a, B, H', cls, d, _, _, _, _, _, _, _, n, _, _, z⟩ := q
    exact z.elim⟩

theorem wipe_wipe (σ : L2.St) (vs : List Nat) : L2.wipe (L2.wipe σ vs) vs = L2.wipe σ vs := by
  have sub : ∀ (us ws : List Nat), (∀ i ∈ us, i ∈ ws) → L2.wipe (L2.wipe σ us) ws = L2.wipe σ ws := by
    intro us
    induction us with
    | nil => intro ws _; rfl
    | cons u us ih =>
      intro ws h
      rw [show L2.wipe σ (u :: us) = (L2.wipe σ us).set u none from rfl, wipe_set (h u (by simp)), ih ws fun i hi => h i (by simp [hi])]
  exact sub vs vs fun _ h => h
/-! ### one node at a time -/
section
variable {X : Cx} {EX : Nat → Hp → Prop} {C : EvC} {x y z : Expr} {a b d : E} {pos p p2 p3 : Pos}

theorem s_var {i : Nat} {n : Str} (hN : X.N[i]? = some n) (hv : Vis X.env.scope n) (h1 : (n == ("__debug__" : Str)) = false) (h2 : (n == ("__classdict__" : Str)) = false) : PE X (.Name n pos) (tE X.K EX C (.var i)) :=
  (pe_var hN hv h1 h2).imp fun σ H Q ⟨F, d, R, q⟩ => by
    unfold ev at q
    split at q
    · rename_i h
      obtain ⟨v, e, r⟩ := R.sl i _ h
      exact ⟨v, e, q v F H (.refl R.le) r⟩
    · exact q.elim
theorem s_con {k : Const} {j : Nat} {d : D} (h : conOk d k = true) : PE X (.Constant k j pos) (tE X.K EX C (.con d)) := by
  unfold conOk at h
  split at h
  · exact pe_non.imp fun σ H Q ⟨F, s, R, q⟩ => q _ F H (.refl R.le) .non
  · rw [eq_of_beq h]
    exact pe_bl.imp fun σ H Q ⟨F, s, R, q⟩ => q _ F H (.refl R.le) (.bl _)
  · rw [of_decide_eq_true h]
    exact pe_int.imp fun σ H Q ⟨F, s, R, q⟩ => q _ F H (.refl R.le) (.int _)
  · simp only [Bool.and_eq_true, decide_eq_true_eq] at h
    obtain ⟨rfl, h⟩ := h
    refine pe_str.imp fun σ H Q ⟨F, s, R, q⟩ => q _ F H (.refl R.le) (.str _ fun c hc => ?_)
    rw [← Array.all_toList, List.all_eq_true] at h
    simpa using h c hc
  · cases h
theorem s_glo {g : Nat} {n : Str} (hg : Gl X n) (h1 : (n == ("__debug__" : Str)) = false) (hv : ∀ d, C.gv g = some d → ∃ u v, X.mg n = some u ∧ RelV v u ∧ Rep X.K (fun _ => none) v d) : PE X (.Name n pos) (tE X.K EX C (.glo g)) := by
  cases e : C.gv g with
  | none =>
    refine ⟨fun pins s σ H Q I ⟨F, d, R, q⟩ => ?_⟩
    unfold ev at q
    rw [e] at q
    exact q.elim
  | some d =>
    obtain ⟨u, v, hm, r, rp⟩ := hv d e
    refine (pe_glob hg hm r h1).imp fun σ H Q ⟨F, s, R, q⟩ => ?_
    unfold ev at q
    rw [e] at q
    exact q v F H (.refl R.le) (Rep.mono (fun _ _ z => by cases z) _ rp)
theorem s_tup {es : Es} {xs : List Expr} {j : Nat} (h : PA X xs (tEs X.K EX C es)) (hl : xs.length ≤ 1000) (hk : ∀ s ds, evs C es s = .ok ds → ds.length = xs.length) : PE X (.Tuple xs j pos) (tE X.K EX C (.tup es)) :=
  (pe_tup h).imp fun σ H Q ⟨F, s, R, q⟩ => by
    unfold ev at q
    refine ⟨F, s, R, ?_⟩
    cases e : evs C es s with
    | ok ds =>
      rw [e] at q
      intro vs F1 H1 s1 r1
      refine ⟨?_, fun p hp => ?_⟩
      · rw [r1.length, hk s ds e, sizeLine_eq]; omega
      · exact q _ _ _ (s1.trans (.new s1.2.1 hp)) (.tup (SqT.of upd_same) (RepA.mono (.fresh (s1.2.1.non hp)) _ r1))
    | exc c => rw [e] at q; exact q
    | fail => rw [e] at q; exact q.elim
theorem s_lst {l : L} (h : PE X x (tL X.K EX C l)) : PE X x (tE X.K EX C (.lst l)) :=
  h.imp fun σ H Q ⟨F, s, R, q⟩ => by
    unfold ev at q
    refine ⟨F, s, R, ?_⟩
    cases e : evL C l s with
    | ok ds =>
      rw [e] at q
      exact fun p vs F1 H1 s1 a1 a2 a3 r1 => q _ _ _ (s1.know a1 a3 a2) (.lst upd_same (RepA.mono (.fresh a2) _ r1))
    | exc c => rw [e] at q; exact q
    | fail => rw [e] at q; exact q.elim
theorem s_bin {op : Operator} (ha : PE X x (tE X.K EX C a)) (hb : PE X y (tE X.K EX C b)) : PE X (.BinOp x op y pos) (tE X.K EX C (.bin op a b)) :=
  (pe_op (op_bin op) ha hb).imp fun σ H Q ⟨F, s, R, q⟩ => by
    unfold ev at q
    exact ⟨F, s, R, okE.bind (wE Q) q fun dx v F1 H1 s1 r1 q1 => ⟨F1, s, R.step s1, okE.bind (wE Q) q1 fun dy u F2 H2 s2 r2 q2 => ⟨F2, dx, dy, s2.2.1, Rep.mono s2.1 _ r1, r2, okE.ans q2 (binD_nx _ _ _)⟩⟩⟩
theorem un_neg' : UnR X (unaryOp .USub) (fun x H Q => ∃ F d, Le F H ∧ Rep X.K F x d ∧ ans X.K F H (negD d) Q) := by
  intro pins s σ H x v Q I rx h
  obtain ⟨F, d, l, hd, q⟩ := h
  unfold negD at q
  split at q
  · cases hd
    exact un_neg pins s σ H _ v Q I rx ⟨_, rfl, q.flat l (.int _)⟩
  · exact q.elim
theorem s_neg (ha : PE X x (tE X.K EX C a)) : PE X (.UnaryOp .USub x pos) (tE X.K EX C (.neg a)) :=
  (pe_un un_neg' ha).imp fun σ H Q ⟨F, s, R, q⟩ => by
    unfold ev at q
    exact ⟨F, s, R, okE.bind (wE Q) q fun dx v F1 H1 s1 r1 q1 => ⟨F1, dx, s1.2.1, r1, okE.ans q1 (negD_nx _)⟩⟩
theorem okE.cmp {K : PySem.W.Frag} {F H : Hp} {r : R Bool} {Q : VK} (h : okE K EX F H (r.bind fun t => .ok (.bool t)) Q) (n : ∀ c, r ≠ .exc c) (l : Le F H) : ansB H r Q := by
  cases r with
  | ok t => exact h _ F H (.refl l) (.bl t)
  | exc c => exact absurd rfl (n c)
  | fail => exact h
theorem okA.cmp {F H : Hp} {r : R Bool} {Q : Bool → Hp → Prop} (h : okA EX F H ((r.bind fun t => .ok (.bool t)).bind truth) Q) (n : ∀ c, r ≠ .exc c) (l : Le F H) : ansB H r (fun x H' => ∃ k, x = .bl k ∧ Q k H') := by
  cases r with
  | ok t => exact ⟨t, rfl, h F H (.refl l)⟩
  | exc c => exact absurd rfl (n c)
  | fail => exact h
theorem bind_assoc {A B C' : Type} (r : R A) (f : A → R B) (g : B → R C') : (r.bind f).bind g = r.bind fun a => (f a).bind g := by
  cases r <;> rfl
theorem s_cmp {op : CmpOp} (hu : X.A.units + 200 < cLine) (ha : PE X x (tE X.K EX C a)) (hb : PE X y (tE X.K EX C b)) (hm : behindInMarks op y = false) : PE X (.Compare x [op] [y] pos) (tE X.K EX C (.cmp op a b)) :=
  (pe_cmpR (op_cmp hu op) ha hb hm).imp fun σ H Q ⟨F, s, R, q⟩ => by
    unfold ev at q
    exact ⟨F, s, R, okE.bind (wE Q) q fun dx v F1 H1 s1 r1 q1 => ⟨F1, s, R.step s1, okE.bind (wE Q) q1 fun dy u F2 H2 s2 r2 q2 => ⟨F2, dx, dy, s2.2.1, Rep.mono s2.1 _ r1, r2, okE.cmp q2 (cmpD_nx _ _ _) s2.2.1⟩⟩⟩
theorem t_cmp {op : CmpOp} (hu : X.A.units + 200 < cLine) (ha : PE X x (tE X.K EX C a)) (hb : PE X y (tE X.K EX C b)) (hm : behindInMarks op y = false) : PT X (.Compare x [op] [y] pos) (tT X.K EX C (.cmp op a b)) :=
  (pt_cmpR (op_cmp hu op) ha hb hm).imp fun σ H Q ⟨F, s, R, q⟩ => by
    unfold ev at q
    simp only [bind_assoc] at q
    exact ⟨F, s, R, okE.bind (wA Q) q fun dx v F1 H1 s1 r1 q1 => ⟨F1, s, R.step s1, okE.bind (wA Q) q1 fun dy u F2 H2 s2 r2 q2 => ⟨F2, dx, dy, s2.2.1, Rep.mono s2.1 _ r1, r2, okA.cmp (by simpa only [bind_assoc] using q2) (cmpD_nx _ _ _) s2.2.1⟩⟩⟩

/-! ### chains, and, or, not, if -/
theorem okE.chain {K : PySem.W.Frag} {F H : Hp} {r : R Bool} {f : Bool → R D} {Q : VK} {G : VK} (h : okE K EX F H (r.bind f) Q) (n : ∀ c, r ≠ .exc c) (k : ∀ t, okE K EX F H (f t) Q → G (.bl t) H) : ansB H r G := by
  cases r with
  | ok t => exact k t h
  | exc c => exact absurd rfl (n c)
  | fail => exact h
theorem okA.chain {A : Type} {F H : Hp} {r : R Bool} {f : Bool → R A} {Q : A → Hp → Prop} {G : VK} (h : okA EX F H (r.bind f) Q) (n : ∀ c, r ≠ .exc c) (k : ∀ t, okA EX F H (f t) Q → G (.bl t) H) : ansB H r G := by
  cases r with
  | ok t => exact k t h
  | exc c => exact absurd rfl (n c)
  | fail => exact h
theorem marks2 {o p : CmpOp} {y z : Expr} (h3 : p ≠ .In) (h4 : p ≠ .NotIn) : lastMarks [o, p] [y, z] = false := by
  show behindInMarks p z = false
  exact nobehind z h3 h4
theorem s_cmp2 {o p' : CmpOp} (hu : X.A.units + 200 < cLine) (ha : PE X x (tE X.K EX C a)) (hb : PE X y (tE X.K EX C b)) (hd : PE X z (tE X.K EX C d)) (hm : lastMarks [o, p'] [y, z] = false) : PE X (.Compare x [o, p'] [y, z] pos) (tE X.K EX C (.cmp2 o p' a b d)) :=
  (pe_chain (op_cmp hu o) (op_cmp hu p') ha hb hd hm).imp fun σ H Q ⟨F, s, R, q⟩ => by
    unfold ev at q
    refine ⟨F, s, R, okE.bind (wE Q) q fun dx v F1 H1 s1 r1 q1 => ⟨F1, s, R.step s1, okE.bind (wE Q) q1 fun dy u F2 H2 s2 r2 q2 => ⟨F2, dx, dy, s2.2.1, Rep.mono s2.1 _ r1, r2, okE.chain q2 (cmpD_nx _ _ _) fun t qt => ⟨t, rfl, ?_⟩⟩⟩⟩
    cases t with
    | false => exact qt _ F2 H2 (.refl s2.2.1) (.bl false)
    | true => exact ⟨F2, s, (R.step s1).step s2, okE.bind (wE Q) qt fun dz w F3 H3 s3 r3 q3 => ⟨F3, dy, dz, s3.2.1, Rep.mono s3.1 _ r2, r3, okE.cmp q3 (cmpD_nx _ _ _) s3.2.1⟩⟩
theorem t_cmp2 {o p' : CmpOp} (hu : X.A.units + 200 < cLine) (ha : PE X x (tE X.K EX C a)) (hb : PE X y (tE X.K EX C b)) (hd : PE X z (tE X.K EX C d)) (hm : lastMarks [o, p'] [y, z] = false) : PT X (.Compare x [o, p'] [y, z] pos) (tT X.K EX C (.cmp2 o p' a b d)) :=
  (pt_chain (op_cmp hu o) (op_cmp hu p') ha hb hd hm).imp fun σ H Q ⟨F, s, R, q⟩ => by
    unfold ev at q
    simp only [bind_assoc] at q
    refine ⟨F, s, R, okE.bind (wA Q) q fun dx v F1 H1 s1 r1 q1 => ⟨F1, s, R.step s1, okE.bind (wA Q) q1 fun dy u F2 H2 s2 r2 q2 => ⟨F2, dx, dy, s2.2.1, Rep.mono s2.1 _ r1, r2, okA.chain q2 (cmpD_nx _ _ _) fun t qt => ⟨t, rfl, ?_⟩⟩⟩⟩
    cases t with
    | false => exact ⟨false, rfl, qt F2 H2 (.refl s2.2.1)⟩
    | true =>
      simp only [bind_assoc] at qt
      exact ⟨F2, s, (R.step s1).step s2, okE.bind (wA Q) qt fun dz w F3 H3 s3 r3 q3 => ⟨F3, dy, dz, s3.2.1, Rep.mono s3.1 _ r2, r3, okA.cmp (by simpa only [bind_assoc] using q3) (cmpD_nx _ _ _) s3.2.1⟩⟩
theorem truth_nx (x : D) (c : Nat) : truth x ≠ .exc c := by
  unfold truth; split <;> simp
/-- the truth of a value, then the rest -/
theorem tru_then {B : Type} {W : Hp → Hp → R B → Prop} {F H : Hp} {dx : D} {v : V} {f : Bool → R B} {G : Bool → Prop} (w : Wish X.K EX W) (l : Le F H) (r : Rep X.K F v dx) (h : W F H ((truth dx).bind f)) (k : ∀ t, W F H (f t) → G t) : ∃ t, TruV X.K v H t ∧ G t := by
  cases e : truth dx with
  | ok t => rw [e] at h; exact ⟨t, tru_of l r e, k t h⟩
  | exc c => exact absurd e (truth_nx dx c)
  | fail => rw [e] at h; exact (w.fail h).elim
theorem s_and (ha : PE X x (tE X.K EX C a)) {rest : List Expr} (hb : PE X (.BoolOp .And (y :: rest) pos) (tE X.K EX C b)) : PE X (.BoolOp .And (x :: y :: rest) pos) (tE X.K EX C (.and a b)) :=
  (pe_andT ha hb).imp fun σ H Q ⟨F, s, R, q⟩ => by
    unfold ev at q
    refine ⟨F, s, R, okE.bind (wE Q) q fun dx v F1 H1 s1 r1 q1 => tru_then (wE Q) s1.2.1 r1 q1 fun t qt => ?_⟩
    cases t with
    | true => exact ⟨F1, s, R.step s1, qt⟩
    | false => exact qt _ F1 H1 (.refl s1.2.1) r1
theorem s_or (ha : PE X x (tE X.K EX C a)) {rest : List Expr} (hb : PE X (.BoolOp .Or (y :: rest) pos) (tE X.K EX C b)) : PE X (.BoolOp .Or (x :: y :: rest) pos) (tE X.K EX C (.or a b)) :=
  (pe_orT ha hb).imp fun σ H Q ⟨F, s, R, q⟩ => by
    unfold ev at q
    refine ⟨F, s, R, okE.bind (wE Q) q fun dx v F1 H1 s1 r1 q1 => tru_then (wE Q) s1.2.1 r1 q1 fun t qt => ?_⟩
    cases t with
    | false => exact ⟨F1, s, R.step s1, qt⟩
    | true => exact qt _ F1 H1 (.refl s1.2.1) r1
theorem s_not (ha : PE X x (tE X.K EX C a)) : PE X (.UnaryOp .Not x pos) (tE X.K EX C (.not a)) :=
  (pe_notT ha).imp fun σ H Q ⟨F, s, R, q⟩ => by
    unfold ev at q
    exact ⟨F, s, R, okE.bind (wE Q) q fun dx v F1 H1 s1 r1 q1 => tru_then (wE Q) s1.2.1 r1 q1 fun t qt => qt _ F1 H1 (.refl s1.2.1) (.bl _)⟩
/-- by truth, a plain expression -/
theorem t_plain (ha : PE X x (tE X.K EX C a)) (he : ∀ whole, isTrue x X.env whole = (do let v ← whole; standAt x.pos; holding [v] (truthy v))) : PT X x (tT X.K EX C a) :=
  (pt_truth ha he).imp fun σ H Q ⟨F, s, R, q⟩ =>
    ⟨F, s, R, okE.bind (wA Q) q fun dx v F1 H1 s1 r1 q1 => by
      cases e : truth dx with
      | ok t => rw [e] at q1; exact ⟨t, tru_of s1.2.1 r1 e, q1 F1 H1 (.refl s1.2.1)⟩
      | exc c => exact absurd e (truth_nx dx c)
      | fail => rw [e] at q1; exact q1.elim⟩
theorem okA.bindA {A B : Type} {F H : Hp} {r : R A} {f : A → R B} {Q : B → Hp → Prop} {G : A → Hp → Prop} (h : okA EX F H (r.bind f) Q) (k : ∀ t F1 H1, Stp F H F1 H1 → r = .ok t → okA EX F1 H1 (f t) Q → G t H1) : okA EX F H r G := by
  cases r with
  | ok t => exact fun F1 H1 s => k t F1 H1 s rfl (okA.mono h s)
  | exc c => exact h
  | fail => exact h
theorem and_truth (x : D) {b : E} {s : Sd} : (((truth x).bind fun t => match t with | true => ev C b s | false => R.ok x).bind truth) = (truth x).bind fun t => match t with | true => (ev C b s).bind truth | false => .ok false := by
  cases e : truth x with
  | ok t => cases t with
    | true => rfl
    | false => exact e
  | exc c => rfl
  | fail => rfl
theorem or_truth (x : D) {b : E} {s : Sd} : (((truth x).bind fun t => match t with | true => R.ok x | false => ev C b s).bind truth) = (truth x).bind fun t => match t with | false => (ev C b s).bind truth | true => .ok true := by
  cases e : truth x with
  | ok t => cases t with
    | true => exact e
    | false => rfl
  | exc c => rfl
  | fail => rfl
theorem t_and (ha : PT X x (tT X.K EX C a)) {rest : List Expr} (hb : PW X (.BoolOp .And (y :: rest) pos) (tT X.K EX C b)) : PW X (.BoolOp .And (x :: y :: rest) pos) (tT X.K EX C (.and a b)) :=
  (pw_and ha hb).imp fun σ H Q ⟨F, s, R, q⟩ => by
    unfold ev at q
    simp only [bind_assoc] at q
    have q' : okA EX F H (((ev C a s).bind truth).bind fun t => match t with | true => (ev C b s).bind truth | false => .ok false) Q := by
      rw [bind_assoc]
      simp only [← and_truth, bind_assoc]
      exact q
    refine ⟨F, s, R, okA.bindA q' fun t F1 H1 s1 _ q1 => ?_⟩
    cases t with
    | true => exact ⟨F1, s, R.step s1, q1⟩
    | false => exact q1 F1 H1 (.refl s1.2.1)
theorem t_or (ha : PT X x (tT X.K EX C a)) {rest : List Expr} (hb : PW X (.BoolOp .Or (y :: rest) pos) (tT X.K EX C b)) : PW X (.BoolOp .Or (x :: y :: rest) pos) (tT X.K EX C (.or a b)) :=
  (pw_or ha hb).imp fun σ H Q ⟨F, s, R, q⟩ => by
    unfold ev at q
    simp only [bind_assoc] at q
    have q' : okA EX F H (((ev C a s).bind truth).bind fun t => match t with | false => (ev C b s).bind truth | true => .ok true) Q := by
      rw [bind_assoc]
      simp only [← or_truth, bind_assoc]
      exact q
    refine ⟨F, s, R, okA.bindA q' fun t F1 H1 s1 _ q1 => ?_⟩
    cases t with
    | false => exact ⟨F1, s, R.step s1, q1⟩
    | true => exact q1 F1 H1 (.refl s1.2.1)
theorem t_not (ha : PT X x (tT X.K EX C a)) : PT X (.UnaryOp .Not x pos) (tT X.K EX C (.not a)) :=
  (pt_not ha).imp fun σ H Q ⟨F, s, R, q⟩ => by
    unfold ev at q
    simp only [bind_assoc] at q
    have q' : okA EX F H (((ev C a s).bind truth).bind fun t => .ok (!t)) Q := by
      rw [bind_assoc]
      exact q
    exact ⟨F, s, R, okA.bindA q' fun t F1 H1 s1 _ q1 => q1 F1 H1 (.refl s1.2.1)⟩
theorem s_ite {t : E} (ht : PT X x (tT X.K EX C t)) (ha : PE X y (tE X.K EX C a)) (hb : PE X z (tE X.K EX C b)) : PE X (.IfExp x y z pos) (tE X.K EX C (.ite t a b)) :=
  (pe_ifExp ht ha hb).imp fun σ H Q ⟨F, s, R, q⟩ => by
    unfold ev at q
    have q' : okE X.K EX F H (((ev C t s).bind truth).bind fun t => match t with | true => ev C a s | false => ev C b s) Q := by
      rw [bind_assoc]
      exact q
    refine ⟨F, s, R, okA.bind (wE Q) q' fun t F1 H1 s1 q1 => ?_⟩
    cases t with
    | true => exact ⟨F1, s, R.step s1, q1⟩
    | false => exact ⟨F1, s, R.step s1, q1⟩

/-! ### subscripts, calls, built-ins -/
theorem s_idx (ha : PE X x (tE X.K EX C a)) (hb : PE X y (tE X.K EX C b)) (hs : PlainIx y) : PE X (.Subscript x y pos) (tE X.K EX C (.idx a b)) :=
  (pe_ix ix_any ha hb hs).imp fun σ H Q ⟨F, s, R, q⟩ => by
    unfold ev at q
    exact ⟨F, s, R, okE.bind (wE Q) q fun dx v F1 H1 s1 r1 q1 => ⟨F1, s, R.step s1, okE.bind (wE Q) q1 fun dy u F2 H2 s2 r2 q2 => ⟨F2, dx, dy, s2.2.1, Rep.mono s2.1 _ r1, r2, okE.ans q2 (idxD_nx _ _)⟩⟩⟩
theorem s_slc {l u : Option Expr} {lo hi : Eo} (ha : PE X x (tE X.K EX C a)) (hl : PO X l (tO X.K EX C lo)) (hu : PO X u (tO X.K EX C hi)) : PE X (.Subscript x (.Slice l u none p2) pos) (tE X.K EX C (.slc a lo hi)) :=
  (pe_slice sl_any ha hl hu).imp fun σ H Q ⟨F, s, R, q⟩ => by
    unfold ev at q
    exact ⟨F, s, R, okE.bind (wE Q) q fun dx v F1 H1 s1 r1 q1 => ⟨F1, s, R.step s1, okA.bind (wE Q) q1 fun l F2 H2 s2 q2 => ⟨F2, s, (R.step s1).step s2, okA.bind (wE Q) q2 fun u F3 H3 s3 q3 =>
      ⟨F3, dx, s3.2.1, Rep.mono (s2.1.trans s3.1) _ r1, okE.ans q3 (slcD_nx _ _ _)⟩⟩⟩⟩
theorem o_no : PO X none (tO X.K EX C .no) := po_none.imp fun σ H Q ⟨F, s, R, q⟩ => q F H (.refl R.le)
theorem intOf_nx (x : D) (c : Nat) : intOf x ≠ .exc c := by
  unfold intOf; split <;> simp
theorem o_yes (ha : PE X x (tE X.K EX C a)) : PO X (some x) (tO X.K EX C (.yes a)) :=
  (po_some ha).imp fun σ H Q ⟨F, s, R, q⟩ => by
    unfold evo at q
    refine ⟨F, s, R, okE.bind (wA Q) q fun dx v F1 H1 s1 r1 q1 => ?_⟩
    cases r1 with
    | int i => exact ⟨i, rfl, q1 F1 H1 (.refl s1.2.1)⟩
    | _ => exact q1.elim
theorem es_nil : PA X [] (tEs X.K EX C .nil) := pa_nil.imp fun σ H Q ⟨F, s, R, q⟩ => q [] F H (.refl R.le) .nil
theorem es_cons {xs : List Expr} {es : Es} (ha : PE X x (tE X.K EX C a)) (hr : PA X xs (tEs X.K EX C es)) (hs : starEach (x :: xs) X.env = (false, eval x X.env) :: starEach xs X.env) : PA X (x :: xs) (tEs X.K EX C (.cons a es)) :=
  (pa_cons ha hr hs).imp fun σ H Q ⟨F, s, R, q⟩ => by
    unfold evs at q
    exact ⟨F, s, R, okE.bind (wEs Q) q fun dx v F1 H1 s1 r1 q1 => ⟨F1, s, R.step s1, okEs.bind (wEs Q) q1 fun ds vs F2 H2 s2 r2 q2 => q2 _ F2 H2 (.refl s2.2.1) (.cons (Rep.mono s2.1 _ r1) r2)⟩⟩
theorem s_call {c : Ck} {xv : Nat → Value} {k : Nat} (ok : CxOk c C xv k X EX) {f : Nat} {n : Str} {es : Es} {xs : List Expr} (hf : c.fns[f]? = some (some n)) (hg : Gl X n) (h1 : (n == ("__debug__" : Str)) = false) (ha : PA X xs (tEs X.K EX C es))
    (hs : ∀ e r, xs = e :: r → starEach (e :: r) X.env = (false, eval e X.env) :: starEach r X.env ∧ (backTo pos (starEach r X.env)).any (·.1) = false) (h0 : xs = [] → es = .nil) : PE X (.Call (.Name n p) xs [] pos) (tE X.K EX C (.call f es)) := by
  obtain ⟨ad, fd, ps, F1, hm, hk, hb⟩ := ok.amb.fn f n hf
  have imp : ∀ σ H Q, tE X.K EX C (.call f es) σ H Q → tCall (spR X.K xv (C.call f)) [] (xwish xv EX) (tEs X.K EX C es) σ H Q := fun σ H Q ⟨F, s, R, q⟩ => by
    unfold ev at q
    refine ⟨F, s, R, okEs.bind (wE Q) q fun ds vs F1 H1 s1 r1 q1 => ?_⟩
    rw [List.append_nil]
    refine ⟨F1, ds, s1.2.1, r1, ?_⟩
    cases e : C.call f ds with
    | ok d => rw [e] at q1; exact q1
    | exc c => rw [e] at q1; exact fun F' H' s' => ⟨c, rfl, rfl, q1 F' H' s'⟩
    | fail => rw [e] at q1; exact q1
  cases xs with
  | nil =>
    have e0 := h0 rfl
    subst e0
    refine (pe_call0 F1 ok.room hg hm hk hb .nil ok.pas h1).imp fun σ H Q q => ?_
    obtain ⟨F, s, R, q⟩ := imp σ H Q q
    exact q [] F H (.refl R.le) .nil
  | cons e r =>
    obtain ⟨h2, h3⟩ := hs e r rfl
    exact (pe_call F1 ok.room hg hm hk hb .nil ok.pas ha h1 h2 h3).imp imp

/-! ### built-ins -/
theorem nb {n : Str} (h : (n == ("__name__" : Str)) = false) : n ≠ "__name__" := fun e => by rw [e] at h; simp at h
theorem one_arg (ha : PE X x (tE X.K EX C a)) (hx : noStar x = true) : PA X [x] (tCons (tE X.K EX C a) tNil) := pa_cons ha pa_nil (starEach_cons hx)
theorem two_args (ha : PE X x (tE X.K EX C a)) (hx : noStar x = true) (hb : PE X y (tE X.K EX C b)) (hy : noStar y = true) : PA X [x, y] (tCons (tE X.K EX C a) (tCons (tE X.K EX C b) tNil)) := pa_cons ha (one_arg hb hy) (starEach_cons hx)
theorem backTo1 {y : Expr} (h : noStar y = true) (env : Env) : (backTo pos (starEach [y] env)).any (·.1) = false := by
  rw [starEach_cons h]; rfl
theorem s_bi {b' : Bi} (hc : X.calm = true) (hg : Gl X (biName b')) (hm : X.mg (biName b') = none) (ha : PE X x (tE X.K EX C a)) (hx : noStar x = true) : PE X (.Call (.Name (biName b') p) [x] [] pos) (tE X.K EX C (.bi b' a)) := by
  have imp : ∀ σ H Q, tE X.K EX C (.bi b' a) σ H Q → tCB (rBi X.K b') (tCons (tE X.K EX C a) tNil) σ H Q := fun σ H Q ⟨F, s, R, q⟩ => by
    unfold ev at q
    exact ⟨F, s, R, okE.bind (wE Q) q fun dx v F1 H1 s1 r1 q1 => ⟨v, F1, dx, rfl, s1.2.1, r1, okE.ans q1 (biD_nx _ _)⟩⟩
  cases b' with
  | len => exact (pe_callB (call_bi hc .len) hg hm (by decide +kernel) (one_arg ha hx) (by decide) (by decide) (starEach_cons hx) rfl).imp imp
  | all => exact (pe_callB (call_bi hc .all) hg hm (by decide +kernel) (one_arg ha hx) (by decide) (by decide) (starEach_cons hx) rfl).imp imp
  | any => exact (pe_callB (call_bi hc .any) hg hm (by decide +kernel) (one_arg ha hx) (by decide) (by decide) (starEach_cons hx) rfl).imp imp
  | sum => exact (pe_callB (call_bi hc .sum) hg hm (by decide +kernel) (one_arg ha hx) (by decide) (by decide) (starEach_cons hx) rfl).imp imp
  | tuple => exact (pe_callTy (call_bi hc .tuple) hg hm (by decide +kernel) (one_arg ha hx) (by decide) (by decide) (starEach_cons hx) rfl).imp imp
  | int => exact (pe_callTy (call_bi hc .int) hg hm (by decide +kernel) (one_arg ha hx) (by decide) (by decide) (starEach_cons hx) rfl).imp imp
theorem s_min2 (hc : X.calm = true) (hg : Gl X "min") (hm : X.mg "min" = none) (ha : PE X x (tE X.K EX C a)) (hx : noStar x = true) (hb : PE X y (tE X.K EX C b)) (hy : noStar y = true) : PE X (.Call (.Name "min" p) [x, y] [] pos) (tE X.K EX C (.min2 a b)) :=
  (pe_callB (call_mn hc) hg hm (by decide +kernel) (two_args ha hx hb hy) (by decide) (by decide) (starEach_cons hx) (backTo1 hy _)).imp fun σ H Q ⟨F, s, R, q⟩ => by
    unfold ev at q
    exact ⟨F, s, R, okE.bind (wE Q) q fun dx v F1 H1 s1 r1 q1 => ⟨F1, s, R.step s1, okE.bind (wE Q) q1 fun dy u F2 H2 s2 r2 q2 => ⟨v, u, F2, dx, dy, rfl, s2.2.1, Rep.mono s2.1 _ r1, r2, okE.ans q2 (min2D_nx _ _)⟩⟩⟩
theorem tyVal (t : Ty) : bootBuiltins (tyName t) = some (.type (tyName t)) := by
  cases t <;> decide +kernel
theorem tyName_ok (t : Ty) : ((tyName t : Str) == ("__debug__" : Str)) = false ∧ ((tyName t : Str) ≠ ("__name__" : Str)) := by
  cases t <;> (simp only [tyName]; decide)
theorem s_isi {t : Ty} (hg : Gl X "isinstance") (hm : X.mg "isinstance" = none) (hgt : Gl X (tyName t)) (hmt : X.mg (tyName t) = none) (ha : PE X x (tE X.K EX C a)) (hx : noStar x = true) : PE X (.Call (.Name "isinstance" p) [x, .Name (tyName t) p2] [] pos) (tE X.K EX C (.isi a t)) :=
  (pe_callB (call_isT t) hg hm (by decide +kernel) (pa_cons ha (pa_cons (pe_bltn (v := .ty (tyName t)) hgt hmt (tyVal t) rfl (tyName_ok t).2 (tyName_ok t).1) pa_nil rfl) (starEach_cons hx)) (by decide) (by decide) (starEach_cons hx) rfl).imp fun σ H Q ⟨F, s, R, q⟩ => by
    unfold ev at q
    exact ⟨F, s, R, okE.bind (wE Q) q fun dx v F1 H1 s1 r1 q1 => ⟨v, F1, dx, rfl, s1.2.1, r1, q1 _ F1 H1 (.refl s1.2.1) (.bl _)⟩⟩
theorem s_isi2 {t u : Ty} {j : Nat} {p4 : Pos} (hg : Gl X "isinstance") (hm : X.mg "isinstance" = none) (hgt : Gl X (tyName t)) (hmt : X.mg (tyName t) = none) (hgu : Gl X (tyName u)) (hmu : X.mg (tyName u) = none) (ha : PE X x (tE X.K EX C a)) (hx : noStar x = true) :
    PE X (.Call (.Name "isinstance" p) [x, .Tuple [.Name (tyName t) p2, .Name (tyName u) p3] j p4] [] pos) (tE X.K EX C (.isi2 a t u)) :=
  (pe_callB (call_isT2 t u) hg hm (by decide +kernel) (pa_cons ha (pa_cons (pe_tup (pa_cons (pe_bltn (v := .ty (tyName t)) hgt hmt (tyVal t) rfl (tyName_ok t).2 (tyName_ok t).1) (pa_cons (pe_bltn (v := .ty (tyName u)) hgu hmu (tyVal u) rfl (tyName_ok u).2 (tyName_ok u).1) pa_nil rfl) rfl)) pa_nil rfl) (starEach_cons hx)) (by decide) (by decide) (starEach_cons hx) rfl).imp fun σ H Q ⟨F, s, R, q⟩ => by
    unfold ev at q
    exact ⟨F, s, R, okE.bind (wE Q) q fun dx v F1 H1 s1 r1 q1 => ⟨by show 2 ≤ sizeLine; decide, fun tp htp => ⟨v, tp, F1, dx, rfl, upd_same, s1.2.1.updR (s1.2.1.non htp), r1, q1 _ F1 _ (.loose s1.2.1 htp) (.bl _)⟩⟩⟩

theorem s_rev {j : Nat} (ha : PE X x (tE X.K EX C a)) : PE X (.Subscript x (.Slice none none (some (.UnaryOp .USub (.Constant (.int 1) j p) p2)) p3) pos) (tE X.K EX C (.rev a)) :=
  (pe_revT ha).imp fun σ H Q ⟨F, s, R, q⟩ => by
    unfold ev at q
    refine ⟨F, s, R, okE.bind (wE Q) q fun dx v F1 H1 s1 r1 q1 => ?_⟩
    cases r1 with
    | tup h r => exact ⟨_, _, rfl, s1.2.1.sqT h, fun tp hp => ans.tup (K := X.K) (F := F1) q1 s1.2.1 r.reverse hp⟩
    | _ => exact q1.elim
theorem asc.upper {z : Str} (h : asc z) : asc ⟨z.cps.map PyProof.Rows.up1⟩ := by
  intro c hc
  have hc' : c ∈ z.cps.toList.map PyProof.Rows.up1 := by simpa using hc
  obtain ⟨d, hd, rfl⟩ := List.mem_map.mp hc'
  have := h d hd
  unfold PyProof.Rows.up1
  split <;> omega
theorem s_upper {apos : Pos} (hb : attributeBase x "upper" X.env (eval x X.env) = eval x X.env) (hl : (apos.endLine == pos.line) = true) (ha : PE X x (tE X.K EX C a)) : PE X (.Call (.Attribute x "upper" apos) [] [] pos) (tE X.K EX C (.upper a)) :=
  (pe_upper ha hb hl).imp fun σ H Q ⟨F, s, R, q⟩ => by
    unfold ev at q
    refine ⟨F, s, R, okE.bind (wE Q) q fun dx v F1 H1 s1 r1 q1 => ?_⟩
    cases r1 with
    | str z h =>
      simp only [upperD] at q1
      split at q1
      · rename_i hz
        refine ⟨⟨_, rfl⟩, z, rfl, rfl, Nat.le_trans hz (by decide), ?_⟩
        rw [PyProof.Rows.upper_ascii h]
        exact q1 _ F1 H1 (.refl s1.2.1) (.str _ h.upper)
      · exact q1.elim
    | _ => exact q1.elim
/-! ### owned lists, the script -/
theorem s_lenO {i : Nat} {n : Str} (hg : Gl X "len") (hm : X.mg "len" = none) (hN : X.N[i]? = some n) (hv : Vis X.env.scope n) (h1 : (n == ("__debug__" : Str)) = false) (h2 : (n == ("__classdict__" : Str)) = false) : PE X (.Call (.Name "len" p) [.Name n p2] [] pos) (tE X.K EX C (.lenO i)) :=
  (pe_callB call_len hg hm (by decide +kernel) (pa_cons (pe_var hN hv h1 h2) pa_nil rfl) (by decide) (by decide) rfl rfl).imp fun σ H Q ⟨F, s, R, q⟩ => by
    unfold ev at q
    split at q
    · rename_i h
      obtain ⟨v, e, ad, vs, rfl, n1, h3, r⟩ := R.sl i _ h
      refine ⟨_, e, _, _, rfl, .inl ⟨_, SqL.of h3, rfl⟩, ?_⟩
      rw [r.length]
      exact q _ F H (.refl R.le) (.int _)
    · exact q.elim
theorem s_inO {i : Nat} {n : Str} {neg : Bool} (hu : X.A.units + 200 < cLine) (ha : PE X x (tE X.K EX C a)) (hN : X.N[i]? = some n) (hv : Vis X.env.scope n) (h1 : (n == ("__debug__" : Str)) = false) (h2 : (n == ("__classdict__" : Str)) = false) :
    PE X (.Compare x [if neg then .NotIn else .In] [.Name n p2] pos) (tE X.K EX C (.inO neg a i)) := by
  have hm : behindInMarks (if neg then .NotIn else .In) (.Name n p2) = false := by cases neg <;> rfl
  refine (pe_cmpR (op_cmp hu _) ha (pe_var hN hv h1 h2) hm).imp fun σ H Q ⟨F, s, R, q⟩ => ?_
  unfold ev at q
  refine ⟨F, s, R, okE.bind (wE Q) q fun dx v F1 H1 s1 r1 q1 => ?_⟩
  split at q1
  · rename_i h
    obtain ⟨w, e, ad, vs, rfl, n1, h3, r⟩ := (R.step s1).sl i _ h
    split at q1
    · rename_i hz
      refine ⟨_, e, upd F1 ad (.lst vs), dx, .list _, fun b o hb => ?_, Rep.mono (.fresh n1) _ r1, .lst upd_same (RepA.mono (.fresh n1) _ r), ?_⟩
      · by_cases hb' : b = ad
        · subst hb'; rw [upd_same] at hb; cases hb; exact h3
        · rw [upd_ne hb'] at hb; exact s1.2.1 b o hb
      · cases neg with
        | true =>
          show ansB H1 (cmpD .NotIn dx (.list _)) Q
          simp only [cmpD, hz, if_true]
          exact q1 _ F1 H1 (.refl s1.2.1) (.bl _)
        | false =>
          show ansB H1 (cmpD .In dx (.list _)) Q
          simp only [cmpD, hz, if_true]
          exact q1 _ F1 H1 (.refl s1.2.1) (.bl _)
    · exact q1.elim
  · exact q1.elim
theorem t_inO {i : Nat} {n : Str} {neg : Bool} (hu : X.A.units + 200 < cLine) (ha : PE X x (tE X.K EX C a)) (hN : X.N[i]? = some n) (hv : Vis X.env.scope n) (h1 : (n == ("__debug__" : Str)) = false) (h2 : (n == ("__classdict__" : Str)) = false) :
    PT X (.Compare x [if neg then .NotIn else .In] [.Name n p2] pos) (tT X.K EX C (.inO neg a i)) := by
  have hm : behindInMarks (if neg then .NotIn else .In) (.Name n p2) = false := by cases neg <;> rfl
  refine (pt_cmpR (op_cmp hu _) ha (pe_var hN hv h1 h2) hm).imp fun σ H Q ⟨F, s, R, q⟩ => ?_
  unfold ev at q
  simp only [bind_assoc] at q
  refine ⟨F, s, R, okE.bind (wA Q) q fun dx v F1 H1 s1 r1 q1 => ?_⟩
  split at q1
  · rename_i h
    obtain ⟨w, e, ad, vs, rfl, n1, h3, r⟩ := (R.step s1).sl i _ h
    split at q1
    · rename_i hz
      refine ⟨_, e, upd F1 ad (.lst vs), dx, .list _, fun b o hb => ?_, Rep.mono (.fresh n1) _ r1, .lst upd_same (RepA.mono (.fresh n1) _ r), ?_⟩
      · by_cases hb' : b = ad
        · subst hb'; rw [upd_same] at hb; cases hb; exact h3
        · rw [upd_ne hb'] at hb; exact s1.2.1 b o hb
      · cases neg with
        | true =>
          show ansB H1 (cmpD .NotIn dx (.list _)) _
          simp only [cmpD, hz, if_true]
          exact ⟨_, rfl, q1 F1 H1 (.refl s1.2.1)⟩
        | false =>
          show ansB H1 (cmpD .In dx (.list _)) _
          simp only [cmpD, hz, if_true]
          exact ⟨_, rfl, q1 F1 H1 (.refl s1.2.1)⟩
    · exact q1.elim
  · exact q1.elim
theorem s_cell {c : Ck} {xv : Nat → Value} {k : Nat} (ok : CxOk c C xv k X EX) {i : Nat} {n : Str} (hg : Gl X "_law_cell") (hN : X.N[i]? = some n) (hv : Vis X.env.scope n) (h1 : (n == ("__debug__" : Str)) = false) (h2 : (n == ("__classdict__" : Str)) = false)
    (ha : PE X x (tE X.K EX C a)) (hx : noStar x = true) : PE X (.Call (.Name "_law_cell" p) [.Name n p2, x] [] pos) (tE X.K EX C (.cell i a)) := by
  obtain ⟨ad, fd, ps, F1, hm, hk, hb⟩ := ok.amb.cl
  refine (pe_call F1 ok.room hg hm hk hb .nil ok.pas (pa_cons (pe_var hN hv h1 h2) (one_arg ha hx) rfl) (by decide) rfl (backTo1 hx _)).imp fun σ H Q ⟨F, s, R, q⟩ => ?_
  unfold ev at q
  split at q
  · rename_i h
    obtain ⟨v, e, b, rfl, r⟩ := R.sl i _ h
    refine ⟨_, e, F, s, R, okE.bind (wE Q) q fun dx v F1 H1 s1 r1 q1 => ?_⟩
    cases r1 with
    | int k =>
      simp only at q1
      split at q1
      · rename_i hz
        exact ⟨b, _, k, rfl, (s1.1.trans s1.2.1).sqL r, hz, q1 _ F1 H1 (.refl s1.2.1) (.int _)⟩
      · exact q1.elim
    | _ => exact q1.elim
  · exact q.elim

theorem s_rows {c : Ck} {xv : Nat → Value} {k : Nat} (ok : CxOk c C xv k X EX) {n : Str} (hf : c.io = some n) (hg : Gl X n) (h1 : (n == ("__debug__" : Str)) = false) (ha : PE X x (tE X.K EX C a)) (hx : noStar x = true) (hb : PE X y (tE X.K EX C b)) (hy : noStar y = true) :
    PE X (.Call (.Name n p) [x, y, .List [] p2] [] pos) (tE X.K EX C (.rows a b)) := by
  obtain ⟨ad, fd, ps, F1, hm, hk, hbd⟩ := ok.amb.io n hf
  have h3 : (backTo pos (starEach [y, .List [] p2] X.env)).any (·.1) = false := by
    rw [starEach_cons hy]; rfl
  refine (pe_call F1 ok.room hg hm hk hbd .nil ok.pas (pa_cons ha (pa_cons hb (pa_cons (pe_lst pa_nil) pa_nil rfl) (starEach_cons hy)) (starEach_cons hx)) h1 (starEach_cons hx) h3).imp fun σ H Q ⟨F, s, R, q⟩ => ?_
  unfold ev at q
  refine ⟨F, s, R, okE.bind (wE Q) q fun dx v F1 H1 s1 r1 q1 => ⟨F1, s, R.step s1, okE.bind (wE Q) q1 fun dy u F2 H2 s2 r2 q2 => ⟨by show 0 ≤ sizeLine; exact Nat.zero_le _, fun ad hp => ?_⟩⟩⟩
  cases e : C.io dx dy [] with
  | none => rw [e] at q2; exact q2.elim
  | some es =>
    rw [e] at q2
    have hd : del (upd H2 ad (.lst [])) ad = H2 := by
      funext bb
      by_cases hbb : bb = ad
      · subst hbb; rw [del_same, hp]
      · rw [del_ne hbb, upd_ne hbb]
    have fn := s2.2.1.non hp
    refine ⟨F2, dx, dy, [], es, ad, v, u, [], rfl, s2.2.1.updR fn, fn, upd_same, Rep.mono s2.1 _ r1, r2, .nil, e, fun v' G1 G2 H' xs' t1 _ _ _ t2 rv => ?_⟩
    rw [hd] at t2
    exact q2 v' G2 H' t2 rv
/-! ### new lists -/
theorem srt_nx (x : D) : ∀ c, ((seqOf x).bind srtD) ≠ .exc c := by
  intro c h
  cases x with
  | list xs => simp only [seqOf, R.bind_ok, srtD] at h; split at h <;> cases h
  | tuple xs => simp only [seqOf, R.bind_ok, srtD] at h; split at h <;> cases h
  | _ => cases h
theorem l_disp {es : Es} {xs : List Expr} (h : PA X xs (tEs X.K EX C es)) (hl : xs.length ≤ 1000) (hk : ∀ s ds, evs C es s = .ok ds → ds.length = xs.length) : PE X (.List xs pos) (tL X.K EX C (.disp es)) :=
  (pe_lst h).imp fun σ H Q ⟨F, s, R, q⟩ => by
    unfold evL at q
    refine ⟨F, s, R, ?_⟩
    cases e : evs C es s with
    | ok ds =>
      rw [e] at q
      intro vs F1 H1 s1 r1
      refine ⟨?_, fun p hp => ?_⟩
      · rw [r1.length, hk s ds e, sizeLine_eq]; omega
      · exact q p vs F1 _ (s1.trans (.loose s1.2.1 hp)) (s1.2.2.1.non hp) (s1.2.1.non hp) upd_same r1
    | exc c => rw [e] at q; exact q
    | fail => rw [e] at q; exact q.elim
theorem l_cat (ha : PE X x (tE X.K EX C a)) (hb : PE X y (tE X.K EX C b)) : PE X (.BinOp x .Add y pos) (tL X.K EX C (.cat a b)) :=
  (pe_op op_catL ha hb).imp fun σ H Q ⟨F, s, R, q⟩ => by
    unfold evL at q
    exact ⟨F, s, R, okE.bind (wL Q) q fun dx v F1 H1 s1 r1 q1 => ⟨F1, s, R.step s1, okE.bind (wL Q) q1 fun dy u F2 H2 s2 r2 q2 => ⟨F2, dx, dy, s2.2.1, Rep.mono s2.1 _ r1, r2, okL.ans q2 (cat_nx _ _)⟩⟩⟩
theorem l_rep (ha : PE X x (tE X.K EX C a)) (hb : PE X y (tE X.K EX C b)) : PE X (.BinOp x .Mult y pos) (tL X.K EX C (.rep a b)) :=
  (pe_op op_repL ha hb).imp fun σ H Q ⟨F, s, R, q⟩ => by
    unfold evL at q
    exact ⟨F, s, R, okE.bind (wL Q) q fun dx v F1 H1 s1 r1 q1 => ⟨F1, s, R.step s1, okE.bind (wL Q) q1 fun dy u F2 H2 s2 r2 q2 => ⟨F2, dx, dy, s2.2.1, Rep.mono s2.1 _ r1, r2, okL.ans q2 (rep_nx _ _)⟩⟩⟩
theorem l_srt (hu : X.A.units + 200 < cLine) (hg : Gl X "sorted") (hm : X.mg "sorted" = none) (ha : PE X x (tE X.K EX C a)) (hx : noStar x = true) : PE X (.Call (.Name "sorted" p) [x] [] pos) (tL X.K EX C (.srt a)) :=
  (pe_callB (call_srt hu) hg hm (by decide +kernel) (one_arg ha hx) (by decide) (by decide) (starEach_cons hx) rfl).imp fun σ H Q ⟨F, s, R, q⟩ => by
    unfold evL at q
    exact ⟨F, s, R, okE.bind (wL Q) q fun dx v F1 H1 s1 r1 q1 => ⟨v, F1, dx, rfl, s1.2.1, r1, okL.ans q1 (srt_nx _)⟩⟩
theorem l_sset {pos2 : Pos} (hc : X.calm = true) (hu : X.A.units + 200 < cLine) (hg : Gl X "sorted") (hm : X.mg "sorted" = none) (hg2 : Gl X "set") (hm2 : X.mg "set" = none) (ha : PE X x (tE X.K EX C a)) (hx : noStar x = true) :
    PE X (.Call (.Name "sorted" p) [.Call (.Name "set" p2) [x] [] pos2] [] pos) (tL X.K EX C (.sset a)) :=
  (pe_callB (call_sortD hc hu) hg hm (by decide +kernel) (pa_cons (pe_callTy (call_setD hc hu) hg2 hm2 (by decide +kernel) (one_arg ha hx) (by decide) (by decide) (starEach_cons hx) rfl) pa_nil rfl) (by decide) (by decide) rfl rfl).imp fun σ H Q ⟨F, s, R, q⟩ => by
    unfold evL at q
    refine ⟨F, s, R, okE.bind (wL Q) q fun dx v F1 H1 s1 r1 q1 => ?_⟩
    cases r1 with
    | @lst ad vs ds h1 a1 =>
      simp only [listOf, Tf.R.bind_ok, ssetD] at q1
      split at q1
      · rename_i ks e
        split at q1
        · rename_i hf
          refine ⟨_, F1, ds, ks, rfl, s1.2.1, .lst h1 a1, e, hf.1, fun L M b e1 e2 e3 e4 e5 nd => ⟨b, M, rfl, upd_same, fun p hp => ?_, fun N pp pm pw hn => ?_⟩⟩
          · exact (s1.2.1.trans (.fresh e3)).sqT (e2 p (e4 p hp))
          · have st : Stp F1 H1 F1 (upd (upd H1 b (SetTO X.prog X.w b M)) pp (.lst (N.map fun q => V.ref q.1))) := (Stp.loose s1.2.1 e3).trans (.loose (s1.2.1.updR (s1.2.1.non e3)) hn)
            have hn1 : H1 pp = none := Le.non (.fresh e3) hn
            have rr := repA_rows (K := X.K) (F := F1) N fun p hp => e2 p (e4 p (pm.mem_iff.mp hp))
            rw [rows_one e1 e4 e5 nd pm pw] at rr
            exact q1 pp _ F1 _ st hn1 (s1.2.1.non hn1) upd_same rr
        · exact q1.elim
      · exact q1.elim
    | _ => exact q1.elim
theorem l_ofs (hg : Gl X "list") (hm : X.mg "list" = none) (ha : PE X x (tE X.K EX C a)) (hx : noStar x = true) : PE X (.Call (.Name "list" p) [x] [] pos) (tL X.K EX C (.ofs a)) :=
  (pe_callTy call_ofs hg hm (by decide +kernel) (one_arg ha hx) (by decide) (by decide) (starEach_cons hx) rfl).imp fun σ H Q ⟨F, s, R, q⟩ => by
    unfold evL at q
    exact ⟨F, s, R, okE.bind (wL Q) q fun dx v F1 H1 s1 r1 q1 => ⟨v, F1, dx, rfl, s1.2.1, r1, okL.ans q1 (seqOf_nx _)⟩⟩

/-! ### what is walked -/
section
variable {tg : Expr}
theorem i_seq (ha : PE X x (tE X.K EX C a)) : PI X tg x (tI X.K EX C (.seq a)) :=
  (pi_seq ha).imp fun σ H Q ⟨F, s, R, q⟩ => by
    unfold evI at q
    refine ⟨F, s, R, okE.bind (wI Q) q fun dx v F1 H1 s1 r1 q1 => ?_⟩
    cases r1 with
    | lst h r => exact .inl ⟨_, _, rfl, SqL.of (s1.2.1 _ _ h), q1 _ F1 H1 (.refl s1.2.1) (.list h r)⟩
    | tup h r => exact .inr (.inl ⟨_, _, rfl, s1.2.1.sqT h, q1 _ F1 H1 (.refl s1.2.1) (.tup h r)⟩)
    | str z h => exact .inr (.inr ⟨z, rfl, q1 _ F1 H1 (.refl s1.2.1) (.str h)⟩)
    | _ => exact q1.elim
theorem i_rng1 (hg : Gl X "range") (hm : X.mg "range" = none) (ha : PE X x (tE X.K EX C a)) (hx : noStar x = true) : PI X tg (.Call (.Name "range" p) [x] [] pos) (tI X.K EX C (.rng1 a)) :=
  (pi_range1 hg hm (one_arg ha hx) (starEach_cons hx)).imp fun σ H Q ⟨F, s, R, q⟩ => by
    unfold evI at q
    refine ⟨F, s, R, okE.bind (wI Q) q fun dx v F1 H1 s1 r1 q1 => ?_⟩
    cases r1 with
    | int i =>
      simp only [intOf, Tf.R.bind_ok, rng] at q1
      split at q1
      · rename_i hz
        refine ⟨i, rfl, hz.2.2.1, hz.2.2.2, ?_⟩
        rw [Int.sub_zero] at q1
        exact q1 _ F1 H1 (.refl s1.2.1) .rng
      · exact q1.elim
    | _ => exact q1.elim
theorem i_rng2 (hg : Gl X "range") (hm : X.mg "range" = none) (ha : PE X x (tE X.K EX C a)) (hx : noStar x = true) (hb : PE X y (tE X.K EX C b)) (hy : noStar y = true) : PI X tg (.Call (.Name "range" p) [x, y] [] pos) (tI X.K EX C (.rng2 a b)) :=
  (pi_range2 hg hm (two_args ha hx hb hy) (by rw [starEach_cons hx, starEach_cons hy]; rfl) (starEach_cons hy)).imp fun σ H Q ⟨F, s, R, q⟩ => by
    unfold evI at q
    refine ⟨F, s, R, okE.bind (wI Q) q fun dx v F1 H1 s1 r1 q1 => ⟨F1, s, R.step s1, okE.bind (wI Q) q1 fun dy u F2 H2 s2 r2 q2 => ?_⟩⟩
    cases r1 with
    | int i =>
      cases r2 with
      | int j =>
        simp only [intOf, Tf.R.bind_ok, rng] at q2
        split at q2
        · rename_i hz
          exact ⟨i, j, rfl, hz, q2 _ F2 H2 (.refl s2.2.1) .rng⟩
        · exact q2.elim
      | _ => exact q2.elim
    | _ => exact q2.elim
theorem i_enum {elts : List Expr} {kk : Nat} {tpos : Pos} (hg : Gl X "enumerate") (hm : X.mg "enumerate" = none) (ha : PE X x (tE X.K EX C a)) (hx : noStar x = true) : PI X (.Tuple elts kk tpos) (.Call (.Name "enumerate" p) [x] [] pos) (tI X.K EX C (.enum a)) :=
  (pi_enumA hg hm (one_arg ha hx) (starEach_cons hx)).imp fun σ H Q ⟨F, s, R, q⟩ => by
    unfold evI at q
    refine ⟨F, s, R, okE.bind (wI Q) q fun dx v F1 H1 s1 r1 q1 => ?_⟩
    cases r1 with
    | lst h r => exact .inl ⟨_, _, rfl, SqL.of (s1.2.1 _ _ h), q1 _ F1 H1 (.refl s1.2.1) (.enumL h r)⟩
    | tup h r => exact .inr ⟨_, _, rfl, s1.2.1.sqT h, q1 _ F1 H1 (.refl s1.2.1) (.enumT h r)⟩
    | _ => exact q1.elim
theorem i_zip {elts : List Expr} {kk : Nat} {tpos : Pos} (hg : Gl X "zip") (hm : X.mg "zip" = none) (ha : PE X x (tE X.K EX C a)) (hx : noStar x = true) (hb : PE X y (tE X.K EX C b)) (hy : noStar y = true) : PI X (.Tuple elts kk tpos) (.Call (.Name "zip" p) [x, y] [] pos) (tI X.K EX C (.zip a b)) :=
  (pi_zipT hg hm (two_args ha hx hb hy) (starEach_cons hx) (backTo1 hy _)).imp fun σ H Q ⟨F, s, R, q⟩ => by
    unfold evI at q
    refine ⟨F, s, R, okE.bind (wI Q) q fun dx v F1 H1 s1 r1 q1 => ⟨F1, s, R.step s1, okE.bind (wI Q) q1 fun dy u F2 H2 s2 r2 q2 => ?_⟩⟩
    cases r1 with
    | tup h r =>
      cases r2 with
      | tup h' r' => exact ⟨_, _, _, _, rfl, s2.2.1.sqT (s2.1.sqT h), s2.2.1.sqT h', q2 _ F2 H2 (.refl s2.2.1) (.zipT (s2.1.sqT h) (RepA.mono s2.1 _ r) h' r')⟩
      | _ => exact q2.elim
    | _ => exact q2.elim
end
theorem c_no : PTs X [] (tC1 X.K EX C .no) := ⟨fun pins s σ H Q I ⟨F, d, R, q⟩ => pts_nil.run pins s σ H Q I (q F H (.refl R.le))⟩
theorem c_yes (ha : PT X x (tT X.K EX C a)) : PTs X [x] (tC1 X.K EX C (.yes a)) := ⟨fun pins s σ H Q I ⟨F, d, R, q⟩ => (pts_one ha).run pins s σ H Q I ⟨F, d, R, by unfold evc at q; exact q⟩⟩
/-- a list comprehension's turns -/
theorem lc_aux {t : Tg} {f : Eo} {m : E} {σ : L2.St} {F H F1 H1 : Hp} {Q : VK} {s : Sd} {items : List D} {J : L2.It} {fb : D → R (Option D)} (RS : Rst X.K F H σ s) (s1 : Stp F H F1 H1) (wk : Wk X.K J F1 items) (hlen : items.length ≤ lim)
    (hfb : ∀ d o, fb d = .ok o → ∃ s', bindT t d (wipeD s (slotsT t)) = some s' ∧ ((evc C f s' = .ok false ∧ o = none) ∨ ∃ y, evc C f s' = .ok true ∧ ev C m s' = .ok y ∧ o = some y))
    (q1 : okL X.K EX F1 H1 (compGo fb items) Q) : ∀ D, H1 D = none → ∃ W : Nat → Nat → Hp → Prop, (∃ m, W 0 m (upd H1 D (.lst []))) ∧ ∀ i m' H, W i m' H →
  (J.stop i H ∧ Q (.ref D) H) ∨ (J.go i H ∧ ∃ Nx : Hp → Prop, (∀ H', Nx H' → ∃ n', n' < m' ∧ W (i + 1) n' H') ∧ ∀ x H', J.yld i H x H' → gTg X.K t x (L2.wipe σ (slotsT t)) H' fun σ2 H2 => L2.wipe σ2 (slotsT t) = L2.wipe σ (slotsT t) ∧ tC1 X.K (fun _ _ => False) C f σ2 H2 fun b H3 =>
    if b = true then tE X.K (fun _ _ => False) C m σ2 H3 fun y H4 => ∃ acc, H4 D = some (.lst acc) ∧ acc.length < sizeLine ∧ Nx (upd H4 D (.lst (acc ++ [y]))) else Nx H3) := by
  intro D hD
  refine ⟨fun i n H' => n = items.length - i ∧ i ≤ items.length ∧ ∃ F' vs done, Stp F1 H1 F' H' ∧ F' D = none ∧ H' D = some (.lst vs) ∧ RepA X.K F' vs done ∧ done.length ≤ i ∧
      (match compGo fb (items.drop i) with
        | .ok rs => ∀ vs' F'' H'', Stp F1 H1 F'' H'' → F'' D = none → H'' D = some (.lst vs') → RepA X.K F'' vs' (done ++ rs) → Q (.ref D) H''
        | _ => False), ⟨items.length, by simp, Nat.zero_le _, F1, [], [], .loose s1.2.1 hD, s1.2.1.non hD, upd_same, .nil, Nat.le_refl _, ?_⟩, ?_⟩
  · rw [List.drop_zero]
    cases e : compGo fb items with
    | ok rs => rw [e] at q1; exact fun vs' F'' H'' a b c r => q1 D vs' F'' H'' a hD b c r
    | exc c => exact absurd e (compGo_nx _ _ _)
    | fail => rw [e] at q1; exact q1
  · rintro i n H' ⟨rfl, hi, F', vs, done, sp, nF, hD', rp, hdl, hq⟩
    by_cases hlt : i < items.length
    · refine .inr ⟨wk.go i F' H' sp.1 sp.2.1 hlt, _, fun H'' z => ⟨items.length - (i + 1), by omega, z⟩, fun x H'' y => ?_⟩
      have hd : items[i]? = some items[i] := List.getElem?_eq_getElem hlt
      obtain ⟨F2, sp2, rx⟩ := wk.yld i F' H' x H'' _ sp.1 sp.2.1 y hd
      rw [List.drop_eq_getElem_cons hlt] at hq
      unfold compGo at hq
      cases e1 : fb items[i] with
      | exc c => rw [e1] at hq; exact hq.elim
      | fail => rw [e1] at hq; exact hq.elim
      | ok o =>
        rw [e1] at hq
        simp only [R.still_ok, R.bind_ok] at hq
        obtain ⟨s', e2, ho⟩ := hfb _ _ e1
        have keepD : ∀ {G G' K' K'' : Hp}, Stp G K' G' K'' → G D = none → K' D = some (.lst vs) → G' D = none := fun {G G' K' K''} sp n h => by
          cases z : G' D with
          | none => rfl
          | some o' =>
            rcases sp.2.2.2 D o' z with z' | z'
            · rw [n] at z'; cases z'
            · rw [h] at z'; cases z'
        have nF2 : F2 D = none := keepD sp2 nF hD'
        have hD2 : H'' D = some (.lst vs) := sp2.2.2.1 D _ hD'
        have R2 : Rst X.K F2 H'' (L2.wipe σ (slotsT t)) (wipeD s (slotsT t)) := (((RS.step s1).step sp).step sp2).wipe _
        refine bindT_ok t _ _ s' x _ _ e2 rx R2 fun σ2 R3 hw => ⟨?_, ?_⟩
        · rw [hw (slotsT t) fun i hi => hi]
          exact wipe_wipe σ (slotsT t)
        · refine ⟨F2, s', R3, ?_⟩
          rcases ho with ⟨e3, rfl⟩ | ⟨yd, e3, e5, rfl⟩
          · rw [e3]
            intro F3 H3 s3
            rw [if_neg (by decide)]
            refine ⟨rfl, hlt, F3, vs, done, (sp.trans sp2).trans s3, keepD s3 nF2 hD2, s3.2.2.1 D _ hD2, RepA.mono (sp2.1.trans s3.1) _ rp, Nat.le_succ_of_le hdl, ?_⟩
            cases e4 : compGo fb (items.drop (i + 1)) with
            | ok rs => rw [e4] at hq; exact hq
            | exc c => rw [e4] at hq; exact hq.elim
            | fail => rw [e4] at hq; exact hq.elim
          · rw [e3]
            intro F3 H3 s3
            have nF3 : F3 D = none := keepD s3 nF2 hD2
            have hD3 : H3 D = some (.lst vs) := s3.2.2.1 D _ hD2
            rw [if_pos rfl]
            refine ⟨F3, s', R3.step s3, ?_⟩
            rw [e5]
            intro yv F4 H4 s4 r4
            have nF4 : F4 D = none := keepD s4 nF3 hD3
            have hD4 : H4 D = some (.lst vs) := s4.2.2.1 D _ hD3
            have spA := ((sp.trans sp2).trans s3).trans s4
            refine ⟨vs, hD4, ?_, rfl, hlt, F4, vs ++ [yv], done ++ [yd], ⟨spA.1, spA.2.1.updR nF4, fun b o hb => ?_, spA.2.2.2⟩, nF4, upd_same, (RepA.mono ((sp2.1.trans s3.1).trans s4.1) _ rp).append (.cons r4 .nil), ?_, ?_⟩
            · have hl : lim = 1000000 := rfl
              rw [rp.length, sizeLine_eq]; omega
            · rw [upd_ne (ne_of_none hb hD)]; exact spA.2.2.1 b o hb
            · simp; omega
            · cases e4 : compGo fb (items.drop (i + 1)) with
              | ok rs =>
                rw [e4] at hq
                intro vs' F'' H'' a b c r
                refine hq vs' F'' H'' a b c ?_
                simpa using r
              | exc c => rw [e4] at hq; exact hq.elim
              | fail => rw [e4] at hq; exact hq.elim
    · have e : i = items.length := by omega
      subst e
      refine .inl ⟨wk.stop F' H' sp.1 sp.2.1, ?_⟩
      rw [List.drop_length] at hq
      simp only [compGo] at hq
      exact hq vs F' H' sp nF hD' (by rw [List.append_nil]; exact rp)
/-- a list comprehension -/
theorem lc_imp {t : Tg} {it : It} {f : Eo} {m : E} {σ : L2.St} {H : Hp} {Q : VK} (h : tL X.K EX C (.comp t it f m) σ H Q) :
    tLc (tI X.K EX C it) (gTg X.K t) (tC1 X.K (fun _ _ => False) C f) (tE X.K (fun _ _ => False) C m) (slotsT t) σ H Q := by
  obtain ⟨F, s, RS, q⟩ := h
  unfold evL at q
  refine ⟨F, s, RS, okI.bind (wL Q) q fun items J F1 H1 s1 wk q1 => ?_⟩
  split at q1
  · rename_i hlen
    refine lc_aux RS s1 wk hlen (fun d o h => ?_) q1
    cases e2 : bindT t d (wipeD s (slotsT t)) with
    | none => rw [e2] at h; cases h
    | some s' =>
      rw [e2] at h
      simp only at h
      refine ⟨s', rfl, ?_⟩
      cases e3 : evc C f s' with
      | exc c => rw [e3] at h; cases h
      | fail => rw [e3] at h; cases h
      | ok b =>
        rw [e3] at h
        cases b with
        | false => cases h; exact .inl ⟨rfl, rfl⟩
        | true =>
          cases e5 : ev C m s' with
          | exc c => simp only [R.bind_ok, e5] at h; cases h
          | fail => simp only [R.bind_ok, e5] at h; cases h
          | ok y => simp only [R.bind_ok, e5] at h; cases h; exact .inr ⟨y, rfl, rfl, rfl⟩
  · exact q1.elim
end
end Tf
/-! Tf2h: every expression that the check takes. -/
namespace Tf
open PySem L2
def lenEs : Es → Nat
  | .nil => 0
  | .cons _ r => lenEs r + 1
theorem evs_len (C : EvC) : ∀ (es : Es) (s : Sd) (ds : List D), evs C es s = .ok ds → ds.length = lenEs es
  | .nil, s, ds, h => by unfold evs at h; cases h; rfl
  | .cons e r, s, ds, h => by
    unfold evs at h
    cases h1 : ev C e s with
    | exc c => rw [h1] at h; cases h
    | fail => rw [h1] at h; cases h
    | ok x =>
      rw [h1] at h
      cases h2 : evs C r s with
      | exc c => simp only [R.bind_ok, h2] at h; cases h
      | fail => simp only [R.bind_ok, h2] at h; cases h
      | ok xs =>
        simp only [R.bind_ok, h2] at h
        cases h
        simp [lenEs, evs_len C r s xs h2]
theorem chkEs_len (c : Ck) : ∀ (m : Es) (sc : Scope) (fn : Str → Bool) (es : List Expr), chkEs c m sc fn es = true → lenEs m = es.length
  | .nil, sc, fn, es, h => by
    unfold chkEs at h
    cases es with
    | nil => rfl
    | cons e es => exact absurd h (by simp)
  | .cons m r, sc, fn, es, h => by
    unfold chkEs at h
    cases es with
    | nil => exact absurd h (by simp)
    | cons e es =>
      simp only [Bool.and_eq_true] at h
      simp [lenEs, chkEs_len c r sc fn es h.2]
def plainTest : Expr → Bool
  | .UnaryOp .Not _ _ => false
  | .BoolOp _ _ _ => false
  | .IfExp _ _ _ _ => false
  | .Compare _ _ _ _ => false
  | _ => true
theorem plain_isTrue {e : Expr} {env : Env} (h : plainTest e = true) : ∀ whole, isTrue e env whole = (do let v ← whole; standAt e.pos; holding [v] (truthy v)) := by
  intro whole
  cases e with
  | UnaryOp op x p => cases op <;> first | rfl | exact absurd h (by simp [plainTest])
  | BoolOp _ _ _ => exact absurd h (by simp [plainTest])
  | IfExp _ _ _ _ => exact absurd h (by simp [plainTest])
  | Compare _ _ _ _ => exact absurd h (by simp [plainTest])
  | _ => rfl
def special : E → Bool
  | .cmp _ _ _ => true
  | .cmp2 _ _ _ _ _ => true
  | .inO _ _ _ => true
  | .and _ _ => true
  | .or _ _ => true
  | .not _ => true
  | .ite _ _ _ => true
  | _ => false
theorem chkE_plain (c : Ck) (m : E) (sc : Scope) (fn : Str → Bool) (e : Expr) (hm : special m = false) (h : chkE c m sc fn e = true) : plainTest e = true := by
  cases m with
  | cmp _ _ _ => cases hm
  | cmp2 _ _ _ _ _ => cases hm
  | inO _ _ _ => cases hm
  | and _ _ => cases hm
  | or _ _ => cases hm
  | not _ => cases hm
  | ite _ _ _ => cases hm
  | lst l =>
    unfold chkE at h
    cases l <;> (unfold chkL at h; (try split at h) <;> first | rfl | cases h)
  | _ => unfold chkE at h; (try split at h) <;> first | rfl | cases h
theorem tst_of {m : E} (h : special m = false) : tst m = true := by
  cases m <;> first | rfl | cases h
theorem blName_of {X : Cx} {x y : Str} (h : blName x y X.env.scope = true) : x = y ∧ Gl X x := by
  unfold blName at h
  simp only [Bool.and_eq_true, decide_eq_true_eq] at h
  exact ⟨h.1, glo_of h.2⟩
theorem nmOk_of {x : Str} (h : nmOk x = true) : (x == ("__debug__" : Str)) = false ∧ (x == ("__classdict__" : Str)) = false := by
  unfold nmOk at h
  simp only [Bool.and_eq_true, Bool.not_eq_true'] at h
  exact h
theorem CxOk.units {c : Ck} {C : EvC} {xv : Nat → Value} {k : Nat} {X : Cx} {EX : Nat → Hp → Prop} (h : CxOk c C xv k X EX) : X.A.units + 200 < cLine := by
  have := h.room.un
  omega
theorem pw_one {X : Cx} {x : Expr} {op : BoolOp} {pos : Pos} {t : TT} (h : PT X x t) : PW X (.BoolOp op [x] pos) t := by
  cases op with
  | And => exact pw_and1 h
  | Or => exact pw_or1 h
theorem own_snd (c : Ck) (is : List Nat) : (ownOf c is).map (·.2) = is := by
  unfold ownOf
  rw [List.map_map]
  induction is with
  | nil => rfl
  | cons i is ih => simp only [List.map_cons, ih]; rfl
theorem mem_bnames {x : Str} (h : bnames.contains x = true) : x ∈ bnames := by
  simpa using h
section
variable {c : Ck} {C : EvC} {xv : Nat → Value} {k : Nat}
mutual
theorem sE : ∀ (m : E) (X : Cx) (EX : Nat → Hp → Prop) (ok : CxOk c C xv k X EX) (e : Expr), chkE c m X.env.scope X.fn e = true → PE X e (tE X.K EX C m)
  | .var i, X, EX, ok, e, h => by
    unfold chkE at h
    split at h
    · simp only [Bool.and_eq_true, decide_eq_true_eq] at h
      exact s_var (by rw [ok.nm]; exact h.1.1) (vis_of h.1.2) (nmOk_of h.2).1 (nmOk_of h.2).2
    · cases h
  | .con d, X, EX, ok, e, h => by
    unfold chkE at h
    split at h
    · exact s_con h
    · cases h
  | .glo g, X, EX, ok, e, h => by
    unfold chkE at h
    split at h
    · simp only [Bool.and_eq_true, decide_eq_true_eq] at h
      exact s_glo (glo_of h.1.2) (nmOk_of h.2).1 fun d hd => ok.amb.gv g _ d h.1.1 hd
    · cases h
  | .tup es, X, EX, ok, e, h => by
    unfold chkE at h
    split at h
    · simp only [Bool.and_eq_true, decide_eq_true_eq] at h
      refine s_tup (sEs es X EX ok _ h.1) h.2 fun s ds e => ?_
      rw [evs_len C es s ds e, chkEs_len c es _ _ _ h.1]
    · cases h
  | .lst l, X, EX, ok, e, h => by
    unfold chkE at h
    exact s_lst (sL l X EX ok e h)
  | .bin op a b, X, EX, ok, e, h => by
    unfold chkE at h
    split at h
    · simp only [Bool.and_eq_true, decide_eq_true_eq] at h
      rw [h.1.1]
      exact s_bin (sE a X EX ok _ h.1.2) (sE b X EX ok _ h.2)
    · cases h
  | .neg a, X, EX, ok, e, h => by
    unfold chkE at h
    split at h
    · exact s_neg (sE a X EX ok _ h)
    · cases h
  | .cmp op a b, X, EX, ok, e, h => by
    unfold chkE at h
    split at h
    · simp only [Bool.and_eq_true, decide_eq_true_eq, Bool.not_eq_true'] at h
      obtain ⟨⟨⟨rfl, h2⟩, h3⟩, h4⟩ := h
      exact s_cmp ok.units (sE a X EX ok _ h2) (sE b X EX ok _ h3) h4
    · cases h
  | .cmp2 o p a b d, X, EX, ok, e, h => by
    unfold chkE at h
    split at h
    · simp only [Bool.and_eq_true, decide_eq_true_eq] at h
      obtain ⟨⟨⟨⟨⟨⟨⟨⟨rfl, rfl⟩, h2⟩, h3⟩, h4⟩, _⟩, _⟩, h5⟩, h6⟩ := h
      exact s_cmp2 ok.units (sE a X EX ok _ h2) (sE b X EX ok _ h3) (sE d X EX ok _ h4) (marks2 h5 h6)
    · cases h
  | .and a b, X, EX, ok, e, h => by
    unfold chkE at h
    split at h
    · simp only [Bool.and_eq_true] at h
      obtain ⟨h1, h2⟩ := h
      split at h2
      · exact s_and (sE a X EX ok _ h1) (pe_one (sE b X EX ok _ h2))
      · exact s_and (sE a X EX ok _ h1) (sE b X EX ok _ h2)
    · cases h
  | .or a b, X, EX, ok, e, h => by
    unfold chkE at h
    split at h
    · simp only [Bool.and_eq_true] at h
      obtain ⟨h1, h2⟩ := h
      split at h2
      · exact s_or (sE a X EX ok _ h1) (pe_one (sE b X EX ok _ h2))
      · exact s_or (sE a X EX ok _ h1) (sE b X EX ok _ h2)
    · cases h
  | .not a, X, EX, ok, e, h => by
    unfold chkE at h
    split at h
    · exact s_not (sE a X EX ok _ h)
    · cases h
  | .ite t a b, X, EX, ok, e, h => by
    unfold chkE at h
    split at h
    · simp only [Bool.and_eq_true] at h
      exact s_ite (sT t X EX ok _ h.1.1.1 h.1.1.2).1 (sE a X EX ok _ h.1.2) (sE b X EX ok _ h.2)
    · cases h
  | .idx a i, X, EX, ok, e, h => by
    unfold chkE at h
    split at h
    · simp only [Bool.and_eq_true] at h
      exact s_idx (sE a X EX ok _ h.1.1) (sE i X EX ok _ h.1.2) (plainIx_of h.2)
    · cases h
  | .slc a lo hi, X, EX, ok, e, h => by
    unfold chkE at h
    split at h
    · simp only [Bool.and_eq_true] at h
      exact s_slc (sE a X EX ok _ h.1.1) (sO lo X EX ok _ h.1.2) (sO hi X EX ok _ h.2)
    · cases h
  | .rev a, X, EX, ok, e, h => by
    unfold chkE at h
    split at h
    · exact s_rev (sE a X EX ok _ h)
    · cases h
  | .call f es, X, EX, ok, e, h => by
    unfold chkE at h
    split at h
    · simp only [Bool.and_eq_true, decide_eq_true_eq] at h
      obtain ⟨⟨⟨h1, h2⟩, h3⟩, h4⟩ := h
      refine s_call ok h1 (glo_of h2) (nmOk_of h3).1 (sEs es X EX ok _ h4) (fun e r he => ?_) (fun he => ?_)
      · subst he
        cases es with
        | nil => unfold chkEs at h4; cases h4
        | cons m mr =>
          unfold chkEs at h4
          simp only [Bool.and_eq_true] at h4
          exact ⟨starEach_cons (chkE_noStar c m _ _ e h4.1), chkEs_stars c mr _ _ r X.env _ h4.2⟩
      · subst he
        cases es with
        | nil => rfl
        | cons m mr => unfold chkEs at h4; cases h4
    · cases h
  | .rows a b, X, EX, ok, e, h => by
    unfold chkE at h
    split at h
    · simp only [Bool.and_eq_true, decide_eq_true_eq] at h
      obtain ⟨⟨⟨⟨h1, h2⟩, h3⟩, h4⟩, h5⟩ := h
      exact s_rows ok h1 (glo_of h2) (nmOk_of h3).1 (sE a X EX ok _ h4) (chkE_noStar c a _ _ _ h4) (sE b X EX ok _ h5) (chkE_noStar c b _ _ _ h5)
    · cases h
  | .isi a t, X, EX, ok, e, h => by
    unfold chkE at h
    split at h
    · simp only [Bool.and_eq_true] at h
      obtain ⟨⟨h1, h2⟩, h3⟩ := h
      obtain ⟨rfl, g1⟩ := blName_of h1
      obtain ⟨rfl, g2⟩ := blName_of h2
      exact s_isi g1 (ok.amb.bl _ (by decide)) g2 (ok.amb.bl _ (by cases t <;> decide)) (sE a X EX ok _ h3) (chkE_noStar c a _ _ _ h3)
    · cases h
  | .isi2 a t u, X, EX, ok, e, h => by
    unfold chkE at h
    split at h
    · simp only [Bool.and_eq_true] at h
      obtain ⟨⟨⟨h1, h2⟩, h2'⟩, h3⟩ := h
      obtain ⟨rfl, g1⟩ := blName_of h1
      obtain ⟨rfl, g2⟩ := blName_of h2
      obtain ⟨rfl, g3⟩ := blName_of h2'
      exact s_isi2 g1 (ok.amb.bl _ (by decide)) g2 (ok.amb.bl _ (by cases t <;> decide)) g3 (ok.amb.bl _ (by cases u <;> decide)) (sE a X EX ok _ h3) (chkE_noStar c a _ _ _ h3)
    · cases h
  | .bi b a, X, EX, ok, e, h => by
    unfold chkE at h
    split at h
    · simp only [Bool.and_eq_true] at h
      obtain ⟨rfl, g1⟩ := blName_of h.1
      exact s_bi ok.calm g1 (ok.amb.bl _ (by cases b <;> decide)) (sE a X EX ok _ h.2) (chkE_noStar c a _ _ _ h.2)
    · cases h
  | .min2 a b, X, EX, ok, e, h => by
    unfold chkE at h
    split at h
    · simp only [Bool.and_eq_true] at h
      obtain ⟨rfl, g1⟩ := blName_of h.1.1
      exact s_min2 ok.calm g1 (ok.amb.bl _ (by decide)) (sE a X EX ok _ h.1.2) (chkE_noStar c a _ _ _ h.1.2) (sE b X EX ok _ h.2) (chkE_noStar c b _ _ _ h.2)
    · cases h
  | .lenO i, X, EX, ok, e, h => by
    unfold chkE at h
    split at h
    · simp only [Bool.and_eq_true, decide_eq_true_eq] at h
      obtain ⟨⟨⟨h1, h2⟩, h3⟩, h4⟩ := h
      obtain ⟨rfl, g1⟩ := blName_of h1
      exact s_lenO g1 (ok.amb.bl _ (by decide)) (by rw [ok.nm]; exact h2) (vis_of h3) (nmOk_of h4).1 (nmOk_of h4).2
    · cases h
  | .inO neg a i, X, EX, ok, e, h => by
    unfold chkE at h
    split at h
    · simp only [Bool.and_eq_true, decide_eq_true_eq] at h
      obtain ⟨⟨⟨⟨h1, h2⟩, h3⟩, h4⟩, h5⟩ := h
      rw [h1]
      exact s_inO ok.units (sE a X EX ok _ h2) (by rw [ok.nm]; exact h3) (vis_of h4) (nmOk_of h5).1 (nmOk_of h5).2
    · cases h
  | .cell i a, X, EX, ok, e, h => by
    unfold chkE at h
    split at h
    · simp only [Bool.and_eq_true, decide_eq_true_eq] at h
      obtain ⟨⟨⟨⟨⟨h1, h2⟩, h3⟩, h4⟩, h5⟩, h6⟩ := h
      subst h1
      exact s_cell ok (glo_of h2) (by rw [ok.nm]; exact h3) (vis_of h4) (nmOk_of h5).1 (nmOk_of h5).2 (sE a X EX ok _ h6) (chkE_noStar c a _ _ _ h6)
    · cases h
  | .upper a, X, EX, ok, e, h => by
    unfold chkE at h
    split at h
    · simp only [Bool.and_eq_true, decide_eq_true_eq] at h
      obtain ⟨⟨⟨h1, rfl⟩, h3⟩, h4⟩ := h
      refine s_upper ?_ h3 (sE a X EX ok _ h4)
      unfold isName at h1
      split at h1
      · rfl
      · cases h1
    · cases h
  | .join a b, X, EX, ok, e, h => by unfold chkE at h; cases h
theorem sT : ∀ (m : E) (X : Cx) (EX : Nat → Hp → Prop) (ok : CxOk c C xv k X EX) (e : Expr), tst m = true → chkE c m X.env.scope X.fn e = true →
    PT X e (tT X.K EX C m) ∧ (special m = true → (∃ op vs pos, e = .BoolOp op vs pos) → PW X e (tT X.K EX C m))
  | .cmp op a b, X, EX, ok, e, _, h => by
    unfold chkE at h
    split at h
    · simp only [Bool.and_eq_true, decide_eq_true_eq, Bool.not_eq_true'] at h
      obtain ⟨⟨⟨rfl, h2⟩, h3⟩, h4⟩ := h
      exact ⟨t_cmp ok.units (sE a X EX ok _ h2) (sE b X EX ok _ h3) h4, fun _ ⟨_, _, _, z⟩ => by cases z⟩
    · cases h
  | .cmp2 o p a b d, X, EX, ok, e, _, h => by
    unfold chkE at h
    split at h
    · simp only [Bool.and_eq_true, decide_eq_true_eq] at h
      obtain ⟨⟨⟨⟨⟨⟨⟨⟨rfl, rfl⟩, h2⟩, h3⟩, h4⟩, _⟩, _⟩, h5⟩, h6⟩ := h
      exact ⟨t_cmp2 ok.units (sE a X EX ok _ h2) (sE b X EX ok _ h3) (sE d X EX ok _ h4) (marks2 h5 h6), fun _ ⟨_, _, _, z⟩ => by cases z⟩
    · cases h
  | .inO neg a i, X, EX, ok, e, _, h => by
    have q := sE (.inO neg a i) X EX ok e h
    unfold chkE at h
    split at h
    · refine ⟨?_, fun _ ⟨_, _, _, z⟩ => by cases z⟩
      simp only [Bool.and_eq_true, decide_eq_true_eq] at h
      obtain ⟨⟨⟨⟨h1, h2⟩, h3⟩, h4⟩, h5⟩ := h
      subst h1
      exact t_inO ok.units (sE a X EX ok _ h2) (by rw [ok.nm]; exact h3) (vis_of h4) (nmOk_of h5).1 (nmOk_of h5).2
    · cases h
  | .and a b, X, EX, ok, e, ht, h => by
    unfold chkE at h
    unfold tst at ht
    simp only [Bool.and_eq_true] at ht
    split at h
    · rename_i x1 y1 r1 p1
      simp only [Bool.and_eq_true] at h
      obtain ⟨h1, h2⟩ := h
      have pa := (sT a X EX ok _ ht.1 h1).1
      have w : PW X (.BoolOp .And (x1 :: y1 :: r1) p1) (tT X.K EX C (.and a b)) := by
        split at h2
        · exact t_and pa (pw_one (sT b X EX ok _ ht.2 h2).1)
        · refine t_and pa ((sT b X EX ok _ ht.2 h2).2 ?_ ⟨_, _, _, rfl⟩)
          cases b with
          | and _ _ => rfl
          | or _ _ => rfl
          | not _ => rfl
          | cmp _ _ _ => rfl
          | cmp2 _ _ _ _ _ => rfl
          | inO _ _ _ => rfl
          | ite _ _ _ => rfl
          | _ => exact absurd (chkE_plain c _ _ _ _ rfl h2) (by simp [plainTest])
      exact ⟨w.pt, fun _ _ => w⟩
    · cases h
  | .or a b, X, EX, ok, e, ht, h => by
    unfold chkE at h
    unfold tst at ht
    simp only [Bool.and_eq_true] at ht
    split at h
    · rename_i x1 y1 r1 p1
      simp only [Bool.and_eq_true] at h
      obtain ⟨h1, h2⟩ := h
      have pa := (sT a X EX ok _ ht.1 h1).1
      have w : PW X (.BoolOp .Or (x1 :: y1 :: r1) p1) (tT X.K EX C (.or a b)) := by
        split at h2
        · exact t_or pa (pw_one (sT b X EX ok _ ht.2 h2).1)
        · refine t_or pa ((sT b X EX ok _ ht.2 h2).2 ?_ ⟨_, _, _, rfl⟩)
          cases b with
          | and _ _ => rfl
          | or _ _ => rfl
          | not _ => rfl
          | cmp _ _ _ => rfl
          | cmp2 _ _ _ _ _ => rfl
          | inO _ _ _ => rfl
          | ite _ _ _ => rfl
          | _ => exact absurd (chkE_plain c _ _ _ _ rfl h2) (by simp [plainTest])
      exact ⟨w.pt, fun _ _ => w⟩
    · cases h
  | .not a, X, EX, ok, e, ht, h => by
    unfold chkE at h
    unfold tst at ht
    split at h
    · exact ⟨t_not (sT a X EX ok _ ht h).1, fun _ ⟨_, _, _, z⟩ => by cases z⟩
    · cases h
  | .ite _ _ _, X, EX, ok, e, ht, h => by cases ht
  | .var i, X, EX, ok, e, ht, h => ⟨t_plain (sE (.var i) X EX ok e h) (plain_isTrue (chkE_plain c _ _ _ _ rfl h)), fun z => by cases z⟩
  | .con d, X, EX, ok, e, ht, h => ⟨t_plain (sE (.con d) X EX ok e h) (plain_isTrue (chkE_plain c _ _ _ _ rfl h)), fun z => by cases z⟩
  | .glo d, X, EX, ok, e, ht, h => ⟨t_plain (sE (.glo d) X EX ok e h) (plain_isTrue (chkE_plain c _ _ _ _ rfl h)), fun z => by cases z⟩
  | .tup d, X, EX, ok, e, ht, h => ⟨t_plain (sE (.tup d) X EX ok e h) (plain_isTrue (chkE_plain c _ _ _ _ rfl h)), fun z => by cases z⟩
  | .lst d, X, EX, ok, e, ht, h => ⟨t_plain (sE (.lst d) X EX ok e h) (plain_isTrue (chkE_plain c _ _ _ _ rfl h)), fun z => by cases z⟩
  | .bin o a b, X, EX, ok, e, ht, h => ⟨t_plain (sE (.bin o a b) X EX ok e h) (plain_isTrue (chkE_plain c _ _ _ _ rfl h)), fun z => by cases z⟩
  | .neg a, X, EX, ok, e, ht, h => ⟨t_plain (sE (.neg a) X EX ok e h) (plain_isTrue (chkE_plain c _ _ _ _ rfl h)), fun z => by cases z⟩
  | .idx a b, X, EX, ok, e, ht, h => ⟨t_plain (sE (.idx a b) X EX ok e h) (plain_isTrue (chkE_plain c _ _ _ _ rfl h)), fun z => by cases z⟩
  | .slc a b d, X, EX, ok, e, ht, h => ⟨t_plain (sE (.slc a b d) X EX ok e h) (plain_isTrue (chkE_plain c _ _ _ _ rfl h)), fun z => by cases z⟩
  | .rev a, X, EX, ok, e, ht, h => ⟨t_plain (sE (.rev a) X EX ok e h) (plain_isTrue (chkE_plain c _ _ _ _ rfl h)), fun z => by cases z⟩
  | .call a b, X, EX, ok, e, ht, h => ⟨t_plain (sE (.call a b) X EX ok e h) (plain_isTrue (chkE_plain c _ _ _ _ rfl h)), fun z => by cases z⟩
  | .isi a b, X, EX, ok, e, ht, h => ⟨t_plain (sE (.isi a b) X EX ok e h) (plain_isTrue (chkE_plain c _ _ _ _ rfl h)), fun z => by cases z⟩
  | .isi2 a b d, X, EX, ok, e, ht, h => ⟨t_plain (sE (.isi2 a b d) X EX ok e h) (plain_isTrue (chkE_plain c _ _ _ _ rfl h)), fun z => by cases z⟩
  | .bi a b, X, EX, ok, e, ht, h => ⟨t_plain (sE (.bi a b) X EX ok e h) (plain_isTrue (chkE_plain c _ _ _ _ rfl h)), fun z => by cases z⟩
  | .min2 a b, X, EX, ok, e, ht, h => ⟨t_plain (sE (.min2 a b) X EX ok e h) (plain_isTrue (chkE_plain c _ _ _ _ rfl h)), fun z => by cases z⟩
  | .lenO a, X, EX, ok, e, ht, h => ⟨t_plain (sE (.lenO a) X EX ok e h) (plain_isTrue (chkE_plain c _ _ _ _ rfl h)), fun z => by cases z⟩
  | .cell a b, X, EX, ok, e, ht, h => ⟨t_plain (sE (.cell a b) X EX ok e h) (plain_isTrue (chkE_plain c _ _ _ _ rfl h)), fun z => by cases z⟩
  | .upper a, X, EX, ok, e, ht, h => ⟨t_plain (sE (.upper a) X EX ok e h) (plain_isTrue (chkE_plain c _ _ _ _ rfl h)), fun z => by cases z⟩
  | .rows a b, X, EX, ok, e, ht, h => ⟨t_plain (sE (.rows a b) X EX ok e h) (plain_isTrue (chkE_plain c _ _ _ _ rfl h)), fun z => by cases z⟩
  | .join a b, X, EX, ok, e, ht, h => ⟨t_plain (sE (.join a b) X EX ok e h) (plain_isTrue (chkE_plain c _ _ _ _ rfl h)), fun z => by cases z⟩
theorem sEs : ∀ (m : Es) (X : Cx) (EX : Nat → Hp → Prop) (ok : CxOk c C xv k X EX) (es : List Expr), chkEs c m X.env.scope X.fn es = true → PA X es (tEs X.K EX C m)
  | .nil, X, EX, ok, es, h => by
    unfold chkEs at h
    cases es with
    | nil => exact es_nil
    | cons e es => cases h
  | .cons m r, X, EX, ok, es, h => by
    unfold chkEs at h
    cases es with
    | nil => cases h
    | cons e es =>
      simp only [Bool.and_eq_true] at h
      exact es_cons (sE m X EX ok e h.1) (sEs r X EX ok es h.2) (starEach_cons (chkE_noStar c m _ _ e h.1))
theorem sO : ∀ (m : Eo) (X : Cx) (EX : Nat → Hp → Prop) (ok : CxOk c C xv k X EX) (e : Option Expr), chkO c m X.env.scope X.fn e = true → PO X e (tO X.K EX C m)
  | .no, X, EX, ok, e, h => by
    unfold chkO at h
    cases e with
    | none => exact o_no
    | some e => cases h
  | .yes m, X, EX, ok, e, h => by
    unfold chkO at h
    cases e with
    | none => cases h
    | some e => exact o_yes (sE m X EX ok e h)
theorem sC : ∀ (m : Eo) (X : Cx) (EX : Nat → Hp → Prop) (ok : CxOk c C xv k X EX) (es : List Expr), chkC c m X.env.scope X.fn es = true → PTs X es (tC1 X.K EX C m)
  | .no, X, EX, ok, es, h => by
    unfold chkC at h
    cases es with
    | nil => exact c_no
    | cons e es => cases h
  | .yes m, X, EX, ok, es, h => by
    unfold chkC at h
    split at h
    · simp only [Bool.and_eq_true] at h
      exact c_yes (sT m X EX ok _ h.1 h.2).1
    · cases h
theorem sL : ∀ (m : L) (X : Cx) (EX : Nat → Hp → Prop) (ok : CxOk c C xv k X EX) (e : Expr), chkL c m X.env.scope X.fn e = true → PE X e (tL X.K EX C m)
  | .disp es, X, EX, ok, e, h => by
    unfold chkL at h
    split at h
    · simp only [Bool.and_eq_true, decide_eq_true_eq] at h
      refine l_disp (sEs es X EX ok _ h.1) h.2 fun s ds e => ?_
      rw [evs_len C es s ds e, chkEs_len c es _ _ _ h.1]
    · cases h
  | .comp t it f m, X, EX, ok, e, h => by
    unfold chkL at h
    split at h
    · rename_i elt tg iter ifs scope p
      simp only [Bool.and_eq_true] at h
      obtain ⟨⟨⟨⟨h1, h2⟩, h3⟩, h4⟩, h5⟩ := h
      have pi := sI it X EX ok (isTupTg t) iter tg (fun z => by
        cases t with
        | name i => cases z
        | tup ts =>
          unfold chkT at h3
          split at h3
          · exact ⟨_, _, _, rfl⟩
          · cases h3) h2
      have h1' : BlkOk X.N X.env.scope scope (ownOf c (slotsT t)) := blkOk_by (by rw [ok.nm]; exact h1)
      refine (pe_lc (g := gTg X.K t) (tt := tC1 X.K (fun _ _ => False) C f) (te := tE X.K (fun _ _ => False) C m) ok.calm ok.nd pi h1' (fun s H Cc cl fp => ?_) (fun s H Cc cl fp => ?_) (fun s H Cc cl fp => ?_) (folded_of h2)).imp fun σ H Q q => ?_
      · exact sTg (X := X.blk s H scope (compEnvC scope cl Cc X.env) fp) ok.nm ok.nd ok.calm t tg h3
      · exact sC f (X.blk s H scope (compEnvC scope cl Cc X.env) fp) _ (ok.blk s H scope _ fp) ifs h4
      · exact sE m (X.blk s H scope (compEnvC scope cl Cc X.env) fp) _ (ok.blk s H scope _ fp) elt h5
      · rw [own_snd]
        exact lc_imp q
    · cases h
  | .cat a b, X, EX, ok, e, h => by
    unfold chkL at h
    split at h
    · simp only [Bool.and_eq_true] at h
      exact l_cat (sE a X EX ok _ h.1) (sE b X EX ok _ h.2)
    · cases h
  | .rep a b, X, EX, ok, e, h => by
    unfold chkL at h
    split at h
    · simp only [Bool.and_eq_true] at h
      exact l_rep (sE a X EX ok _ h.1) (sE b X EX ok _ h.2)
    · cases h
  | .ofs a, X, EX, ok, e, h => by
    unfold chkL at h
    split at h
    · simp only [Bool.and_eq_true] at h
      obtain ⟨rfl, g1⟩ := blName_of h.1
      exact l_ofs g1 (ok.amb.bl _ (by decide)) (sE a X EX ok _ h.2) (chkE_noStar c a _ _ _ h.2)
    · cases h
  | .srt a, X, EX, ok, e, h => by
    unfold chkL at h
    split at h
    · simp only [Bool.and_eq_true] at h
      obtain ⟨rfl, g1⟩ := blName_of h.1
      exact l_srt ok.units g1 (ok.amb.bl _ (by decide)) (sE a X EX ok _ h.2) (chkE_noStar c a _ _ _ h.2)
    · cases h
  | .sset a, X, EX, ok, e, h => by
    unfold chkL at h
    split at h
    · simp only [Bool.and_eq_true] at h
      obtain ⟨⟨h1, h2⟩, h3⟩ := h
      obtain ⟨rfl, g1⟩ := blName_of h1
      obtain ⟨rfl, g2⟩ := blName_of h2
      exact l_sset ok.calm ok.units g1 (ok.amb.bl _ (by decide)) g2 (ok.amb.bl _ (by decide)) (sE a X EX ok _ h3) (chkE_noStar c a _ _ _ h3)
    · cases h
theorem sI : ∀ (m : It) (X : Cx) (EX : Nat → Hp → Prop) (ok : CxOk c C xv k X EX) (tup : Bool) (e tg : Expr), (tup = true → ∃ elts kk p, tg = .Tuple elts kk p) → chkI c m tup X.env.scope X.fn e = true → PI X tg e (tI X.K EX C m)
  | .seq a, X, EX, ok, tup, e, tg, ht, h => by
    unfold chkI at h
    exact i_seq (sE a X EX ok _ h)
  | .rng1 a, X, EX, ok, tup, e, tg, ht, h => by
    unfold chkI at h
    split at h
    · simp only [Bool.and_eq_true] at h
      obtain ⟨rfl, g1⟩ := blName_of h.1
      exact i_rng1 g1 (ok.amb.bl _ (by decide)) (sE a X EX ok _ h.2) (chkE_noStar c a _ _ _ h.2)
    · cases h
  | .rng2 a b, X, EX, ok, tup, e, tg, ht, h => by
    unfold chkI at h
    split at h
    · simp only [Bool.and_eq_true] at h
      obtain ⟨rfl, g1⟩ := blName_of h.1.1
      exact i_rng2 g1 (ok.amb.bl _ (by decide)) (sE a X EX ok _ h.1.2) (chkE_noStar c a _ _ _ h.1.2) (sE b X EX ok _ h.2) (chkE_noStar c b _ _ _ h.2)
    · cases h
  | .enum a, X, EX, ok, tup, e, tg, ht, h => by
    unfold chkI at h
    split at h
    · simp only [Bool.and_eq_true] at h
      obtain ⟨rfl, g1⟩ := blName_of h.1.2
      obtain ⟨elts, kk, p, rfl⟩ := ht h.1.1
      exact i_enum g1 (ok.amb.bl _ (by decide)) (sE a X EX ok _ h.2) (chkE_noStar c a _ _ _ h.2)
    · cases h
  | .zip a b, X, EX, ok, tup, e, tg, ht, h => by
    unfold chkI at h
    split at h
    · simp only [Bool.and_eq_true] at h
      obtain ⟨rfl, g1⟩ := blName_of h.1.1.2
      obtain ⟨elts, kk, p, rfl⟩ := ht h.1.1.1
      exact i_zip g1 (ok.amb.bl _ (by decide)) (sE a X EX ok _ h.1.2) (chkE_noStar c a _ _ _ h.1.2) (sE b X EX ok _ h.2) (chkE_noStar c b _ _ _ h.2)
    · cases h
end
end
end Tf
/-! Tf2i: statements. -/
namespace Tf
open PySem L2

/-! ### the check -/
def noComp : Expr → Bool
  | .ListComp _ _ _ _ => false
  | .SetComp _ _ _ _ => false
  | .DictComp _ _ _ _ _ => false
  | _ => true
def noTup : Expr → Bool
  | .Tuple _ _ _ => false
  | _ => true
/-- x = [..] where the stores are exchanged -/
def swapC (sc : Scope) (x : Str) (px : Pos) (e : Expr) : Bool := match e with
  | .ListComp _ _ s p => isLoc sc x && (px.line == p.line) && !(s.names.any fun (n, k) => n == x && (k == .local || k == .cell))
  | _ => false
/-- a, b = v, w: both names local, stored from the right -/
def swapT (sc : Scope) (x y : Str) (px py : Pos) (a b : Expr) : Bool :=
  isLoc sc x && isLoc sc y && (py.line == px.line) && !(x == y) && !(foldedForSure 8 a && foldedForSure 8 b) && !(constantsAlone 8 a && constantsAlone 8 b)
mutual
def chkS (c : Ck) : S → Scope → (Str → Bool) → Stmt → Bool
  | .set i e, sc, fn, st => match st with
    | .Assign [.Name x px] v _ => decide (c.N[i]? = some x) && locB sc x && (fn x || isLoc sc x) && chkE c e sc fn v && ((noComp v || !isLoc sc x) || swapC sc x px v)
    | _ => false
  | .setL i l, sc, fn, st => match st with
    | .Assign [.Name x px] v _ => decide (c.N[i]? = some x) && locB sc x && (fn x || isLoc sc x) && chkL c l sc fn v && ((noComp v || !isLoc sc x) || swapC sc x px v)
    | _ => false
  | .frz _, _, _, _ => false
  | .unp ts e, sc, fn, st => match st with
    | .Assign [.Tuple es k p] v _ => chkTs c ts sc fn es && chkE c e sc fn v && noTup v && noComp v
    | _ => false
  | .par i j a b, sc, fn, st => match st with
    | .Assign [.Tuple [.Name x px, .Name y py] _ _] (.Tuple [v, w] _ _) _ => decide (c.N[i]? = some x) && decide (c.N[j]? = some y) && decide (i ≠ j) && locB sc x && locB sc y && (fn x || isLoc sc x) && (fn y || isLoc sc y) &&
        chkE c a sc fn v && chkE c b sc fn w && (swapT sc x y px py v w || ((!isLoc sc x || !isLoc sc y) || (foldedForSure 8 v && foldedForSure 8 w)))
    | _ => false
  | .parL i j a b, sc, fn, st => match st with
    | .Assign [.Tuple [.Name x px, .Name y py] _ _] (.Tuple [v, w] _ _) _ => decide (c.N[i]? = some x) && decide (c.N[j]? = some y) && decide (i ≠ j) && locB sc x && locB sc y && (fn x || isLoc sc x) && (fn y || isLoc sc y) &&
        chkL c a sc fn v && chkE c b sc fn w && swapT sc x y px py v w
    | _ => false
  | .parR i j a b, sc, fn, st => match st with
    | .Assign [.Tuple [.Name x px, .Name y py] _ _] (.Tuple [v, w] _ _) _ => decide (c.N[i]? = some x) && decide (c.N[j]? = some y) && decide (i ≠ j) && locB sc x && locB sc y && (fn x || isLoc sc x) && (fn y || isLoc sc y) &&
        chkE c a sc fn v && chkL c b sc fn w && swapT sc x y px py v w
    | _ => false
  | .app i e, sc, fn, st => match st with
    | .Expr (.Call (.Attribute (.Name x _) n p) [v] [] q) _ => decide (n = "append") && decide (c.N[i]? = some x) && visB sc x && nmOk x && (p.endLine == q.line) && chkE c e sc fn v
    | _ => false
  | .ext i e, sc, fn, st => match st with
    | .Expr (.Call (.Attribute (.Name x _) n p) [v] [] q) _ => decide (n = "extend") && decide (c.N[i]? = some x) && visB sc x && nmOk x && (p.endLine == q.line) && chkE c e sc fn v
    | _ => false
  | .ret e, sc, fn, st => match st with
    | .Return (some v) _ => chkE c e sc fn v
    | _ => false
  | .iff t a b, sc, fn, st => match st with
    | .If v x y _ => tst t && chkE c t sc fn v && chkSs c a sc fn x && chkSs c b sc fn y
    | _ => false
  | .for_ t it b, sc, fn, st => match st with
    | .For tg iter x [] _ => chkT c t sc fn tg && chkI c it (isTupTg t) sc fn iter && chkSs c b sc fn x
    | _ => false
  | .whl t b, sc, fn, st => match st with
    | .While v x [] _ => tst t && chkE c t sc fn v && chkSs c b sc fn x
    | _ => false
  | .exp e, sc, fn, st => match st with
    | .Expr v _ => chkE c e sc fn v && noComp v
    | _ => false
  | .rai n, sc, _, st => match st with
    | .Raise (some (.Call (.Name x _) [.Constant (.str _) _ _] [] _)) none _ => decide (c.xcs[n]? = some (some x)) && gloB sc x && nmOk x
    | _ => false
  | .io i a b, sc, fn, st => match st with
    | .Expr (.Call (.Name x _) [y, z, .Name u _] [] _) _ => decide (c.io = some x) && gloB sc x && nmOk x && chkE c a sc fn y && chkE c b sc fn z && decide (c.N[i]? = some u) && visB sc u && nmOk u
    | _ => false
def chkSs (c : Ck) : Ss → Scope → (Str → Bool) → List Stmt → Bool
  | .nil, _, _, sts => match sts with
    | [] => true
    | _ => false
  | .cons m r, sc, fn, sts => match m with
    | .frz _ => chkSs c r sc fn sts
    | _ => match sts with
      | st :: sts' => chkS c m sc fn st && chkSs c r sc fn sts'
      | [] => false
end

/-! ### readings -/
/-- as seen from the def's entry (F0, H0): what stood stands, what is known is new or was known, owned lists are new -/
structure Good (F0 H0 FL F H : Hp) (σ : L2.St) (d : Sd) : Prop where
  f0 : Le F0 F
  fl : Le FL F
  ex : Le H0 H
  nw : ∀ (a : Addr) (o : HO), F a = some o → F0 a = some o ∨ H0 a = none
  ow : ∀ (i : Nat) (ds : List D) (a : Addr), d[i]? = some (some (.ow ds)) → σ[i]? = some (some (.ref a)) → H0 a = none
section
variable {K : PySem.W.Frag} {F0 H0 FL F H F1 H1 : Hp} {σ : L2.St} {d : Sd}
theorem Good.stp (g : Good F0 H0 FL F H σ d) (l : Le F H) : Stp F0 H0 F H := ⟨g.f0, l, g.ex, g.nw⟩
theorem Good.step (g : Good F0 H0 FL F H σ d) (l : Le F H) (s : Stp F H F1 H1) : Good F0 H0 FL F1 H1 σ d :=
  let t := (g.stp l).trans s
  ⟨t.1, g.fl.trans s.1, t.2.2.1, t.2.2.2, g.ow⟩
theorem ow_set {i j : Nat} {x : Option Sl} {ds : List D} (h : (d.set i x)[j]? = some (some (.ow ds))) (hx : ∀ ys, x ≠ some (.ow ys)) : i ≠ j ∧ d[j]? = some (some (.ow ds)) := by
  by_cases hj : i = j
  · subst hj
    by_cases hi : i < d.length
    · rw [List.getElem?_set_self hi] at h
      exact absurd (Option.some.inj h) (hx ds)
    · rw [List.getElem?_eq_none (by simpa using hi)] at h; cases h
  · rw [List.getElem?_set_ne hj] at h
    exact ⟨hj, h⟩
theorem Good.setSh (g : Good F0 H0 FL F H σ d) (i : Nat) (v : V) (x : D) : Good F0 H0 FL F H (σ.set i (some v)) (d.set i (some (.sh x))) :=
  ⟨g.f0, g.fl, g.ex, g.nw, fun j ds a e1 e2 => by
    obtain ⟨hj, e1⟩ := ow_set e1 (fun ys z => by cases z)
    rw [List.getElem?_set_ne hj] at e2
    exact g.ow j ds a e1 e2⟩
theorem Good.setOw (g : Good F0 H0 FL F H σ d) (i : Nat) (a : Addr) (xs : List D) (hn : H0 a = none) : Good F0 H0 FL F H (σ.set i (some (.ref a))) (d.set i (some (.ow xs))) :=
  ⟨g.f0, g.fl, g.ex, g.nw, fun j ds b e1 e2 => by
    by_cases hj : i = j
    · subst hj
      have hi : i < σ.length := by
        have := List.getElem?_eq_some_iff.mp e2
        simpa using this.1
      rw [List.getElem?_set_self hi] at e2
      cases e2
      exact hn
    · rw [List.getElem?_set_ne hj] at e1 e2
      exact g.ow j ds b e1 e2⟩
/-- targets change no owned slot for the worse -/
theorem Good.of_bind {σ' : L2.St} {d' : Sd} (g : Good F0 H0 FL F H σ d) (h : ∀ (j : Nat) (ds : List D) (a : Addr), d'[j]? = some (some (.ow ds)) → σ'[j]? = some (some (.ref a)) → d[j]? = some (some (.ow ds)) ∧ σ[j]? = some (some (.ref a))) : Good F0 H0 FL F H σ' d' :=
  ⟨g.f0, g.fl, g.ex, g.nw, fun j ds a e1 e2 => let ⟨x, y⟩ := h j ds a e1 e2; g.ow j ds a x y⟩
end
section
variable (K : PySem.W.Frag) (EX : Nat → Hp → Prop) (C : EvC) (F0 H0 : Hp)
def Post (FL : Hp) (D : Ends) (r : Out) : Prop := match r with
  | .nx d' => ∀ σ' F' H', Rst K F' H' σ' d' → Good F0 H0 FL F' H' σ' d' → D.nx σ' H'
  | .rt y => ∀ v F' H', Stp F0 H0 F' H' → Rep K F' v y → D.rt v H'
  | .exc c => ∀ F' H', Stp F0 H0 F' H' → EX c H'
  | .fail => False
def tS (m : S) : TS := fun D σ H => ∃ FL F d, Rst K F H σ d ∧ Good F0 H0 FL F H σ d ∧ Post K EX F0 H0 FL D (evS C m d)
def tSs (m : Ss) : TS := fun D σ H => ∃ FL F d, Rst K F H σ d ∧ Good F0 H0 FL F H σ d ∧ Post K EX F0 H0 FL D (evSs C m d)
end
section
variable {K : PySem.W.Frag} {EX : Nat → Hp → Prop} {C : EvC} {F0 H0 FL F H : Hp} {σ : L2.St} {d : Sd} {D : Ends}
/-- an expression within a statement -/
theorem Post.outE {r : R Tf.D} {f : Tf.D → Out} {G : VK} (h : Post K EX F0 H0 FL D (r.out f)) (g : Good F0 H0 FL F H σ d) (l : Le F H)
    (k : ∀ y v F1 H1, Stp F H F1 H1 → Rep K F1 v y → Post K EX F0 H0 FL D (f y) → G v H1) : okE K EX F H r G := by
  cases r with
  | ok y => exact fun v F1 H1 s1 r1 => k y v F1 H1 s1 r1 h
  | exc c => exact fun F1 H1 s1 => h F1 H1 ((g.stp l).trans s1)
  | fail => exact h
theorem Post.outL {r : R (List Tf.D)} {f : List Tf.D → Out} {G : VK} (h : Post K EX F0 H0 FL D (r.out f)) (g : Good F0 H0 FL F H σ d) (l : Le F H)
    (k : ∀ ys p vs F1 H1, Stp F H F1 H1 → H p = none → F1 p = none → H1 p = some (.lst vs) → RepA K F1 vs ys → Post K EX F0 H0 FL D (f ys) → G (.ref p) H1) : okL K EX F H r G := by
  cases r with
  | ok y => exact fun p vs F1 H1 s1 a b c r1 => k y p vs F1 H1 s1 a b c r1 h
  | exc c => exact fun F1 H1 s1 => h F1 H1 ((g.stp l).trans s1)
  | fail => exact h
theorem Post.outA {A : Type} {r : R A} {f : A → Out} {G : A → Hp → Prop} (h : Post K EX F0 H0 FL D (r.out f)) (g : Good F0 H0 FL F H σ d) (l : Le F H)
    (k : ∀ y F1 H1, Stp F H F1 H1 → Post K EX F0 H0 FL D (f y) → G y H1) : okA EX F H r G := by
  cases r with
  | ok y => exact fun F1 H1 s1 => k y F1 H1 s1 h
  | exc c => exact fun F1 H1 s1 => h F1 H1 ((g.stp l).trans s1)
  | fail => exact h
theorem Post.outI {r : R (List Tf.D)} {f : List Tf.D → Out} {G : L2.It → Hp → Prop} (h : Post K EX F0 H0 FL D (r.out f)) (g : Good F0 H0 FL F H σ d) (l : Le F H)
    (k : ∀ ys J F1 H1, Stp F H F1 H1 → Wk K J F1 ys → Post K EX F0 H0 FL D (f ys) → G J H1) : okI K EX F H r G := by
  cases r with
  | ok y => exact fun J F1 H1 s1 wk => k y J F1 H1 s1 wk h
  | exc c => exact fun F1 H1 s1 => h F1 H1 ((g.stp l).trans s1)
  | fail => exact h
theorem Post.then {r : Out} {f : Sd → Out} {D' : Ends} (h : Post K EX F0 H0 FL D (r.then f)) (hr : ∀ v H, D.rt v H → D'.rt v H) (k : ∀ d' σ' F' H', Rst K F' H' σ' d' → Good F0 H0 FL F' H' σ' d' → Post K EX F0 H0 FL D (f d') → D'.nx σ' H') : Post K EX F0 H0 FL D' r := by
  cases r with
  | nx d' => exact fun σ' F' H' R g => k d' σ' F' H' R g h
  | rt y => exact fun v F' H' s r => hr _ _ (h v F' H' s r)
  | exc c => exact h
  | fail => exact h
end

/-- another floor -/
theorem Good.floor {F0 H0 FL FL' F H : Hp} {σ : L2.St} {d : Sd} (g : Good F0 H0 FL F H σ d) (l : Le FL' F) : Good F0 H0 FL' F H σ d := ⟨g.f0, l, g.ex, g.nw, g.ow⟩
theorem Post.thenF {K : PySem.W.Frag} {EX : Nat → Hp → Prop} {F0 H0 FL FL' : Hp} {D : Ends} {r : Out} {f : Sd → Out} {D' : Ends} (h : Post K EX F0 H0 FL D (r.then f)) (hr : ∀ v H, D.rt v H → D'.rt v H) (l : Le FL FL')
    (k : ∀ d' σ' F' H', Rst K F' H' σ' d' → Good F0 H0 FL' F' H' σ' d' → Post K EX F0 H0 FL D (f d') → D'.nx σ' H') : Post K EX F0 H0 FL' D' r := by
  cases r with
  | nx d' => exact fun σ' F' H' R g => k d' σ' F' H' R g h
  | rt y => exact fun v F' H' s r => hr _ _ (h v F' H' s r)
  | exc c => exact h
  | fail => exact h
/-! ### one statement at a time -/
section
variable {X : Cx} {EX : Nat → Hp → Prop} {C : EvC} {F0 H0 FL : Hp} {st : Stmt}
theorem st_set {i : Nat} {e : E} (h : PS X st (tAsg (tE X.K EX C e) (gName i))) : PS X st (tS X.K EX C F0 H0 (.set i e)) :=
  h.imp fun D σ H ⟨FL, F, d, R, g, q⟩ => by
    unfold evS at q
    exact ⟨F, d, R, Post.outE q g R.le fun y v F1 H1 s1 r1 q1 => q1 _ F1 H1 ((R.step s1).setSh i r1) ((g.step R.le s1).setSh i v y)⟩
/-- a new list's place is no owned one's -/
theorem Rst.fresh {K : PySem.W.Frag} {F H : Hp} {σ : L2.St} {d : Sd} (R : Rst K F H σ d) {p : Addr} (hp : H p = none) (j : Nat) (ys : List Tf.D) (e : d[j]? = some (some (.ow ys))) : σ[j]? ≠ some (some (.ref p)) := by
  intro z
  obtain ⟨v, e1, a, vs, rfl, _, hh, _⟩ := R.sl j _ e
  rw [e1] at z
  cases z
  rw [hp] at hh; cases hh
theorem st_setL {i : Nat} {l : L} (h : PS X st (tAsg (tL X.K EX C l) (gName i))) : PS X st (tS X.K EX C F0 H0 (.setL i l)) :=
  h.imp fun D σ H ⟨FL, F, d, R, g, q⟩ => by
    unfold evS at q
    exact ⟨F, d, R, Post.outL q g R.le fun ys p vs F1 H1 s1 a b c r1 q1 => q1 _ F1 H1 ((R.step s1).setOw i b c r1 fun j zs _ e => R.fresh a j zs e) ((g.step R.le s1).setOw i p ys (g.ex.non a))⟩
theorem st_setLE {i : Nat} {l : L} (h : PS X st (tAsg (tL X.K EX C l) (gName i))) : PS X st (tS X.K EX C F0 H0 (.set i (.lst l))) :=
  h.imp fun D σ H ⟨FL, F, d, R, g, q⟩ => by
    unfold evS ev at q
    have q' : Post X.K EX F0 H0 FL D ((evL C l d).out fun ds => .nx (d.set i (some (.sh (.list ds))))) := by
      cases e : evL C l d with
      | ok ds => rw [e] at q; exact q
      | exc c => rw [e] at q; exact q
      | fail => rw [e] at q; exact q
    exact ⟨F, d, R, Post.outL q' g R.le fun ys p vs F1 H1 s1 a b c r1 q1 =>
      let s2 := s1.know a c b
      q1 _ _ H1 ((R.step s2).setSh i (.lst upd_same (RepA.mono (.fresh b) _ r1))) ((g.step R.le s2).setSh i _ _)⟩
mutual
theorem bindT_ow : ∀ (t : Tg) (x : Tf.D) (s s' : Sd), bindT t x s = some s' → ∀ (j : Nat) (ds : List Tf.D), s'[j]? = some (some (.ow ds)) → s[j]? = some (some (.ow ds)) ∧ j ∉ slotsT t
  | .name i, x, s, s', e, j, ds, h => by
    unfold bindT at e
    cases e
    obtain ⟨hj, h⟩ := ow_set h (fun ys z => by cases z)
    exact ⟨h, by simp [slotsT]; exact fun z => hj z.symm⟩
  | .tup ts, x, s, s', e, j, ds, h => by
    unfold bindT at e
    split at e
    · have := bindTs_ow ts _ s s' e j ds h
      simpa [slotsT] using this
    · cases e
theorem bindTs_ow : ∀ (t : Tgs) (x : List Tf.D) (s s' : Sd), bindTs t x s = some s' → ∀ (j : Nat) (ds : List Tf.D), s'[j]? = some (some (.ow ds)) → s[j]? = some (some (.ow ds)) ∧ j ∉ slotsTs t
  | .nil, x, s, s', e, j, ds, h => by
    unfold bindTs at e
    cases x with
    | nil => cases e; exact ⟨h, by simp [slotsTs]⟩
    | cons _ _ => cases e
  | .cons t r, x, s, s', e, j, ds, h => by
    unfold bindTs at e
    cases x with
    | nil => cases e
    | cons y ys =>
      simp only at e
      split at e
      · rename_i s1 e1
        obtain ⟨h1, n1⟩ := bindTs_ow r ys s1 s' e j ds h
        obtain ⟨h2, n2⟩ := bindT_ow t y s s1 e1 j ds h1
        exact ⟨h2, by simp [slotsTs]; exact ⟨n2, n1⟩⟩
      · cases e
end
/-- behind a target's store the owned slots are as they were -/
theorem Good.bind {K : PySem.W.Frag} {F H : Hp} {σ σ' : L2.St} {d d' : Sd} {t : Tg} {x : Tf.D} (g : Good F0 H0 FL F H σ d) (e : bindT t x d = some d') (w : ∀ vs, (∀ i ∈ slotsT t, i ∈ vs) → L2.wipe σ' vs = L2.wipe σ vs) : Good F0 H0 FL F H σ' d' :=
  g.of_bind fun j ds a e1 e2 => by
    obtain ⟨h1, h2⟩ := bindT_ow t x d d' e j ds e1
    refine ⟨h1, ?_⟩
    have q : (L2.wipe σ' (slotsT t))[j]? = (L2.wipe σ (slotsT t))[j]? := by rw [w (slotsT t) fun _ h => h]
    rw [wipe_out h2, wipe_out h2] at q
    rw [← q]
    exact e2
theorem st_unp {ts : Tgs} {e : E} (h : PS X st (tAsg (tE X.K EX C e) (gTg X.K (.tup ts)))) : PS X st (tS X.K EX C F0 H0 (.unp ts e)) :=
  h.imp fun D σ H ⟨FL, F, d, R, g, q⟩ => by
    unfold evS at q
    refine ⟨F, d, R, Post.outE q g R.le fun y v F1 H1 s1 r1 q1 => ?_⟩
    cases e2 : bindT (.tup ts) y d with
    | none => rw [e2] at q1; exact q1.elim
    | some d' =>
      rw [e2] at q1
      exact bindT_ok (.tup ts) y d d' v σ _ e2 r1 (R.step s1) fun σ' R' w => q1 σ' F1 H1 R' ((g.step R.le s1).bind (K := X.K) e2 w)
theorem st_par {i j : Nat} {a b : E} (hij : i ≠ j) (h : PS X st (tPar i j (tCons (tE X.K EX C a) (tCons (tE X.K EX C b) tNil)))) : PS X st (tS X.K EX C F0 H0 (.par i j a b)) :=
  h.imp fun D σ H ⟨FL, F, d, R, g, q⟩ => by
    unfold evS at q
    exact ⟨F, d, R, Post.outE q g R.le fun y v F1 H1 s1 r1 q1 => ⟨F1, d, R.step s1, Post.outE q1 (g.step R.le s1) (R.step s1).le fun z u F2 H2 s2 r2 q2 =>
      ⟨v, u, rfl, q2 _ F2 H2 ((((R.step s1).step s2).setSh i (Rep.mono s2.1 _ r1)).setSh j r2) ((((g.step R.le s1).step (R.step s1).le s2).setSh i v y).setSh j u z)⟩⟩⟩
theorem st_parL {i j : Nat} {a : L} {b : E} (hij : i ≠ j) (h : PS X st (tPar i j (tCons (tL X.K EX C a) (tCons (tE X.K EX C b) tNil)))) : PS X st (tS X.K EX C F0 H0 (.parL i j a b)) :=
  h.imp fun D σ H ⟨FL, F, d, R, g, q⟩ => by
    unfold evS at q
    refine ⟨F, d, R, Post.outL q g R.le fun ys p vs F1 H1 s1 a1 a2 a3 r1 q1 => ⟨F1, d, R.step s1, Post.outE q1 (g.step R.le s1) (R.step s1).le fun z u F2 H2 s2 r2 q2 => ?_⟩⟩
    have n2 : F2 p = none := by
      cases q : F2 p with
      | none => rfl
      | some o =>
        rcases s2.2.2.2 p o q with z' | z'
        · rw [a2] at z'; cases z'
        · rw [a3] at z'; cases z'
    refine ⟨.ref p, u, rfl, q2 _ F2 H2 ((((R.step s1).step s2).setOw i n2 (s2.2.2.1 _ _ a3) (RepA.mono s2.1 _ r1) fun k zs _ e => R.fresh a1 k zs e).setSh j r2) ((((g.step R.le s1).step (R.step s1).le s2).setOw i p ys (g.ex.non a1)).setSh j u z)⟩
theorem st_parR {i j : Nat} {a : E} {b : L} (hij : i ≠ j) (h : PS X st (tPar i j (tCons (tE X.K EX C a) (tCons (tL X.K EX C b) tNil)))) : PS X st (tS X.K EX C F0 H0 (.parR i j a b)) :=
  h.imp fun D σ H ⟨FL, F, d, R, g, q⟩ => by
    unfold evS at q
    refine ⟨F, d, R, Post.outE q g R.le fun y v F1 H1 s1 r1 q1 => ⟨F1, d, R.step s1, Post.outL q1 (g.step R.le s1) (R.step s1).le fun ys p vs F2 H2 s2 a1 a2 a3 r2 q2 => ?_⟩⟩
    have Rs := (R.step s1).step s2
    have hp : H p = none := s1.2.2.1.non a1
    refine ⟨v, .ref p, rfl, q2 _ F2 H2 ((Rs.setSh i (Rep.mono s2.1 _ r1)).setOw j a2 a3 r2 fun k zs _ e => ?_) ((((g.step R.le s1).step (R.step s1).le s2).setSh i v y).setOw j p ys (g.ex.non hp))⟩
    obtain ⟨hk, e⟩ := ow_set e (fun ys z => by cases z)
    rw [List.getElem?_set_ne hk]
    exact R.fresh hp k zs e
/-- both sides built as a tuple, then unpacked -/
theorem st_parT {i j : Nat} {a b : E} (hij : i ≠ j) (h : PS X st (tAsg (tTup (tCons (tE X.K EX C a) (tCons (tE X.K EX C b) tNil))) (gTup X.K 2 (gCons (gName i) (gCons (gName j) gNil))))) : PS X st (tS X.K EX C F0 H0 (.par i j a b)) :=
  h.imp fun D σ H ⟨FL, F, d, R, g, q⟩ => by
    unfold evS at q
    refine ⟨F, d, R, Post.outE q g R.le fun y v F1 H1 s1 r1 q1 => ⟨F1, d, R.step s1, Post.outE q1 (g.step R.le s1) (R.step s1).le fun z u F2 H2 s2 r2 q2 =>
      ⟨by show 2 ≤ sizeLine; decide, fun p hp => ⟨p, [v, u], rfl, SqT.of upd_same, rfl, v, [u], rfl, u, [], rfl, rfl, ?_⟩⟩⟩⟩
    have s3 := s2.trans (.loose (o := .tup [v, u]) s2.2.1 hp)
    exact q2 _ F2 _ ((((R.step s1).step s3).setSh i (Rep.mono s3.1 _ r1)).setSh j r2) ((((g.step R.le s1).step (R.step s1).le s3).setSh i v y).setSh j u z)
theorem st_ret {e : E} (h : PS X st (tRet (tE X.K EX C e))) : PS X st (tS X.K EX C F0 H0 (.ret e)) :=
  h.imp fun D σ H ⟨FL, F, d, R, g, q⟩ => by
    unfold evS at q
    exact ⟨F, d, R, Post.outE q g R.le fun y v F1 H1 s1 r1 q1 => q1 v F1 H1 ((g.stp R.le).trans s1) r1⟩
theorem st_exp {e : E} (h : PS X st (tDrop (tE X.K EX C e))) : PS X st (tS X.K EX C F0 H0 (.exp e)) :=
  h.imp fun D σ H ⟨FL, F, d, R, g, q⟩ => by
    unfold evS at q
    exact ⟨F, d, R, Post.outE q g R.le fun y v F1 H1 s1 r1 q1 => q1 σ F1 H1 (R.step s1) (g.step R.le s1)⟩
/-- an owned list grows -/
theorem Rst.grow {K : PySem.W.Frag} {F H : Hp} {σ : L2.St} {d : Sd} (R : Rst K F H σ d) {i : Nat} {a : Addr} {xs ys : List Tf.D} {vs ws : List V} (e : d[i]? = some (some (.ow xs))) (es : σ[i]? = some (some (.ref a))) (hn : F a = none) (hh : H a = some (.lst vs)) (r : RepA K F ws ys) :
    Rst K F (upd H a (.lst ws)) σ (d.set i (some (.ow ys))) := by
  have hi : i < d.length := (List.getElem?_eq_some_iff.mp e).1
  refine ⟨by simp [R.len], R.le.updR hn, fun j y ej => ?_, fun j k zs ys' b hjk e1 e2 e3 => ?_⟩
  · by_cases hj : i = j
    · subst hj
      rw [List.getElem?_set_self hi] at ej
      cases ej
      exact ⟨_, es, a, ws, rfl, hn, upd_same, r⟩
    · rw [List.getElem?_set_ne hj] at ej
      obtain ⟨v, e1, q⟩ := R.sl j y ej
      refine ⟨v, e1, ?_⟩
      cases y with
      | sh x => exact q
      | scr ns => exact q
      | ow zs =>
        obtain ⟨b, us, rfl, n1, h1, r1⟩ := q
        refine ⟨b, us, rfl, n1, ?_, r1⟩
        rw [upd_ne]
        · exact h1
        · intro z
          subst z
          exact R.dj i j xs zs b hj e ej es e1
  · have back : ∀ (m : Nat) (us : List Tf.D), (d.set i (some (.ow ys)))[m]? = some (some (.ow us)) → ∃ us' : List Tf.D, d[m]? = some (some (.ow us')) := fun m us q => by
      by_cases hm : i = m
      · subst hm; exact ⟨xs, e⟩
      · rw [List.getElem?_set_ne hm] at q; exact ⟨us, q⟩
    obtain ⟨z1, q1⟩ := back j _ e1
    obtain ⟨z2, q2⟩ := back k _ e2
    exact R.dj j k z1 z2 b hjk q1 q2 e3
theorem Good.grow {F H : Hp} {σ : L2.St} {d : Sd} (g : Good F0 H0 FL F H σ d) {i : Nat} {a : Addr} {xs ys : List Tf.D} {ws : List V} (e : d[i]? = some (some (.ow xs))) (es : σ[i]? = some (some (.ref a))) : Good F0 H0 FL F (upd H a (.lst ws)) σ (d.set i (some (.ow ys))) := by
  have hn := g.ow i xs a e es
  refine ⟨g.f0, g.fl, g.ex.updR hn, g.nw, fun j ds b e1 e2 => ?_⟩
  by_cases hj : i = j
  · subst hj
    exact g.ow i xs b e e2
  · rw [List.getElem?_set_ne hj] at e1
    exact g.ow j ds b e1 e2
theorem st_app {i : Nat} {e : E} (h : PS X st (tDrop (tBM X.K "list" rAppend (tVar i) (tCons (tE X.K EX C e) tNil)))) : PS X st (tS X.K EX C F0 H0 (.app i e)) :=
  h.imp fun D σ H ⟨FL, F, d, R, g, q⟩ => by
    unfold evS at q
    split at q
    · rename_i ds hd
      obtain ⟨v, e1, a, vs, rfl, n1, h1, r1⟩ := R.sl i _ hd
      refine ⟨_, e1, .inl ⟨rfl, vs, SqL.of h1⟩, F, d, R, Post.outE q g R.le fun y u F2 H2 s2 r2 q2 => ?_⟩
      split at q2
      · rename_i hz
        have R2 := R.step s2
        obtain ⟨v', e1', a', vs', e2', n2, h2, r2'⟩ := R2.sl i _ hd
        cases (Option.some.inj (Option.some.inj (e1.symm.trans e1')))
        cases e2'
        refine ⟨a, vs', u, rfl, rfl, h2, ?_, q2 σ F2 _ (R2.grow hd e1 n2 h2 (r2'.append (.cons r2 .nil))) ((g.step R.le s2).grow hd e1)⟩
        have hl : lim = 1000000 := rfl
        rw [r2'.length, sizeLine_eq]
        omega
      · exact q2.elim
    · exact q.elim
theorem Post.outB {K : PySem.W.Frag} {F H : Hp} {σ : L2.St} {d : Sd} {D : Ends} {A : Type} {r : R Tf.D} {f : Tf.D → R A} {k : A → Out} {G : VK} (h : Post K EX F0 H0 FL D ((r.bind f).out k)) (g : Good F0 H0 FL F H σ d) (l : Le F H)
    (w : ∀ y v F1 H1, Stp F H F1 H1 → Rep K F1 v y → Post K EX F0 H0 FL D ((f y).out k) → G v H1) : okE K EX F H r G := by
  cases r with
  | ok y => exact fun v F1 H1 s1 r1 => w y v F1 H1 s1 r1 h
  | exc c => exact fun F1 H1 s1 => h F1 H1 ((g.stp l).trans s1)
  | fail => exact h
theorem st_ext {i : Nat} {e : E} (h : PS X st (tDrop (tBM X.K "list" rExtend (tVar i) (tCons (tE X.K EX C e) tNil)))) : PS X st (tS X.K EX C F0 H0 (.ext i e)) :=
  h.imp fun D σ H ⟨FL, F, d, R, g, q⟩ => by
    unfold evS at q
    split at q
    · rename_i ds hd
      obtain ⟨v, e1, a, vs, rfl, n1, h1, r1⟩ := R.sl i _ hd
      refine ⟨_, e1, .inl ⟨rfl, vs, SqL.of h1⟩, F, d, R, Post.outB q g R.le fun y u F2 H2 s2 r2 q2 => ?_⟩
      cases r2 with
      | lst hb rb =>
        simp only [listOf, Tf.R.out] at q2
        split at q2
        · rename_i hz
          have R2 := R.step s2
          obtain ⟨v', e1', a', vs', e2', n2, h2, r2'⟩ := R2.sl i _ hd
          cases (Option.some.inj (Option.some.inj (e1.symm.trans e1')))
          cases e2'
          refine ⟨a, _, vs', _, rfl, rfl, h2, s2.2.1 _ _ hb, ?_, q2 σ F2 _ (R2.grow hd e1 n2 h2 (r2'.append rb)) ((g.step R.le s2).grow hd e1)⟩
          have hl : lim = 1000000 := rfl
          rw [r2'.length, rb.length, sizeLine_eq]
          omega
        · exact q2.elim
      | _ => exact q2.elim
    · exact q.elim
/-- an owned list becomes known -/
theorem Rst.freeze {K : PySem.W.Frag} {F H : Hp} {σ : L2.St} {d : Sd} (R : Rst K F H σ d) {i : Nat} {a : Addr} {xs : List Tf.D} {vs : List V} (e : d[i]? = some (some (.ow xs))) (es : σ[i]? = some (some (.ref a))) (hn : F a = none) (hh : H a = some (.lst vs)) (r : RepA K F vs xs) :
    Rst K (upd F a (.lst vs)) H σ (d.set i (some (.sh (.list xs)))) := by
  have hi : i < d.length := (List.getElem?_eq_some_iff.mp e).1
  have lf : Le F (upd F a (.lst vs)) := .fresh hn
  refine ⟨by simp [R.len], fun b o hb => ?_, fun j y ej => ?_, fun j k zs ys' b hjk e1 e2 e3 => ?_⟩
  · by_cases hb' : b = a
    · subst hb'; rw [upd_same] at hb; cases hb; exact hh
    · rw [upd_ne hb'] at hb; exact R.le b o hb
  · by_cases hj : i = j
    · subst hj
      rw [List.getElem?_set_self hi] at ej
      cases ej
      exact ⟨_, es, .lst upd_same (RepA.mono lf _ r)⟩
    · rw [List.getElem?_set_ne hj] at ej
      obtain ⟨v, e1, q⟩ := R.sl j y ej
      refine ⟨v, e1, ?_⟩
      cases y with
      | sh x => exact Rep.mono lf _ q
      | scr ns =>
        obtain ⟨b, e2, q⟩ := q
        exact ⟨b, e2, lf.sqL q⟩
      | ow zs =>
        obtain ⟨b, us, rfl, n1, h1, r1⟩ := q
        refine ⟨b, us, rfl, ?_, h1, RepA.mono lf _ r1⟩
        rw [upd_ne]
        · exact n1
        · intro z
          subst z
          exact R.dj i j xs zs b hj e ej es e1
  · obtain ⟨h1, e1⟩ := ow_set e1 (fun ys z => by cases z)
    obtain ⟨h2, e2⟩ := ow_set e2 (fun ys z => by cases z)
    exact R.dj j k zs ys' b hjk e1 e2 e3
theorem Good.freeze {F H : Hp} {σ : L2.St} {d : Sd} (g : Good F0 H0 FL F H σ d) {i : Nat} {a : Addr} {xs : List Tf.D} {vs : List V} (e : d[i]? = some (some (.ow xs))) (es : σ[i]? = some (some (.ref a))) (hn : F a = none) : Good F0 H0 FL (upd F a (.lst vs)) H σ (d.set i (some (.sh (.list xs)))) := by
  refine ⟨g.f0.trans (.fresh hn), g.fl.trans (.fresh hn), g.ex, fun b o hb => ?_, fun j ds b e1 e2 => ?_⟩
  · by_cases hb' : b = a
    · subst hb'; exact .inr (g.ow i xs b e es)
    · rw [upd_ne hb'] at hb; exact g.nw b o hb
  · obtain ⟨h1, e1⟩ := ow_set e1 (fun ys z => by cases z)
    exact g.ow j ds b e1 e2
theorem sts_frz {i : Nat} {r : Ss} {sts : List Stmt} (h : PSs X sts (tSs X.K EX C F0 H0 r)) : PSs X sts (tSs X.K EX C F0 H0 (.cons (.frz i) r)) :=
  h.imp fun D σ H ⟨FL, F, d, R, g, q⟩ => by
    unfold evSs evS at q
    split at q
    · rename_i ds hd
      obtain ⟨v, e1, a, vs, rfl, n1, h1, r1⟩ := R.sl i _ hd
      exact ⟨FL, _, _, R.freeze hd e1 n1 h1 r1, g.freeze hd e1 n1, q⟩
    · exact ⟨FL, F, d, R, g, q⟩
theorem sts_nil : PSs X [] (tSs X.K EX C F0 H0 .nil) := pss_nil.imp fun D σ H ⟨FL, F, d, R, g, q⟩ => by
  unfold evSs at q
  exact q σ F H R g
theorem sts_cons {m : S} {r : Ss} {sts : List Stmt} (h1 : PS X st (tS X.K EX C F0 H0 m)) (h2 : PSs X sts (tSs X.K EX C F0 H0 r)) : PSs X (st :: sts) (tSs X.K EX C F0 H0 (.cons m r)) :=
  (pss_cons h1 h2).imp fun D σ H ⟨FL, F, d, R, g, q⟩ => by
    unfold evSs at q
    exact ⟨FL, F, d, R, g, Post.then q (fun _ _ z => z) fun d' σ' F' H' R' g' q' => ⟨FL, F', d', R', g', q'⟩⟩
theorem st_iff {t : E} {a b : Ss} {v : Expr} {x y : List Stmt} {pos : Pos} (ht : PT X v (tT X.K EX C t)) (ha : PSs X x (tSs X.K EX C F0 H0 a)) (hb : PSs X y (tSs X.K EX C F0 H0 b)) : PS X (.If v x y pos) (tS X.K EX C F0 H0 (.iff t a b)) :=
  (ps_if ht ha hb).imp fun D σ H ⟨FL, F, d, R, g, q⟩ => by
    unfold evS at q
    refine ⟨F, d, R, Post.outA q g R.le fun z F1 H1 s1 q1 => ?_⟩
    cases z with
    | true => exact ⟨FL, F1, d, R.step s1, g.step R.le s1, q1⟩
    | false => exact ⟨FL, F1, d, R.step s1, g.step R.le s1, q1⟩
theorem st_for {t : Tg} {it : It} {b : Ss} {tg iter : Expr} {x : List Stmt} {pos : Pos} (hp : PassesOwn (model X.prog X.w) X.A X.env X.xe) (hc : X.calm = true) (hi : PI X tg iter (tI X.K EX C it)) (hg : PG X tg (gTg X.K t)) (hb : PSs X x (tSs X.K EX C F0 H0 b))
    (hs : ∀ v, foldedSetIterable iter X.env v = pure v) : PS X (.For tg iter x [] pos) (tS X.K EX C F0 H0 (.for_ t it b)) :=
  (ps_for hp hc hi hg hb hs).imp fun D σ H ⟨FL, F, d, R, g, q⟩ => by
    unfold evS at q
    refine ⟨F, d, R, Post.outI q g R.le fun items J F1 H1 s1 wk q1 => ?_⟩
    have lfl : Le FL F1 := g.fl.trans s1.1
    refine ⟨fun i n σ' H' => n = items.length - i ∧ i ≤ items.length ∧ ∃ F' d', Rst X.K F' H' σ' d' ∧ Good F0 H0 F1 F' H' σ' d' ∧ Post X.K EX F0 H0 FL D (loopFor t (fun s' => evSs C b s') (items.drop i) d'),
      ⟨items.length, by simp, Nat.zero_le _, F1, d, R.step s1, (g.step R.le s1).floor (.refl _), by rw [List.drop_zero]; exact q1⟩, ?_⟩
    rintro i n σ' H' ⟨rfl, hi', F', d', R', g', q'⟩
    by_cases hlt : i < items.length
    · refine .inr ⟨wk.go i F' H' g'.fl R'.le hlt, _, fun σ'' H'' z => ⟨items.length - (i + 1), by omega, z⟩, fun v H'' y => ?_⟩
      obtain ⟨F2, s2, rv⟩ := wk.yld i F' H' v H'' _ g'.fl R'.le y (List.getElem?_eq_getElem hlt)
      rw [List.drop_eq_getElem_cons hlt] at q'
      unfold loopFor at q'
      cases e2 : bindT t items[i] d' with
      | none => rw [e2] at q'; exact q'.elim
      | some d2 =>
        rw [e2] at q'
        simp only at q'
        exact bindT_ok t _ d' d2 v σ' _ e2 rv (R'.step s2) fun σ2 R2 w => ⟨F1, F2, d2, R2, (g'.step R'.le s2).bind (K := X.K) e2 w, Post.thenF q' (fun _ _ z => z) lfl fun d3 σ3 F3 H3 R3 g3 q3 => ⟨rfl, hlt, F3, d3, R3, g3, q3⟩⟩
    · have e : i = items.length := by omega
      subst e
      rw [List.drop_length] at q'
      unfold loopFor at q'
      exact .inl ⟨wk.stop F' H' g'.fl R'.le, q' σ' F' H' R' (g'.floor (lfl.trans g'.fl))⟩
theorem st_whl {t : E} {b : Ss} {v : Expr} {x : List Stmt} {pos : Pos} (hp : PassesOwn (model X.prog X.w) X.A X.env X.xe) (ht : PT X v (tT X.K EX C t)) (hb : PSs X x (tSs X.K EX C F0 H0 b)) : PS X (.While v x [] pos) (tS X.K EX C F0 H0 (.whl t b)) :=
  (ps_while hp ht hb).imp fun D σ H ⟨FL, F, d, R, g, q⟩ => by
    unfold evS at q
    refine ⟨fun n σ' H' => ∃ F' d', Rst X.K F' H' σ' d' ∧ Good F0 H0 FL F' H' σ' d' ∧ Post X.K EX F0 H0 FL D (loopWhile (fun s' => (ev C t s').bind truth) (fun s' => evSs C b s') n d'), ⟨C.wf, F, d, R, g, q⟩, ?_⟩
    rintro n σ' H' ⟨F', d', R', g', q'⟩
    cases n with
    | zero => exact q'.elim
    | succ n =>
      unfold loopWhile at q'
      refine ⟨F', d', R', Post.outA q' g' R'.le fun z F1 H1 s1 q1 => ?_⟩
      cases z with
      | true =>
        rw [if_pos rfl]
        exact ⟨_, fun σ'' H'' z => ⟨n, Nat.lt_succ_self n, z⟩, FL, F1, d', R'.step s1, g'.step R'.le s1, Post.then q1 (fun _ _ z => z) fun d3 σ3 F3 H3 R3 g3 q3 => ⟨F3, d3, R3, g3, q3⟩⟩
      | false =>
        rw [if_neg (by decide)]
        exact q1 σ' F1 H1 (R'.step s1) (g'.step R'.le s1)
theorem st_rai {n : Nat} {xv : Nat → Value} {a : Addr} {x : Str} {m : Str} {j : Nat} {p p2 p3 pos : Pos} (hc : X.calm = true) (tk : Takes X (fun cls d _ H => xwish xv EX cls d H)) (e1 : xv n = .ref a) (e2 : X.mg x = some (.ref a))
    (e3 : PySem.W.excIn X.K a [.type "ValueError", .type "Exception", .type "BaseException", .type "object"] "ValueError.__new__" = true) (e4 : PySem.W.keepIn X.K (.ref a) = true) (e5 : PySem.W.subIn X.K (.ref a) (.type "BaseException") = some true)
    (e6 : PySem.W.typeIn X.K (.ref a) = some (.type "type")) (hg : Gl X x) (hd : (x == ("__debug__" : Str)) = false) : PS X (.Raise (some (.Call (.Name x p) [.Constant (.str m) j p2] [] p3)) none pos) (tS X.K EX C F0 H0 (.rai n)) :=
  (ps_raise hc tk (pmk_own PySem.F.excBase_ValueError e3 e2 e4 (raises_own e5 e6) hg hd)).imp fun D σ H ⟨FL, F, d, R, g, q⟩ => by
    unfold evS at q
    exact ⟨n, e1.symm, rfl, q F H (g.stp R.le)⟩
/-- behind a call that makes an owned list longer -/
theorem Rst.io {K : PySem.W.Frag} {F H F1 H' : Hp} {σ : L2.St} {d : Sd} (R : Rst K F H σ d) {i : Nat} {a : Addr} {xs ys : List Tf.D} {ws : List V} (e : d[i]? = some (some (.ow xs))) (es : σ[i]? = some (some (.ref a))) (s : Stp F (del H a) F1 H') (hn : F1 a = none) (hh : H' a = some (.lst ws)) (r : RepA K F1 ws ys) :
    Rst K F1 H' σ (d.set i (some (.ow ys))) := by
  have hi : i < d.length := (List.getElem?_eq_some_iff.mp e).1
  refine ⟨by simp [R.len], s.2.1, fun j y ej => ?_, fun j k zs ys' b hjk e1 e2 e3 => ?_⟩
  · by_cases hj : i = j
    · subst hj
      rw [List.getElem?_set_self hi] at ej
      cases ej
      exact ⟨_, es, a, ws, rfl, hn, hh, r⟩
    · rw [List.getElem?_set_ne hj] at ej
      obtain ⟨v, e1, q⟩ := R.sl j y ej
      refine ⟨v, e1, ?_⟩
      cases y with
      | sh x => exact Rep.mono s.1 _ q
      | scr ns =>
        obtain ⟨b, e2, q⟩ := q
        exact ⟨b, e2, s.1.sqL q⟩
      | ow zs =>
        obtain ⟨b, us, rfl, n1, h1, r1⟩ := q
        have hb : b ≠ a := fun z => by
          subst z
          exact R.dj i j xs zs b hj e ej es e1
        refine ⟨b, us, rfl, ?_, s.2.2.1 _ _ (by rw [del_ne hb]; exact h1), RepA.mono s.1 _ r1⟩
        cases q : F1 b with
        | none => rfl
        | some o =>
          rcases s.2.2.2 b o q with z | z
          · rw [n1] at z; cases z
          · rw [del_ne hb, h1] at z; cases z
  · have back : ∀ (m : Nat) (us : List Tf.D), (d.set i (some (.ow ys)))[m]? = some (some (.ow us)) → ∃ us' : List Tf.D, d[m]? = some (some (.ow us')) := fun m us q => by
      by_cases hm : i = m
      · subst hm; exact ⟨xs, e⟩
      · rw [List.getElem?_set_ne hm] at q; exact ⟨us, q⟩
    obtain ⟨z1, q1⟩ := back j _ e1
    obtain ⟨z2, q2⟩ := back k _ e2
    exact R.dj j k z1 z2 b hjk q1 q2 e3
theorem Good.io {F H F1 H' : Hp} {σ : L2.St} {d : Sd} (g : Good F0 H0 FL F H σ d) {i : Nat} {a : Addr} {xs ys : List Tf.D} (e : d[i]? = some (some (.ow xs))) (es : σ[i]? = some (some (.ref a))) (s : Stp F (del H a) F1 H') : Good F0 H0 FL F1 H' σ (d.set i (some (.ow ys))) := by
  have hn := g.ow i xs a e es
  refine ⟨g.f0.trans s.1, g.fl.trans s.1, (g.ex.toDel hn).trans s.2.2.1, fun b o hb => ?_, fun j ds b e1 e2 => ?_⟩
  · rcases s.2.2.2 b o hb with z | z
    · exact g.nw b o z
    · by_cases hb' : b = a
      · subst hb'; exact .inr hn
      · rw [del_ne hb'] at z; exact .inr (g.ex.non z)
  · by_cases hj : i = j
    · subst hj
      exact g.ow i xs b e e2
    · rw [List.getElem?_set_ne hj] at e1
      exact g.ow j ds b e1 e2
theorem st_io {n : Str} {x y : Expr} {u : Str} {pu p pos pos2 : Pos} {a b : E} {i : Nat} {c : Ck} {xv : Nat → Value} {k : Nat} (ok : CxOk c C xv k X EX) (hsw : ∀ tg l, swapsWith (.Call (.Name n p) [x, y, .Name u pu] [] pos) tg l X.env = pure false) (hf : c.io = some n) (hg : Gl X n) (h1 : (n == ("__debug__" : Str)) = false) (ha : PE X x (tE X.K EX C a)) (hx : noStar x = true) (hb : PE X y (tE X.K EX C b)) (hy : noStar y = true)
    (hN : X.N[i]? = some u) (hv : Vis X.env.scope u) (h4 : (u == ("__debug__" : Str)) = false) (h5 : (u == ("__classdict__" : Str)) = false) :
    PS X (.Expr (.Call (.Name n p) [x, y, .Name u pu] [] pos) pos2) (tS X.K EX C F0 H0 (.io i a b)) := by
  obtain ⟨ad, fd, ps, F1, hm, hk, hbd⟩ := ok.amb.io n hf
  have h3 : (backTo pos (starEach [y, .Name u pu] X.env)).any (·.1) = false := by
    rw [starEach_cons hy]; rfl
  refine (ps_expr (pe_call F1 ok.room hg hm hk hbd .nil ok.pas (pa_cons ha (pa_cons hb (pa_cons (pe_var hN hv h4 h5) pa_nil rfl) (starEach_cons hy)) (starEach_cons hx)) h1 (starEach_cons hx) h3) (hsw _ _)).imp fun D σ H ⟨FL, F, d, R, g, q⟩ => ?_
  unfold evS at q
  split at q
  · rename_i ds hd
    obtain ⟨v0, e1, a0, vs0, rfl, n1, hh1, r1⟩ := R.sl i _ hd
    refine ⟨F, d, R, Post.outE q g R.le fun dx v1 F2 H2 s2 r2 q2 => ⟨F2, d, R.step s2, Post.outE q2 (g.step R.le s2) (R.step s2).le fun dy v2 F3 H3 s3 r3 q3 => ⟨_, e1, ?_⟩⟩⟩
    have R3 := (R.step s2).step s3
    have g3 := (g.step R.le s2).step (R.step s2).le s3
    obtain ⟨v', e1', a', vs', e2', n2, h2, r2'⟩ := R3.sl i _ hd
    cases (Option.some.inj (Option.some.inj (e1.symm.trans e1')))
    cases e2'
    cases e : C.io dx dy ds with
    | none => rw [e] at q3; exact q3.elim
    | some es =>
      rw [e] at q3
      exact ⟨F3, dx, dy, ds, es, a0, v1, v2, vs', rfl, R3.le, n2, h2, Rep.mono s3.1 _ r2, r3, r2', e, fun v G1 G2 H' xs' t1 z1 z2 z3 _ _ => q3 σ G1 H' (R3.io hd e1 t1 z1 z2 z3) (g3.io hd e1 t1)⟩
  · exact q.elim
end
end Tf
/-! Tf2j: every statement that the check takes; a def; a whole program. -/
namespace Tf
open PySem L2

theorem swaps_no {v : Expr} (h : noComp v = true) (tg : Option Expr) (l : Nat) (env : Env) : swapsWith v tg l env = pure false := by
  cases v <;> first | rfl | exact absurd h (by simp [noComp])
theorem swaps_nl {v : Expr} {x : Str} {px : Pos} {l : Nat} {env : Env} (h : noComp v = true ∨ isLoc env.scope x = false) : swapsWith v (some (.Name x px)) l env = pure false := by
  rcases h with h | h
  · exact swaps_no h _ _ _
  · have nl : (env.kindOf x == some .local) = false := by
      unfold isLoc at h
      rw [beq_eq_false_iff_ne]
      intro e
      have e' : env.scope.names.lookup x = some .local := e
      rw [e'] at h
      cases h
    cases v <;> first | rfl | (unfold swapsWith; simp only [nl, Bool.and_false, Bool.false_and])
theorem swaps_sole {v tg : Expr} (h : noComp v = true) (l : Nat) (env : Env) : swapsWithSole [tg] v l env = pure false := swaps_no h (some tg) l env
theorem blockFn {env : Env} (hk : env.scope.kind = .function) : env.blockKind = .function := by
  unfold Env.blockKind; rw [hk]; rfl
theorem stores_no {v : Expr} (h : noTup v = true) (tg : Expr) (env : Env) : swappedStores [tg] v env = pure none := by
  unfold swappedStores
  cases v <;> first | (cases tg <;> rfl) | exact absurd h (by simp [noTup])
theorem noStar_any {a b : Expr} (na : noStar a = true) (nb : noStar b = true) : ([a, b].any fun | .Starred .. => true | _ => false) = false := by
  have e : ∀ {x : Expr}, noStar x = true → (match x with | .Starred .. => true | _ => false) = false := by
    intro x h
    cases x <;> first | rfl | exact absurd h (by simp [noStar])
  simp only [List.any_cons, List.any_nil, Bool.or_false]
  rw [e na, e nb]; rfl
theorem stores_two {x y : Str} {px py pt pt2 : Pos} {kt k2 : Nat} {a b : Expr} {env : Env} (hk : env.scope.kind = .function) (h : swapT env.scope x y px py a b = true) (na : noStar a = true) (nb : noStar b = true) :
    swappedStores [.Tuple [.Name x px, .Name y py] kt pt] (.Tuple [a, b] k2 pt2) env = pure (some [x, y]) := by
  unfold swapT at h
  simp only [Bool.and_eq_true, Bool.not_eq_true', beq_iff_eq] at h
  obtain ⟨⟨⟨⟨⟨h1, h2⟩, h3⟩, h4⟩, h5⟩, h6⟩ := h
  have k1 : env.kindOf x = some .local := isLoc_of h1
  have k2' : env.kindOf y = some .local := isLoc_of h2
  have e5 : ([a, b].all (foldedForSure 8)) = false := by simpa using h5
  have e6 : ([a, b].all (constantsAlone 8)) = false := by simpa using h6
  unfold swappedStores
  simp only [List.length_cons, List.length_nil, blockFn hk, noStar_any na nb, e5, e6, k1, k2', List.filterMap_cons, List.filterMap_nil, List.head?_cons, Option.map_some, Option.getD_some, Expr.pos, h3]
  have hd : (some NameKind.local == some NameKind.local && px.line == px.line) = true := by simp
  have hyx : (y == x) = false := by
    rw [beq_eq_false_iff_ne] at h4 ⊢
    exact fun z => h4 z.symm
  simp only [hd, if_true]
  rw [if_neg (by decide)]
  refine Eq.trans (if_neg (by exact Bool.eq_false_iff.mp (noStar_any na nb))) ?_
  rw [if_neg (by simp [List.eraseDups_cons, hyx]), if_neg (by decide), if_neg (by decide)]
theorem stores_cell {x y : Str} {px py pt pt2 : Pos} {kt k2 : Nat} {a b : Expr} {env : Env} (hk : env.scope.kind = .function) (h : isLoc env.scope x = false ∨ isLoc env.scope y = false) (na : noStar a = true) (nb : noStar b = true) :
    swappedStores [.Tuple [.Name x px, .Name y py] kt pt] (.Tuple [a, b] k2 pt2) env = pure none := by
  have nl : ∀ {z : Str}, isLoc env.scope z = false → (env.kindOf z == some .local) = false := by
    intro z hz
    unfold isLoc at hz
    rw [beq_eq_false_iff_ne]
    intro e
    have e' : env.scope.names.lookup z = some .local := e
    rw [e'] at hz
    cases hz
  unfold swappedStores
  simp only [List.length_cons, List.length_nil, blockFn hk, List.filterMap_cons, List.filterMap_nil, List.head?_cons, Option.map_some, Option.getD_some, Expr.pos]
  rw [if_neg (by decide)]
  refine Eq.trans (if_neg (by exact Bool.eq_false_iff.mp (noStar_any na nb))) ?_
  rcases h with h | h
  · simp only [nl h, Bool.false_and, if_neg (show ¬ (false = true) by decide)]
    rw [if_pos]
    split <;> simp
  · simp only [nl h, Bool.false_and, if_neg (show ¬ (false = true) by decide)]
    rw [if_pos]
    split <;> simp

theorem stores_fold {x y : Str} {px py pt pt2 : Pos} {kt k2 : Nat} {a b : Expr} {env : Env} (hk : env.scope.kind = .function) (h : foldedForSure 8 a = true ∧ foldedForSure 8 b = true) (na : noStar a = true) (nb : noStar b = true) :
    swappedStores [.Tuple [.Name x px, .Name y py] kt pt] (.Tuple [a, b] k2 pt2) env = pure none := by
  have e5 : ([a, b].all (foldedForSure 8)) = true := by simp [h.1, h.2]
  unfold swappedStores
  simp only [List.length_cons, List.length_nil, blockFn hk, e5, List.head?_cons, Option.map_some, Option.getD_some, Expr.pos, if_true]
  rw [if_neg (by decide)]
  refine Eq.trans (if_neg (by exact Bool.eq_false_iff.mp (noStar_any na nb))) ?_
  split <;> rfl
structure SxOk (c : Ck) (C : EvC) (xv : Nat → Value) (k : Nat) (X : Cx) (EX : Nat → Hp → Prop) : Prop where
  cx : CxOk c C xv k X EX
  kind : X.env.scope.kind = .function
  po : PassesOwn (model X.prog X.w) X.A X.env X.xe
  tk : Takes X (fun cls d _ H => xwish xv EX cls d H)
section
variable {c : Ck} {C : EvC} {xv : Nat → Value} {k : Nat} {X : Cx} {EX : Nat → Hp → Prop}
/-- x = [..], the stores exchanged or not -/
theorem asgL (ok : SxOk c C xv k X EX) {i : Nat} {x : Str} {px pos : Pos} {v : Expr} {l : L} (h1 : c.N[i]? = some x) (h2 : locB X.env.scope x = true) (h3 : X.fn x = true ∨ isLoc X.env.scope x = true) (h4 : chkL c l X.env.scope X.fn v = true) (h5 : (noComp v = true ∨ isLoc X.env.scope x = false) ∨ swapC X.env.scope x px v = true) :
    PS X (.Assign [.Name x px] v pos) (tAsg (tL X.K EX C l) (gName i)) := by
  rcases h5 with h5 | h5
  · exact ps_set ok.cx.nd (by rw [ok.cx.nm]; exact h1) (loc_of h2) (sL l X EX ok.cx v h4) (swaps_nl h5) (h3.imp (fun z => z) isLoc_of)
  · unfold swapC at h5
    split at h5
    · rename_i elt gs scope p
      simp only [Bool.and_eq_true, Bool.not_eq_true'] at h5
      obtain ⟨⟨h6, h7⟩, h8⟩ := h5
      cases l with
      | comp t it f m =>
        unfold chkL at h4
        split at h4
        · rename_i elt' tg iter ifs scope' p' e1
          cases e1
          simp only [Bool.and_eq_true] at h4
          obtain ⟨⟨⟨⟨g1, g2⟩, g3⟩, g4⟩, g5⟩ := h4
          have pi := sI it X EX ok.cx (isTupTg t) iter tg (fun z => by
            cases t with
            | name i => cases z
            | tup ts =>
              unfold chkT at g3
              split at g3
              · exact ⟨_, _, _, rfl⟩
              · cases g3) g2
          have g1' : BlkOk X.N X.env.scope scope (ownOf c (slotsT t)) := blkOk_by (by rw [ok.cx.nm]; exact g1)
          refine (ps_setLc (g := gTg X.K t) (tt := tC1 X.K (fun _ _ => False) C f) (te := tE X.K (fun _ _ => False) C m) ok.cx.calm ok.cx.nd (by rw [ok.cx.nm]; exact h1) (isLoc_of h6) (sw_true ok.kind (isLoc_of h6) h7 h8) pi g1' (fun s H Cc cl fp => ?_) (fun s H Cc cl fp => ?_) (fun s H Cc cl fp => ?_) (folded_of g2)).imp fun D σ H q => ?_
          · exact sTg (X := X.blk s H scope (compEnvC scope cl Cc X.env) fp) ok.cx.nm ok.cx.nd ok.cx.calm t tg g3
          · exact sC f (X.blk s H scope (compEnvC scope cl Cc X.env) fp) _ (ok.cx.blk s H scope _ fp) ifs g4
          · exact sE m (X.blk s H scope (compEnvC scope cl Cc X.env) fp) _ (ok.cx.blk s H scope _ fp) elt g5
          · rw [own_snd]
            exact lc_imp q
        · cases h4
      | _ => unfold chkL at h4; cases h4
    · cases h5
variable {F0 H0 : Hp}
theorem meth_few {v : Expr} {p : Pos} {env : Env} (h : noStar v = true) : ((backTo p (starEach [v] env)).all (fun x => !x.1) && (backToKw p (keywordEach [] env)).all (fun x => x.1.isSome) && decide ([v].length + ([] : List Keyword).length + (if ([] : List Keyword).isEmpty then 0 else 1) < 30)) = true := by
  rw [starEach_cons h]; rfl
mutual
theorem sS (ok : SxOk c C xv k X EX) : ∀ (m : S) (st : Stmt), chkS c m X.env.scope X.fn st = true → PS X st (tS X.K EX C F0 H0 m)
  | .set i e, st, h => by
    unfold chkS at h
    split at h
    · simp only [Bool.and_eq_true, Bool.or_eq_true, decide_eq_true_eq, Bool.not_eq_true'] at h
      obtain ⟨⟨⟨⟨h1, h2⟩, h3⟩, h4⟩, h5⟩ := h
      rcases h5 with h5 | h5
      · exact st_set (ps_set ok.cx.nd (by rw [ok.cx.nm]; exact h1) (loc_of h2) (sE e X EX ok.cx _ h4) (swaps_nl h5) (h3.imp (fun z => z) isLoc_of))
      · cases e with
        | lst l =>
          unfold chkE at h4
          exact st_setLE (asgL ok h1 h2 h3 h4 (.inr h5))
        | _ =>
          exfalso
          unfold swapC at h5
          split at h5
          · unfold chkE at h4; cases h4
          · cases h5
    · cases h
  | .setL i l, st, h => by
    unfold chkS at h
    split at h
    · simp only [Bool.and_eq_true, Bool.or_eq_true, decide_eq_true_eq, Bool.not_eq_true'] at h
      obtain ⟨⟨⟨⟨h1, h2⟩, h3⟩, h4⟩, h5⟩ := h
      exact st_setL (asgL ok h1 h2 h3 h4 h5)
    · cases h
  | .frz i, st, h => by unfold chkS at h; cases h
  | .unp ts e, st, h => by
    unfold chkS at h
    split at h
    · rename_i es kk p v pos
      simp only [Bool.and_eq_true] at h
      obtain ⟨⟨⟨h1, h2⟩, h3⟩, h4⟩ := h
      have hT : chkT c (.tup ts) X.env.scope X.fn (.Tuple es kk p) = true := by unfold chkT; exact h1
      exact st_unp (ps_asg (sE e X EX ok.cx _ h2) (sTg ok.cx.nm ok.cx.nd ok.cx.calm (.tup ts) _ hT) (swaps_sole h4 _ _) (stores_no h3 _ _) rfl)
    · cases h
  | .par i j a b, st, h => by
    unfold chkS at h
    split at h
    · rename_i x px y py k1 p1 v w k2 p2 pos
      simp only [Bool.and_eq_true, Bool.or_eq_true, decide_eq_true_eq, Bool.not_eq_true'] at h
      obtain ⟨⟨⟨⟨⟨⟨⟨⟨⟨h1, h2⟩, h3⟩, h4⟩, h5⟩, h6⟩, h7⟩, h8⟩, h9⟩, h10⟩ := h
      have na := chkE_noStar c a _ _ _ h8
      have nb := chkE_noStar c b _ _ _ h9
      have pa := two_args (sE a X EX ok.cx _ h8) na (sE b X EX ok.cx _ h9) nb
      rcases h10 with h10 | h10
      · have z := h10
        unfold swapT at z
        simp only [Bool.and_eq_true] at z
        exact st_par h3 (ps_par ok.cx.calm ok.cx.nd (by rw [ok.cx.nm]; exact h1) (by rw [ok.cx.nm]; exact h2) h3 (isLoc_of z.1.1.1.1.1) (isLoc_of z.1.1.1.1.2) pa (stores_two ok.kind h10 na nb) rfl)
      · have hst : swappedStores [.Tuple [.Name x px, .Name y py] k1 p1] (.Tuple [v, w] k2 p2) X.env = pure none := by
          rcases h10 with h10 | h10
          · exact stores_cell ok.kind h10 na nb
          · exact stores_fold ok.kind h10 na nb
        refine st_parT h3 (ps_asg (pe_tup pa) (pg_tup ok.cx.calm (pgs_cons (pg_name ok.cx.nd (by rw [ok.cx.nm]; exact h1) (loc_of h4) (h6.imp (fun z => z) isLoc_of)) (pgs_cons (pg_name ok.cx.nd (by rw [ok.cx.nm]; exact h2) (loc_of h5) (h7.imp (fun z => z) isLoc_of)) pgs_nil))) rfl hst rfl)
    · cases h
  | .parL i j a b, st, h => by
    unfold chkS at h
    split at h
    · rename_i x px y py k1 p1 v w k2 p2 pos
      simp only [Bool.and_eq_true, Bool.or_eq_true, decide_eq_true_eq, Bool.not_eq_true'] at h
      obtain ⟨⟨⟨⟨⟨⟨⟨⟨⟨h1, h2⟩, h3⟩, h4⟩, h5⟩, h6⟩, h7⟩, h8⟩, h9⟩, h10⟩ := h
      have na : noStar v = true := chkE_noStar c (.lst a) X.env.scope X.fn v (by unfold chkE; exact h8)
      have nb := chkE_noStar c b _ _ _ h9
      have pa : PA X [v, w] (tCons (tL X.K EX C a) (tCons (tE X.K EX C b) tNil)) := pa_cons (sL a X EX ok.cx _ h8) (one_arg (sE b X EX ok.cx _ h9) nb) (starEach_cons na)
      have z := h10
      unfold swapT at z
      simp only [Bool.and_eq_true] at z
      exact st_parL h3 (ps_par ok.cx.calm ok.cx.nd (by rw [ok.cx.nm]; exact h1) (by rw [ok.cx.nm]; exact h2) h3 (isLoc_of z.1.1.1.1.1) (isLoc_of z.1.1.1.1.2) pa (stores_two ok.kind h10 na nb) rfl)
    · cases h
  | .parR i j a b, st, h => by
    unfold chkS at h
    split at h
    · rename_i x px y py k1 p1 v w k2 p2 pos
      simp only [Bool.and_eq_true, Bool.or_eq_true, decide_eq_true_eq, Bool.not_eq_true'] at h
      obtain ⟨⟨⟨⟨⟨⟨⟨⟨⟨h1, h2⟩, h3⟩, h4⟩, h5⟩, h6⟩, h7⟩, h8⟩, h9⟩, h10⟩ := h
      have na := chkE_noStar c a _ _ _ h8
      have nb : noStar w = true := chkE_noStar c (.lst b) X.env.scope X.fn w (by unfold chkE; exact h9)
      have pa : PA X [v, w] (tCons (tE X.K EX C a) (tCons (tL X.K EX C b) tNil)) := pa_cons (sE a X EX ok.cx _ h8) (pa_cons (sL b X EX ok.cx _ h9) pa_nil (starEach_cons nb)) (starEach_cons na)
      have z := h10
      unfold swapT at z
      simp only [Bool.and_eq_true] at z
      exact st_parR h3 (ps_par ok.cx.calm ok.cx.nd (by rw [ok.cx.nm]; exact h1) (by rw [ok.cx.nm]; exact h2) h3 (isLoc_of z.1.1.1.1.1) (isLoc_of z.1.1.1.1.2) pa (stores_two ok.kind h10 na nb) rfl)
    · cases h
  | .app i e, st, h => by
    unfold chkS at h
    split at h
    · simp only [Bool.and_eq_true, decide_eq_true_eq] at h
      obtain ⟨⟨⟨⟨⟨rfl, h2⟩, h3⟩, h4⟩, h5⟩, h6⟩ := h
      have nv := chkE_noStar c e _ _ _ h6
      exact st_app (ps_expr (pe_bm PySem.F.plainAttrs_list PySem.F.slot_list_append PySem.F.type_list_append mt_append (pe_var (by rw [ok.cx.nm]; exact h2) (vis_of h3) (nmOk_of h4).1 (nmOk_of h4).2) (one_arg (sE e X EX ok.cx _ h6) nv) rfl (meth_few nv) h5 (starEach_cons nv) rfl) rfl)
    · cases h
  | .ext i e, st, h => by
    unfold chkS at h
    split at h
    · simp only [Bool.and_eq_true, decide_eq_true_eq] at h
      obtain ⟨⟨⟨⟨⟨rfl, h2⟩, h3⟩, h4⟩, h5⟩, h6⟩ := h
      have nv := chkE_noStar c e _ _ _ h6
      exact st_ext (ps_expr (pe_bm PySem.F.plainAttrs_list PySem.F.slot_list_extend PySem.F.type_list_extend mt_extend (pe_var (by rw [ok.cx.nm]; exact h2) (vis_of h3) (nmOk_of h4).1 (nmOk_of h4).2) (one_arg (sE e X EX ok.cx _ h6) nv) rfl (meth_few nv) h5 (starEach_cons nv) rfl) rfl)
    · cases h
  | .ret e, st, h => by
    unfold chkS at h
    split at h
    · exact st_ret (ps_ret (sE e X EX ok.cx _ h))
    · cases h
  | .iff t a b, st, h => by
    unfold chkS at h
    split at h
    · simp only [Bool.and_eq_true] at h
      exact st_iff (sT t X EX ok.cx _ h.1.1.1 h.1.1.2).1 (sSs ok a _ h.1.2) (sSs ok b _ h.2)
    · cases h
  | .for_ t it b, st, h => by
    unfold chkS at h
    split at h
    · simp only [Bool.and_eq_true] at h
      obtain ⟨⟨h1, h2⟩, h3⟩ := h
      refine st_for ok.po ok.cx.calm (sI it X EX ok.cx (isTupTg t) _ _ (fun z => ?_) h2) (sTg ok.cx.nm ok.cx.nd ok.cx.calm t _ h1) (sSs ok b _ h3) (folded_of h2)
      cases t with
      | name i => cases z
      | tup ts =>
        unfold chkT at h1
        split at h1
        · exact ⟨_, _, _, rfl⟩
        · cases h1
    · cases h
  | .whl t b, st, h => by
    unfold chkS at h
    split at h
    · simp only [Bool.and_eq_true] at h
      exact st_whl ok.po (sT t X EX ok.cx _ h.1.1 h.1.2).1 (sSs ok b _ h.2)
    · cases h
  | .exp e, st, h => by
    unfold chkS at h
    split at h
    · simp only [Bool.and_eq_true] at h
      exact st_exp (ps_expr (sE e X EX ok.cx _ h.1) (swaps_no h.2 _ _ _))
    · cases h
  | .rai n, st, h => by
    unfold chkS at h
    split at h
    · simp only [Bool.and_eq_true, decide_eq_true_eq] at h
      obtain ⟨⟨h1, h2⟩, h3⟩ := h
      obtain ⟨a, e1, e2, e3, e4, e5, e6⟩ := ok.cx.amb.xc n _ h1
      exact st_rai ok.cx.calm ok.tk e1 e2 e3 e4 e5 e6 (glo_of h2) (nmOk_of h3).1
    · cases h
  | .io i a b, st, h => by
    unfold chkS at h
    split at h
    · simp only [Bool.and_eq_true, decide_eq_true_eq] at h
      obtain ⟨⟨⟨⟨⟨⟨⟨h1, h2⟩, h3⟩, h4⟩, h5⟩, h6⟩, h7⟩, h8⟩ := h
      exact st_io ok.cx (fun _ _ => rfl) h1 (glo_of h2) (nmOk_of h3).1 (sE a X EX ok.cx _ h4) (chkE_noStar c a _ _ _ h4) (sE b X EX ok.cx _ h5) (chkE_noStar c b _ _ _ h5) (by rw [ok.cx.nm]; exact h6) (vis_of h7) (nmOk_of h8).1 (nmOk_of h8).2
    · cases h
theorem sSs (ok : SxOk c C xv k X EX) : ∀ (m : Ss) (sts : List Stmt), chkSs c m X.env.scope X.fn sts = true → PSs X sts (tSs X.K EX C F0 H0 m)
  | .nil, sts, h => by
    unfold chkSs at h
    cases sts with
    | nil => exact sts_nil
    | cons st sts => cases h
  | .cons m r, sts, h => by
    unfold chkSs at h
    split at h
    · exact sts_frz (sSs ok r sts h)
    · cases sts with
      | nil => cases h
      | cons st sts =>
        simp only [Bool.and_eq_true] at h
        exact sts_cons (sS ok m st h.1) (sSs ok r sts h.2)
end
end

/-! ### a def -/
theorem rep_start {K : PySem.W.Frag} {F H : Hp} {N : List Str} {vs : List V} {ds : List D} (l : Le F H) (r : RepA K F vs ds) (f : Fn) (hn : f.nn - f.np = N.length - vs.length) : Rst K F H (start N vs) (start0 f (ds.map fun d => some (.sh d))) := by
  have hl := r.length
  have get : ∀ (i : Nat) (x : Sl), (start0 f (ds.map fun d => some (Sl.sh d)))[i]? = some (some x) → ∃ d, ds[i]? = some d ∧ x = .sh d := fun i x e => by
    unfold start0 at e
    by_cases hi : i < ds.length
    · rw [List.getElem?_append_left (by simpa using hi), List.getElem?_map] at e
      rw [List.getElem?_eq_getElem hi] at e ⊢
      cases e
      exact ⟨_, rfl, rfl⟩
    · rw [List.getElem?_append_right (by simpa using hi), List.getElem?_replicate] at e
      split at e <;> cases e
  refine ⟨?_, l, fun i x e => ?_, fun i j xs ys a hij e1 e2 e3 => ?_⟩
  · unfold L2.start start0
    simp [hn, hl]
  · obtain ⟨d, h1, rfl⟩ := get i x e
    obtain ⟨v, h2, h3⟩ := r.get h1
    refine ⟨v, ?_, h3⟩
    unfold L2.start
    rw [List.getElem?_append_left (by simpa using (List.getElem?_eq_some_iff.mp h2).1), List.getElem?_map, h2]
    rfl
  · obtain ⟨d, _, h⟩ := get i _ e1
    cases h
theorem Amb.at {c : Ck} {C : EvC} {xv : Nat → Value} {P : Program} {w : World} {K : PySem.W.Frag} {mg : Str → Option Value} {base : Heap} {k : Nat} (h : Amb c C xv P w K mg base k) (N : List Str) : Amb { c with N := N } C xv P w K mg base k := ⟨h.fn, h.gv, h.bl, h.xc, h.cl, h.io⟩
section
variable {P : Program} {w : World} {K : PySem.W.Frag} {mg : Str → Option Value} {base : Heap}
theorem sx_of {c : Ck} {C : EvC} {xv : Nat → Value} {k : Nat} {N ps : List Str} {qual : Str} {sc : Scope} {f : Addr} {cdv : Value} {A : Around} {outer : List Env} {s : Shared} {H : Hp} {E : XK} (amb : Amb c C xv P w K mg base k) (S : FnScope N ps sc) (hr : Room k (A.deeper (PyProof.Rows.envOfC qual sc s.heap.objs.size f cdv))) :
    SxOk { c with N := N } C xv k (cxOf (L2.CX P w) P w K mg base N qual sc f cdv A outer s H E) (fun n H' => E (xv n) none H') := by
  have tk : Takes (cxOf (L2.CX P w) P w K mg base N qual sc f cdv A outer s H E) (fun cls d _ H => E cls d H) := takes_of rfl rfl rfl rfl
  have imp : ∀ cls d H', xwish xv (fun n H' => E (xv n) none H') cls d H' → E cls d H' := fun cls d H' ⟨n, e1, e2, h⟩ => by subst e1 e2; exact h
  exact ⟨⟨amb.at N, rfl, S.nd, rfl, hr, passes_call tk fun cls d _ H' h => imp cls d H' h⟩, S.kind, passes_of rfl, tk.imp fun cls d _ H' h => imp cls d H' h⟩
theorem fn_ok {c : Ck} {C : EvC} {xv : Nat → Value} {k : Nat} {x qual : Str} {st : Stmt} {f : Addr} {fd : FuncData} {N ps : List Str} (F : Fun K x qual st f fd) (S : FnScope N ps (defScope st)) (amb : Amb c C xv P w K mg base k) (fn : Fn)
    (hp : fn.np = ps.length) (hn : fn.nn = N.length) (hc : chkSs { c with N := N } fn.body (defScope st) (fun _ => true) (defBody st) = true) : FnOk P w K mg base (L2.CX P w) (k + 1) f fd ps (spR K xv (runF C fn)) := by
  refine F.okX S (fun vs H Q E h => ?_) (fun cdv A outer s H vs Q E hr h => ?_)
  · obtain ⟨F, ds, l, r, h⟩ := h
    rw [r.length, ← hp]
    unfold runF at h
    by_cases e : ds.length = fn.np
    · exact e
    · rw [if_neg e] at h; exact h.elim
  · obtain ⟨F, ds, l, r, h⟩ := h
    unfold runF at h
    by_cases e : ds.length = fn.np
    · rw [if_pos e] at h
      have ok := sx_of (outer := outer) (H := H) (E := E) amb S hr
      refine ⟨_, sSs (F0 := F) (H0 := H) ok fn.body _ hc, F, F, _, rep_start l r fn (by rw [r.length, e, hn]), ⟨.refl _, .refl _, .refl _, fun a o q => .inl q, fun i xs a e1 _ => ?_⟩, ?_⟩
      · exfalso
        unfold start0 at e1
        by_cases hi : i < ds.length
        · rw [List.getElem?_append_left (by simpa using hi), List.getElem?_map, List.getElem?_eq_getElem hi] at e1
          cases e1
        · rw [List.getElem?_append_right (by simpa using hi), List.getElem?_replicate] at e1
          split at e1 <;> cases e1
      · cases e2 : evSs C fn.body (start0 fn (ds.map fun d => some (.sh d))) with
        | nx d' => rw [e2] at h; exact fun σ' F' H' R g => h _ F' H' (g.stp R.le) .non
        | rt y => rw [e2] at h; exact h
        | exc n => rw [e2] at h; exact h
        | fail => rw [e2] at h; exact h
    · rw [if_neg e] at h; exact h.elim
/-- the law itself: True -/
def spLaw (K : PySem.W.Frag) : Sp := fun vs H Q _ => ∃ (a : Addr) (ns : List Int), vs = [.ref a] ∧ SqL K H a (ns.map V.int) ∧ ns.length ≤ 63 ∧ ∀ H', Q (.bl true) H'
theorem law_ok {c : Ck} {C : EvC} {xv : Nat → Value} {k : Nat} {x qual : Str} {st : Stmt} {f : Addr} {fd : FuncData} {N ps : List Str} (F : Fun K x qual st f fd) (S : FnScope N ps (defScope st)) (amb : Amb c C xv P w K mg base k) (fn : Fn)
    (hp : fn.np = 1) (hps : ps.length = 1) (hn : fn.nn = N.length) (hc : chkSs { c with N := N } fn.body (defScope st) (fun _ => true) (defBody st) = true)
    (law : ∀ ns : List Int, ns.length ≤ 63 → (evSs C fn.body (start0 fn [some (.scr ns)])).res = .ok (.bool true)) : FnOk P w K mg base (L2.CX P w) (k + 1) f fd ps (spLaw K) := by
  refine F.okX S (fun vs H Q E h => ?_) (fun cdv A outer s H vs Q E hr h => ?_)
  · obtain ⟨a, ns, rfl, _⟩ := h
    exact hps.symm
  · obtain ⟨a, ns, rfl, hS, h63, q⟩ := h
    have ok := sx_of (outer := outer) (H := H) (E := E) amb S hr
    have hl := law ns h63
    have get : ∀ (i : Nat) (x : Sl), (start0 fn [some (Sl.scr ns)])[i]? = some (some x) → i = 0 ∧ x = .scr ns := fun i x e => by
      unfold start0 at e
      cases i with
      | zero => simp at e; exact ⟨rfl, e.symm⟩
      | succ i =>
        rw [List.getElem?_append_right (by simp), List.getElem?_replicate] at e
        split at e <;> cases e
    refine ⟨_, sSs (F0 := H) (H0 := H) ok fn.body _ hc, H, H, start0 fn [some (.scr ns)], ⟨?_, .refl _, fun i x e => ?_, fun i j xs ys a hij e1 e2 e3 => ?_⟩, ⟨.refl _, .refl _, .refl _, fun a o q => .inl q, fun i xs a e1 _ => ?_⟩, ?_⟩
    · unfold L2.start start0
      simp [hp, hn]
    · obtain ⟨rfl, rfl⟩ := get i x e
      exact ⟨_, rfl, a, rfl, hS⟩
    · obtain ⟨_, h⟩ := get i _ e1
      cases h
    · obtain ⟨_, h⟩ := get i _ e1
      cases h
    · cases e2 : evSs C fn.body (start0 fn [some (.scr ns)]) with
      | nx d' => rw [e2] at hl; cases hl
      | rt y =>
        rw [e2] at hl
        cases hl
        intro v F' H' s r
        cases r
        exact q H'
      | exc n => rw [e2] at hl; cases hl
      | fail => rw [e2] at hl; cases hl
end
end Tf
/-! Tf2l: a def whose third parameter is a list that it makes longer: the name keeps its list. -/
namespace Tf
open PySem L2
mutual
def pinS : S → Bool
  | .set i e => i != 2 && (match e with | .lst _ => false | _ => true)
  | .app _ _ => true
  | .io _ _ _ => true
  | .for_ t _ b => !(slotsT t).contains 2 && pinSs b
  | _ => false
def pinSs : Ss → Bool
  | .nil => true
  | .cons m r => pinS m && pinSs r
end
section
variable (K : PySem.W.Frag) (C : EvC) (F0 H0 : Hp) (a : Addr)
def PostP (FL : Hp) (D : Ends) (r : Out) : Prop := match r with
  | .nx d' => ∀ σ' F' H', Rst K F' H' σ' d' → Good F0 H0 FL F' H' σ' d' → σ'[2]? = some (some (.ref a)) → D.nx σ' H'
  | _ => False
def tP (m : S) : TS := fun D σ H => ∃ FL F d, Rst K F H σ d ∧ Good F0 H0 FL F H σ d ∧ σ[2]? = some (some (.ref a)) ∧ PostP K F0 H0 a FL D (evS C m d)
def tPs (m : Ss) : TS := fun D σ H => ∃ FL F d, Rst K F H σ d ∧ Good F0 H0 FL F H σ d ∧ σ[2]? = some (some (.ref a)) ∧ PostP K F0 H0 a FL D (evSs C m d)
end
section
variable {K : PySem.W.Frag} {EX : Nat → Hp → Prop} {C : EvC} {F0 H0 FL F H : Hp} {σ : L2.St} {d : Sd} {D : Ends} {a : Addr}
theorem PostP.outE {r : R Tf.D} {f : Tf.D → Out} {G : VK} (h : PostP K F0 H0 a FL D (r.out f))
    (k : ∀ y v F1 H1, Stp F H F1 H1 → Rep K F1 v y → PostP K F0 H0 a FL D (f y) → G v H1) : okE K EX F H r G := by
  cases r with
  | ok y => exact fun v F1 H1 s1 r1 => k y v F1 H1 s1 r1 h
  | exc c => exact h.elim
  | fail => exact h
theorem PostP.outI {r : R (List Tf.D)} {f : List Tf.D → Out} {G : L2.It → Hp → Prop} (h : PostP K F0 H0 a FL D (r.out f))
    (k : ∀ ys J F1 H1, Stp F H F1 H1 → Wk K J F1 ys → PostP K F0 H0 a FL D (f ys) → G J H1) : okI K EX F H r G := by
  cases r with
  | ok y => exact fun J F1 H1 s1 wk => k y J F1 H1 s1 wk h
  | exc c => exact h.elim
  | fail => exact h
theorem PostP.thenF {FL' : Hp} {r : Out} {f : Sd → Out} {D' : Ends} (h : PostP K F0 H0 a FL D (r.then f)) (l : Le FL FL')
    (k : ∀ d' σ' F' H', Rst K F' H' σ' d' → Good F0 H0 FL' F' H' σ' d' → σ'[2]? = some (some (.ref a)) → PostP K F0 H0 a FL D (f d') → D'.nx σ' H') : PostP K F0 H0 a FL' D' r := by
  cases r with
  | nx d' => exact fun σ' F' H' R g p => k d' σ' F' H' R g p h
  | rt y => exact h.elim
  | exc c => exact h
  | fail => exact h
end
section
variable {X : Cx} {EX : Nat → Hp → Prop} {C : EvC} {F0 H0 FL : Hp} {st : Stmt} {a : Addr}
theorem pin_set {σ : L2.St} {i : Nat} {v : Option V} (hi : i ≠ 2) (h : σ[2]? = some (some (.ref a))) : (σ.set i v)[2]? = some (some (.ref a)) := by
  rw [List.getElem?_set_ne hi]; exact h
theorem sp_set {i : Nat} {e : E} (hi : i ≠ 2) (h : PS X st (tAsg (tE X.K EX C e) (gName i))) : PS X st (tP X.K C F0 H0 a (.set i e)) :=
  h.imp fun D σ H ⟨FL, F, d, R, g, pn, q⟩ => by
    unfold evS at q
    exact ⟨F, d, R, PostP.outE q fun y v F1 H1 s1 r1 q1 => q1 _ F1 H1 ((R.step s1).setSh i r1) ((g.step R.le s1).setSh i v y) (pin_set hi pn)⟩
theorem sp_app {i : Nat} {e : E} (h : PS X st (tDrop (tBM X.K "list" rAppend (tVar i) (tCons (tE X.K EX C e) tNil)))) : PS X st (tP X.K C F0 H0 a (.app i e)) :=
  h.imp fun D σ H ⟨FL, F, d, R, g, pn, q⟩ => by
    unfold evS at q
    split at q
    · rename_i ds hd
      obtain ⟨v, e1, a, vs, rfl, n1, h1, r1⟩ := R.sl i _ hd
      refine ⟨_, e1, .inl ⟨rfl, vs, SqL.of h1⟩, F, d, R, PostP.outE q fun y u F2 H2 s2 r2 q2 => ?_⟩
      split at q2
      · rename_i hz
        have R2 := R.step s2
        obtain ⟨v', e1', a', vs', e2', n2, h2, r2'⟩ := R2.sl i _ hd
        cases (Option.some.inj (Option.some.inj (e1.symm.trans e1')))
        cases e2'
        refine ⟨a, vs', u, rfl, rfl, h2, ?_, q2 σ F2 _ (R2.grow hd e1 n2 h2 (r2'.append (.cons r2 .nil))) ((g.step R.le s2).grow hd e1) pn⟩
        have hl : lim = 1000000 := rfl
        rw [r2'.length, sizeLine_eq]
        omega
      · exact q2.elim
    · exact q.elim
theorem sp_io {n : Str} {x y : Expr} {u : Str} {pu p pos pos2 : Pos} {ea eb : E} {i : Nat} {c : Ck} {xv : Nat → Value} {k : Nat} (ok : CxOk c C xv k X EX) (hsw : ∀ tg l, swapsWith (.Call (.Name n p) [x, y, .Name u pu] [] pos) tg l X.env = pure false) (hf : c.io = some n) (hg : Gl X n) (h1 : (n == ("__debug__" : Str)) = false) (ha : PE X x (tE X.K EX C ea)) (hx : noStar x = true) (hb : PE X y (tE X.K EX C eb)) (hy : noStar y = true)
    (hN : X.N[i]? = some u) (hv : Vis X.env.scope u) (h4 : (u == ("__debug__" : Str)) = false) (h5 : (u == ("__classdict__" : Str)) = false) :
    PS X (.Expr (.Call (.Name n p) [x, y, .Name u pu] [] pos) pos2) (tP X.K C F0 H0 a (.io i ea eb)) := by
  obtain ⟨ad, fd, ps, F1, hm, hk, hbd⟩ := ok.amb.io n hf
  have h3 : (backTo pos (starEach [y, .Name u pu] X.env)).any (·.1) = false := by
    rw [starEach_cons hy]; rfl
  refine (ps_expr (pe_call F1 ok.room hg hm hk hbd .nil ok.pas (pa_cons ha (pa_cons hb (pa_cons (pe_var hN hv h4 h5) pa_nil rfl) (starEach_cons hy)) (starEach_cons hx)) h1 (starEach_cons hx) h3) (hsw _ _)).imp fun D σ H ⟨FL, F, d, R, g, pn, q⟩ => ?_
  unfold evS at q
  split at q
  · rename_i ds hd
    obtain ⟨v0, e1, a0, vs0, rfl, n1, hh1, r1⟩ := R.sl i _ hd
    refine ⟨F, d, R, PostP.outE q fun dx v1 F2 H2 s2 r2 q2 => ⟨F2, d, R.step s2, PostP.outE q2 fun dy v2 F3 H3 s3 r3 q3 => ⟨_, e1, ?_⟩⟩⟩
    have R3 := (R.step s2).step s3
    have g3 := (g.step R.le s2).step (R.step s2).le s3
    obtain ⟨v', e1', a', vs', e2', n2, h2, r2'⟩ := R3.sl i _ hd
    cases (Option.some.inj (Option.some.inj (e1.symm.trans e1')))
    cases e2'
    cases e : C.io dx dy ds with
    | none => rw [e] at q3; exact q3.elim
    | some es =>
      rw [e] at q3
      exact ⟨F3, dx, dy, ds, es, a0, v1, v2, vs', rfl, R3.le, n2, h2, Rep.mono s3.1 _ r2, r3, r2', e, fun v G1 G2 H' xs' t1 z1 z2 z3 _ _ => q3 σ G1 H' (R3.io hd e1 t1 z1 z2 z3) (g3.io hd e1 t1) pn⟩
  · exact q.elim
theorem sps_nil : PSs X [] (tPs X.K C F0 H0 a .nil) := pss_nil.imp fun D σ H ⟨FL, F, d, R, g, pn, q⟩ => by
  unfold evSs at q
  exact q σ F H R g pn
theorem sps_cons {m : S} {r : Ss} {sts : List Stmt} (h1 : PS X st (tP X.K C F0 H0 a m)) (h2 : PSs X sts (tPs X.K C F0 H0 a r)) : PSs X (st :: sts) (tPs X.K C F0 H0 a (.cons m r)) :=
  (pss_cons h1 h2).imp fun D σ H ⟨FL, F, d, R, g, pn, q⟩ => by
    unfold evSs at q
    exact ⟨FL, F, d, R, g, pn, PostP.thenF q (.refl _) fun d' σ' F' H' R' g' p' q' => ⟨FL, F', d', R', g', p', q'⟩⟩
theorem sp_for {t : Tg} {it : It} {b : Ss} {tg iter : Expr} {x : List Stmt} {pos : Pos} (ht : 2 ∉ slotsT t) (hp : PassesOwn (model X.prog X.w) X.A X.env X.xe) (hc : X.calm = true) (hi : PI X tg iter (tI X.K EX C it)) (hg : PG X tg (gTg X.K t)) (hb : PSs X x (tPs X.K C F0 H0 a b))
    (hs : ∀ v, foldedSetIterable iter X.env v = pure v) : PS X (.For tg iter x [] pos) (tP X.K C F0 H0 a (.for_ t it b)) :=
  (ps_for hp hc hi hg hb hs).imp fun D σ H ⟨FL, F, d, R, g, pn, q⟩ => by
    unfold evS at q
    refine ⟨F, d, R, PostP.outI q fun items J F1 H1 s1 wk q1 => ?_⟩
    have lfl : Le FL F1 := g.fl.trans s1.1
    refine ⟨fun i n σ' H' => n = items.length - i ∧ i ≤ items.length ∧ ∃ F' d', Rst X.K F' H' σ' d' ∧ Good F0 H0 F1 F' H' σ' d' ∧ σ'[2]? = some (some (.ref a)) ∧ PostP X.K F0 H0 a FL D (loopFor t (fun s' => evSs C b s') (items.drop i) d'),
      ⟨items.length, by simp, Nat.zero_le _, F1, d, R.step s1, (g.step R.le s1).floor (.refl _), pn, by rw [List.drop_zero]; exact q1⟩, ?_⟩
    rintro i n σ' H' ⟨rfl, hi', F', d', R', g', pn', q'⟩
    by_cases hlt : i < items.length
    · refine .inr ⟨wk.go i F' H' g'.fl R'.le hlt, _, fun σ'' H'' z => ⟨items.length - (i + 1), by omega, z⟩, fun v H'' y => ?_⟩
      obtain ⟨F2, s2, rv⟩ := wk.yld i F' H' v H'' _ g'.fl R'.le y (List.getElem?_eq_getElem hlt)
      rw [List.drop_eq_getElem_cons hlt] at q'
      unfold loopFor at q'
      cases e2 : bindT t items[i] d' with
      | none => rw [e2] at q'; exact q'.elim
      | some d2 =>
        rw [e2] at q'
        simp only at q'
        refine bindT_ok t _ d' d2 v σ' _ e2 rv (R'.step s2) fun σ2 R2 w => ⟨F1, F2, d2, R2, (g'.step R'.le s2).bind (K := X.K) e2 w, ?_, PostP.thenF q' lfl fun d3 σ3 F3 H3 R3 g3 p3 q3 => ⟨rfl, hlt, F3, d3, R3, g3, p3, q3⟩⟩
        have qq : (L2.wipe σ2 (slotsT t))[2]? = (L2.wipe σ' (slotsT t))[2]? := by rw [w (slotsT t) fun _ h => h]
        rw [wipe_out ht, wipe_out ht] at qq
        rw [qq]; exact pn'
    · have e : i = items.length := by omega
      subst e
      rw [List.drop_length] at q'
      unfold loopFor at q'
      exact .inl ⟨wk.stop F' H' g'.fl R'.le, q' σ' F' H' R' (g'.floor (lfl.trans g'.fl)) pn'⟩
end
section
variable {c : Ck} {C : EvC} {xv : Nat → Value} {k : Nat} {X : Cx} {EX : Nat → Hp → Prop} {F0 H0 : Hp} {a : Addr}
mutual
theorem sP (ok : SxOk c C xv k X EX) : ∀ (m : S) (st : Stmt), pinS m = true → chkS c m X.env.scope X.fn st = true → PS X st (tP X.K C F0 H0 a m)
  | .set i e, st, hp, h => by
    unfold pinS at hp
    simp only [Bool.and_eq_true, bne_iff_ne] at hp
    unfold chkS at h
    split at h
    · simp only [Bool.and_eq_true, Bool.or_eq_true, decide_eq_true_eq, Bool.not_eq_true'] at h
      obtain ⟨⟨⟨⟨h1, h2⟩, h3⟩, h4⟩, h5⟩ := h
      rcases h5 with h5 | h5
      · exact sp_set hp.1 (ps_set ok.cx.nd (by rw [ok.cx.nm]; exact h1) (loc_of h2) (sE e X EX ok.cx _ h4) (swaps_nl h5) (h3.imp (fun z => z) isLoc_of))
      · cases e with
        | lst l => cases hp.2
        | _ =>
          exfalso
          unfold swapC at h5
          split at h5
          · unfold chkE at h4; cases h4
          · cases h5
    · cases h
  | .app i e, st, hp, h => by
    unfold chkS at h
    split at h
    · simp only [Bool.and_eq_true, decide_eq_true_eq] at h
      obtain ⟨⟨⟨⟨⟨rfl, h2⟩, h3⟩, h4⟩, h5⟩, h6⟩ := h
      have nv := chkE_noStar c e _ _ _ h6
      exact sp_app (ps_expr (pe_bm PySem.F.plainAttrs_list PySem.F.slot_list_append PySem.F.type_list_append mt_append (pe_var (by rw [ok.cx.nm]; exact h2) (vis_of h3) (nmOk_of h4).1 (nmOk_of h4).2) (one_arg (sE e X EX ok.cx _ h6) nv) rfl (meth_few nv) h5 (starEach_cons nv) rfl) rfl)
    · cases h
  | .for_ t it b, st, hp, h => by
    unfold pinS at hp
    simp only [Bool.and_eq_true, Bool.not_eq_true'] at hp
    unfold chkS at h
    split at h
    · simp only [Bool.and_eq_true] at h
      obtain ⟨⟨h1, h2⟩, h3⟩ := h
      refine sp_for (EX := EX) (fun z => ?_) ok.po ok.cx.calm (sI it X EX ok.cx (isTupTg t) _ _ (fun z => ?_) h2) (sTg ok.cx.nm ok.cx.nd ok.cx.calm t _ h1) (sPs ok b _ hp.2 h3) (folded_of h2)
      · have := hp.1
        rw [List.contains_eq_mem, decide_eq_false_iff_not] at this
        exact this z
      · cases t with
        | name i => cases z
        | tup ts =>
          unfold chkT at h1
          split at h1
          · exact ⟨_, _, _, rfl⟩
          · cases h1
    · cases h
  | .io i ea eb, st, hp, h => by
    unfold chkS at h
    split at h
    · simp only [Bool.and_eq_true, decide_eq_true_eq] at h
      obtain ⟨⟨⟨⟨⟨⟨⟨h1, h2⟩, h3⟩, h4⟩, h5⟩, h6⟩, h7⟩, h8⟩ := h
      exact sp_io ok.cx (fun _ _ => rfl) h1 (glo_of h2) (nmOk_of h3).1 (sE ea X EX ok.cx _ h4) (chkE_noStar c ea _ _ _ h4) (sE eb X EX ok.cx _ h5) (chkE_noStar c eb _ _ _ h5) (by rw [ok.cx.nm]; exact h6) (vis_of h7) (nmOk_of h8).1 (nmOk_of h8).2
    · cases h
  | .setL _ _, _, hp, _ => by cases hp
  | .frz _, _, hp, _ => by cases hp
  | .unp _ _, _, hp, _ => by cases hp
  | .par _ _ _ _, _, hp, _ => by cases hp
  | .parL _ _ _ _, _, hp, _ => by cases hp
  | .parR _ _ _ _, _, hp, _ => by cases hp
  | .ext _ _, _, hp, _ => by cases hp
  | .ret _, _, hp, _ => by cases hp
  | .iff _ _ _, _, hp, _ => by cases hp
  | .whl _ _, _, hp, _ => by cases hp
  | .exp _, _, hp, _ => by cases hp
  | .rai _, _, hp, _ => by cases hp
theorem sPs (ok : SxOk c C xv k X EX) : ∀ (m : Ss) (sts : List Stmt), pinSs m = true → chkSs c m X.env.scope X.fn sts = true → PSs X sts (tPs X.K C F0 H0 a m)
  | .nil, sts, _, h => by
    unfold chkSs at h
    cases sts with
    | nil => exact sps_nil
    | cons st sts => cases h
  | .cons m r, sts, hp, h => by
    unfold pinSs at hp
    simp only [Bool.and_eq_true] at hp
    unfold chkSs at h
    split at h
    · cases hp.1
    · cases sts with
      | nil => cases h
      | cons st sts =>
        simp only [Bool.and_eq_true] at h
        exact sps_cons (sP ok m st hp.1 h.1) (sPs ok r sts hp.2 h.2)
end
end
section
variable {P : Program} {w : World} {K : PySem.W.Frag} {mg : Str → Option Value} {base : Heap}
/-- for ..: ..; return tuple(found) -/
theorem io_ok {c : Ck} {C : EvC} {xv : Nat → Value} {k : Nat} {x qual : Str} {st : Stmt} {f : Addr} {fd : FuncData} {N ps : List Str} (F : Fun K x qual st f fd) (S : FnScope N ps (defScope st)) (amb : Amb c C xv P w K mg base k) {m : Tf.S} {s1 : Stmt} {r : Expr} {pr : Pos}
    (hps : ps.length = 3) (hN : 3 ≤ N.length) (hb : defBody st = [s1, .Return (some r) pr]) (hpin : pinS m = true) (hc : chkS { c with N := N } m (defScope st) (fun _ => true) s1 = true) (hr : chkE { c with N := N } (.bi .tuple (.var 2)) (defScope st) (fun _ => true) r = true)
    {io : D → D → List D → Option (List D)} (hio : ∀ x y ds es, io x y ds = some es → ioF C N.length m x y ds = some es) : FnOk P w K mg base (L2.CX P w) (k + 1) f fd ps (spIo K io) := by
  refine F.okX S (fun vs H Q E h => ?_) (fun cdv A outer s H vs Q E hroom h => ?_)
  · obtain ⟨_, _, _, _, _, _, _, _, _, rfl, _⟩ := h
    exact hps.symm
  · obtain ⟨F, x, y, ds, es, a, v1, v2, xs, rfl, l, hn, hh, r1, r2, r3, hm, q⟩ := h
    have hm := hio _ _ _ _ hm
    rw [hb]
    have ok := sx_of (outer := outer) (H := H) (E := E) amb S hroom
    have hs := sP (F0 := F) (H0 := del H a) (a := a) ok m s1 hpin hc
    have hre := sE (.bi .tuple (.var 2)) _ _ ok.cx r hr
    refine ⟨_, pss_cons hs (pss_one (ps_ret hre)), F, F, [some (.sh x), some (.sh y), some (.ow ds)] ++ List.replicate (N.length - 3) none, ?_, ?_, ?_, ?_⟩
    · have get : ∀ (i : Nat) (z : Sl), ([some (Sl.sh x), some (.sh y), some (.ow ds)] ++ List.replicate (N.length - 3) none)[i]? = some (some z) → (i = 0 ∧ z = .sh x) ∨ (i = 1 ∧ z = .sh y) ∨ (i = 2 ∧ z = .ow ds) := fun i z e => by
        match i with
        | 0 => simp at e; exact .inl ⟨rfl, e.symm⟩
        | 1 => simp at e; exact .inr (.inl ⟨rfl, e.symm⟩)
        | 2 => simp at e; exact .inr (.inr ⟨rfl, e.symm⟩)
        | i + 3 =>
          rw [List.getElem?_append_right (by simp), List.getElem?_replicate] at e
          split at e <;> cases e
      refine ⟨?_, l, fun i z e => ?_, fun i j xs' ys' b hij e1 e2 e3 => ?_⟩
      · unfold L2.start
        simp
      · rcases get i z e with ⟨rfl, rfl⟩ | ⟨rfl, rfl⟩ | ⟨rfl, rfl⟩
        · exact ⟨_, rfl, r1⟩
        · exact ⟨_, rfl, r2⟩
        · exact ⟨_, rfl, a, xs, rfl, hn, hh, r3⟩
      · rcases get i _ e1 with ⟨rfl, z⟩ | ⟨rfl, z⟩ | ⟨rfl, z⟩
        · cases z
        · cases z
        · rcases get j _ e2 with ⟨rfl, z⟩ | ⟨rfl, z⟩ | ⟨rfl, z⟩
          · cases z
          · cases z
          · exact absurd rfl hij
    · refine ⟨.refl _, .refl _, .del, fun b o z => .inl z, fun i zs b e1 e2 => ?_⟩
      match i with
      | 0 => simp at e1
      | 1 => simp at e1
      | 2 =>
        have : L2.start N [v1, v2, .ref a] = some v1 :: some v2 :: some (.ref a) :: List.replicate (N.length - 3) none := rfl
        rw [this] at e2
        cases e2
        exact del_same
      | i + 3 =>
        rw [List.getElem?_append_right (by simp), List.getElem?_replicate] at e1
        split at e1 <;> cases e1
    · rfl
    · unfold ioF at hm
      split at hm
      · rename_i d' e
        rw [e]
        split at hm
        · rename_i es' hd
          cases hm
          intro σ' F' H' R g pn
          obtain ⟨v', e1', a', vs', e2', n2, h2, r2'⟩ := R.sl 2 _ hd
          cases (Option.some.inj (Option.some.inj (pn.symm.trans e1')))
          cases e2'
          refine ⟨upd F' a (.lst vs'), d'.set 2 (some (.sh (.list es))), R.freeze hd pn n2 h2 r2', ?_⟩
          have hlen : 2 < d'.length := (List.getElem?_eq_some_iff.mp hd).1
          have ee : ev C (.bi .tuple (.var 2)) (d'.set 2 (some (.sh (.list es)))) = .ok (.tuple es) := by
            simp [ev, biD, hlen]
          rw [ee]
          intro v F2 H2 t2 rv
          have t1 := g.stp R.le
          have hF2 := t2.1 a _ upd_same
          have tF : Stp F (del H a) F' H2 := ⟨t1.1, (Le.trans (.fresh n2) t2.1).trans t2.2.1, t1.2.2.1.trans t2.2.2.1, t1.2.2.2⟩
          have tG : Stp F (del H a) F2 H2 := ⟨t1.1.trans ((Le.fresh n2).trans t2.1), t2.2.1, t1.2.2.1.trans t2.2.2.1, fun b o z => by
            rcases t2.2.2.2 b o z with z | z
            · by_cases hba : b = a
              · subst hba; exact .inr del_same
              · rw [upd_ne hba] at z; exact t1.2.2.2 b o z
            · exact .inr (t1.2.2.1.non z)⟩
          exact q v F' F2 H2 vs' tF n2 (t2.2.1 _ _ hF2) r2' tG rv
        · cases hm
      · cases hm
end
end Tf
/-! Tf2w: try: .. except TreeError ..; the word of an error. -/
namespace Tf
open PySem PySem.Spec PyProof.Rows L2

/-! ### isinstance of the error that is handled; list.count -/
section
variable {X : Cx}
theorem call_isP {p : Addr × Obj} {D : Addr} (hp : p ∈ X.pn) (C : ExcC X.K D) (hz : Zc (.ref D) none p.2) (hf : ∃ vs, p.2.data = .fields vs) : CallR X (.builtin "isinstance") (rIsE X.K D p.1) := by
  intro pins s σ H xs us Q I r h
  obtain ⟨c, cv, b, rfl, hcv, e, q⟩ := h
  match us, r with
  | [u1, u2], .cons rx (.cons rt .nil) =>
    have e1 : u1 = .ref p.1 := rx
    subst e1
    have ec := hcv _ rt
    subst ec
    obtain ⟨vs, hv⟩ := hf
    have hget := (I.pin p (List.mem_append_left _ hp)).1
    have J : PySem.W.InstAt s.heap p.1 p.2 D none := by
      rcases p with ⟨a, ⟨oc, od, oda, osl⟩⟩
      obtain ⟨h1, h2⟩ := hz
      dsimp only at h1 h2 hv
      subst h1 h2 hv
      exact ⟨hget, rfl, rfl, trivial⟩
    refine PySem.W.kia_one (PySem.W.handS_kitx_exc C.hg C.hk C.hs C.hd C.ha C.hn C.ht C.hm) I.kIn J e (fun z => nomatch z) fun tk => ?_
    exact ⟨.bl b, H, I.kept (t' := tk) fun _ _ z => z, rfl, q⟩
def rCntF (K : PySem.W.Frag) : V → List V → Hp → VK → Prop := fun x xs H Q => ∃ (a : Addr) (ys : List V) (y : V), x = V.ref a ∧ xs = [y] ∧ SqL K H a ys ∧ flatV y = true ∧ ys.all flatV = true ∧ Q (.int (ys.countP fun z => eqV z y)) H
theorem mt_cntF : MtR X "list.count" (rCntF X.K) := by
  intro pins s σ H x xs v us Q I rx rxs h
  obtain ⟨a, ys, y, rfl, rfl, hs, fy, fys, q⟩ := h
  cases rx
  obtain ⟨uy, rfl, ry⟩ := rxs.one
  obtain ⟨its, rv, ⟨⟨cls, dd, data, sl⟩, n, ho, hc, hdn, hd⟩, hlen⟩ := I.list hs
  simp only at hc hd
  subst hc hd
  have cnt : ∀ {ys : List V} {its : List Value}, Vals ys its → ys.all flatV = true → its.countP (eqU y) = ys.countP fun z => eqV z y := by
    intro ys its rv
    induction rv with
    | nil => intro _; rfl
    | @cons a b l1 l2 r1 r2 ih =>
      intro hf
      rw [List.all_cons, Bool.and_eq_true] at hf
      rw [List.countP_cons, List.countP_cons, ih hf.2, eqU_of r1 hf.1]
  refine call_meets PySem.F.slot_list_count ⟨_, ho, rfl⟩ PySem.F.entry_list_count (PySem.F.args_list_count_2 _ _)
    (SeqAt.list_countAt a its.toArray n dd sl uy (eqU y)) ⟨ho, fun u' hu' => mem_eqAt ry fy rv fys u' (by simpa using hu'), ?_⟩
  refine ⟨.int (ys.countP fun z => eqV z y), H, I.tok _, ⟨s.toks, ?_⟩, q⟩
  rw [← cnt rv fys]
end

/-! ### a def called where an error is handled -/
abbrev SpP := List V → Hp → VK → Prop
structure FnP (P : Program) (w : World) (K : PySem.W.Frag) (mg : Str → Option Value) (base : Heap) (k : Nat) (f : Addr) (fd : FuncData) (ps : List Str) (p : Addr × Obj) (sp : SpP) : Prop where
  len : ∀ vs H Q, sp vs H Q → vs.length = ps.length
  run : ∀ (A : Around) (outer : List Env) (s : Shared) (H : Hp) (args : Args) (us : List Value) (vs : List V) (Q : VK), L2H.RoomH k A → L2H.PinOk outer H s p → Env0 P w K mg base A outer s H →
    BindsTo s fd args (ps.zip us) → Vals vs us → sp vs H Q → codeAny (model P w) A (.call (.ref f) args) (CR (L2.CX P w) outer P w H s Q fun _ _ _ => False) s
theorem fnP_mk {P : Program} {w : World} {K : PySem.W.Frag} {mg : Str → Option Value} {base : Heap} {k : Nat} {f : Addr} {fd : FuncData} {x qual : Str} {st : Stmt} {N ps : List Str} {p : Addr × Obj} {sp : SpP} (F : Fun K x qual st f fd) (S : FnScope N ps (defScope st))
    (len : ∀ vs H Q, sp vs H Q → vs.length = ps.length)
    (hbody : ∀ (cdv : Value) (A : Around) (outer : List Env) (s : Shared) (H : Hp) (vs : List V) (Q : VK), L2H.RoomH k (A.deeper (PyProof.Rows.envOfC qual (defScope st) s.heap.objs.size f cdv)) → sp vs H Q →
      ∃ t, PSs (L2H.cxH (L2.CX P w) P w K mg base N qual (defScope st) f cdv A outer s H (fun _ _ _ => False) p) (defBody st) t ∧ t { nx := fun _ H' => Q .non H', rt := Q } (L2.start N vs) H) :
    FnP P w K mg base (k + 1) f fd ps p sp := by
  obtain ⟨oc, od, kV, doc, pm, an, cdv, ct, osl, rfl, lk, hcd⟩ := F.ex
  refine ⟨len, fun A outer s H args us vs Q hr hpin e0 hb r hsp => ?_⟩
  have hl := len _ _ _ hsp
  have hold : ∀ b o, base.get? b = some o → s.heap.get? b = some o := fun b o e => (e0.bs b o e).1
  have KX : K.In s.heap := e0.mod.kin.keeps hold
  have lim : s.heap.NoLimit := e0.mod.nolimit.keeps hold
  have hkind : ∀ y ∈ ps.zip us, (defScope st).names.lookup y.1 = some .local ∨ ((defScope st).names.lookup y.1 = some .cell ∧ ((cellsFrom (s.heap.objs.size + 1) (defScope st).names []).lookup y.1).isSome = true) := by
    rintro ⟨n, v⟩ hy
    exact (S.par n (List.of_mem_zip hy).1).imp id fun q => ⟨q, PySem.W.cellsFrom_some _ _ _ (.inl q)⟩
  refine codeAny_call_function hr.depth (KX _ _ lk) rfl S.co S.gen rfl (PySem.W.codeRec_of KX hcd) (hb _ _ _ _ ?_)
  refine wpAny_newFunctionEnv_cells S.kind hkind fun env he s1 x => ?_
  subst he
  obtain ⟨t, ht, hq⟩ := hbody cdv A outer s H vs Q (hr.deeper _) hsp
  have I := L2H.inv_startH (CX := L2.CX P w) (E := fun _ _ _ => False) S hpin e0 hl r x
  refine ⟨lim.keeps x.toInCall.keep, codeAny_func (wpAny_mono (ht.run [] s1 _ H _ I hq) (fun fl s' hs => ?_) fun e s' hs => hs)⟩
  cases fl with
  | ret u => obtain ⟨v, σ', H', J, rv, q⟩ := hs; exact ⟨v, H', J.os, J.bare, J.base, J.hok, rv, q⟩
  | next => obtain ⟨σ', H', J, q⟩ := hs; exact ⟨V.non, H', J.os, J.bare, J.base, J.hok, rfl, q⟩
  | brk => obtain ⟨_, _, _, q⟩ := hs; exact False.elim q
  | cont => obtain ⟨_, _, _, q⟩ := hs; exact False.elim q
section
variable {X : Cx} {k : Nat} {f : Addr} {fd : FuncData} {ps : List Str} {sp : SpP} {x : Str} {q pos : Pos} {e : Expr} {t : TA} {p : Addr × Obj}
theorem pe_callP (F : FnP X.prog X.w X.K X.mg X.base k f fd ps p sp) (hr : L2H.RoomH k X.A) (hp : p ∈ X.pn) (hg : Gl X x) (hm : X.mg x = some (.ref f)) (hk : PySem.W.keepIn X.K (.ref f) = true) (hb : Binds X.K fd ps [])
    (ha : PA X [e] t) (hdb : (x == ("__debug__" : Str)) = false) (he : noStar e = true) : PE X (.Call (.Name x q) [e] [] pos) (fun σ H Q => t σ H fun vs H1 => sp vs H1 Q) := by
  refine ⟨fun pins s σ H Q I h => PySem.wpAny_Call_Name_kw (ld_glob I hg hm ?_ hdb)⟩
  refine PySem.W.callWith_K (h₀ := X.base) I.ok.mod.kin hk (thn (ha.run pos pins s σ H _ I h) fun us s1 ⟨vs, H1, I1, r, h1⟩ => ⟨I1.kIn, ?_⟩) (starEach_cons he) rfl
  have hl : us.length = ps.length := by rw [← r.length]; exact F.len _ _ _ h1
  have b := hb s1 us I1.kIn (by rw [List.append_nil]; exact hl)
  rw [List.append_nil] at b
  obtain ⟨p1, p2, p3, p4, p5⟩ := I1.pin p (List.mem_append_left _ hp)
  have hpin : L2H.PinOk X.stack H1 s1 p := ⟨p1, p2, fun hm => (List.mem_cons.mp (I1.stkSub p.1 hm)).elim p3 p4, p5⟩
  refine wpAny_call (codeAny_mono (F.run X.A X.stack s1 H1 ⟨us, []⟩ us vs Q hr hpin I1.env0 b r h1) fun r s' hq => ?_)
  cases r with
  | error e =>
    obtain ⟨_, _, _, _, _, _, _, _, _, _, _, _, z⟩ := hq
    exact z.elim
  | ok fl => cases fl with
    | ret u => exact I1.after hq
    | next => exact False.elim hq
    | brk => exact False.elim hq
    | cont => exact False.elim hq
/-- a name whose slot was just set -/
theorem pe_slot {i : Nat} {n : Str} {v : V} (hN : X.N[i]? = some n) (hv : Vis X.env.scope n) (h1 : (n == ("__debug__" : Str)) = false) (h2 : (n == ("__classdict__" : Str)) = false) : PE X (.Name n pos) (fun σ H Q => (∃ σ0 : L2.St, σ = σ0.set i (some v)) ∧ Q v H) :=
  ⟨fun pins s σ H Q I ⟨⟨σ0, e⟩, h⟩ => (pe_var hN hv h1 h2).run pins s σ H Q I ⟨v, by
    have hl := I.len
    have hi := (List.getElem?_eq_some_iff.mp hN).1
    subst e
    rw [List.length_set] at hl
    exact List.getElem?_set_self (by omega), h⟩⟩
end
end Tf
/-! Tf2x: _law_word; a def that is one try. -/
namespace Tf
open PySem PySem.Spec PyProof.Rows L2

/-- the classes of errors -/
structure ErrK (K : PySem.W.Frag) (mg : Str → Option Value) (xv : Nat → Value) (a0 a1 : Addr) : Prop where
  x0 : xv 0 = .ref a0
  x1 : xv 1 = .ref a1
  m0 : mg "NoNode" = some (.ref a0)
  m1 : mg "NoText" = some (.ref a1)
  mi : mg "isinstance" = none
  mv : mg "ValueError" = none
  c0 : ExcC K a0
  c1 : ExcC K a1
  k00 : PySem.W.kitOne K (.ref a0) (.ref a0) = some true
  k01 : PySem.W.kitOne K (.ref a0) (.ref a1) = some false
  k10 : PySem.W.kitOne K (.ref a1) (.ref a0) = some false
  k11 : PySem.W.kitOne K (.ref a1) (.ref a1) = some true
  k0v : PySem.W.kitOne K (.ref a0) (.type "ValueError") = some true
  k1v : PySem.W.kitOne K (.ref a1) (.type "ValueError") = some true
def spWord (n : Nat) (p : Addr × Obj) : SpP := fun vs H Q => vs = [.ref p.1] ∧ ∀ H', Le H H' → Q (.str (wordS n)) H'
section
variable {P : Program} {w : World} {K : PySem.W.Frag} {mg : Str → Option Value} {base : Heap}
theorem word_ok {xv : Nat → Value} {a0 a1 : Addr} (EK : ErrK K mg xv a0 a1) {st : Stmt} {f : Addr} {fd : FuncData} {x : Str} (F : Fun K x x st f fd) (S : FnScope ["kept", "kinds"] ["kept"] (defScope st))
    (gi : (defScope st).names.lookup ("isinstance" : Str) = some NameKind.globalImplicit) (g0 : (defScope st).names.lookup ("NoNode" : Str) = some NameKind.globalImplicit) (g1 : (defScope st).names.lookup ("NoText" : Str) = some NameKind.globalImplicit) (gv : (defScope st).names.lookup ("ValueError" : Str) = some NameKind.globalImplicit)
    (l0 : (defScope st).names.lookup ("kept" : Str) = some NameKind.local) (l1 : (defScope st).names.lookup ("kinds" : Str) = some NameKind.local)
    {p1 p2 p3 p4 p5 p6 p7 p8 p9 p10 p11 p12 p13 p14 p15 p16 p17 p18 p19 p20 p21 p22 p23 p24 p25 p26 p27 p28 p29 p30 p31 p32 p33 p34 p35 : Pos} {j1 j2 j3 j4 j5 j6 j7 : Nat}
    (hb : defBody st = [.Assign [.Name "kinds" p1] (.List [.Call (.Name "isinstance" p2) [.Name "kept" p3, .Name "NoNode" p4] [] p5, .Call (.Name "isinstance" p6) [.Name "kept" p7, .Name "NoText" p8] [] p9] p10) p11,
      .If (.BoolOp .Or [.Compare (.Call (.Attribute (.Name "kinds" p12) "count" p13) [.Constant (.bool true) j1 p14] [] p15) [.NotEq] [.Constant (.int 1) j2 p16] p17, .UnaryOp .Not (.Call (.Name "isinstance" p18) [.Name "kept" p19, .Name "ValueError" p20] [] p21) p22] p23) [.Return (some (.Constant (.str "wrong") j3 p24)) p25] [] p26,
      .Return (some (.Subscript (.Tuple [.Constant (.str "no node") j4 p27, .Constant (.str "no text") j5 p28] j6 p29) (.Call (.Attribute (.Name "kinds" p30) "index" p31) [.Constant (.bool true) j7 p32] [] p33) p34)) p35])
    (hl1 : (p13.endLine == p15.line) = true) (hl2 : (p31.endLine == p33.line) = true)
    {n : Nat} (hn : n < 2) {p : Addr × Obj} (hz : Zc (xv n) none p.2) (hf : ∃ vs, p.2.data = .fields vs) : FnP P w K mg base 1 f fd ["kept"] p (spWord n p) := by
  obtain ⟨D, b0, b1, eD, CD, kD0, kD1, kDv, eb⟩ : ∃ (D : Addr) (b0 b1 : Bool), xv n = .ref D ∧ ExcC K D ∧ PySem.W.kitOne K (.ref D) (.ref a0) = some b0 ∧ PySem.W.kitOne K (.ref D) (.ref a1) = some b1 ∧ PySem.W.kitOne K (.ref D) (.type "ValueError") = some true ∧ ((n = 0 ∧ b0 = true ∧ b1 = false) ∨ (n = 1 ∧ b0 = false ∧ b1 = true)) := by
    match n, hn with
    | 0, _ => exact ⟨a0, true, false, EK.x0, EK.c0, EK.k00, EK.k01, EK.k0v, .inl ⟨rfl, rfl, rfl⟩⟩
    | 1, _ => exact ⟨a1, false, true, EK.x1, EK.c1, EK.k10, EK.k11, EK.k1v, .inr ⟨rfl, rfl, rfl⟩⟩
  rw [eD] at hz
  refine fnP_mk F S (fun vs H Q h => by obtain ⟨rfl, _⟩ := h; rfl) fun cdv A outer s H vs Q hr h => ?_
  obtain ⟨rfl, q⟩ := h
  rw [hb]
  generalize hX : L2H.cxH (L2.CX P w) P w K mg base ["kept", "kinds"] x (defScope st) f cdv A outer s H (fun _ _ _ => False) p = X
  have hp : p ∈ X.pn := by subst hX; exact List.mem_cons_self
  have hK : X.K = K := by subst hX; rfl
  have hm : X.mg = mg := by subst hX; rfl
  have hN : X.N = (["kept", "kinds"] : List Str) := by subst hX; rfl
  have hs : X.env.scope = defScope st := by subst hX; rfl
  have gl : ∀ {y : Str}, (defScope st).names.lookup y = some NameKind.globalImplicit → Gl X y := fun {y} h => by subst hX; exact h
  have vl : ∀ {y : Str}, (defScope st).names.lookup y = some NameKind.local → Vis X.env.scope y := fun {y} h => by subst hX; exact .inl h
  have kept : ∀ {pp : Pos}, PE X (.Name "kept" pp) (tVar 0) := pe_var (by rw [hN]; rfl) (vl l0) (by decide) (by decide)
  have kinds : ∀ {pp : Pos}, PE X (.Name "kinds" pp) (tVar 1) := pe_var (by rw [hN]; rfl) (vl l1) (by decide) (by decide)
  have CX' : ExcC X.K D := by rw [hK]; exact CD
  have isr := call_isP (X := X) hp CX' hz hf
  have isC : ∀ {y : Str} {v : V} {u : Value} {q1 q2 q3 q4 : Pos}, PE X (.Name y q3) (tC v) → PE X (.Call (.Name "isinstance" q1) [.Name "kept" q2, .Name y q3] [] q4) (tCB (rIsE X.K D p.1) (tCons (tVar 0) (tCons (tC v) tNil))) := fun {y v u q1 q2 q3 q4} h =>
    pe_callB isr (gl gi) (by rw [hm]; exact EK.mi) (by decide +kernel) (pa_cons kept (pa_cons h pa_nil rfl) rfl)
  have i0 := fun {q1 q2 q3 q4 : Pos} => isC (u := .none) (q1 := q1) (q2 := q2) (q4 := q4) (pe_glob (X := X) (v := V.ref a0) (pos := q3) (gl g0) (by rw [hm]; exact EK.m0) rfl)
  have i1 := fun {q1 q2 q3 q4 : Pos} => isC (u := .none) (q1 := q1) (q2 := q2) (q4 := q4) (pe_glob (X := X) (v := V.ref a1) (pos := q3) (gl g1) (by rw [hm]; exact EK.m1) rfl)
  have iv := fun {q1 q2 q3 q4 : Pos} => isC (u := .none) (q1 := q1) (q2 := q2) (q4 := q4) (pe_bltn (X := X) (v := V.ty "ValueError") (pos := q3) (gl gv) (by rw [hm]; exact EK.mv) (by decide +kernel) rfl)
  have e0 : PySem.W.kitOne X.K (.ref D) (.ref a0) = some b0 := by rw [hK]; exact kD0
  have e1 : PySem.W.kitOne X.K (.ref D) (.ref a1) = some b1 := by rw [hK]; exact kD1
  have ev : PySem.W.kitOne X.K (.ref D) (.type "ValueError") = some true := by rw [hK]; exact kDv
  have ndp : X.N.Nodup := by rw [hN]; decide
  have hloc : X.env.kindOf "kinds" = some .local := by subst hX; exact l1
  refine ⟨_, pss_cons (ps_set (i := 1) ndp (by rw [hN]; rfl) (.inl hloc) (pe_lst (pa_cons i0 (pa_cons i1 pa_nil rfl) rfl)) rfl (.inr hloc))
    (pss_cons (ps_if (pw_or (pt_cmpR op_ne (pe_bm PySem.F.plainAttrs_list PySem.F.slot_list_count PySem.F.type_list_count mt_cntF kinds (pa_cons pe_bl pa_nil rfl) rfl rfl hl1 rfl rfl) pe_int (nomark _)) (pw_or1 (pt_not (pt_val iv)))).pt (pss_one (ps_ret pe_str)) pss_nil)
      (pss_one (ps_ret (pe_ix ix_tup (pe_tup (pa_cons pe_str (pa_cons pe_str pa_nil rfl) rfl)) (pe_bm PySem.F.plainAttrs_list PySem.F.slot_list_index PySem.F.type_list_index mt_index kinds (pa_cons pe_bl pa_nil rfl) rfl rfl hl2 rfl rfl) (fun _ _ => rfl))))), ?_⟩
  refine ⟨_, rfl, _, .ref a0, b0, rfl, fun u r => r, e0, _, rfl, _, .ref a1, b1, rfl, fun u r => r, e1, by show 2 ≤ sizeLine; decide, fun l hl => ?_⟩
  have hsq : SqL X.K (upd H l (.lst [.bl b0, .bl b1])) l [.bl b0, .bl b1] := .of upd_same
  have tyl : tyV X.K "list" (.ref l) (upd H l (.lst [.bl b0, .bl b1])) := .inl ⟨rfl, _, hsq⟩
  refine ⟨_, rfl, tyl, l, _, _, rfl, rfl, hsq, rfl, rfl, ?_⟩
  have e : ([V.bl b0, V.bl b1].countP fun z => eqV z (.bl true)) = 1 := by
    rcases eb with ⟨_, rfl, rfl⟩ | ⟨_, rfl, rfl⟩ <;> rfl
  rw [e]
  refine ⟨rfl, false, rfl, ?_⟩
  show if false = true then _ else _
  rw [if_neg (by decide)]
  refine ⟨_, rfl, _, .type "ValueError", true, rfl, fun u r => r, ev, _, rfl, ?_⟩
  show if (!true) = true then _ else _
  rw [if_neg (by decide)]
  refine ⟨by show 2 ≤ sizeLine; decide, fun tp htp => ?_⟩
  have hlt : tp ≠ l := fun z => by subst z; rw [upd_same] at htp; cases htp
  have hsq2 : SqL X.K (upd (upd H l (.lst [.bl b0, .bl b1])) tp (.tup [.str "no node", .str "no text"])) l [.bl b0, .bl b1] := .of (by rw [upd_ne (Ne.symm hlt), upd_same])
  have tyl2 : tyV X.K "list" (.ref l) (upd (upd H l (.lst [.bl b0, .bl b1])) tp (.tup [.str "no node", .str "no text"])) := .inl ⟨rfl, _, hsq2⟩
  have fin := q _ ((Le.fresh hl).trans (.fresh (o := .tup [.str "no node", .str "no text"]) htp))
  rcases eb with ⟨rfl, rfl, rfl⟩ | ⟨rfl, rfl, rfl⟩
  · exact ⟨_, rfl, tyl2, l, _, _, 0, _, rfl, rfl, hsq2, rfl, rfl, rfl, rfl, fun m z' hm => absurd hm (Nat.not_lt_zero m), tp, _, _, _, rfl, rfl, .of upd_same, rfl, fin⟩
  · refine ⟨_, rfl, tyl2, l, _, _, 1, _, rfl, rfl, hsq2, rfl, rfl, rfl, rfl, fun m z' hm hz' => ?_, tp, _, _, _, rfl, rfl, .of upd_same, rfl, fin⟩
    have : m = 0 := by omega
    subst this
    cases hz'
    rfl

/-- what except .. needs to know -/
structure TryK (K : PySem.W.Frag) (mg : Str → Option Value) (xv : Nat → Value) (at_ : Addr) : Prop where
  mt : mg "TreeError" = some (.ref at_)
  e0 : PySem.W.exmOne K (xv 0) (.ref at_) = some true
  e1 : PySem.W.exmOne K (xv 1) (.ref at_) = some true
theorem TryK.ex {xv : Nat → Value} {at_ : Addr} (T : TryK K mg xv at_) {n : Nat} (h : n < 2) : PySem.W.exmOne K (xv n) (.ref at_) = some true := by
  match n, h with
  | 0, _ => exact T.e0
  | 1, _ => exact T.e1
/-- the body of a try -/
def tTry (K : PySem.W.Frag) (xv : Nat → Value) (C : EvC) (F0 H0 : Hp) (m : Ss) (W : WX) : TS := fun D σ H => ∃ EX : Nat → Hp → Prop, (∀ n H' (σ' : L2.St), EX n H' → W (xv n) none σ' H') ∧ tSs K EX C F0 H0 m D σ H
theorem try_body {c : Ck} {C : EvC} {xv : Nat → Value} {k : Nat} {X : Cx} {EX0 : Nat → Hp → Prop} {F0 H0 : Hp} (ok : SxOk c C xv k X EX0) {m : Ss} {sts : List Stmt} (hc : chkSs c m X.env.scope X.fn sts = true) (W : WX) (pn : List (Addr × Obj)) (xe : Value → Shared → Prop)
    (tk : Takes (X.tr pn xe) W) (po : PassesOwn (model X.prog X.w) X.A X.env xe) : PSs (X.tr pn xe) sts (tTry X.K xv C F0 H0 m W) :=
  ⟨fun pins s σ H D I ⟨EX, hw, h⟩ => by
    have tk' : Takes (X.tr pn xe) (fun cls d _ H => xwish xv EX cls d H) := tk.imp fun cls d σ H ⟨n, e1, e2, z⟩ => by subst e1 e2; exact hw n H σ z
    have ok' : SxOk c C xv k (X.tr pn xe) EX := ⟨⟨ok.cx.amb, ok.cx.nm, ok.cx.nd, ok.cx.calm, ok.cx.room, passes_call tk' fun cls d _ H' z => z⟩, ok.kind, po, tk'⟩
    exact (sSs (F0 := F0) (H0 := H0) ok' m sts hc).run pins s σ H D I h⟩
/-- the suite: return _law_word(e) -/
def tWord (xv : Nat → Value) (i : Nat) (a : Addr) (cls : Value) (d : Option Addr) : TS := fun D σ H => (∃ σ0 : L2.St, σ = σ0.set i (some (.ref a))) ∧ ∃ n, n < 2 ∧ cls = xv n ∧ d = none ∧ ∀ H', Le H H' → D.rt (.str (wordS n)) H'
theorem try_word {X : Cx} {xv : Nat → Value} {i : Nat} {x : Str} {f : Addr} {fd : FuncData} {y : Str} {q1 q2 q3 q4 : Pos} (hr : L2H.RoomH 1 X.A) (hN : X.N[i]? = some y) (hv : Vis X.env.scope y) (h1 : (y == ("__debug__" : Str)) = false) (h2 : (y == ("__classdict__" : Str)) = false)
    (hg : Gl X x) (hd : (x == ("__debug__" : Str)) = false) (hm : X.mg x = some (.ref f)) (hk : PySem.W.keepIn X.K (.ref f) = true) (hb : Binds X.K fd ["kept"] [])
    (wd : ∀ (n : Nat) (p : Addr × Obj), n < 2 → Zc (xv n) none p.2 → (∃ vs, p.2.data = .fields vs) → FnP X.prog X.w X.K X.mg X.base 1 f fd ["kept"] p (spWord n p))
    (a : Addr) (oe : Obj) (cls : Value) (d : Option Addr) (pn : List (Addr × Obj)) (hz : Zc cls d oe) (hf : ∃ vs, oe.data = .fields vs) :
    PSs (X.suite a ((a, oe) :: pn)) [.Return (some (.Call (.Name x q1) [.Name y q2] [] q3)) q4] (tWord xv i a cls d) :=
  ⟨fun pins s σ H D I ⟨hs, n, hn, e1, e2, h⟩ => by
    subst e1 e2
    have F := wd n (a, oe) hn hz hf
    have nm : PE (X.suite a ((a, oe) :: pn)) (.Name y q2) (fun σ H Q => (∃ σ0 : L2.St, σ = σ0.set i (some (.ref a))) ∧ Q (.ref a) H) := pe_slot hN hv h1 h2
    have pe := pe_callP (X := X.suite a ((a, oe) :: pn)) (q := q1) (pos := q3) F ⟨hr.dp, hr.un⟩ List.mem_cons_self hg hm hk hb (pa_cons nm pa_nil rfl) hd rfl
    exact (pss_one (ps_ret (pos := q4) pe)).run pins s σ H D I ⟨hs, rfl, h⟩⟩
/-- a def that is: try: .. except TreeError as e: return _law_word(e) -/
theorem tr_ok {c : Ck} {C : EvC} {xv : Nat → Value} {k : Nat} {x qual : Str} {st : Stmt} {f : Addr} {fd : FuncData} {N ps : List Str} (F : Fun K x qual st f fd) (S : FnScope N ps (defScope st)) (amb : Amb c C xv P w K mg base k) (fn : Fn)
    (hp : fn.np = ps.length) (hn : fn.nn = N.length) {body : List Stmt} {q0 q1 q2 q3 q4 q5 q6 : Pos} {y z : Str} {i : Nat} {f2 : Addr} {fd2 : FuncData} {at_ : Addr} (T : TryK K mg xv at_)
    (hbd : defBody st = [.Try body [.ExceptHandler (some (.Name "TreeError" q0)) (some y) [.Return (some (.Call (.Name z q1) [.Name y q2] [] q3)) q4] q5] [] [] q6])
    (hc : chkSs { c with N := N } fn.body (defScope st) (fun _ => true) body = true)
    (hN : N[i]? = some y) (hl : (defScope st).names.lookup y = some NameKind.local) (h1 : (y == ("__debug__" : Str)) = false) (h2 : (y == ("__classdict__" : Str)) = false) (gt : (defScope st).names.lookup ("TreeError" : Str) = some NameKind.globalImplicit)
    (gz : (defScope st).names.lookup z = some NameKind.globalImplicit) (hd : (z == ("__debug__" : Str)) = false) (hm : mg z = some (.ref f2)) (hk : PySem.W.keepIn K (.ref f2) = true) (hb : Binds K fd2 ["kept"] [])
    (wd : ∀ (n : Nat) (p : Addr × Obj), n < 2 → Zc (xv n) none p.2 → (∃ vs, p.2.data = .fields vs) → FnP P w K mg base 1 f2 fd2 ["kept"] p (spWord n p)) (hk1 : 1 ≤ k) :
    FnOk P w K mg base (L2.CX P w) (k + 1) f fd ps (spR K xv (fun ds => caught 0 (runF C fn ds))) := by
  refine F.okX S (fun vs H Q E h => ?_) (fun cdv A outer s H vs Q E hr h => ?_)
  · obtain ⟨F, ds, l, r, h⟩ := h
    rw [r.length, ← hp]
    dsimp only [runF] at h
    by_cases e : ds.length = fn.np
    · exact e
    · rw [if_neg e] at h; exact h.elim
  · obtain ⟨F1, ds, l, r, h⟩ := h
    have e : ds.length = fn.np := by
      dsimp only [runF] at h
      by_cases e : ds.length = fn.np
      · exact e
      · rw [if_neg e] at h; exact h.elim
    rw [hbd]
    have ok := sx_of (outer := outer) (H := H) (E := E) amb S hr
    have tk0 : Takes (cxOf (L2.CX P w) P w K mg base N qual (defScope st) f cdv A outer s H E) (fun cls d _ H => E cls d H) := takes_of rfl rfl rfl rfl
    have rh : L2H.RoomH 1 (cxOf (L2.CX P w) P w K mg base N qual (defScope st) f cdv A outer s H E).A := (L2H.roomH_of hr).mono hk1
    have ps := ps_try_as (X := cxOf (L2.CX P w) P w K mg base N qual (defScope st) f cdv A outer s H E) (c := .ref at_) (np := q0) (pos := q6) (pos' := q5) rfl rfl S.nd hN hl ⟨gt, by decide, .inl T.mt⟩ tk0 (try_body (F0 := F1) (H0 := H) ok hc)
      (try_word (q1 := q1) (q2 := q2) (q3 := q3) (q4 := q4) rh hN (.inl hl) h1 h2 gz hd hm hk hb wd)
    refine ⟨_, pss_one ps, fun n H' => n < 2 ∧ ∀ H'', Le H' H'' → Q (.str (wordS n)) H'', fun n H' σ' hx => ⟨true, T.ex hx.1, fun _ a ha => ⟨⟨σ', rfl⟩, n, hx.1, rfl, rfl, hx.2⟩, fun z => by cases z⟩, F1, F1, _, rep_start l r fn (by rw [r.length, e, hn]), ⟨.refl _, .refl _, .refl _, fun a o q => .inl q, fun i xs a e1 _ => ?_⟩, ?_⟩
    · exfalso
      unfold start0 at e1
      by_cases hi : i < ds.length
      · rw [List.getElem?_append_left (by simpa using hi), List.getElem?_map, List.getElem?_eq_getElem hi] at e1
        cases e1
      · rw [List.getElem?_append_right (by simpa using hi), List.getElem?_replicate] at e1
        split at e1 <;> cases e1
    · dsimp only [runF] at h
      rw [if_pos e] at h
      cases e2 : evSs C fn.body (start0 fn (ds.map fun d => some (.sh d))) with
      | nx d' => rw [e2] at h; exact fun σ' F' H' R g => h _ F' H' (g.stp R.le) .non
      | rt y => rw [e2] at h; exact h
      | exc n =>
        rw [e2] at h
        simp only [Out.res, caught] at h
        by_cases hn2 : n < 2
        · rw [if_pos hn2] at h
          exact fun F' H' s1 => ⟨hn2, fun H'' hl => h _ F' H'' ⟨s1.1, s1.2.1.trans hl, s1.2.2.1.trans hl, s1.2.2.2⟩ (.str _ (by
            match n, hn2 with
            | 0, _ => exact fun c hc => of_decide_eq_true (List.all_eq_true.mp (show (wordS 0).cps.toList.all (fun c => decide (c < 128)) = true by decide +kernel) c hc)
            | 1, _ => exact fun c hc => of_decide_eq_true (List.all_eq_true.mp (show (wordS 1).cps.toList.all (fun c => decide (c < 128)) = true by decide +kernel) c hc)))⟩
        · rw [if_neg hn2] at h; exact h.elim
      | fail => rw [e2] at h; exact h

/-- what the classes must say, asked one by one -/
structure ClsK (K : PySem.W.Frag) (D : Addr) : Prop where
  hg : PySem.W.findIn K (.ref D) "__getattribute__" = some (some (.builtin "BaseException.__getattribute__"))
  hk : PySem.W.findIn K (.ref D) "__getattr__" = some none
  hs : PySem.W.subIn K (.ref D) (.type "BaseException") = some true
  hd : PySem.W.hasDictIn K D = true
  ha : PySem.W.findIn K (.ref D) "__class__" = some (some (.builtin "object.__class__"))
  hm : PySem.W.mroIn K D (.type "object") = some true
  ht : PySem.W.typeIn K (.ref D) = some (.type "type")
  hv : PySem.W.subIn K (.ref D) (.type "ValueError") = some true
theorem ClsK.excC {D : Addr} (C : ClsK K D) (hn : PySem.W.specialIn K (.builtin "object.__class__") "__get__" = some (some (.builtin "getset_descriptor.__get__"))) (ht : PySem.W.takesIn K (.builtin "object.__class__") = some true) : ExcC K D := ⟨C.hg, C.hk, C.hs, C.hd, C.ha, hn, ht, C.hm⟩
theorem ClsK.kit {D : Addr} (C : ClsK K D) {t : Value} {b : Bool} (h : PySem.W.subIn K t (.ref D) = some b) : PySem.W.kitCls K t (.ref D) = some b := by
  obtain ⟨cd, hc, _⟩ := PySem.W.any_some C.hd
  unfold PySem.W.kitCls
  simp only [hc, C.ht, h]
  rfl
theorem kit_same (t : Value) : PySem.W.kitOne K t t = some true := by unfold PySem.W.kitOne; rw [if_pos (by simp)]
theorem kit_ne {t c : Value} {b : Bool} (hne : t ≠ c) (h : PySem.W.kitCls K t c = some b) : PySem.W.kitOne K t c = some b := by unfold PySem.W.kitOne; rw [if_neg (by simpa using hne)]; exact h
theorem kit_val {D : Addr} (C : ClsK K D) : PySem.W.kitOne K (.ref D) (.type "ValueError") = some true := kit_ne (fun z => by cases z) (by
  show (if PySem.W.kitMeta "ValueError" = true then PySem.W.subIn K (.ref D) (.type "ValueError") else none) = some true
  rw [if_pos (by decide +kernel)]
  exact C.hv)
theorem errK_mk {xv : Nat → Value} {a0 a1 : Addr} (x0 : xv 0 = .ref a0) (x1 : xv 1 = .ref a1) (m0 : mg "NoNode" = some (.ref a0)) (m1 : mg "NoText" = some (.ref a1)) (mi : mg "isinstance" = none) (mv : mg "ValueError" = none) (C0 : ClsK K a0) (C1 : ClsK K a1)
    (hn : PySem.W.specialIn K (.builtin "object.__class__") "__get__" = some (some (.builtin "getset_descriptor.__get__"))) (ht : PySem.W.takesIn K (.builtin "object.__class__") = some true)
    (s00 : PySem.W.subIn K (.ref a0) (.ref a0) = some true) (s01 : PySem.W.subIn K (.ref a0) (.ref a1) = some false) (s10 : PySem.W.subIn K (.ref a1) (.ref a0) = some false) : ErrK K mg xv a0 a1 := by
  have hne : (Value.ref a0) ≠ .ref a1 := fun z => by
    rw [← z, s00] at s01; cases s01
  exact ⟨x0, x1, m0, m1, mi, mv, C0.excC hn ht, C1.excC hn ht, kit_same _, kit_ne hne (C1.kit s01), kit_ne (Ne.symm hne) (C0.kit s10), kit_same _, kit_val C0, kit_val C1⟩
theorem tryK_mk {xv : Nat → Value} {a0 a1 at_ : Addr} (x0 : xv 0 = .ref a0) (x1 : xv 1 = .ref a1) (mt : mg "TreeError" = some (.ref at_)) (h1 : PySem.W.subIn K (.ref at_) (.type "BaseException") = some true) (h2 : PySem.W.hasDictIn K at_ = true) (h3 : PySem.W.typeIn K (.ref at_) = some (.type "type"))
    (s0 : PySem.W.subIn K (.ref a0) (.ref at_) = some true) (s1 : PySem.W.subIn K (.ref a1) (.ref at_) = some true) : TryK K mg xv at_ :=
  ⟨mt, by rw [x0]; exact PySem.W.exm_ref h1 h2 h3 s0, by rw [x1]; exact PySem.W.exm_ref h1 h2 h3 s1⟩
end
end Tf
/-! Tf2k: a whole program: all defs by one induction over the level. -/
namespace Tf
open PySem L2
section
variable {P : Program} {w : World} {K : PySem.W.Frag} {mg : Str → Option Value} {base : Heap}
/-- a def of the text stands at its name -/
structure DefAt (K : PySem.W.Frag) (mg : Str → Option Value) (x : Str) (st : Stmt) (ps : List Str) : Prop where
  ex : ∃ (a : Addr) (fd : FuncData), Fun K x x st a fd ∧ mg x = some (.ref a) ∧ Binds K fd ps []
theorem defAt_mk {h : Heap} (X : K.In h) (G : h.Ns mainGlobals mg) {x : Str} {st : Stmt} {ps : List Str} {f : Addr} {oc : Value} {od an : Option Addr} {osl : Array (Option Value)} {kV doc pm cdv ct : Value}
    (a : PySem.W.nsIn K mainGlobals x = some (some (.ref f))) (l : K.lookup f = some ⟨oc, od, .func (PySem.W.fnOf x x (defArgs st) (defBody st) (defScope st) .none kV doc pm an cdv ct), osl⟩)
    (c : PySem.W.codeIn K cdv x = true) (k : PySem.W.keepIn K (.ref f) = true)
    (b : ∀ (kV doc pm : Value) (an : Option Addr) (cdv ct : Value) (us : List Value), us.length = ps.length → bindArgs (PySem.W.fnOf x x (defArgs st) (defBody st) (defScope st) .none kV doc pm an cdv ct) ⟨us, []⟩ = pure (ps.zip us)) : DefAt K mg x st ps :=
  ⟨f, _, fun_mk l c k, PySem.W.mg_of X G a, Binds.all fun us hl => b kV doc pm an cdv ct us hl⟩
/-- an entry of the table keeps to the text -/
def EntOk (c : Ck) (xv : Nat → Value) (tbl : List Fk) (gv : Nat → Option D) (io : Io) (P : Program) (w : World) (K : PySem.W.Frag) (mg : Str → Option Value) (base : Heap) (f : Nat) (x : Str) : Prop :=
  (∃ fn st N ps, tbl[f]? = some (.fn fn) ∧ DefAt K mg x st ps ∧ FnScope N ps (defScope st) ∧ fn.np = ps.length ∧ fn.nn = N.length ∧ chkSs { c with N := N } fn.body (defScope st) (fun _ => true) (defBody st) = true) ∨
  (∃ a fd ps, mg x = some (.ref a) ∧ PySem.W.keepIn K (.ref a) = true ∧ Binds K fd ps [] ∧ ∀ n, Amb c ⟨run tbl gv io n, gv, 1000, io n⟩ xv P w K mg base (n + 1) → FnOk P w K mg base (L2.CX P w) (n + 2) a fd ps (spR K xv fun ds => run tbl gv io (n + 1) f ds))
theorem fn_fail {k : Nat} {a : Addr} {fd : FuncData} {ps : List Str} {xv : Nat → Value} {m : List D → R D} (h : ∀ ds, m ds = .fail) : FnOk P w K mg base (L2.CX P w) k a fd ps (spR K xv m) := by
  have no : ∀ vs H Q E, ¬ spR K xv m vs H Q E := fun vs H Q E ⟨F, ds, _, _, q⟩ => by rw [h ds] at q; exact q
  exact ⟨fun vs H Q E q => absurd q (no vs H Q E), fun A outer s H args us vs Q E _ _ _ _ q => absurd q (no vs H Q E)⟩
/-- the def with a list that it makes longer keeps to the text -/
def IoOk (c : Ck) (tbl : List Fk) (gv : Nat → Option D) (io : Io) (K : PySem.W.Frag) (mg : Str → Option Value) (x : Str) : Prop :=
  (∀ x y ds, io 0 x y ds = none) ∧ ∃ (m : S) (st : Stmt) (N ps : List Str) (s1 : Stmt) (r : Expr) (pr : Pos), DefAt K mg x st ps ∧ FnScope N ps (defScope st) ∧ ps.length = 3 ∧ 3 ≤ N.length ∧ defBody st = [s1, .Return (some r) pr] ∧ pinS m = true ∧
    chkS { c with N := N } m (defScope st) (fun _ => true) s1 = true ∧ chkE { c with N := N } (.bi .tuple (.var 2)) (defScope st) (fun _ => true) r = true ∧
    ∀ n x y ds es, io (n + 1) x y ds = some es → ioF ⟨run tbl gv io n, gv, 1000, io n⟩ N.length m x y ds = some es
theorem fn_failIo {k : Nat} {a : Addr} {fd : FuncData} {ps : List Str} {m : D → D → List D → Option (List D)} (h : ∀ x y ds, m x y ds = none) : FnOk P w K mg base (L2.CX P w) k a fd ps (spIo K m) := by
  have no : ∀ vs H Q E, ¬ spIo K m vs H Q E := fun vs H Q E ⟨_, _, _, _, _, _, _, _, _, _, _, _, _, _, _, _, q, _⟩ => by rw [h] at q; cases q
  exact ⟨fun vs H Q E q => absurd q (no vs H Q E), fun A outer s H args us vs Q E _ _ _ _ q => absurd q (no vs H Q E)⟩
theorem amb_all {c : Ck} {xv : Nat → Value} {tbl : List Fk} {gv : Nat → Option D} {io : Io} (ent : ∀ (f : Nat) (x : Str), c.fns[f]? = some (some x) → EntOk c xv tbl gv io P w K mg base f x)
    (hg : ∀ (g : Nat) (x : Str) (d : D), c.gls[g]? = some (some x) → gv g = some d → ∃ u v, mg x = some u ∧ RelV v u ∧ Rep K (fun _ => none) v d)
    (hb : ∀ x ∈ bnames, mg x = none)
    (hx : ∀ (n : Nat) (x : Str), c.xcs[n]? = some (some x) → ∃ a, xv n = .ref a ∧ mg x = some (.ref a) ∧ PySem.W.excIn K a [.type "ValueError", .type "Exception", .type "BaseException", .type "object"] "ValueError.__new__" = true ∧
      PySem.W.keepIn K (.ref a) = true ∧ PySem.W.subIn K (.ref a) (.type "BaseException") = some true ∧ PySem.W.typeIn K (.ref a) = some (.type "type"))
    (hc : ∃ a fd ps, FnOk P w K mg base (L2.CX P w) 1 a fd ps (spCell K) ∧ mg "_law_cell" = some (.ref a) ∧ PySem.W.keepIn K (.ref a) = true ∧ Binds K fd ps [])
    (hi : ∀ x, c.io = some x → IoOk c tbl gv io K mg x) :
    ∀ n, Amb c ⟨run tbl gv io n, gv, 1000, io n⟩ xv P w K mg base (n + 1)
  | 0 => ⟨fun f x e => by
      rcases ent f x e with ⟨fn, st, N, ps, h1, ⟨a, fd, F, hm, hbd⟩, h3⟩ | ⟨a, fd, ps, hm, hk, hbd, _⟩
      · exact ⟨a, fd, ps, fn_fail fun ds => rfl, hm, F.kp, hbd⟩
      · exact ⟨a, fd, ps, fn_fail fun ds => rfl, hm, hk, hbd⟩, hg, hb, hx, hc, fun x e => by
      obtain ⟨h0, m, st, N, ps, s1, r, pr, ⟨a, fd, F, hm, hbd⟩, _⟩ := hi x e
      exact ⟨a, fd, ps, fn_failIo h0, hm, F.kp, hbd⟩⟩
  | n + 1 => by
    have ih := amb_all ent hg hb hx hc hi n
    refine ⟨fun f x e => ?_, hg, hb, hx, let ⟨a, fd, ps, h, r⟩ := hc; ⟨a, fd, ps, h.mono (by omega), r⟩, fun x e => by
      obtain ⟨_, m, st, N, ps, s1, r, pr, ⟨a, fd, F, hm, hbd⟩, h1, h2, h3, h4, h5, h6, h7, h8⟩ := hi x e
      exact ⟨a, fd, ps, io_ok F h1 ih h2 h3 h4 h5 h6 h7 (h8 n), hm, F.kp, hbd⟩⟩
    rcases ent f x e with ⟨fn, st, N, ps, h1, ⟨a, fd, F, hm, hbd⟩, h3, h4, h5, h6⟩ | ⟨a, fd, ps, hm, hk, hbd, h2⟩
    · refine ⟨a, fd, ps, ?_, hm, F.kp, hbd⟩
      have e : (fun ds => run tbl gv io (n + 1) f ds) = runF ⟨run tbl gv io n, gv, 1000, io n⟩ fn := by
        funext ds
        unfold run
        rw [h1]
      show FnOk P w K mg base (L2.CX P w) (n + 1 + 1) a fd ps (spR K xv (fun ds => run tbl gv io (n + 1) f ds))
      rw [e]
      exact fn_ok F h3 ih fn h4 h5 h6
    · exact ⟨a, fd, ps, h2 n ih, hm, hk, hbd⟩
def tryBody (st : Stmt) : List Stmt := match defBody st with
  | [.Try b _ _ _ _] => b
  | _ => []
/-- an entry of which nothing is told -/
theorem fail_ent {c : Ck} {xv : Nat → Value} {tbl : List Fk} {gv : Nat → Option D} {io : Io} {f : Nat} {x : Str} {st : Stmt} {ps : List Str} (DA : DefAt K mg x st ps) (ht : tbl[f]? = some (.prim fun _ _ => .fail)) : EntOk c xv tbl gv io P w K mg base f x := by
  obtain ⟨a, fd, F, hm, hb⟩ := DA
  exact .inr ⟨a, fd, ps, hm, F.kp, hb, fun n amb => fn_fail fun ds => by unfold run; rw [ht]⟩
/-- _law_word stands at its name -/
structure WordAt (P : Program) (w : World) (K : PySem.W.Frag) (mg : Str → Option Value) (base : Heap) (xv : Nat → Value) : Prop where
  ex : ∃ (f2 : Addr) (fd2 : FuncData), mg "_law_word" = some (.ref f2) ∧ PySem.W.keepIn K (.ref f2) = true ∧ Binds K fd2 ["kept"] [] ∧
    ∀ (n : Nat) (p : Addr × Obj), n < 2 → Zc (xv n) none p.2 → (∃ vs, p.2.data = .fields vs) → FnP P w K mg base 1 f2 fd2 ["kept"] p (spWord n p)
/-- an entry that is one try -/
theorem tr_ent {c : Ck} {xv : Nat → Value} {tbl : List Fk} {gv : Nat → Option D} {io : Io} {f : Nat} {x : Str} {st : Stmt} {N ps : List Str} {fn : Fn} (ht : tbl[f]? = some (.tr fn 0)) (DA : DefAt K mg x st ps) (S : FnScope N ps (defScope st))
    (hp : fn.np = ps.length) (hn : fn.nn = N.length) {body : List Stmt} {q0 q1 q2 q3 q4 q5 q6 : Pos} {y : Str} {i : Nat} {at_ : Addr} (T : TryK K mg xv at_)
    (hbd : defBody st = [.Try body [.ExceptHandler (some (.Name "TreeError" q0)) (some y) [.Return (some (.Call (.Name "_law_word" q1) [.Name y q2] [] q3)) q4] q5] [] [] q6])
    (hc : chkSs { c with N := N } fn.body (defScope st) (fun _ => true) body = true)
    (hN : N[i]? = some y) (hl : (defScope st).names.lookup y = some NameKind.local) (h1 : (y == ("__debug__" : Str)) = false) (h2 : (y == ("__classdict__" : Str)) = false) (gt : (defScope st).names.lookup ("TreeError" : Str) = some NameKind.globalImplicit)
    (gz : (defScope st).names.lookup ("_law_word" : Str) = some NameKind.globalImplicit) (W : WordAt P w K mg base xv) : EntOk c xv tbl gv io P w K mg base f x := by
  obtain ⟨a, fd, F, hm, hb⟩ := DA
  obtain ⟨f2, fd2, m2, k2, b2, wd⟩ := W
  refine .inr ⟨a, fd, ps, hm, F.kp, hb, fun n amb => ?_⟩
  have e : (fun ds => run tbl gv io (n + 1) f ds) = fun ds => caught 0 (runF ⟨run tbl gv io n, gv, 1000, io n⟩ fn ds) := by
    funext ds
    unfold run
    rw [ht]
  rw [e]
  exact tr_ok F S amb fn hp hn T hbd hc hN hl h1 h2 gt gz (by decide) m2 k2 b2 wd (by omega)
theorem word_at {xv : Nat → Value} {a0 a1 : Addr} (EK : ErrK K mg xv a0 a1) {st : Stmt} (DA : DefAt K mg "_law_word" st ["kept"]) (S : FnScope ["kept", "kinds"] ["kept"] (defScope st))
    (gi : (defScope st).names.lookup ("isinstance" : Str) = some NameKind.globalImplicit) (g0 : (defScope st).names.lookup ("NoNode" : Str) = some NameKind.globalImplicit) (g1 : (defScope st).names.lookup ("NoText" : Str) = some NameKind.globalImplicit) (gv : (defScope st).names.lookup ("ValueError" : Str) = some NameKind.globalImplicit)
    (l0 : (defScope st).names.lookup ("kept" : Str) = some NameKind.local) (l1 : (defScope st).names.lookup ("kinds" : Str) = some NameKind.local)
    {p1 p2 p3 p4 p5 p6 p7 p8 p9 p10 p11 p12 p13 p14 p15 p16 p17 p18 p19 p20 p21 p22 p23 p24 p25 p26 p27 p28 p29 p30 p31 p32 p33 p34 p35 : Pos} {j1 j2 j3 j4 j5 j6 j7 : Nat}
    (hb : defBody st = [.Assign [.Name "kinds" p1] (.List [.Call (.Name "isinstance" p2) [.Name "kept" p3, .Name "NoNode" p4] [] p5, .Call (.Name "isinstance" p6) [.Name "kept" p7, .Name "NoText" p8] [] p9] p10) p11,
      .If (.BoolOp .Or [.Compare (.Call (.Attribute (.Name "kinds" p12) "count" p13) [.Constant (.bool true) j1 p14] [] p15) [.NotEq] [.Constant (.int 1) j2 p16] p17, .UnaryOp .Not (.Call (.Name "isinstance" p18) [.Name "kept" p19, .Name "ValueError" p20] [] p21) p22] p23) [.Return (some (.Constant (.str "wrong") j3 p24)) p25] [] p26,
      .Return (some (.Subscript (.Tuple [.Constant (.str "no node") j4 p27, .Constant (.str "no text") j5 p28] j6 p29) (.Call (.Attribute (.Name "kinds" p30) "index" p31) [.Constant (.bool true) j7 p32] [] p33) p34)) p35])
    (hl1 : (p13.endLine == p15.line) = true) (hl2 : (p31.endLine == p33.line) = true) : WordAt P w K mg base xv := by
  obtain ⟨a, fd, F, hm, hbd⟩ := DA
  exact ⟨a, fd, hm, F.kp, hbd, fun n p hn hz hf => word_ok EK F S gi g0 g1 gv l0 l1 hb hl1 hl2 hn hz hf⟩

theorem asc_by {x : Str} (h : x.cps.all (fun c => decide (c < 128)) = true) : asc x := fun c hc => by
  rw [← Array.all_toList, List.all_eq_true] at h
  simpa using h c hc
/-! ### _law_cell -/
def cellBody : Expr := .Name "k" ⟨0, 0, 0, 0⟩
theorem cell_ok {st : Stmt} {f : Addr} {fd : FuncData} {x : Str} (F : Fun K x x st f fd) (S : FnScope ["script", "k"] ["script", "k"] (defScope st)) (ml : mg "len" = none)
    (gl : (defScope st).names.lookup ("len" : Str) = some NameKind.globalImplicit) (vs0 : Vis (defScope st) "script") (vs1 : Vis (defScope st) "k")
    {p1 p2 p3 p4 p5 p6 p7 p8 p9 p10 p11 p12 : Pos} {j : Nat}
    (hb : defBody st = [.If (.Compare (.Name "k" p1) [.Lt] [.Call (.Name "len" p2) [.Name "script" p3] [] p4] p5) [.Return (some (.Subscript (.Name "script" p6) (.Name "k" p7) p8)) p9] [] p10, .Return (some (.Constant (.int 0) j p11)) p12]) :
    FnOk P w K mg base (L2.CX P w) 1 f fd ["script", "k"] (spCell K) := by
  refine F.okX S (fun vs H Q E h => ?_) (fun cdv A outer s H vs Q E hr h => ?_)
  · obtain ⟨a, ns, k, rfl, _⟩ := h
    rfl
  · obtain ⟨a, ns, k, rfl, hS, hk, q⟩ := h
    rw [hb]
    have v0 : PE (cxOf (L2.CX P w) P w K mg base ["script", "k"] x (defScope st) f cdv A outer s H E) (.Name "script" p3) (tVar 0) := pe_var rfl vs0
    have v0' : PE (cxOf (L2.CX P w) P w K mg base ["script", "k"] x (defScope st) f cdv A outer s H E) (.Name "script" p6) (tVar 0) := pe_var rfl vs0
    have v1 : PE (cxOf (L2.CX P w) P w K mg base ["script", "k"] x (defScope st) f cdv A outer s H E) (.Name "k" p1) (tVar 1) := pe_var rfl vs1
    have v1' : PE (cxOf (L2.CX P w) P w K mg base ["script", "k"] x (defScope st) f cdv A outer s H E) (.Name "k" p7) (tVar 1) := pe_var rfl vs1
    refine ⟨_, pss_cons (ps_if (pt_cmpR op_lt v1 (pe_callB call_len_seq gl ml PySem.boot_len (pa_cons v0 pa_nil)) (nomark _)) (pss_one (ps_ret (pe_ix ix_list v0' v1' (fun _ _ => rfl)))) pss_nil) (pss_one (ps_ret pe_int)), ?_⟩
    refine ⟨_, rfl, _, rfl, a, _, rfl, .inl hS, _, _, rfl, rfl, _, rfl, ?_⟩
    refine ite2 (fun c => ?_) (fun c => ?_)
    · have c' : k < (((ns.map V.int).length : Nat) : Int) := of_decide_eq_true c
      rw [List.length_map] at c'
      have hlt : k.toNat < ns.length := by omega
      have ek : ((k.toNat : Nat) : Int) = k := by omega
      have e : atI (ns.map V.int) ((k.toNat : Nat) : Int) = some (.int ns[k.toNat]) := atI_nat (by rw [List.getElem?_map, List.getElem?_eq_getElem hlt]; rfl)
      rw [ek] at e
      have e2 : ns.getD k.toNat 0 = ns[k.toNat] := by simp [List.getD, hlt]
      rw [e2] at q
      exact ⟨_, rfl, _, rfl, a, _, _, _, rfl, rfl, hS, e, q⟩
    · have c' : ¬ k < (((ns.map V.int).length : Nat) : Int) := of_decide_eq_false (Bool.eq_false_iff.mpr c)
      rw [List.length_map] at c'
      have hle : ns.length ≤ k.toNat := by omega
      have e2 : ns.getD k.toNat 0 = 0 := by simp [List.getD, hle]
      rw [e2] at q
      exact q
end
/-- the end: a law's row from the evaluator's answer -/
theorem walk_law {l : PySem.W.OpenLaw} {q : Program} {loose : List Str} {XP : (Str → Option Value) → Heap → Prop} {YP : World → Heap → Prop} {d : DefRec} {K : Params → PySem.W.Frag} {k : Nat} (hn : l.most = some 63) (hdf : d.params.defaults = [])
    (hr : Room k callerA) (hY : ∀ (w : World) (h : Heap), YP w h → (K w.params).In h)
    (F : ∀ (w : World) (mg : Str → Option Value) (fa : Addr) (h : Heap), (K w.params).In h → h.Ns mainGlobals mg → mg d.name = some (.ref fa) →
      ∃ fd : FuncData, (∀ (s : Shared) (u : Value), BindsTo s fd ⟨[u], []⟩ [("script", u)]) ∧ ∀ base : Heap, (K w.params).In base → base.Ns mainGlobals mg → FnOk l.prog w (K w.params) mg base (L2.CX l.prog w) k fa fd ["script"] (spLaw (K w.params))) :
    PySem.W.WalkO q loose XP YP l.row.toRowW d [] (fun f vs => PySem.call f vs) :=
  L2.walk_of (n := 63) (k := k) (x := "script") (CX := fun w => L2.CX l.prog w) (sp := fun w => spLaw (K w.params)) hn (by decide) hdf hr hY F (fun _ _ a ns hl _ hS => ⟨a, ns, rfl, hS, hl, fun _ => rfl⟩)
    fun _ _ _ _ _ z => by
      obtain ⟨_, _, _, _, _, _, _, _, _, _, _, _, z⟩ := z
      exact z
end Tf
namespace Tf
open PySem
def N_is_letter : List Str := ["thing", "letters"]
def P_is_letter : List Str := ["thing", "letters"]
def b_is_letter : Ss := (.cons (.ret (.and (.isi (.var 0) .str) (.and (.cmp .Eq (.bi .len (.var 0)) (.con (.int 1))) (.cmp .In (.var 0) (.var 1)))))
    .nil)
def f_is_letter : Fn := ⟨2, 2, b_is_letter⟩
def N_is_any_tree : List Str := ["thing", "kid"]
def P_is_any_tree : List Str := ["thing"]
def b_is_any_tree : Ss := (.cons (.iff (.or (.not (.isi (.var 0) .tuple)) (.or (.cmp .NotEq (.bi .len (.var 0)) (.con (.int 2))) (.not (.call 0 (.cons (.idx (.var 0) (.con (.int 0))) (.cons (.glo 0) .nil)))))) (.cons (.ret (.con (.bool false)))
    .nil) .nil)
    (.cons (.ret (.and (.isi (.idx (.var 0) (.con (.int 1))) .tuple) (.bi .all (.lst (.comp (.name 1) (.seq (.idx (.var 0) (.con (.int 1)))) .no (.call 1 (.cons (.var 1) .nil)))))))
    .nil))
def f_is_any_tree : Fn := ⟨1, 2, b_is_any_tree⟩
def N_nodes : List Str := ["tree", "found", "k", "kid", "node"]
def P_nodes : List Str := ["tree"]
def b_nodes_1 : Ss := (.cons (.ext 1 (.lst (.comp (.name 4) (.seq (.call 2 (.cons (.var 3) .nil))) .no (.bin .Add (.tup (.cons (.var 2) .nil)) (.var 4)))))
    .nil)
def b_nodes : Ss := (.cons (.setL 1 (.disp (.cons (.tup .nil) .nil)))
    (.cons (.for_ (.tup (.cons (.name 2) (.cons (.name 3) .nil))) (.enum (.idx (.var 0) (.con (.int 1)))) b_nodes_1)
    (.cons (.frz 1)
    (.cons (.ret (.bi .tuple (.var 1)))
    .nil))))
def f_nodes : Fn := ⟨1, 5, b_nodes⟩
def N_is_tree : List Str := ["thing"]
def P_is_tree : List Str := ["thing"]
def b_is_tree : Ss := (.cons (.ret (.and (.call 1 (.cons (.var 0) .nil)) (.cmp .LtE (.bi .len (.call 2 (.cons (.var 0) .nil))) (.glo 1))))
    .nil)
def f_is_tree : Fn := ⟨1, 1, b_is_tree⟩
def N_tree_at : List Str := ["tree", "node", "k"]
def P_tree_at : List Str := ["tree", "node"]
def b_tree_at_1 : Ss := (.cons (.iff (.not (.cmp2 .LtE .Lt (.con (.int 0)) (.var 2) (.bi .len (.idx (.var 0) (.con (.int 1)))))) (.cons (.rai 0)
    .nil) .nil)
    (.cons (.set 0 (.idx (.idx (.var 0) (.con (.int 1))) (.var 2)))
    .nil))
def b_tree_at : Ss := (.cons (.for_ (.name 2) (.seq (.var 1)) b_tree_at_1)
    (.cons (.ret (.var 0))
    .nil))
def f_tree_at : Fn := ⟨2, 3, b_tree_at⟩
def N_law_mix : List Str := ["cell", "prime", "many", "blend"]
def P_law_mix : List Str := ["cell", "prime", "many"]
def b_law_mix : Ss := (.cons (.set 3 (.bin .Mod (.bin .Mult (.var 0) (.con (.int 48271))) (.var 1)))
    (.cons (.ret (.bin .Mod (.bin .Mod (.bin .Mult (.var 3) (.bin .Add (.var 3) (.con (.int 7)))) (.var 1)) (.var 2)))
    .nil))
def f_law_mix : Fn := ⟨3, 4, b_law_mix⟩
def N_law_same : List Str := ["found", "due", "one", "other"]
def P_law_same : List Str := ["found", "due"]
def b_law_same : Ss := (.cons (.iff (.isi (.var 1) .tuple) (.cons (.iff (.or (.not (.isi (.var 0) .tuple)) (.cmp .NotEq (.bi .len (.var 0)) (.bi .len (.var 1)))) (.cons (.ret (.con (.bool false)))
    .nil) .nil)
    (.cons (.ret (.bi .all (.lst (.comp (.tup (.cons (.name 2) (.cons (.name 3) .nil))) (.zip (.var 0) (.var 1)) .no (.call 6 (.cons (.var 2) (.cons (.var 3) .nil)))))))
    .nil)) .nil)
    (.cons (.iff (.cmp .Is (.var 1) (.con .none)) (.cons (.ret (.cmp .Is (.var 0) (.con .none)))
    .nil) .nil)
    (.cons (.iff (.or (.isi (.var 1) .bool) (.isi (.var 0) .bool)) (.cons (.ret (.and (.isi (.var 1) .bool) (.and (.isi (.var 0) .bool) (.cmp .Eq (.var 0) (.var 1)))))
    .nil) .nil)
    (.cons (.ret (.and (.isi2 (.var 0) .int .str) (.cmp .Eq (.var 0) (.var 1))))
    .nil))))
def f_law_same : Fn := ⟨2, 4, b_law_same⟩
def N_law_tree : List Str := ["cell", "many", "letter", "kids", "left", "seed", "size"]
def P_law_tree : List Str := ["cell", "many"]
def b_law_tree_1 : Ss := (.cons (.set 5 (.bin .Add (.var 0) (.bin .Mult (.con (.int 13)) (.var 4))))
    (.cons (.set 6 (.bin .Add (.con (.int 1)) (.call 5 (.cons (.var 5) (.cons (.con (.int 9967)) (.cons (.var 4) .nil))))))
    (.cons (.iff (.cmp .Eq (.call 5 (.cons (.var 5) (.cons (.con (.int 9949)) (.cons (.con (.int 3)) .nil)))) (.con (.int 0))) (.cons (.set 6 (.var 4))
    .nil) .nil)
    (.cons (.app 3 (.call 7 (.cons (.bin .Add (.var 5) (.con (.int 7))) (.cons (.var 6) .nil))))
    (.cons (.set 4 (.bin .Sub (.var 4) (.var 6)))
    .nil)))))
def b_law_tree : Ss := (.cons (.set 2 (.idx (.con (.str "abcdab")) (.call 5 (.cons (.var 0) (.cons (.con (.int 9973)) (.cons (.con (.int 6)) .nil))))))
    (.cons (.parL 3 4 (.disp .nil) (.bin .Sub (.var 1) (.con (.int 1))))
    (.cons (.whl (.cmp .Gt (.var 4) (.con (.int 0))) b_law_tree_1)
    (.cons (.frz 3)
    (.cons (.ret (.tup (.cons (.var 2) (.cons (.bi .tuple (.var 3)) .nil))))
    .nil)))))
def f_law_tree : Fn := ⟨2, 7, b_law_tree⟩
def N_law_odd : List Str := ["thing", "cell", "some", "at"]
def P_law_odd : List Str := ["thing", "cell"]
def b_law_odd : Ss := (.cons (.iff (.and (.isi (.var 0) .tuple) (.and (.cmp .NotEq (.var 0) (.tup .nil)) (.cmp .Gt (.call 5 (.cons (.var 1) (.cons (.con (.int 9781)) (.cons (.con (.int 5)) .nil)))) (.con (.int 0))))) (.cons (.set 3 (.call 5 (.cons (.var 1) (.cons (.con (.int 9769)) (.cons (.bi .len (.var 0)) .nil)))))
    (.cons (.ret (.bin .Add (.bin .Add (.slc (.var 0) .no (.yes (.var 3))) (.tup (.cons (.call 10 (.cons (.idx (.var 0) (.var 3)) (.cons (.bin .Add (.bin .Add (.var 1) (.bin .Mult (.con (.int 31)) (.var 3))) (.con (.int 7))) .nil))) .nil))) (.slc (.var 0) (.yes (.bin .Add (.var 3) (.con (.int 1)))) .no)))
    .nil)) .nil)
    (.cons (.set 2 (.lst (.disp (.cons (.con .none) (.cons (.con (.bool true)) (.cons (.con (.bool false)) (.cons (.con (.int 0)) (.cons (.con (.int 1)) (.cons (.neg (.con (.int 1))) (.cons (.con (.int 2)) (.cons (.con (.int 7)) (.cons (.con (.int 10)) (.cons (.con (.int 1000)) (.cons (.con (.str "")) (.cons (.con (.str "a")) (.cons (.con (.str "A")) (.cons (.tup .nil) (.cons (.tup (.cons (.con (.str "a")) .nil)) (.cons (.lst (.disp (.cons (.con (.int 1)) .nil))) .nil)))))))))))))))))))
    (.cons (.iff (.isi (.var 0) .tuple) (.cons (.set 2 (.lst (.cat (.var 2) (.lst (.rep (.lst (.disp (.cons (.lst (.ofs (.var 0))) (.cons (.bin .Add (.var 0) (.slc (.var 0) (.yes (.neg (.con (.int 1)))) .no)) (.cons (.slc (.var 0) .no (.yes (.neg (.con (.int 1))))) (.cons (.rev (.var 0)) (.cons (.slc (.var 0) (.yes (.con (.int 1))) .no) (.cons (.tup (.cons (.var 0) .nil)) .nil)))))))) (.con (.int 2)))))))
    .nil) (.cons (.iff (.isi (.var 0) .str) (.cons (.set 2 (.lst (.cat (.var 2) (.lst (.rep (.lst (.disp (.cons (.bin .Add (.var 0) (.con (.str "a"))) (.cons (.slc (.var 0) .no (.yes (.neg (.con (.int 1))))) (.cons (.upper (.var 0)) (.cons (.bin .Add (.var 0) (.con (.str " "))) (.cons (.bin .Mult (.var 0) (.con (.int 2))) (.cons (.lst (.disp (.cons (.var 0) .nil))) (.cons (.bin .Add (.var 0) (.slc (.var 0) .no (.yes (.con (.int 1))))) .nil))))))))) (.con (.int 2)))))))
    .nil) (.cons (.iff (.isi (.var 0) .int) (.cons (.set 2 (.lst (.cat (.var 2) (.lst (.rep (.lst (.disp (.cons (.bin .Add (.var 0) (.con (.int 1))) (.cons (.bin .Sub (.var 0) (.con (.int 1))) (.cons (.bin .Sub (.con (.int 0)) (.var 0)) (.cons (.tup (.cons (.var 0) .nil)) (.cons (.bin .Add (.var 0) (.con (.int 2))) (.cons (.bin .Mult (.var 0) (.con (.int 2))) .nil)))))))) (.con (.int 2)))))))
    .nil) .nil)
    .nil))
    .nil))
    (.cons (.ret (.idx (.var 2) (.call 5 (.cons (.var 1) (.cons (.con (.int 9749)) (.cons (.bi .len (.var 2)) .nil))))))
    .nil))))
def f_law_odd : Fn := ⟨2, 4, b_law_odd⟩
-- by hand: law_word: isinstance isinstance(kept, NoText)
def P_law_word : List Str := ["kept"]
def p_law_word : Nat → List D → R D := fun _ _ => .fail
def N_law_count_k01 : List Str := ["thing", "some", "kid"]
def P_law_count_k01 : List Str := ["thing"]
def b_law_count_k01 : Ss := (.cons (.iff (.or (.not (.isi (.var 0) .tuple)) (.or (.cmp .NotEq (.bi .len (.var 0)) (.con (.int 2))) (.not (.isi (.idx (.var 0) (.con (.int 0))) .str)))) (.cons (.ret (.con (.int 0)))
    .nil) .nil)
    (.cons (.iff (.not (.isi (.idx (.var 0) (.con (.int 1))) .tuple)) (.cons (.ret (.con (.int 0)))
    .nil) .nil)
    (.cons (.iff (.or (.cmp .NotEq (.bi .len (.idx (.var 0) (.con (.int 0)))) (.con (.int 1))) (.cmp .NotIn (.idx (.var 0) (.con (.int 0))) (.con (.str "abcd")))) (.cons (.ret (.con (.int 0)))
    .nil) .nil)
    (.cons (.set 1 (.lst (.comp (.name 2) (.seq (.idx (.var 0) (.con (.int 1)))) .no (.call 12 (.cons (.var 2) .nil)))))
    (.cons (.ret (.ite (.cmp .In (.con (.int 0)) (.var 1)) (.con (.int 0)) (.bin .Add (.con (.int 1)) (.bi .sum (.var 1)))))
    .nil)))))
def f_law_count_k01 : Fn := ⟨1, 3, b_law_count_k01⟩
def N_law_told_k01 : List Str := ["tree", "node", "e"]
def P_law_told_k01 : List Str := ["tree", "node"]
def b_law_told_k01 : Ss := (.cons (.ret (.call 4 (.cons (.var 0) (.cons (.var 1) .nil))))
    .nil)
def f_law_told_k01 : Fn := ⟨2, 3, b_law_told_k01⟩
def N_law_all_k01 : List Str := ["tree", "node", "found", "k", "kid"]
def P_law_all_k01 : List Str := ["tree", "node"]
def b_law_all_k01_1 : Ss := (.cons (.ext 2 (.call 14 (.cons (.var 4) (.cons (.bin .Add (.var 1) (.tup (.cons (.var 3) .nil))) .nil))))
    .nil)
def b_law_all_k01 : Ss := (.cons (.setL 2 (.disp (.cons (.tup (.cons (.var 1) (.cons (.var 0) .nil))) .nil)))
    (.cons (.for_ (.tup (.cons (.name 3) (.cons (.name 4) .nil))) (.enum (.idx (.var 0) (.con (.int 1)))) b_law_all_k01_1)
    (.cons (.frz 2)
    (.cons (.ret (.var 2))
    .nil))))
def f_law_all_k01 : Fn := ⟨2, 5, b_law_all_k01⟩
def N_is_step : List Str := ["thing", "test"]
def P_is_step : List Str := ["thing"]
def b_is_step : Ss := (.cons (.iff (.or (.not (.isi (.var 0) .tuple)) (.or (.cmp .NotEq (.bi .len (.var 0)) (.con (.int 3))) (.or (.not (.isi (.idx (.var 0) (.con (.int 0))) .str)) (.cmp .NotIn (.idx (.var 0) (.con (.int 0))) (.glo 2))))) (.cons (.ret (.con (.bool false)))
    .nil) .nil)
    (.cons (.iff (.or (.not (.call 0 (.cons (.idx (.var 0) (.con (.int 1))) (.cons (.glo 3) .nil)))) (.or (.not (.isi (.idx (.var 0) (.con (.int 2))) .tuple)) (.cmp .Gt (.bi .len (.idx (.var 0) (.con (.int 2)))) (.con (.int 2))))) (.cons (.ret (.con (.bool false)))
    .nil) .nil)
    (.cons (.ret (.bi .all (.lst (.comp (.name 1) (.seq (.idx (.var 0) (.con (.int 2)))) .no (.call 16 (.cons (.var 1) .nil))))))
    .nil)))
def f_is_step : Fn := ⟨1, 2, b_is_step⟩
def N_is_any_path : List Str := ["thing", "one"]
def P_is_any_path : List Str := ["thing"]
def b_is_any_path : Ss := (.cons (.ret (.and (.isi (.var 0) .tuple) (.and (.cmp2 .LtE .LtE (.con (.int 1)) (.bi .len (.var 0)) (.con (.int 3))) (.bi .all (.lst (.comp (.name 1) (.seq (.var 0)) .no (.call 15 (.cons (.var 1) .nil))))))))
    .nil)
def f_is_any_path : Fn := ⟨1, 2, b_is_any_path⟩
def N_steps_in : List Str := ["path", "step", "test"]
def P_steps_in : List Str := ["path"]
def b_steps_in : Ss := (.cons (.ret (.bin .Add (.bi .len (.var 0)) (.bi .sum (.lst (.comp (.name 1) (.seq (.var 0)) .no (.bi .sum (.lst (.comp (.name 2) (.seq (.idx (.var 1) (.con (.int 2)))) .no (.call 17 (.cons (.var 2) .nil))))))))))
    .nil)
def f_steps_in : Fn := ⟨1, 3, b_steps_in⟩
def N_is_path : List Str := ["thing"]
def P_is_path : List Str := ["thing"]
def b_is_path : Ss := (.cons (.ret (.and (.call 16 (.cons (.var 0) .nil)) (.cmp .LtE (.call 17 (.cons (.var 0) .nil)) (.glo 4))))
    .nil)
def f_is_path : Fn := ⟨1, 1, b_is_path⟩
def N_rows_of : List Str := ["path", "ahead", "first", "found", "last", "way", "letter", "tests", "number", "test"]
def P_rows_of : List Str := ["path", "ahead", "first"]
def b_rows_of_1 : Ss := (.cons (.ext 3 (.idx (.call 19 (.cons (.var 9) (.cons (.var 8) (.cons (.bin .Add (.var 2) (.lenO 3)) .nil)))) (.con (.int 0))))
    .nil)
def b_rows_of_2 : Ss := (.cons (.set 8 (.bin .Add (.var 2) (.lenO 3)))
    (.cons (.app 3 (.tup (.cons (.var 4) (.cons (.var 5) (.cons (.var 6) .nil)))))
    (.cons (.for_ (.name 9) (.seq (.var 7)) b_rows_of_1)
    (.cons (.set 4 (.var 8))
    .nil))))
def b_rows_of : Ss := (.cons (.setL 3 (.disp .nil))
    (.cons (.set 4 (.var 1))
    (.cons (.for_ (.tup (.cons (.name 5) (.cons (.name 6) (.cons (.name 7) .nil)))) (.seq (.var 0)) b_rows_of_2)
    (.cons (.frz 3)
    (.cons (.ret (.tup (.cons (.var 3) (.cons (.var 4) .nil))))
    .nil)))))
def f_rows_of : Fn := ⟨3, 10, b_rows_of⟩
def N_numbered : List Str := ["path"]
def P_numbered : List Str := ["path"]
def b_numbered : Ss := (.cons (.ret (.bi .tuple (.idx (.call 19 (.cons (.var 0) (.cons (.con .none) (.cons (.con (.int 0)) .nil)))) (.con (.int 0)))))
    .nil)
def f_numbered : Fn := ⟨1, 1, b_numbered⟩
def N_law_path : List Str := ["cell", "most", "many", "left", "found", "k", "seed", "tests", "j", "way", "test"]
def P_law_path : List Str := ["cell", "most"]
def b_law_path_1 : Ss := (.cons (.iff (.cmp .Gt (.var 3) (.con (.int 0))) (.cons (.set 10 (.call 8 (.cons (.bin .Add (.bin .Add (.var 6) (.bin .Mult (.con (.int 29)) (.var 8))) (.con (.int 5))) (.cons (.bin .Add (.con (.int 1)) (.call 5 (.cons (.var 6) (.cons (.con (.int 9929)) (.cons (.var 3) .nil))))) .nil))))
    (.cons (.set 3 (.bin .Sub (.var 3) (.call 9 (.cons (.var 10) .nil))))
    (.cons (.app 7 (.var 10))
    .nil))) .nil)
    .nil)
def b_law_path_2 : Ss := (.cons (.set 6 (.bin .Add (.var 0) (.bin .Mult (.con (.int 17)) (.var 5))))
    (.cons (.setL 7 (.disp .nil))
    (.cons (.for_ (.name 8) (.rng1 (.call 5 (.cons (.var 6) (.cons (.con (.int 9931)) (.cons (.con (.int 3)) .nil))))) b_law_path_1)
    (.cons (.set 9 (.idx (.tup (.cons (.con (.str "in")) (.cons (.con (.str "deep")) .nil))) (.call 5 (.cons (.var 6) (.cons (.con (.int 9923)) (.cons (.con (.int 2)) .nil))))))
    (.cons (.frz 7)
    (.cons (.app 4 (.tup (.cons (.var 9) (.cons (.idx (.con (.str "abcab")) (.call 5 (.cons (.var 6) (.cons (.con (.int 9907)) (.cons (.con (.int 5)) .nil))))) (.cons (.bi .tuple (.var 7)) .nil)))))
    .nil))))))
def b_law_path : Ss := (.cons (.set 2 (.bin .Add (.con (.int 1)) (.call 5 (.cons (.var 0) (.cons (.con (.int 9941)) (.cons (.min2 (.con (.int 3)) (.var 1)) .nil))))))
    (.cons (.set 3 (.bin .Sub (.var 1) (.var 2)))
    (.cons (.setL 4 (.disp .nil))
    (.cons (.for_ (.name 5) (.rng1 (.var 2)) b_law_path_2)
    (.cons (.frz 4)
    (.cons (.ret (.bi .tuple (.var 4)))
    .nil))))))
def f_law_path : Fn := ⟨2, 11, b_law_path⟩
def N_law_steps : List Str := ["path", "step", "test"]
def P_law_steps : List Str := ["path"]
def b_law_steps : Ss := (.cons (.ret (.bi .sum (.lst (.comp (.name 1) (.seq (.var 0)) .no (.bin .Add (.con (.int 1)) (.bi .sum (.lst (.comp (.name 2) (.seq (.idx (.var 1) (.con (.int 2)))) .no (.call 9 (.cons (.var 2) .nil))))))))))
    .nil)
def f_law_steps : Fn := ⟨1, 3, b_law_steps⟩
def N_law_count_k02 : List Str := ["thing", "many", "step", "some", "test"]
def P_law_count_k02 : List Str := ["thing"]
def b_law_count_k02_1 : Ss := (.cons (.iff (.or (.not (.isi (.var 2) .tuple)) (.or (.cmp .NotEq (.bi .len (.var 2)) (.con (.int 3))) (.cmp .NotIn (.idx (.var 2) (.con (.int 0))) (.tup (.cons (.con (.str "in")) (.cons (.con (.str "deep")) .nil)))))) (.cons (.ret (.con (.int 0)))
    .nil) .nil)
    (.cons (.iff (.cmp .NotIn (.idx (.var 2) (.con (.int 1))) (.tup (.cons (.con (.str "a")) (.cons (.con (.str "b")) (.cons (.con (.str "c")) .nil))))) (.cons (.ret (.con (.int 0)))
    .nil) .nil)
    (.cons (.iff (.or (.not (.isi (.idx (.var 2) (.con (.int 2))) .tuple)) (.cmp .Gt (.bi .len (.idx (.var 2) (.con (.int 2)))) (.con (.int 2)))) (.cons (.ret (.con (.int 0)))
    .nil) .nil)
    (.cons (.set 3 (.lst (.comp (.name 4) (.seq (.idx (.var 2) (.con (.int 2)))) .no (.call 21 (.cons (.var 4) .nil)))))
    (.cons (.iff (.cmp .In (.con (.int 0)) (.var 3)) (.cons (.ret (.con (.int 0)))
    .nil) .nil)
    (.cons (.set 1 (.bin .Add (.bin .Add (.var 1) (.con (.int 1))) (.bi .sum (.var 3))))
    .nil))))))
def b_law_count_k02 : Ss := (.cons (.iff (.or (.not (.isi (.var 0) .tuple)) (.not (.cmp2 .Lt .Lt (.con (.int 0)) (.bi .len (.var 0)) (.con (.int 4))))) (.cons (.ret (.con (.int 0)))
    .nil) .nil)
    (.cons (.set 1 (.con (.int 0)))
    (.cons (.for_ (.name 2) (.seq (.var 0)) b_law_count_k02_1)
    (.cons (.ret (.var 1))
    .nil))))
def f_law_count_k02 : Fn := ⟨1, 5, b_law_count_k02⟩
def N_law_rows : List Str := ["path", "ahead", "found", "way", "letter", "tests", "number", "test"]
def P_law_rows : List Str := ["path", "ahead", "found"]
def b_law_rows_1 : Ss := (.cons (.io 2 (.var 7) (.var 6))
    .nil)
def b_law_rows_2 : Ss := (.cons (.set 6 (.lenO 2))
    (.cons (.app 2 (.tup (.cons (.var 1) (.cons (.var 3) (.cons (.var 4) .nil)))))
    (.cons (.for_ (.name 7) (.seq (.var 5)) b_law_rows_1)
    (.cons (.set 1 (.var 6))
    .nil))))
def m_law_rows : S := (.for_ (.tup (.cons (.name 3) (.cons (.name 4) (.cons (.name 5) .nil)))) (.seq (.var 0)) b_law_rows_2)
def N_kids_of : List Str := ["tree", "node", "k"]
def P_kids_of : List Str := ["tree", "node"]
def b_kids_of : Ss := (.cons (.ret (.lst (.comp (.name 2) (.rng1 (.bi .len (.idx (.call 4 (.cons (.var 0) (.cons (.var 1) .nil))) (.con (.int 1))))) .no (.bin .Add (.var 1) (.tup (.cons (.var 2) .nil))))))
    .nil)
def f_kids_of : Fn := ⟨2, 3, b_kids_of⟩
def N_all_below : List Str := ["tree", "node", "other"]
def P_all_below : List Str := ["tree", "node"]
def b_all_below : Ss := (.cons (.ret (.lst (.comp (.name 2) (.seq (.call 2 (.cons (.call 4 (.cons (.var 0) (.cons (.var 1) .nil))) .nil))) (.yes (.cmp .NotEq (.var 2) (.tup .nil))) (.bin .Add (.var 1) (.var 2)))))
    .nil)
def f_all_below : Fn := ⟨2, 3, b_all_below⟩
def N_places : List Str := ["step", "tree", "node"]
def P_places : List Str := ["step", "tree", "node"]
def b_places : Ss := (.cons (.iff (.cmp .Is (.var 2) (.con .none)) (.cons (.ret (.ite (.cmp .Eq (.idx (.var 0) (.con (.int 0))) (.con (.str "in"))) (.lst (.disp (.cons (.tup .nil) .nil))) (.lst (.ofs (.call 2 (.cons (.var 1) .nil))))))
    .nil) .nil)
    (.cons (.ret (.ite (.cmp .Eq (.idx (.var 0) (.con (.int 0))) (.con (.str "in"))) (.call 22 (.cons (.var 1) (.cons (.var 2) .nil))) (.call 23 (.cons (.var 1) (.cons (.var 2) .nil)))))
    .nil))
def f_places : Fn := ⟨3, 3, b_places⟩
def N_by_step : List Str := ["step", "tree", "node", "found", "place", "test"]
def P_by_step : List Str := ["step", "tree", "node"]
def b_by_step_1 : Ss := (.cons (.iff (.and (.cmp .Eq (.idx (.call 4 (.cons (.var 1) (.cons (.var 4) .nil))) (.con (.int 0))) (.idx (.var 0) (.con (.int 1)))) (.bi .all (.lst (.comp (.name 5) (.seq (.idx (.var 0) (.con (.int 2)))) .no (.cmp .NotEq (.call 26 (.cons (.var 5) (.cons (.var 1) (.cons (.var 4) .nil)))) (.lst (.disp .nil))))))) (.cons (.app 3 (.var 4))
    .nil) .nil)
    .nil)
def b_by_step : Ss := (.cons (.setL 3 (.disp .nil))
    (.cons (.for_ (.name 4) (.seq (.call 24 (.cons (.var 0) (.cons (.var 1) (.cons (.var 2) .nil))))) b_by_step_1)
    (.cons (.frz 3)
    (.cons (.ret (.var 3))
    .nil))))
def f_by_step : Fn := ⟨3, 6, b_by_step⟩
def N_ways_from : List Str := ["path", "tree", "node", "rows", "step", "longer", "row", "here", "place"]
def P_ways_from : List Str := ["path", "tree", "node"]
def b_ways_from_1 : Ss := (.cons (.set 7 (.ite (.var 6) (.idx (.var 6) (.neg (.con (.int 1)))) (.var 2)))
    (.cons (.ext 5 (.lst (.comp (.name 8) (.seq (.call 25 (.cons (.var 4) (.cons (.var 1) (.cons (.var 7) .nil))))) .no (.bin .Add (.var 6) (.tup (.cons (.var 8) .nil))))))
    .nil))
def b_ways_from_2 : Ss := (.cons (.setL 5 (.disp .nil))
    (.cons (.for_ (.name 6) (.seq (.var 3)) b_ways_from_1)
    (.cons (.frz 5)
    (.cons (.set 3 (.var 5))
    .nil))))
def b_ways_from : Ss := (.cons (.set 3 (.lst (.disp (.cons (.tup .nil) .nil))))
    (.cons (.for_ (.name 4) (.seq (.var 0)) b_ways_from_2)
    (.cons (.ret (.var 3))
    .nil)))
def f_ways_from : Fn := ⟨3, 9, b_ways_from⟩
def N_ways : List Str := ["path", "tree"]
def P_ways : List Str := ["path", "tree"]
def b_ways : Ss := (.cons (.ret (.bi .tuple (.lst (.srt (.call 26 (.cons (.var 0) (.cons (.var 1) (.cons (.con .none) .nil))))))))
    .nil)
def f_ways : Fn := ⟨2, 2, b_ways⟩
def N_finds : List Str := ["path", "tree", "row"]
def P_finds : List Str := ["path", "tree"]
def b_finds : Ss := (.cons (.ret (.bi .tuple (.lst (.sset (.lst (.comp (.name 2) (.seq (.call 26 (.cons (.var 0) (.cons (.var 1) (.cons (.con .none) .nil))))) .no (.idx (.var 2) (.neg (.con (.int 1))))))))))
    .nil)
def f_finds : Fn := ⟨2, 3, b_finds⟩
def N_has_find : List Str := ["path", "tree"]
def P_has_find : List Str := ["path", "tree"]
def b_has_find : Ss := (.cons (.ret (.cmp .NotEq (.call 26 (.cons (.var 0) (.cons (.var 1) (.cons (.con .none) .nil)))) (.lst (.disp .nil))))
    .nil)
def f_has_find : Fn := ⟨2, 2, b_has_find⟩
def N_finds_from : List Str := ["path", "tree", "node", "row"]
def P_finds_from : List Str := ["path", "tree", "node"]
def b_finds_from : Ss := (.cons (.exp (.call 4 (.cons (.var 1) (.cons (.var 2) .nil))))
    (.cons (.ret (.bi .tuple (.lst (.sset (.lst (.comp (.name 3) (.seq (.call 26 (.cons (.var 0) (.cons (.var 1) (.cons (.var 2) .nil))))) .no (.idx (.var 3) (.neg (.con (.int 1))))))))))
    .nil))
def f_finds_from : Fn := ⟨3, 4, b_finds_from⟩
def N_law_nodes : List Str := ["tree", "node", "found", "k", "kid"]
def P_law_nodes : List Str := ["tree", "node"]
def b_law_nodes_1 : Ss := (.cons (.ext 2 (.call 31 (.cons (.var 4) (.cons (.bin .Add (.var 1) (.tup (.cons (.var 3) .nil))) .nil))))
    .nil)
def b_law_nodes : Ss := (.cons (.setL 2 (.disp (.cons (.tup (.cons (.var 1) (.cons (.var 0) .nil))) .nil)))
    (.cons (.for_ (.tup (.cons (.name 3) (.cons (.name 4) .nil))) (.enum (.idx (.var 0) (.con (.int 1)))) b_law_nodes_1)
    (.cons (.frz 2)
    (.cons (.ret (.var 2))
    .nil))))
def f_law_nodes : Fn := ⟨2, 5, b_law_nodes⟩
def N_law_ways : List Str := ["path", "kids", "some", "found", "way", "letter", "tests", "node", "tree", "here", "k", "kid", "test", "row"]
def P_law_ways : List Str := ["path", "kids"]
def b_law_ways_1 : Ss := (.cons (.ext 2 (.ite (.cmp .Eq (.var 4) (.con (.str "deep"))) (.call 31 (.cons (.var 8) (.cons (.var 7) .nil))) (.lst (.disp (.cons (.tup (.cons (.var 7) (.cons (.var 8) .nil))) .nil)))))
    .nil)
def b_law_ways_2 : Ss := (.cons (.set 9 (.lst (.comp (.tup (.cons (.name 10) (.cons (.name 11) .nil))) (.enum (.idx (.var 8) (.con (.int 1)))) .no (.tup (.cons (.bin .Add (.var 7) (.tup (.cons (.var 10) .nil))) (.cons (.var 11) .nil))))))
    (.cons (.iff (.and (.cmp .Eq (.idx (.var 8) (.con (.int 0))) (.var 5)) (.cmp .Eq (.lst (.comp (.name 12) (.seq (.var 6)) (.yes (.cmp .Eq (.call 32 (.cons (.var 12) (.cons (.var 9) .nil))) (.lst (.disp .nil)))) (.var 12))) (.lst (.disp .nil)))) (.cons (.iff (.cmp .Eq (.bi .len (.var 0)) (.con (.int 1))) (.cons (.app 3 (.tup (.cons (.var 7) .nil)))
    .nil) (.cons (.ext 3 (.lst (.comp (.name 13) (.seq (.call 32 (.cons (.slc (.var 0) (.yes (.con (.int 1))) .no) (.cons (.var 9) .nil)))) .no (.bin .Add (.tup (.cons (.var 7) .nil)) (.var 13)))))
    .nil))
    .nil) .nil)
    .nil))
def b_law_ways : Ss := (.cons (.unp (.cons (.name 4) (.cons (.name 5) (.cons (.name 6) .nil))) (.idx (.var 0) (.con (.int 0))))
    (.cons (.setL 2 (.disp .nil))
    (.cons (.for_ (.tup (.cons (.name 7) (.cons (.name 8) .nil))) (.seq (.var 1)) b_law_ways_1)
    (.cons (.setL 3 (.disp .nil))
    (.cons (.frz 2)
    (.cons (.for_ (.tup (.cons (.name 7) (.cons (.name 8) .nil))) (.seq (.var 2)) b_law_ways_2)
    (.cons (.frz 3)
    (.cons (.ret (.var 3))
    .nil))))))))
def f_law_ways : Fn := ⟨2, 14, b_law_ways⟩
def N_law_finds : List Str := ["path", "tree", "row"]
def P_law_finds : List Str := ["path", "tree"]
def b_law_finds : Ss := (.cons (.ret (.bi .tuple (.lst (.sset (.lst (.comp (.name 2) (.seq (.call 32 (.cons (.var 0) (.cons (.lst (.disp (.cons (.tup (.cons (.tup .nil) (.cons (.var 1) .nil))) .nil))) .nil)))) .no (.idx (.var 2) (.neg (.con (.int 1))))))))))
    .nil)
def f_law_finds : Fn := ⟨2, 3, b_law_finds⟩
def N_law_plain : List Str := ["path", "kids", "node", "found", "way", "letter", "tests", "test", "tree", "rest"]
def P_law_plain : List Str := ["path"]
def b_law_plain : Ss := (.cons (.unp (.cons (.name 4) (.cons (.name 5) (.cons (.name 6) .nil))) (.idx (.var 0) (.con (.int 0))))
    (.cons (.setL 1 (.comp (.name 7) (.seq (.var 6)) .no (.idx (.call 34 (.cons (.var 7) .nil)) (.con (.int 0)))))
    (.cons (.set 2 (.tup .nil))
    (.cons (.iff (.cmp .Gt (.bi .len (.var 0)) (.con (.int 1))) (.cons (.unp (.cons (.name 8) (.cons (.name 9) .nil)) (.call 34 (.cons (.slc (.var 0) (.yes (.con (.int 1))) .no) .nil)))
    (.cons (.set 2 (.bin .Add (.tup (.cons (.lenO 1) .nil)) (.var 9)))
    (.cons (.app 1 (.var 8))
    .nil))) .nil)
    (.cons (.frz 1)
    (.cons (.set 3 (.tup (.cons (.var 5) (.cons (.bi .tuple (.var 1)) .nil))))
    (.cons (.ret (.ite (.cmp .Eq (.var 4) (.con (.str "in"))) (.tup (.cons (.var 3) (.cons (.var 2) .nil))) (.tup (.cons (.tup (.cons (.con (.str "d")) (.cons (.tup (.cons (.var 3) .nil)) .nil))) (.cons (.bin .Add (.tup (.cons (.con (.int 0)) .nil)) (.var 2)) .nil)))))
    .nil)))))))
def f_law_plain : Fn := ⟨1, 10, b_law_plain⟩
def N_law_told_k03 : List Str := ["path", "tree", "node", "e"]
def P_law_told_k03 : List Str := ["path", "tree", "node"]
def b_law_told_k03 : Ss := (.cons (.ret (.call 30 (.cons (.var 0) (.cons (.var 1) (.cons (.var 2) .nil)))))
    .nil)
def f_law_told_k03 : Fn := ⟨3, 4, b_law_told_k03⟩
def N_law_bare : List Str := ["path", "way", "letter", "tests"]
def P_law_bare : List Str := ["path"]
def b_law_bare : Ss := (.cons (.ret (.bi .tuple (.lst (.comp (.tup (.cons (.name 1) (.cons (.name 2) (.cons (.name 3) .nil)))) (.seq (.var 0)) .no (.tup (.cons (.var 1) (.cons (.var 2) (.cons (.tup .nil) .nil))))))))
    .nil)
def f_law_bare : Fn := ⟨1, 4, b_law_bare⟩
def N_law_turned : List Str := ["tree", "kid"]
def P_law_turned : List Str := ["tree"]
def b_law_turned : Ss := (.cons (.ret (.tup (.cons (.idx (.var 0) (.con (.int 0))) (.cons (.bi .tuple (.lst (.comp (.name 1) (.seq (.rev (.idx (.var 0) (.con (.int 1))))) .no (.call 37 (.cons (.var 1) .nil))))) .nil))))
    .nil)
def f_law_turned : Fn := ⟨1, 2, b_law_turned⟩
def N_law_leads : List Str := ["path", "tree", "letters", "row", "ahead", "step", "node", "bad", "test"]
def P_law_leads : List Str := ["path", "tree", "letters", "row"]
def b_law_leads_1 : Ss := (.cons (.set 7 (.lst (.comp (.name 8) (.seq (.idx (.var 5) (.con (.int 2)))) (.yes (.cmp .Eq (.call 30 (.cons (.var 8) (.cons (.var 1) (.cons (.var 6) .nil)))) (.tup .nil))) (.var 8))))
    (.cons (.iff (.or (.cmp .NotEq (.idx (.var 2) (.var 6)) (.idx (.var 5) (.con (.int 1)))) (.cmp .NotEq (.var 7) (.lst (.disp .nil)))) (.cons (.ret (.con (.bool false)))
    .nil) .nil)
    (.cons (.iff (.and (.cmp .Eq (.idx (.var 5) (.con (.int 0))) (.con (.str "in"))) (.and (.cmp .Is (.var 4) (.con .none)) (.cmp .NotEq (.var 6) (.tup .nil)))) (.cons (.ret (.con (.bool false)))
    .nil) .nil)
    (.cons (.iff (.and (.cmp .IsNot (.var 4) (.con .none)) (.or (.cmp .NotEq (.slc (.var 6) .no (.yes (.bi .len (.var 4)))) (.var 4)) (.cmp .Eq (.var 6) (.var 4)))) (.cons (.ret (.con (.bool false)))
    .nil) .nil)
    (.cons (.iff (.and (.cmp .Eq (.idx (.var 5) (.con (.int 0))) (.con (.str "in"))) (.and (.cmp .IsNot (.var 4) (.con .none)) (.cmp .NotEq (.bi .len (.var 6)) (.bin .Add (.bi .len (.var 4)) (.con (.int 1)))))) (.cons (.ret (.con (.bool false)))
    .nil) .nil)
    (.cons (.set 4 (.var 6))
    .nil))))))
def b_law_leads : Ss := (.cons (.set 4 (.con .none))
    (.cons (.for_ (.tup (.cons (.name 5) (.cons (.name 6) .nil))) (.zip (.var 0) (.var 3)) b_law_leads_1)
    (.cons (.ret (.con (.bool true)))
    .nil)))
def f_law_leads : Fn := ⟨4, 9, b_law_leads⟩
def N_last_number : List Str := ["path"]
def P_last_number : List Str := ["path"]
def b_last_number : Ss := (.cons (.ret (.idx (.call 19 (.cons (.var 0) (.cons (.con .none) (.cons (.con (.int 0)) .nil)))) (.con (.int 1))))
    .nil)
def f_last_number : Fn := ⟨1, 1, b_last_number⟩
def N_comes_back : List Str := ["rows", "number", "goal", "here"]
def P_comes_back : List Str := ["rows", "number", "goal"]
def b_comes_back_1 : Ss := (.cons (.set 3 (.idx (.idx (.var 0) (.var 3)) (.con (.int 0))))
    .nil)
def b_comes_back : Ss := (.cons (.set 3 (.idx (.idx (.var 0) (.var 1)) (.con (.int 0))))
    (.cons (.whl (.and (.cmp .IsNot (.var 3) (.con .none)) (.cmp .NotEq (.var 3) (.var 2))) b_comes_back_1)
    (.cons (.ret (.cmp .Eq (.var 3) (.var 2)))
    .nil)))
def f_comes_back : Fn := ⟨3, 4, b_comes_back⟩
def N_fits : List Str := ["rows", "others", "row", "number", "target", "goal", "ahead", "way", "letter"]
def P_fits : List Str := ["rows", "others", "row", "number", "target"]
def b_fits : Ss := (.cons (.unp (.cons (.name 6) (.cons (.name 7) (.cons (.name 8) .nil))) (.idx (.var 1) (.var 3)))
    (.cons (.iff (.cmp .NotEq (.idx (.idx (.var 0) (.var 4)) (.con (.int 2))) (.var 8)) (.cons (.ret (.con (.bool false)))
    .nil) .nil)
    (.cons (.set 5 (.ite (.cmp .Is (.var 6) (.con .none)) (.con .none) (.idx (.var 2) (.var 6))))
    (.cons (.iff (.cmp .Eq (.var 7) (.con (.str "in"))) (.cons (.ret (.and (.cmp .Eq (.idx (.idx (.var 0) (.var 4)) (.con (.int 0))) (.var 5)) (.cmp .Eq (.idx (.idx (.var 0) (.var 4)) (.con (.int 1))) (.con (.str "in")))))
    .nil) .nil)
    (.cons (.ret (.or (.cmp .Is (.var 5) (.con .none)) (.call 40 (.cons (.var 0) (.cons (.var 4) (.cons (.var 5) .nil))))))
    .nil)))))
def f_fits : Fn := ⟨5, 9, b_fits⟩
def N_leadings_from : List Str := ["rows", "others", "row", "ends", "number", "target", "found"]
def P_leadings_from : List Str := ["rows", "others", "row", "ends"]
def b_leadings_from_1 : Ss := (.cons (.iff (.and (.or (.cmp .NotEq (.var 4) (.idx (.var 3) (.con (.int 1)))) (.cmp .Eq (.var 5) (.idx (.var 3) (.con (.int 0))))) (.call 41 (.cons (.var 0) (.cons (.var 1) (.cons (.var 2) (.cons (.var 4) (.cons (.var 5) .nil))))))) (.cons (.set 6 (.call 42 (.cons (.var 0) (.cons (.var 1) (.cons (.bin .Add (.var 2) (.tup (.cons (.var 5) .nil))) (.cons (.var 3) .nil))))))
    (.cons (.iff (.cmp .IsNot (.var 6) (.con .none)) (.cons (.ret (.var 6))
    .nil) .nil)
    .nil)) .nil)
    .nil)
def b_leadings_from : Ss := (.cons (.set 4 (.bi .len (.var 2)))
    (.cons (.iff (.cmp .Eq (.var 4) (.bi .len (.var 1))) (.cons (.ret (.var 2))
    .nil) .nil)
    (.cons (.for_ (.name 5) (.rng1 (.bi .len (.var 0))) b_leadings_from_1)
    (.cons (.ret (.con .none))
    .nil))))
def f_leadings_from : Fn := ⟨4, 7, b_leadings_from⟩
def N_leading : List Str := ["one", "other"]
def P_leading : List Str := ["one", "other"]
def b_leading : Ss := (.cons (.ret (.call 42 (.cons (.call 20 (.cons (.var 0) .nil)) (.cons (.call 20 (.cons (.var 1) .nil)) (.cons (.tup .nil) (.cons (.tup (.cons (.call 39 (.cons (.var 0) .nil)) (.cons (.call 39 (.cons (.var 1) .nil)) .nil))) .nil))))))
    .nil)
def f_leading : Fn := ⟨2, 2, b_leading⟩
def N_is_leading : List Str := ["one", "other", "thing", "target", "rows", "others", "number"]
def P_is_leading : List Str := ["one", "other", "thing"]
def b_is_leading_1 : Ss := (.cons (.iff (.or (.not (.isi (.var 3) .int)) (.or (.isi (.var 3) .bool) (.not (.cmp2 .LtE .Lt (.con (.int 0)) (.var 3) (.bi .len (.var 4)))))) (.cons (.ret (.con (.bool false)))
    .nil) .nil)
    .nil)
def b_is_leading : Ss := (.cons (.par 4 5 (.call 20 (.cons (.var 0) .nil)) (.call 20 (.cons (.var 1) .nil)))
    (.cons (.iff (.or (.not (.isi (.var 2) .tuple)) (.cmp .NotEq (.bi .len (.var 2)) (.bi .len (.var 5)))) (.cons (.ret (.con (.bool false)))
    .nil) .nil)
    (.cons (.for_ (.name 3) (.seq (.var 2)) b_is_leading_1)
    (.cons (.iff (.cmp .NotEq (.idx (.var 2) (.call 39 (.cons (.var 1) .nil))) (.call 39 (.cons (.var 0) .nil))) (.cons (.ret (.con (.bool false)))
    .nil) .nil)
    (.cons (.ret (.bi .all (.lst (.comp (.tup (.cons (.name 6) (.cons (.name 3) .nil))) (.enum (.var 2)) .no (.call 41 (.cons (.var 4) (.cons (.var 5) (.cons (.slc (.var 2) .no (.yes (.var 6))) (.cons (.var 6) (.cons (.var 3) .nil))))))))))
    .nil)))))
def f_is_leading : Fn := ⟨3, 7, b_is_leading⟩
def N_is_within : List Str := ["one", "other"]
def P_is_within : List Str := ["one", "other"]
def b_is_within : Ss := (.cons (.ret (.cmp .IsNot (.call 43 (.cons (.var 0) (.cons (.var 1) .nil))) (.con .none)))
    .nil)
def f_is_within : Fn := ⟨2, 2, b_is_within⟩
def N_law_is_within : List Str := ["one", "other", "tree", "node"]
def P_law_is_within : List Str := ["one", "other"]
def b_law_is_within : Ss := (.cons (.unp (.cons (.name 2) (.cons (.name 3) .nil)) (.call 34 (.cons (.var 0) .nil)))
    (.cons (.ret (.cmp .In (.var 3) (.call 33 (.cons (.var 1) (.cons (.var 2) .nil)))))
    .nil))
def f_law_is_within : Fn := ⟨2, 4, b_law_is_within⟩
def N_law_last : List Str := ["path", "step"]
def P_law_last : List Str := ["path"]
def b_law_last : Ss := (.cons (.ret (.bi .sum (.lst (.comp (.name 1) (.seq (.slc (.var 0) .no (.yes (.neg (.con (.int 1)))))) .no (.call 9 (.cons (.tup (.cons (.var 1) .nil)) .nil))))))
    .nil)
def f_law_last : Fn := ⟨1, 2, b_law_last⟩
def N_law_is_leading : List Str := ["one", "other", "thing", "rows", "others", "number", "row", "goal", "ahead", "way", "letter", "here", "back"]
def P_law_is_leading : List Str := ["one", "other", "thing"]
def b_law_is_leading_1 : Ss := (.cons (.app 12 (.var 11))
    (.cons (.set 11 (.idx (.idx (.var 3) (.var 11)) (.con (.int 0))))
    .nil))
def b_law_is_leading_2 : Ss := (.cons (.unp (.cons (.name 8) (.cons (.name 9) (.cons (.name 10) .nil))) (.var 6))
    (.cons (.iff (.cmp .NotEq (.idx (.idx (.var 3) (.idx (.var 2) (.var 5))) (.con (.int 2))) (.var 10)) (.cons (.ret (.con (.bool false)))
    .nil) .nil)
    (.cons (.set 7 (.ite (.cmp .Is (.var 8) (.con .none)) (.con .none) (.idx (.var 2) (.var 8))))
    (.cons (.parR 11 12 (.idx (.idx (.var 3) (.idx (.var 2) (.var 5))) (.con (.int 0))) (.disp .nil))
    (.cons (.whl (.cmp .IsNot (.var 11) (.con .none)) b_law_is_leading_1)
    (.cons (.iff (.and (.cmp .Eq (.var 9) (.con (.str "in"))) (.cmp .NotEq (.slc (.idx (.var 3) (.idx (.var 2) (.var 5))) .no (.yes (.con (.int 2)))) (.tup (.cons (.var 7) (.cons (.con (.str "in")) .nil))))) (.cons (.ret (.con (.bool false)))
    .nil) .nil)
    (.cons (.iff (.and (.cmp .Eq (.var 9) (.con (.str "deep"))) (.and (.cmp .IsNot (.var 7) (.con .none)) (.inO true (.var 7) 12))) (.cons (.ret (.con (.bool false)))
    .nil) .nil)
    .nil)))))))
def b_law_is_leading : Ss := (.cons (.par 3 4 (.rows (.var 0) (.con .none)) (.rows (.var 1) (.con .none)))
    (.cons (.iff (.or (.not (.isi (.var 2) .tuple)) (.cmp .NotEq (.bi .len (.var 2)) (.bi .len (.var 4)))) (.cons (.ret (.con (.bool false)))
    .nil) .nil)
    (.cons (.iff (.cmp .NotEq (.lst (.comp (.name 7) (.seq (.var 2)) (.yes (.or (.not (.isi (.var 7) .int)) (.isi (.var 7) .bool))) (.var 7))) (.lst (.disp .nil))) (.cons (.ret (.con (.bool false)))
    .nil) .nil)
    (.cons (.iff (.cmp .NotEq (.lst (.comp (.name 7) (.seq (.var 2)) (.yes (.not (.cmp2 .LtE .Lt (.con (.int 0)) (.var 7) (.bi .len (.var 3))))) (.var 7))) (.lst (.disp .nil))) (.cons (.ret (.con (.bool false)))
    .nil) .nil)
    (.cons (.iff (.cmp .NotEq (.idx (.var 2) (.call 47 (.cons (.var 1) .nil))) (.call 47 (.cons (.var 0) .nil))) (.cons (.ret (.con (.bool false)))
    .nil) .nil)
    (.cons (.for_ (.tup (.cons (.name 5) (.cons (.name 6) .nil))) (.enum (.var 4)) b_law_is_leading_2)
    (.cons (.ret (.con (.bool true)))
    .nil)))))))
def f_law_is_leading : Fn := ⟨3, 13, b_law_is_leading⟩
def N_law_near : List Str := ["path", "cell", "way", "at", "some", "old", "letter", "tests"]
def P_law_near : List Str := ["path", "cell"]
def b_law_near : Ss := (.cons (.set 2 (.call 5 (.cons (.var 1) (.cons (.con (.int 9871)) (.cons (.con (.int 7)) .nil)))))
    (.cons (.set 3 (.call 5 (.cons (.var 1) (.cons (.con (.int 9859)) (.cons (.bi .len (.var 0)) .nil)))))
    (.cons (.unp (.cons (.name 5) (.cons (.name 6) (.cons (.name 7) .nil))) (.idx (.var 0) (.var 3)))
    (.cons (.iff (.cmp .Eq (.var 2) (.con (.int 0))) (.cons (.ret (.bin .Add (.bin .Add (.slc (.var 0) .no (.yes (.var 3))) (.tup (.cons (.tup (.cons (.con (.str "deep")) (.cons (.var 6) (.cons (.var 7) .nil)))) .nil))) (.slc (.var 0) (.yes (.bin .Add (.var 3) (.con (.int 1)))) .no)))
    .nil) .nil)
    (.cons (.iff (.cmp .Eq (.var 2) (.con (.int 1))) (.cons (.ret (.bin .Add (.bin .Add (.slc (.var 0) .no (.yes (.var 3))) (.tup (.cons (.tup (.cons (.var 5) (.cons (.var 6) (.cons (.slc (.var 7) .no (.yes (.neg (.con (.int 1))))) .nil)))) .nil))) (.slc (.var 0) (.yes (.bin .Add (.var 3) (.con (.int 1)))) .no)))
    .nil) .nil)
    (.cons (.iff (.and (.cmp .Eq (.var 2) (.con (.int 2))) (.cmp .Gt (.bi .len (.var 0)) (.con (.int 1)))) (.cons (.ret (.bin .Add (.slc (.var 0) .no (.yes (.var 3))) (.slc (.var 0) (.yes (.bin .Add (.var 3) (.con (.int 1)))) .no)))
    .nil) .nil)
    (.cons (.iff (.cmp .Eq (.var 2) (.con (.int 3))) (.cons (.ret (.bin .Add (.bin .Add (.slc (.var 0) .no (.yes (.var 3))) (.tup (.cons (.tup (.cons (.var 5) (.cons (.var 6) (.cons (.rev (.var 7)) .nil)))) .nil))) (.slc (.var 0) (.yes (.bin .Add (.var 3) (.con (.int 1)))) .no)))
    .nil) .nil)
    (.cons (.set 4 (.var 7))
    (.cons (.iff (.and (.cmp .Eq (.var 2) (.con (.int 4))) (.cmp .NotEq (.var 7) (.tup .nil))) (.cons (.set 4 (.bin .Add (.tup (.cons (.call 50 (.cons (.idx (.var 7) (.con (.int 0))) (.cons (.bin .Add (.var 1) (.con (.int 1))) .nil))) .nil)) (.slc (.var 7) (.yes (.con (.int 1))) .no)))
    .nil) .nil)
    (.cons (.iff (.and (.cmp .Eq (.var 2) (.con (.int 5))) (.and (.cmp .Eq (.bi .len (.var 7)) (.con (.int 1))) (.cmp .Lt (.bin .Add (.call 9 (.cons (.var 0) .nil)) (.call 9 (.cons (.idx (.var 7) (.con (.int 0))) .nil))) (.con (.int 8))))) (.cons (.set 4 (.bin .Add (.var 7) (.tup (.cons (.call 50 (.cons (.idx (.var 7) (.con (.int 0))) (.cons (.bin .Add (.var 1) (.con (.int 1))) .nil))) .nil))))
    .nil) .nil)
    (.cons (.iff (.and (.cmp .In (.var 2) (.tup (.cons (.con (.int 4)) (.cons (.con (.int 5)) .nil)))) (.cmp .NotEq (.var 4) (.var 7))) (.cons (.ret (.bin .Add (.bin .Add (.slc (.var 0) .no (.yes (.var 3))) (.tup (.cons (.tup (.cons (.var 5) (.cons (.var 6) (.cons (.var 4) .nil)))) .nil))) (.slc (.var 0) (.yes (.bin .Add (.var 3) (.con (.int 1)))) .no)))
    .nil) .nil)
    (.cons (.ret (.call 8 (.cons (.bin .Add (.var 1) (.con (.int 1))) (.cons (.con (.int 7)) .nil))))
    .nil))))))))))))
def f_law_near : Fn := ⟨2, 8, b_law_near⟩
def N_law_short_near : List Str := ["path", "cell"]
def P_law_short_near : List Str := ["path", "cell"]
def b_law_short_near : Ss := (.cons (.iff (.cmp .Eq (.call 5 (.cons (.var 1) (.cons (.con (.int 9829)) (.cons (.con (.int 2)) .nil)))) (.con (.int 0))) (.cons (.ret (.bin .Add (.tup (.cons (.bin .Add (.tup (.cons (.con (.str "deep")) .nil)) (.slc (.idx (.var 0) (.con (.int 0))) (.yes (.con (.int 1))) .no)) .nil)) (.slc (.var 0) (.yes (.con (.int 1))) .no)))
    .nil) .nil)
    (.cons (.ret (.ite (.cmp .Gt (.bi .len (.var 0)) (.con (.int 1))) (.slc (.var 0) .no (.yes (.neg (.con (.int 1))))) (.var 0)))
    .nil))
def f_law_short_near : Fn := ⟨2, 2, b_law_short_near⟩
def N_grown : List Str := ["rows", "number", "goal", "kids", "way", "other", "row", "kid", "part"]
def P_grown : List Str := ["rows", "number", "goal"]
def b_grown_1 : Ss := (.cons (.iff (.cmp .Eq (.idx (.var 6) (.con (.int 0))) (.var 1)) (.cons (.unp (.cons (.name 7) (.cons (.name 8) .nil)) (.call 51 (.cons (.var 0) (.cons (.var 5) (.cons (.var 2) .nil)))))
    (.cons (.iff (.cmp .Eq (.idx (.var 6) (.con (.int 1))) (.con (.str "deep"))) (.cons (.par 7 8 (.tup (.cons (.con (.str "d")) (.cons (.tup (.cons (.var 7) .nil)) .nil))) (.ite (.cmp .Is (.var 8) (.con .none)) (.con .none) (.bin .Add (.tup (.cons (.con (.int 0)) .nil)) (.var 8))))
    .nil) .nil)
    (.cons (.iff (.cmp .IsNot (.var 8) (.con .none)) (.cons (.set 4 (.bin .Add (.tup (.cons (.lenO 3) .nil)) (.var 8)))
    .nil) .nil)
    (.cons (.app 3 (.var 7))
    .nil)))) .nil)
    .nil)
def b_grown : Ss := (.cons (.setL 3 (.disp .nil))
    (.cons (.set 4 (.ite (.cmp .Eq (.var 1) (.var 2)) (.tup .nil) (.con .none)))
    (.cons (.for_ (.tup (.cons (.name 5) (.cons (.name 6) .nil))) (.enum (.var 0)) b_grown_1)
    (.cons (.frz 3)
    (.cons (.ret (.tup (.cons (.tup (.cons (.idx (.idx (.var 0) (.var 1)) (.con (.int 2))) (.cons (.bi .tuple (.var 3)) .nil))) (.cons (.var 4) .nil))))
    .nil)))))
def f_grown : Fn := ⟨3, 9, b_grown⟩
def N_plain_tree : List Str := ["path", "rows", "tree", "way"]
def P_plain_tree : List Str := ["path"]
def b_plain_tree : Ss := (.cons (.set 1 (.call 20 (.cons (.var 0) .nil)))
    (.cons (.unp (.cons (.name 2) (.cons (.name 3) .nil)) (.call 51 (.cons (.var 1) (.cons (.con (.int 0)) (.cons (.call 39 (.cons (.var 0) .nil)) .nil)))))
    (.cons (.iff (.cmp .Eq (.idx (.idx (.var 1) (.con (.int 0))) (.con (.int 1))) (.con (.str "deep"))) (.cons (.ret (.tup (.cons (.tup (.cons (.con (.str "d")) (.cons (.tup (.cons (.var 2) .nil)) .nil))) (.cons (.bin .Add (.tup (.cons (.con (.int 0)) .nil)) (.var 3)) .nil))))
    .nil) .nil)
    (.cons (.ret (.tup (.cons (.var 2) (.cons (.var 3) .nil))))
    .nil))))
def f_plain_tree : Fn := ⟨1, 4, b_plain_tree⟩
def N_parting : List Str := ["one", "other"]
def P_parting : List Str := ["one", "other"]
def b_parting : Ss := (.cons (.iff (.call 45 (.cons (.var 0) (.cons (.var 1) .nil))) (.cons (.ret (.con .none))
    .nil) .nil)
    (.cons (.ret (.call 52 (.cons (.var 0) .nil)))
    .nil))
def f_parting : Fn := ⟨2, 2, b_parting⟩
def N_is_parting : List Str := ["one", "other", "thing", "tree", "node", "k"]
def P_is_parting : List Str := ["one", "other", "thing"]
def b_is_parting : Ss := (.cons (.iff (.or (.not (.isi (.var 2) .tuple)) (.or (.cmp .NotEq (.bi .len (.var 2)) (.con (.int 2))) (.or (.not (.call 1 (.cons (.idx (.var 2) (.con (.int 0))) .nil))) (.not (.isi (.idx (.var 2) (.con (.int 1))) .tuple))))) (.cons (.ret (.con (.bool false)))
    .nil) .nil)
    (.cons (.unp (.cons (.name 3) (.cons (.name 4) .nil)) (.var 2))
    (.cons (.iff (.not (.bi .all (.lst (.comp (.name 5) (.seq (.var 4)) .no (.and (.isi (.var 5) .int) (.not (.isi (.var 5) .bool))))))) (.cons (.ret (.con (.bool false)))
    .nil) .nil)
    (.cons (.ret (.and (.cmp .In (.var 4) (.call 28 (.cons (.var 0) (.cons (.var 3) .nil)))) (.cmp .NotIn (.var 4) (.call 28 (.cons (.var 1) (.cons (.var 3) .nil))))))
    .nil))))
def f_is_parting : Fn := ⟨3, 6, b_is_parting⟩
def N_law_is_tree : List Str := ["thing", "kid"]
def P_law_is_tree : List Str := ["thing"]
def b_law_is_tree : Ss := (.cons (.iff (.or (.not (.isi (.var 0) .tuple)) (.or (.cmp .NotEq (.bi .len (.var 0)) (.con (.int 2))) (.cmp .NotIn (.idx (.var 0) (.con (.int 0))) (.tup (.cons (.con (.str "a")) (.cons (.con (.str "b")) (.cons (.con (.str "c")) (.cons (.con (.str "d")) .nil)))))))) (.cons (.ret (.con (.bool false)))
    .nil) .nil)
    (.cons (.iff (.not (.isi (.idx (.var 0) (.con (.int 1))) .tuple)) (.cons (.ret (.con (.bool false)))
    .nil) .nil)
    (.cons (.ret (.cmp .Eq (.lst (.comp (.name 1) (.seq (.idx (.var 0) (.con (.int 1)))) (.yes (.not (.call 55 (.cons (.var 1) .nil)))) (.var 1))) (.lst (.disp .nil))))
    .nil)))
def f_law_is_tree : Fn := ⟨1, 2, b_law_is_tree⟩
def N_law_parts : List Str := ["one", "other", "thing", "k"]
def P_law_parts : List Str := ["one", "other", "thing"]
def b_law_parts : Ss := (.cons (.iff (.or (.not (.isi (.var 2) .tuple)) (.or (.cmp .NotEq (.bi .len (.var 2)) (.con (.int 2))) (.or (.not (.call 55 (.cons (.idx (.var 2) (.con (.int 0))) .nil))) (.not (.isi (.idx (.var 2) (.con (.int 1))) .tuple))))) (.cons (.ret (.con (.bool false)))
    .nil) .nil)
    (.cons (.iff (.cmp .NotEq (.lst (.comp (.name 3) (.seq (.idx (.var 2) (.con (.int 1)))) (.yes (.or (.not (.isi (.var 3) .int)) (.isi (.var 3) .bool))) (.var 3))) (.lst (.disp .nil))) (.cons (.ret (.con (.bool false)))
    .nil) .nil)
    (.cons (.ret (.and (.cmp .In (.idx (.var 2) (.con (.int 1))) (.call 33 (.cons (.var 0) (.cons (.idx (.var 2) (.con (.int 0))) .nil)))) (.cmp .NotIn (.idx (.var 2) (.con (.int 1))) (.call 33 (.cons (.var 1) (.cons (.idx (.var 2) (.con (.int 0))) .nil))))))
    .nil)))
def f_law_parts : Fn := ⟨3, 4, b_law_parts⟩
def N_rows_of_trees : List Str := ["many", "found", "first", "rest", "tree", "row"]
def P_rows_of_trees : List Str := ["many"]
def b_rows_of_trees_1 : Ss := (.cons (.ext 1 (.lst (.comp (.name 5) (.seq (.var 3)) .no (.bin .Add (.tup (.cons (.var 4) .nil)) (.var 5)))))
    .nil)
def b_rows_of_trees_2 : Ss := (.cons (.set 3 (.call 57 (.cons (.bin .Sub (.var 0) (.var 2)) .nil)))
    (.cons (.for_ (.name 4) (.seq (.call 58 (.cons (.var 2) .nil))) b_rows_of_trees_1)
    .nil))
def b_rows_of_trees : Ss := (.cons (.iff (.cmp .Eq (.var 0) (.con (.int 0))) (.cons (.ret (.lst (.disp (.cons (.tup .nil) .nil))))
    .nil) .nil)
    (.cons (.setL 1 (.disp .nil))
    (.cons (.for_ (.name 2) (.rng2 (.con (.int 1)) (.bin .Add (.var 0) (.con (.int 1)))) b_rows_of_trees_2)
    (.cons (.frz 1)
    (.cons (.ret (.var 1))
    .nil)))))
def f_rows_of_trees : Fn := ⟨1, 6, b_rows_of_trees⟩
def N_trees_of : List Str := ["many", "found", "letter", "kids"]
def P_trees_of : List Str := ["many"]
def b_trees_of_1 : Ss := (.cons (.ext 1 (.lst (.comp (.name 3) (.seq (.call 57 (.cons (.bin .Sub (.var 0) (.con (.int 1))) .nil))) .no (.tup (.cons (.var 2) (.cons (.var 3) .nil))))))
    .nil)
def b_trees_of : Ss := (.cons (.setL 1 (.disp .nil))
    (.cons (.for_ (.name 2) (.seq (.glo 0)) b_trees_of_1)
    (.cons (.frz 1)
    (.cons (.ret (.var 1))
    .nil))))
def f_trees_of : Fn := ⟨1, 4, b_trees_of⟩
def N_least_tree : List Str := ["one", "other", "most", "many", "tree", "some", "node"]
def P_least_tree : List Str := ["one", "other", "most"]
def b_least_tree_1 : Ss := (.cons (.set 5 (.call 28 (.cons (.var 1) (.cons (.var 4) .nil))))
    (.cons (.iff (.bi .any (.lst (.comp (.name 6) (.seq (.call 28 (.cons (.var 0) (.cons (.var 4) .nil)))) .no (.cmp .NotIn (.var 6) (.var 5))))) (.cons (.ret (.var 4))
    .nil) .nil)
    .nil))
def b_least_tree_2 : Ss := (.cons (.for_ (.name 4) (.seq (.lst (.srt (.call 58 (.cons (.var 3) .nil))))) b_least_tree_1)
    .nil)
def b_least_tree : Ss := (.cons (.for_ (.name 3) (.rng2 (.con (.int 1)) (.bin .Add (.var 2) (.con (.int 1)))) b_least_tree_2)
    (.cons (.ret (.con .none))
    .nil))
def f_least_tree : Fn := ⟨3, 7, b_least_tree⟩
def N_law_all_trees : List Str := ["many", "found", "letter", "first", "kid", "second"]
def P_law_all_trees : List Str := ["many"]
def b_law_all_trees_1 : Ss := (.cons (.ext 1 (.lst (.comp (.name 5) (.seq (.con (.str "abcd"))) .no (.tup (.cons (.var 2) (.cons (.tup (.cons (.tup (.cons (.var 3) (.cons (.tup .nil) .nil))) (.cons (.tup (.cons (.var 5) (.cons (.tup .nil) .nil))) .nil))) .nil))))))
    .nil)
def b_law_all_trees_2 : Ss := (.cons (.iff (.cmp .Eq (.var 0) (.con (.int 1))) (.cons (.app 1 (.tup (.cons (.var 2) (.cons (.tup .nil) .nil))))
    .nil) .nil)
    (.cons (.iff (.cmp .Gt (.var 0) (.con (.int 1))) (.cons (.ext 1 (.lst (.comp (.name 4) (.seq (.call 60 (.cons (.bin .Sub (.var 0) (.con (.int 1))) .nil))) .no (.tup (.cons (.var 2) (.cons (.tup (.cons (.var 4) .nil)) .nil))))))
    .nil) .nil)
    (.cons (.iff (.cmp .Eq (.var 0) (.con (.int 3))) (.cons (.for_ (.name 3) (.seq (.con (.str "abcd"))) b_law_all_trees_1)
    .nil) .nil)
    .nil)))
def b_law_all_trees : Ss := (.cons (.setL 1 (.disp .nil))
    (.cons (.for_ (.name 2) (.seq (.con (.str "abcd"))) b_law_all_trees_2)
    (.cons (.frz 1)
    (.cons (.ret (.lst (.srt (.var 1))))
    .nil))))
def f_law_all_trees : Fn := ⟨1, 6, b_law_all_trees⟩
def N_are_alike : List Str := ["one", "other"]
def P_are_alike : List Str := ["one", "other"]
def b_are_alike : Ss := (.cons (.ret (.and (.call 45 (.cons (.var 0) (.cons (.var 1) .nil))) (.call 45 (.cons (.var 1) (.cons (.var 0) .nil)))))
    .nil)
def f_are_alike : Fn := ⟨2, 2, b_are_alike⟩
def N_cut_tests : List Str := ["tests", "found", "k", "test", "rest", "new"]
def P_cut_tests : List Str := ["tests"]
def b_cut_tests_1 : Ss := (.cons (.set 4 (.bin .Add (.slc (.var 0) .no (.yes (.var 2))) (.slc (.var 0) (.yes (.bin .Add (.var 2) (.con (.int 1)))) .no)))
    (.cons (.iff (.and (.cmp .Eq (.idx (.idx (.var 3) (.neg (.con (.int 1)))) (.con (.int 2))) (.tup .nil)) (.cmp .Eq (.bi .len (.var 3)) (.con (.int 1)))) (.cons (.app 1 (.var 4))
    .nil) (.cons (.iff (.cmp .Eq (.idx (.idx (.var 3) (.neg (.con (.int 1)))) (.con (.int 2))) (.tup .nil)) (.cons (.app 1 (.bin .Add (.bin .Add (.slc (.var 0) .no (.yes (.var 2))) (.tup (.cons (.slc (.var 3) .no (.yes (.neg (.con (.int 1))))) .nil))) (.slc (.var 0) (.yes (.bin .Add (.var 2) (.con (.int 1)))) .no)))
    .nil) .nil)
    .nil))
    (.cons (.ext 1 (.lst (.comp (.name 5) (.seq (.call 63 (.cons (.var 3) .nil))) .no (.bin .Add (.bin .Add (.slc (.var 0) .no (.yes (.var 2))) (.tup (.cons (.var 5) .nil))) (.slc (.var 0) (.yes (.bin .Add (.var 2) (.con (.int 1)))) .no)))))
    .nil)))
def b_cut_tests : Ss := (.cons (.setL 1 (.disp .nil))
    (.cons (.for_ (.tup (.cons (.name 2) (.cons (.name 3) .nil))) (.enum (.var 0)) b_cut_tests_1)
    (.cons (.frz 1)
    (.cons (.ret (.var 1))
    .nil))))
def f_cut_tests : Fn := ⟨1, 6, b_cut_tests⟩
def N_cut_paths : List Str := ["path", "found", "k", "step", "tests"]
def P_cut_paths : List Str := ["path"]
def b_cut_paths_1 : Ss := (.cons (.ext 1 (.lst (.comp (.name 4) (.seq (.call 62 (.cons (.idx (.var 3) (.con (.int 2))) .nil))) .no (.bin .Add (.bin .Add (.slc (.var 0) .no (.yes (.var 2))) (.tup (.cons (.bin .Add (.slc (.var 3) .no (.yes (.con (.int 2)))) (.tup (.cons (.var 4) .nil))) .nil))) (.slc (.var 0) (.yes (.bin .Add (.var 2) (.con (.int 1)))) .no)))))
    .nil)
def b_cut_paths : Ss := (.cons (.setL 1 (.disp .nil))
    (.cons (.for_ (.tup (.cons (.name 2) (.cons (.name 3) .nil))) (.enum (.var 0)) b_cut_paths_1)
    (.cons (.frz 1)
    (.cons (.ret (.var 1))
    .nil))))
def f_cut_paths : Fn := ⟨1, 5, b_cut_paths⟩
def N_one_step : List Str := ["test", "way", "letter", "tests"]
def P_one_step : List Str := ["test"]
def b_one_step : Ss := (.cons (.unp (.cons (.name 1) (.cons (.name 2) (.cons (.name 3) .nil))) (.idx (.var 0) (.con (.int 0))))
    (.cons (.iff (.cmp .Gt (.bi .len (.var 0)) (.con (.int 1))) (.cons (.set 3 (.bin .Add (.var 3) (.tup (.cons (.slc (.var 0) (.yes (.con (.int 1))) .no) .nil))))
    .nil) .nil)
    (.cons (.ret (.tup (.cons (.tup (.cons (.var 1) (.cons (.var 2) (.cons (.call 65 (.cons (.var 3) .nil)) .nil)))) .nil)))
    .nil)))
def f_one_step : Fn := ⟨1, 4, b_one_step⟩
-- by hand: in_order: expr Dict(keys=[], values=[])
def P_in_order : List Str := ["tests"]
def p_in_order : Nat → List D → R D := fun _ _ => .fail
def N_short : List Str := ["path", "is_done", "some", "new", "way", "letter", "tests"]
def P_short : List Str := ["path"]
def b_short_1 : Ss := (.cons (.set 2 (.lst (.comp (.name 3) (.seq (.call 63 (.cons (.var 0) .nil))) (.yes (.call 45 (.cons (.var 3) (.cons (.var 0) .nil)))) (.var 3))))
    (.cons (.set 1 (.cmp .Eq (.var 2) (.lst (.disp .nil))))
    (.cons (.iff (.var 2) (.cons (.set 0 (.idx (.var 2) (.con (.int 0))))
    .nil) .nil)
    .nil)))
def b_short : Ss := (.cons (.set 1 (.con (.bool false)))
    (.cons (.whl (.not (.var 1)) b_short_1)
    (.cons (.ret (.bi .tuple (.lst (.comp (.tup (.cons (.name 4) (.cons (.name 5) (.cons (.name 6) .nil)))) (.seq (.var 0)) .no (.tup (.cons (.var 4) (.cons (.var 5) (.cons (.call 65 (.cons (.var 6) .nil)) .nil))))))))
    .nil)))
def f_short : Fn := ⟨1, 7, b_short⟩
def N_law_less : List Str := ["path", "found", "at", "way", "letter", "tests", "k", "test", "some", "new", "step"]
def P_law_less : List Str := ["path"]
def b_law_less_1 : Ss := (.cons (.set 10 (.tup (.cons (.var 3) (.cons (.var 4) (.cons (.bin .Add (.bin .Add (.slc (.var 5) .no (.yes (.var 6))) (.var 9)) (.slc (.var 5) (.yes (.bin .Add (.var 6) (.con (.int 1)))) .no)) .nil)))))
    (.cons (.app 1 (.bin .Add (.bin .Add (.slc (.var 0) .no (.yes (.var 2))) (.tup (.cons (.var 10) .nil))) (.slc (.var 0) (.yes (.bin .Add (.var 2) (.con (.int 1)))) .no)))
    .nil))
def b_law_less_2 : Ss := (.cons (.setL 8 (.comp (.name 9) (.seq (.call 67 (.cons (.var 7) .nil))) .no (.tup (.cons (.var 9) .nil))))
    (.cons (.iff (.cmp .Eq (.idx (.idx (.var 7) (.neg (.con (.int 1)))) (.con (.int 2))) (.tup .nil)) (.cons (.app 8 (.ite (.cmp .Gt (.bi .len (.var 7)) (.con (.int 1))) (.tup (.cons (.slc (.var 7) .no (.yes (.neg (.con (.int 1))))) .nil)) (.tup .nil)))
    .nil) .nil)
    (.cons (.frz 8)
    (.cons (.for_ (.name 9) (.seq (.var 8)) b_law_less_1)
    .nil))))
def b_law_less_3 : Ss := (.cons (.for_ (.tup (.cons (.name 6) (.cons (.name 7) .nil))) (.enum (.var 5)) b_law_less_2)
    .nil)
def b_law_less : Ss := (.cons (.setL 1 (.disp .nil))
    (.cons (.for_ (.tup (.cons (.name 2) (.cons (.tup (.cons (.name 3) (.cons (.name 4) (.cons (.name 5) .nil)))) .nil))) (.enum (.var 0)) b_law_less_3)
    (.cons (.frz 1)
    (.cons (.ret (.var 1))
    .nil))))
def f_law_less : Fn := ⟨1, 11, b_law_less⟩
def N_law_sorted : List Str := ["path", "way", "letter", "tests"]
def P_law_sorted : List Str := ["path"]
def b_law_sorted : Ss := (.cons (.ret (.bi .tuple (.lst (.comp (.tup (.cons (.name 1) (.cons (.name 2) (.cons (.name 3) .nil)))) (.seq (.var 0)) .no (.tup (.cons (.var 1) (.cons (.var 2) (.cons (.call 69 (.cons (.var 3) .nil)) .nil))))))))
    .nil)
def f_law_sorted : Fn := ⟨1, 4, b_law_sorted⟩
def N_law_tests : List Str := ["tests", "found", "test", "rest", "way", "letter", "more"]
def P_law_tests : List Str := ["tests"]
def b_law_tests_1 : Ss := (.cons (.unp (.cons (.name 4) (.cons (.name 5) (.cons (.name 6) .nil))) (.idx (.var 2) (.con (.int 0))))
    (.cons (.set 3 (.call 69 (.cons (.bin .Add (.var 6) (.bin .Mult (.tup (.cons (.slc (.var 2) (.yes (.con (.int 1))) .no) .nil)) (.bi .int (.cmp .Gt (.bi .len (.var 2)) (.con (.int 1)))))) .nil)))
    (.cons (.iff (.inO true (.tup (.cons (.tup (.cons (.var 4) (.cons (.var 5) (.cons (.var 3) .nil)))) .nil)) 1) (.cons (.app 1 (.tup (.cons (.tup (.cons (.var 4) (.cons (.var 5) (.cons (.var 3) .nil)))) .nil)))
    .nil) .nil)
    .nil)))
def b_law_tests : Ss := (.cons (.setL 1 (.disp .nil))
    (.cons (.for_ (.name 2) (.seq (.var 0)) b_law_tests_1)
    (.cons (.frz 1)
    (.cons (.ret (.bi .tuple (.lst (.srt (.var 1)))))
    .nil))))
def f_law_tests : Fn := ⟨1, 7, b_law_tests⟩
def N_law_short : List Str := ["path", "some", "new"]
def P_law_short : List Str := ["path"]
def b_law_short_1 : Ss := (.cons (.set 1 (.lst (.comp (.name 2) (.seq (.call 67 (.cons (.var 0) .nil))) (.yes (.call 46 (.cons (.var 2) (.cons (.var 0) .nil)))) (.var 2))))
    (.cons (.iff (.cmp .Eq (.var 1) (.lst (.disp .nil))) (.cons (.ret (.call 68 (.cons (.var 0) .nil)))
    .nil) .nil)
    (.cons (.set 0 (.idx (.var 1) (.neg (.con (.int 1)))))
    .nil)))
def b_law_short : Ss := (.cons (.whl (.con (.bool true)) b_law_short_1)
    .nil)
def f_law_short : Fn := ⟨1, 3, b_law_short⟩
def N_law_otherwise : List Str := ["path", "found", "way", "letter", "tests", "some", "test"]
def P_law_otherwise : List Str := ["path"]
def b_law_otherwise_1 : Ss := (.cons (.set 5 (.lst (.comp (.name 6) (.seq (.rev (.var 4))) .no (.call 73 (.cons (.var 6) .nil)))))
    (.cons (.app 1 (.tup (.cons (.var 2) (.cons (.var 3) (.cons (.bi .tuple (.bin .Add (.var 5) (.bin .Mult (.slc (.var 5) .no (.yes (.con (.int 1)))) (.bi .int (.cmp .Eq (.bi .len (.var 5)) (.con (.int 1))))))) .nil)))))
    .nil))
def b_law_otherwise : Ss := (.cons (.setL 1 (.disp .nil))
    (.cons (.for_ (.tup (.cons (.name 2) (.cons (.name 3) (.cons (.name 4) .nil)))) (.seq (.var 0)) b_law_otherwise_1)
    (.cons (.frz 1)
    (.cons (.ret (.bi .tuple (.var 1)))
    .nil))))
def f_law_otherwise : Fn := ⟨1, 7, b_law_otherwise⟩
def N_law_fits : List Str := ["path", "way", "letter", "tests", "test"]
def P_law_fits : List Str := ["path"]
def b_law_fits_1 : Ss := (.cons (.iff (.or (.cmp .Gt (.bi .len (.var 3)) (.con (.int 2))) (.cmp .NotEq (.lst (.comp (.name 4) (.seq (.var 3)) (.yes (.not (.call 72 (.cons (.var 4) .nil)))) (.var 4))) (.lst (.disp .nil)))) (.cons (.ret (.con (.bool false)))
    .nil) .nil)
    .nil)
def b_law_fits : Ss := (.cons (.for_ (.tup (.cons (.name 1) (.cons (.name 2) (.cons (.name 3) .nil)))) (.seq (.var 0)) b_law_fits_1)
    (.cons (.ret (.con (.bool true)))
    .nil))
def f_law_fits : Fn := ⟨1, 5, b_law_fits⟩
def N_law_split : List Str := ["test", "some", "way", "letter", "tests", "each"]
def P_law_split : List Str := ["test"]
def b_law_split : Ss := (.cons (.unp (.cons (.name 2) (.cons (.name 3) (.cons (.name 4) .nil))) (.idx (.var 0) (.con (.int 0))))
    (.cons (.set 1 (.bi .tuple (.lst (.comp (.name 5) (.seq (.var 4)) .no (.call 73 (.cons (.var 5) .nil))))))
    (.cons (.iff (.cmp .Gt (.bi .len (.var 0)) (.con (.int 1))) (.cons (.set 1 (.bin .Add (.tup (.cons (.call 73 (.cons (.slc (.var 0) (.yes (.con (.int 1))) .no) .nil)) .nil)) (.var 1)))
    .nil) .nil)
    (.cons (.ret (.tup (.cons (.tup (.cons (.var 2) (.cons (.var 3) (.cons (.var 1) .nil)))) .nil)))
    .nil))))
def f_law_split : Fn := ⟨1, 6, b_law_split⟩
def N_behind : List Str := ["one", "other"]
def P_behind : List Str := ["one", "other"]
def b_behind : Ss := (.cons (.ret (.bin .Add (.var 0) (.var 1)))
    .nil)
def f_behind : Fn := ⟨2, 2, b_behind⟩
def N_with_test : List Str := ["path", "other", "way", "letter", "tests"]
def P_with_test : List Str := ["path", "other"]
def b_with_test : Ss := (.cons (.unp (.cons (.name 2) (.cons (.name 3) (.cons (.name 4) .nil))) (.idx (.var 0) (.neg (.con (.int 1)))))
    (.cons (.ret (.bin .Add (.slc (.var 0) .no (.yes (.neg (.con (.int 1))))) (.tup (.cons (.tup (.cons (.var 2) (.cons (.var 3) (.cons (.bi .tuple (.lst (.srt (.bin .Add (.var 4) (.tup (.cons (.var 1) .nil)))))) .nil)))) .nil))))
    .nil))
def f_with_test : Fn := ⟨2, 5, b_with_test⟩
def N_turned_in : List Str := ["path", "way", "letter", "tests", "test"]
def P_turned_in : List Str := ["path"]
def b_turned_in : Ss := (.cons (.ret (.bi .tuple (.lst (.comp (.tup (.cons (.name 1) (.cons (.name 2) (.cons (.name 3) .nil)))) (.seq (.var 0)) .no (.tup (.cons (.con (.str "deep")) (.cons (.var 2) (.cons (.bi .tuple (.lst (.comp (.name 4) (.seq (.var 3)) .no (.call 76 (.cons (.var 4) .nil))))) .nil))))))))
    .nil)
def f_turned_in : Fn := ⟨1, 5, b_turned_in⟩
def N_law_deep : List Str := ["path", "found", "way", "letter", "tests", "test"]
def P_law_deep : List Str := ["path"]
def b_law_deep_1 : Ss := (.cons (.app 1 (.tup (.cons (.con (.str "deep")) (.cons (.var 3) (.cons (.bi .tuple (.lst (.comp (.name 5) (.seq (.var 4)) .no (.call 77 (.cons (.var 5) .nil))))) .nil)))))
    .nil)
def b_law_deep : Ss := (.cons (.setL 1 (.disp .nil))
    (.cons (.for_ (.tup (.cons (.name 2) (.cons (.name 3) (.cons (.name 4) .nil)))) (.seq (.var 0)) b_law_deep_1)
    (.cons (.frz 1)
    (.cons (.ret (.bi .tuple (.var 1)))
    .nil))))
def f_law_deep : Fn := ⟨1, 6, b_law_deep⟩
-- by hand: law_from: call dict(_law_nodes(tree, ()))
def P_law_from : List Str := ["path", "tree", "node"]
def p_law_from : Nat → List D → R D := fun _ _ => .fail
def N_plain_paths : List Str := ["steps", "way", "found", "first", "step", "letter", "second"]
def P_plain_paths : List Str := []
def b_plain_paths_1 : Ss := (.cons (.ext 0 (.lst (.comp (.name 5) (.seq (.glo 3)) .no (.tup (.cons (.var 1) (.cons (.var 5) (.cons (.tup .nil) .nil)))))))
    .nil)
def b_plain_paths_2 : Ss := (.cons (.frz 0)
    (.cons (.ext 2 (.lst (.comp (.name 6) (.seq (.var 0)) .no (.tup (.cons (.var 3) (.cons (.var 6) .nil))))))
    .nil))
def b_plain_paths : Ss := (.cons (.setL 0 (.disp .nil))
    (.cons (.for_ (.name 1) (.seq (.glo 2)) b_plain_paths_1)
    (.cons (.frz 0)
    (.cons (.setL 2 (.comp (.name 4) (.seq (.var 0)) .no (.tup (.cons (.var 4) .nil))))
    (.cons (.frz 0)
    (.cons (.for_ (.name 3) (.seq (.var 0)) b_plain_paths_2)
    (.cons (.frz 2)
    (.cons (.ret (.bi .tuple (.lst (.srt (.var 2)))))
    .nil))))))))
def f_plain_paths : Fn := ⟨0, 7, b_plain_paths⟩
def N_by_finds : List Str := ["tree", "some", "path"]
def P_by_finds : List Str := ["tree", "some"]
def b_by_finds : Ss := (.cons (.ret (.bi .tuple (.lst (.comp (.name 2) (.seq (.call 79 .nil)) (.yes (.cmp .Eq (.call 28 (.cons (.var 2) (.cons (.var 0) .nil))) (.var 1))) (.var 2)))))
    .nil)
def f_by_finds : Fn := ⟨2, 3, b_by_finds⟩
-- by hand: told_apart: call set([tuple([finds(path, tree) for tree in trees]) for path in plain_paths()])
def P_told_apart : List Str := ["trees"]
def p_told_apart : Nat → List D → R D := fun _ _ => .fail
def N_law_all_k14 : List Str := ["steps", "way", "found", "first", "letter", "second", "step"]
def P_law_all_k14 : List Str := []
def b_law_all_k14_1 : Ss := (.cons (.app 0 (.tup (.cons (.var 1) (.cons (.var 4) (.cons (.tup .nil) .nil)))))
    .nil)
def b_law_all_k14_2 : Ss := (.cons (.for_ (.name 4) (.seq (.con (.str "abc"))) b_law_all_k14_1)
    .nil)
def b_law_all_k14_3 : Ss := (.cons (.app 2 (.tup (.cons (.var 3) (.cons (.var 5) .nil))))
    .nil)
def b_law_all_k14_4 : Ss := (.cons (.frz 0)
    (.cons (.for_ (.name 5) (.seq (.var 0)) b_law_all_k14_3)
    .nil))
def b_law_all_k14 : Ss := (.cons (.setL 0 (.disp .nil))
    (.cons (.for_ (.name 1) (.seq (.tup (.cons (.con (.str "in")) (.cons (.con (.str "deep")) .nil)))) b_law_all_k14_2)
    (.cons (.frz 0)
    (.cons (.setL 2 (.comp (.name 6) (.seq (.var 0)) .no (.tup (.cons (.var 6) .nil))))
    (.cons (.frz 0)
    (.cons (.for_ (.name 3) (.seq (.var 0)) b_law_all_k14_4)
    (.cons (.frz 2)
    (.cons (.ret (.lst (.srt (.var 2))))
    .nil))))))))
def f_law_all_k14 : Fn := ⟨0, 7, b_law_all_k14⟩
def N_with_kids : List Str := ["tree", "node", "kids", "place", "new"]
def P_with_kids : List Str := ["tree", "node", "kids"]
def b_with_kids : Ss := (.cons (.iff (.cmp .Eq (.var 1) (.tup .nil)) (.cons (.ret (.tup (.cons (.idx (.var 0) (.con (.int 0))) (.cons (.var 2) .nil))))
    .nil) .nil)
    (.cons (.set 3 (.idx (.var 1) (.con (.int 0))))
    (.cons (.set 4 (.call 83 (.cons (.idx (.idx (.var 0) (.con (.int 1))) (.var 3)) (.cons (.slc (.var 1) (.yes (.con (.int 1))) .no) (.cons (.var 2) .nil)))))
    (.cons (.ret (.tup (.cons (.idx (.var 0) (.con (.int 0))) (.cons (.bin .Add (.bin .Add (.slc (.idx (.var 0) (.con (.int 1))) .no (.yes (.var 3))) (.tup (.cons (.var 4) .nil))) (.slc (.idx (.var 0) (.con (.int 1))) (.yes (.bin .Add (.var 3) (.con (.int 1)))) .no)) .nil))))
    .nil))))
def f_with_kids : Fn := ⟨3, 5, b_with_kids⟩
def N_put : List Str := ["tree", "node", "kid"]
def P_put : List Str := ["tree", "node", "kid"]
def b_put : Ss := (.cons (.ret (.call 83 (.cons (.var 0) (.cons (.var 1) (.cons (.bin .Add (.idx (.call 4 (.cons (.var 0) (.cons (.var 1) .nil))) (.con (.int 1))) (.tup (.cons (.var 2) .nil))) .nil)))))
    .nil)
def f_put : Fn := ⟨3, 3, b_put⟩
def N_cut : List Str := ["tree", "node", "kids"]
def P_cut : List Str := ["tree", "node"]
def b_cut : Ss := (.cons (.exp (.call 4 (.cons (.var 0) (.cons (.var 1) .nil))))
    (.cons (.iff (.cmp .Eq (.var 1) (.tup .nil)) (.cons (.rai 0)
    .nil) .nil)
    (.cons (.set 2 (.idx (.call 4 (.cons (.var 0) (.cons (.slc (.var 1) .no (.yes (.neg (.con (.int 1))))) .nil))) (.con (.int 1))))
    (.cons (.ret (.call 83 (.cons (.var 0) (.cons (.slc (.var 1) .no (.yes (.neg (.con (.int 1))))) (.cons (.bin .Add (.slc (.var 2) .no (.yes (.idx (.var 1) (.neg (.con (.int 1)))))) (.slc (.var 2) (.yes (.bin .Add (.idx (.var 1) (.neg (.con (.int 1)))) (.con (.int 1)))) .no)) .nil)))))
    .nil))))
def f_cut : Fn := ⟨2, 3, b_cut⟩
def N_come : List Str := ["path", "tree", "node", "kid", "ahead", "one"]
def P_come : List Str := ["path", "tree", "node", "kid"]
def b_come : Ss := (.cons (.set 4 (.call 28 (.cons (.var 0) (.cons (.var 1) .nil))))
    (.cons (.ret (.bi .tuple (.lst (.comp (.name 5) (.seq (.call 28 (.cons (.var 0) (.cons (.call 84 (.cons (.var 1) (.cons (.var 2) (.cons (.var 3) .nil)))) .nil)))) (.yes (.cmp .NotIn (.var 5) (.var 4))) (.var 5)))))
    .nil))
def f_come : Fn := ⟨4, 6, b_come⟩
def N_called_then : List Str := ["one", "node", "deep"]
def P_called_then : List Str := ["one", "node"]
def b_called_then : Ss := (.cons (.set 2 (.bi .len (.var 1)))
    (.cons (.iff (.or (.cmp .NotEq (.slc (.var 0) .no (.yes (.bin .Sub (.var 2) (.con (.int 1))))) (.slc (.var 1) .no (.yes (.neg (.con (.int 1)))))) (.or (.cmp .Lt (.bi .len (.var 0)) (.var 2)) (.cmp .Lt (.idx (.var 0) (.bin .Sub (.var 2) (.con (.int 1)))) (.idx (.var 1) (.neg (.con (.int 1))))))) (.cons (.ret (.var 0))
    .nil) .nil)
    (.cons (.iff (.cmp .Eq (.idx (.var 0) (.bin .Sub (.var 2) (.con (.int 1)))) (.idx (.var 1) (.neg (.con (.int 1))))) (.cons (.ret (.con .none))
    .nil) .nil)
    (.cons (.ret (.bin .Add (.bin .Add (.slc (.var 0) .no (.yes (.bin .Sub (.var 2) (.con (.int 1))))) (.tup (.cons (.bin .Sub (.idx (.var 0) (.bin .Sub (.var 2) (.con (.int 1)))) (.con (.int 1))) .nil))) (.slc (.var 0) (.yes (.var 2)) .no)))
    .nil))))
def f_called_then : Fn := ⟨2, 3, b_called_then⟩
def N_gone : List Str := ["path", "tree", "node", "later", "one"]
def P_gone : List Str := ["path", "tree", "node"]
def b_gone : Ss := (.cons (.set 3 (.call 28 (.cons (.var 0) (.cons (.call 85 (.cons (.var 1) (.cons (.var 2) .nil))) .nil))))
    (.cons (.ret (.bi .tuple (.lst (.comp (.name 4) (.seq (.call 28 (.cons (.var 0) (.cons (.var 1) .nil)))) (.yes (.cmp .NotIn (.call 87 (.cons (.var 4) (.cons (.var 2) .nil))) (.var 3))) (.var 4)))))
    .nil))
def f_gone : Fn := ⟨3, 5, b_gone⟩
def N_law_told_k15 : List Str := ["deed", "path", "tree", "node", "kid", "e"]
def P_law_told_k15 : List Str := ["deed", "path", "tree", "node", "kid"]
def b_law_told_k15 : Ss := (.cons (.iff (.cmp .Eq (.var 0) (.con (.str "put"))) (.cons (.ret (.tup (.cons (.call 84 (.cons (.var 2) (.cons (.var 3) (.cons (.var 4) .nil)))) (.cons (.call 86 (.cons (.var 1) (.cons (.var 2) (.cons (.var 3) (.cons (.var 4) .nil))))) .nil))))
    .nil) .nil)
    (.cons (.ret (.tup (.cons (.call 85 (.cons (.var 2) (.cons (.var 3) .nil))) (.cons (.call 88 (.cons (.var 1) (.cons (.var 2) (.cons (.var 3) .nil)))) .nil))))
    .nil))
def f_law_told_k15 : Fn := ⟨5, 6, b_law_told_k15⟩
def N_law_put : List Str := ["tree", "node", "kid", "j", "one"]
def P_law_put : List Str := ["tree", "node", "kid"]
def b_law_put : Ss := (.cons (.iff (.cmp .Eq (.var 1) (.tup .nil)) (.cons (.ret (.tup (.cons (.idx (.var 0) (.con (.int 0))) (.cons (.bin .Add (.idx (.var 0) (.con (.int 1))) (.tup (.cons (.var 2) .nil))) .nil))))
    .nil) .nil)
    (.cons (.ret (.tup (.cons (.idx (.var 0) (.con (.int 0))) (.cons (.bi .tuple (.lst (.comp (.tup (.cons (.name 3) (.cons (.name 4) .nil))) (.enum (.idx (.var 0) (.con (.int 1)))) .no (.ite (.cmp .Eq (.var 3) (.idx (.var 1) (.con (.int 0)))) (.call 90 (.cons (.var 4) (.cons (.slc (.var 1) (.yes (.con (.int 1))) .no) (.cons (.var 2) .nil)))) (.var 4))))) .nil))))
    .nil))
def f_law_put : Fn := ⟨3, 5, b_law_put⟩
def N_law_cut : List Str := ["tree", "node", "j", "one"]
def P_law_cut : List Str := ["tree", "node"]
def b_law_cut : Ss := (.cons (.iff (.cmp .Eq (.bi .len (.var 1)) (.con (.int 1))) (.cons (.ret (.tup (.cons (.idx (.var 0) (.con (.int 0))) (.cons (.bi .tuple (.lst (.comp (.tup (.cons (.name 2) (.cons (.name 3) .nil))) (.enum (.idx (.var 0) (.con (.int 1)))) (.yes (.cmp .NotEq (.var 2) (.idx (.var 1) (.con (.int 0))))) (.var 3)))) .nil))))
    .nil) .nil)
    (.cons (.ret (.tup (.cons (.idx (.var 0) (.con (.int 0))) (.cons (.bi .tuple (.lst (.comp (.tup (.cons (.name 2) (.cons (.name 3) .nil))) (.enum (.idx (.var 0) (.con (.int 1)))) .no (.ite (.cmp .Eq (.var 2) (.idx (.var 1) (.con (.int 0)))) (.call 91 (.cons (.var 3) (.cons (.slc (.var 1) (.yes (.con (.int 1))) .no) .nil))) (.var 3))))) .nil))))
    .nil))
def f_law_cut : Fn := ⟨2, 4, b_law_cut⟩
-- by hand: path_text: name SIGNS
def P_path_text : List Str := ["path"]
def p_path_text : Nat → List D → R D := fun _ _ => .fail
def N_tree_text : List Str := ["tree", "kid"]
def P_tree_text : List Str := ["tree"]
def b_tree_text : Ss := (.cons (.iff (.not (.idx (.var 0) (.con (.int 1)))) (.cons (.ret (.idx (.var 0) (.con (.int 0))))
    .nil) .nil)
    (.cons (.ret (.bin .Add (.bin .Add (.bin .Add (.idx (.var 0) (.con (.int 0))) (.con (.str "("))) (.join (.con (.str ",")) (.lst (.comp (.name 1) (.seq (.idx (.var 0) (.con (.int 1)))) .no (.call 93 (.cons (.var 1) .nil)))))) (.con (.str ")"))))
    .nil))
def f_tree_text : Fn := ⟨1, 2, b_tree_text⟩
-- by hand: read_path: call Reader(text).path()
def P_read_path : List Str := ["text"]
def p_read_path : Nat → List D → R D := fun _ _ => .fail
-- by hand: read_tree: call Reader(text).tree()
def P_read_tree : List Str := ["text"]
def p_read_tree : Nat → List D → R D := fun _ _ => .fail
def N_law_path_text : List Str := ["path", "found", "way", "letter", "tests", "test"]
def P_law_path_text : List Str := ["path"]
def b_law_path_text_1 : Ss := (.cons (.set 1 (.bin .Add (.bin .Add (.bin .Add (.var 1) (.con (.str "["))) (.call 96 (.cons (.var 5) .nil))) (.con (.str "]"))))
    .nil)
def b_law_path_text_2 : Ss := (.cons (.set 1 (.bin .Add (.bin .Add (.var 1) (.bin .Mult (.con (.str "/")) (.bin .Add (.con (.int 1)) (.bi .int (.cmp .Eq (.var 2) (.con (.str "deep"))))))) (.var 3)))
    (.cons (.for_ (.name 5) (.seq (.var 4)) b_law_path_text_1)
    .nil))
def b_law_path_text : Ss := (.cons (.set 1 (.con (.str "")))
    (.cons (.for_ (.tup (.cons (.name 2) (.cons (.name 3) (.cons (.name 4) .nil)))) (.seq (.var 0)) b_law_path_text_2)
    (.cons (.ret (.var 1))
    .nil)))
def f_law_path_text : Fn := ⟨1, 6, b_law_path_text⟩
def N_law_tree_text : List Str := ["tree", "kid"]
def P_law_tree_text : List Str := ["tree"]
def b_law_tree_text : Ss := (.cons (.iff (.cmp .Eq (.idx (.var 0) (.con (.int 1))) (.tup .nil)) (.cons (.ret (.idx (.var 0) (.con (.int 0))))
    .nil) .nil)
    (.cons (.ret (.bin .Add (.bin .Add (.bin .Add (.idx (.var 0) (.con (.int 0))) (.con (.str "("))) (.join (.con (.str ",")) (.lst (.comp (.name 1) (.seq (.idx (.var 0) (.con (.int 1)))) .no (.call 97 (.cons (.var 1) .nil)))))) (.con (.str ")"))))
    .nil))
def f_law_tree_text : Fn := ⟨1, 2, b_law_tree_text⟩
def N_law_read : List Str := ["kind", "text"]
def P_law_read : List Str := ["kind", "text"]
def b_law_read : Ss := (.cons (.ret (.ite (.cmp .Eq (.var 0) (.con (.str "path"))) (.call 94 (.cons (.var 1) .nil)) (.call 95 (.cons (.var 1) .nil))))
    .nil)
def f_law_read : Fn := ⟨2, 2, b_law_read⟩
def N_law_told_k18 : List Str := ["kind", "text", "e"]
def P_law_told_k18 : List Str := ["kind", "text"]
def b_law_told_k18 : Ss := (.cons (.ret (.ite (.cmp .Eq (.var 0) (.con (.str "path"))) (.call 94 (.cons (.var 1) .nil)) (.call 95 (.cons (.var 1) .nil))))
    .nil)
def f_law_told_k18 : Fn := ⟨2, 3, b_law_told_k18⟩
def N_law_path_at : List Str := ["text", "place", "found", "way", "letter", "tests", "test"]
def P_law_path_at : List Str := ["text", "place"]
def b_law_path_at_1 : Ss := (.cons (.set 6 (.call 100 (.cons (.var 0) (.cons (.bin .Add (.var 1) (.con (.int 1))) .nil))))
    (.cons (.iff (.or (.cmp .Is (.var 6) (.con .none)) (.or (.cmp .Eq (.idx (.var 6) (.con (.int 0))) (.tup .nil)) (.cmp .NotEq (.slc (.var 0) (.yes (.idx (.var 6) (.con (.int 1)))) (.yes (.bin .Add (.idx (.var 6) (.con (.int 1))) (.con (.int 1))))) (.con (.str "]"))))) (.cons (.ret (.con .none))
    .nil) .nil)
    (.cons (.app 5 (.idx (.var 6) (.con (.int 0))))
    (.cons (.set 1 (.bin .Add (.idx (.var 6) (.con (.int 1))) (.con (.int 1))))
    .nil))))
def b_law_path_at_2 : Ss := (.cons (.set 3 (.ite (.cmp .Eq (.slc (.var 0) (.yes (.bin .Add (.var 1) (.con (.int 1)))) (.yes (.bin .Add (.var 1) (.con (.int 2))))) (.con (.str "/"))) (.con (.str "deep")) (.con (.str "in"))))
    (.cons (.set 1 (.bin .Add (.bin .Add (.var 1) (.con (.int 1))) (.bi .int (.cmp .Eq (.var 3) (.con (.str "deep"))))))
    (.cons (.parR 4 5 (.slc (.var 0) (.yes (.var 1)) (.yes (.bin .Add (.var 1) (.con (.int 1))))) (.disp .nil))
    (.cons (.set 1 (.bin .Add (.var 1) (.con (.int 1))))
    (.cons (.whl (.cmp .Eq (.slc (.var 0) (.yes (.var 1)) (.yes (.bin .Add (.var 1) (.con (.int 1))))) (.con (.str "["))) b_law_path_at_1)
    (.cons (.iff (.or (.cmp .NotIn (.var 4) (.tup (.cons (.con (.str "a")) (.cons (.con (.str "b")) (.cons (.con (.str "c")) .nil))))) (.cmp .Gt (.lenO 5) (.con (.int 2)))) (.cons (.ret (.con .none))
    .nil) .nil)
    (.cons (.frz 5)
    (.cons (.app 2 (.tup (.cons (.var 3) (.cons (.var 4) (.cons (.bi .tuple (.var 5)) .nil)))))
    .nil))))))))
def b_law_path_at : Ss := (.cons (.setL 2 (.disp .nil))
    (.cons (.whl (.cmp .Eq (.slc (.var 0) (.yes (.var 1)) (.yes (.bin .Add (.var 1) (.con (.int 1))))) (.con (.str "/"))) b_law_path_at_2)
    (.cons (.frz 2)
    (.cons (.ret (.ite (.cmp .Lt (.bi .len (.var 2)) (.con (.int 4))) (.tup (.cons (.bi .tuple (.var 2)) (.cons (.var 1) .nil))) (.con .none)))
    .nil))))
def f_law_path_at : Fn := ⟨2, 7, b_law_path_at⟩
def N_law_tree_at : List Str := ["text", "place", "letter", "kids", "kid"]
def P_law_tree_at : List Str := ["text", "place"]
def b_law_tree_at_1 : Ss := (.cons (.set 4 (.call 101 (.cons (.var 0) (.cons (.bin .Add (.var 1) (.con (.int 1))) .nil))))
    (.cons (.iff (.cmp .Is (.var 4) (.con .none)) (.cons (.ret (.con .none))
    .nil) .nil)
    (.cons (.app 3 (.idx (.var 4) (.con (.int 0))))
    (.cons (.set 1 (.idx (.var 4) (.con (.int 1))))
    .nil))))
def b_law_tree_at : Ss := (.cons (.parR 2 3 (.slc (.var 0) (.yes (.var 1)) (.yes (.bin .Add (.var 1) (.con (.int 1))))) (.disp .nil))
    (.cons (.iff (.cmp .NotIn (.var 2) (.tup (.cons (.con (.str "a")) (.cons (.con (.str "b")) (.cons (.con (.str "c")) (.cons (.con (.str "d")) .nil)))))) (.cons (.ret (.con .none))
    .nil) .nil)
    (.cons (.set 1 (.bin .Add (.var 1) (.con (.int 1))))
    (.cons (.iff (.cmp .Eq (.slc (.var 0) (.yes (.var 1)) (.yes (.bin .Add (.var 1) (.con (.int 1))))) (.con (.str "("))) (.cons (.frz 3)
    (.cons (.whl (.and (.cmp .In (.slc (.var 0) (.yes (.var 1)) (.yes (.bin .Add (.var 1) (.con (.int 1))))) (.tup (.cons (.con (.str "(")) (.cons (.con (.str ",")) .nil)))) (.cmp .Eq (.cmp .Eq (.idx (.var 0) (.var 1)) (.con (.str ","))) (.cmp .NotEq (.var 3) (.lst (.disp .nil))))) b_law_tree_at_1)
    (.cons (.iff (.cmp .NotEq (.slc (.var 0) (.yes (.var 1)) (.yes (.bin .Add (.var 1) (.con (.int 1))))) (.con (.str ")"))) (.cons (.ret (.con .none))
    .nil) .nil)
    (.cons (.set 1 (.bin .Add (.var 1) (.con (.int 1))))
    .nil)))) .nil)
    (.cons (.frz 3)
    (.cons (.ret (.tup (.cons (.tup (.cons (.var 2) (.cons (.bi .tuple (.var 3)) .nil))) (.cons (.var 1) .nil))))
    .nil))))))
def f_law_tree_at : Fn := ⟨2, 5, b_law_tree_at⟩
def N_law_due : List Str := ["kind", "text", "found", "sign"]
def P_law_due : List Str := ["kind", "text"]
def b_law_due : Ss := (.cons (.set 2 (.ite (.cmp .Eq (.var 0) (.con (.str "path"))) (.call 100 (.cons (.var 1) (.cons (.con (.int 0)) .nil))) (.call 101 (.cons (.var 1) (.cons (.con (.int 0)) .nil)))))
    (.cons (.iff (.or (.cmp .Is (.var 2) (.con .none)) (.or (.cmp .Lt (.idx (.var 2) (.con (.int 1))) (.bi .len (.var 1))) (.cmp .Eq (.idx (.var 2) (.con (.int 0))) (.tup .nil)))) (.cons (.ret (.con (.str "no text")))
    .nil) .nil)
    (.cons (.iff (.cmp .Eq (.var 0) (.con (.str "path"))) (.cons (.ret (.ite (.cmp .Lt (.call 9 (.cons (.idx (.var 2) (.con (.int 0))) .nil)) (.con (.int 8))) (.idx (.var 2) (.con (.int 0))) (.con (.str "no text"))))
    .nil) .nil)
    (.cons (.ret (.ite (.cmp .Lt (.bi .len (.lst (.comp (.name 3) (.seq (.var 1)) (.yes (.cmp .In (.var 3) (.con (.str "abcd")))) (.var 3)))) (.con (.int 31))) (.idx (.var 2) (.con (.int 0))) (.con (.str "no text"))))
    .nil))))
def f_law_due : Fn := ⟨2, 4, b_law_due⟩
def tbl : List Fk := [.fn f_is_letter, .fn f_is_any_tree, .fn f_nodes, .fn f_is_tree, .fn f_tree_at, .fn f_law_mix, .fn f_law_same, .fn f_law_tree, .fn f_law_path, .fn f_law_steps, .fn f_law_odd, .prim p_law_word, .fn f_law_count_k01, .tr f_law_told_k01 0, .fn f_law_all_k01, .fn f_is_step, .fn f_is_any_path, .fn f_steps_in, .fn f_is_path, .fn f_rows_of, .fn f_numbered, .fn f_law_count_k02, .fn f_kids_of, .fn f_all_below, .fn f_places, .fn f_by_step, .fn f_ways_from, .fn f_ways, .fn f_finds, .fn f_has_find, .fn f_finds_from, .fn f_law_nodes, .fn f_law_ways, .fn f_law_finds, .fn f_law_plain, .tr f_law_told_k03 0, .fn f_law_bare, .fn f_law_turned, .fn f_law_leads, .fn f_last_number, .fn f_comes_back, .fn f_fits, .fn f_leadings_from, .fn f_leading, .fn f_is_leading, .fn f_is_within, .fn f_law_is_within, .fn f_law_last, .fn f_law_is_leading, .fn f_law_near, .fn f_law_short_near, .fn f_grown, .fn f_plain_tree, .fn f_parting, .fn f_is_parting, .fn f_law_is_tree, .fn f_law_parts, .fn f_rows_of_trees, .fn f_trees_of, .fn f_least_tree, .fn f_law_all_trees, .fn f_are_alike, .fn f_cut_tests, .fn f_cut_paths, .fn f_one_step, .prim p_in_order, .fn f_short, .fn f_law_less, .fn f_law_sorted, .fn f_law_tests, .fn f_law_short, .fn f_law_otherwise, .fn f_law_fits, .fn f_law_split, .fn f_behind, .fn f_with_test, .fn f_turned_in, .fn f_law_deep, .prim p_law_from, .fn f_plain_paths, .fn f_by_finds, .prim p_told_apart, .fn f_law_all_k14, .fn f_with_kids, .fn f_put, .fn f_cut, .fn f_come, .fn f_called_then, .fn f_gone, .tr f_law_told_k15 0, .fn f_law_put, .fn f_law_cut, .prim p_path_text, .fn f_tree_text, .prim p_read_path, .prim p_read_tree, .fn f_law_path_text, .fn f_law_tree_text, .tr f_law_read 1, .tr f_law_told_k18 0, .fn f_law_path_at, .fn f_law_tree_at, .fn f_law_due]
def gv : Nat → Option D
  | 0 => some (.str "abcd")
  | 1 => some (.int 30)
  | 2 => some (.tuple [.str "in", .str "deep"])
  | 3 => some (.str "abc")
  | 4 => some (.int 7)
  | _ => none
def io : Io
  | 0, _, _, _ => none
  | n + 1, x, y, ds => ioF ⟨fun _ _ => .fail, gv, 1000, io n⟩ N_law_rows.length m_law_rows x y ds
theorem io_any (n : Nat) (f : Nat → List D → R D) (x y : D) (ds es : List D) (q : io (n + 1) x y ds = some es) : ioF ⟨f, gv, 1000, io n⟩ N_law_rows.length m_law_rows x y ds = some es := q
abbrev so (x : Str) : Option Str := some x
abbrev LV : Nat := 150
abbrev rn (n : Nat) : Nat → List D → R D := run tbl gv io n
abbrev Cn (n : Nat) : EvC := ⟨rn n, gv, 1000, io n⟩
theorem rn_is_letter (n : Nat) (a0 a1 : D) : rn (n + 1) 0 [a0, a1] = (evSs (Cn n) b_is_letter [some (.sh a0), some (.sh a1)]).res := rfl
theorem rn_is_any_tree (n : Nat) (a0 : D) : rn (n + 1) 1 [a0] = (evSs (Cn n) b_is_any_tree [some (.sh a0), none]).res := rfl
theorem rn_nodes (n : Nat) (a0 : D) : rn (n + 1) 2 [a0] = (evSs (Cn n) b_nodes [some (.sh a0), none, none, none, none]).res := rfl
theorem rn_is_tree (n : Nat) (a0 : D) : rn (n + 1) 3 [a0] = (evSs (Cn n) b_is_tree [some (.sh a0)]).res := rfl
theorem rn_tree_at (n : Nat) (a0 a1 : D) : rn (n + 1) 4 [a0, a1] = (evSs (Cn n) b_tree_at [some (.sh a0), some (.sh a1), none]).res := rfl
theorem rn_law_mix (n : Nat) (a0 a1 a2 : D) : rn (n + 1) 5 [a0, a1, a2] = (evSs (Cn n) b_law_mix [some (.sh a0), some (.sh a1), some (.sh a2), none]).res := rfl
theorem rn_law_same (n : Nat) (a0 a1 : D) : rn (n + 1) 6 [a0, a1] = (evSs (Cn n) b_law_same [some (.sh a0), some (.sh a1), none, none]).res := rfl
theorem rn_law_tree (n : Nat) (a0 a1 : D) : rn (n + 1) 7 [a0, a1] = (evSs (Cn n) b_law_tree [some (.sh a0), some (.sh a1), none, none, none, none, none]).res := rfl
theorem rn_law_path (n : Nat) (a0 a1 : D) : rn (n + 1) 8 [a0, a1] = (evSs (Cn n) b_law_path [some (.sh a0), some (.sh a1), none, none, none, none, none, none, none, none, none]).res := rfl
theorem rn_law_steps (n : Nat) (a0 : D) : rn (n + 1) 9 [a0] = (evSs (Cn n) b_law_steps [some (.sh a0), none, none]).res := rfl
theorem rn_law_odd (n : Nat) (a0 a1 : D) : rn (n + 1) 10 [a0, a1] = (evSs (Cn n) b_law_odd [some (.sh a0), some (.sh a1), none, none]).res := rfl
theorem rn_law_count_k01 (n : Nat) (a0 : D) : rn (n + 1) 12 [a0] = (evSs (Cn n) b_law_count_k01 [some (.sh a0), none, none]).res := rfl
theorem rn_law_told_k01 (n : Nat) (a0 a1 : D) : rn (n + 1) 13 [a0, a1] = caught 0 (evSs (Cn n) b_law_told_k01 [some (.sh a0), some (.sh a1), none]).res := rfl
theorem rn_law_all_k01 (n : Nat) (a0 a1 : D) : rn (n + 1) 14 [a0, a1] = (evSs (Cn n) b_law_all_k01 [some (.sh a0), some (.sh a1), none, none, none]).res := rfl
theorem rn_is_step (n : Nat) (a0 : D) : rn (n + 1) 15 [a0] = (evSs (Cn n) b_is_step [some (.sh a0), none]).res := rfl
theorem rn_is_any_path (n : Nat) (a0 : D) : rn (n + 1) 16 [a0] = (evSs (Cn n) b_is_any_path [some (.sh a0), none]).res := rfl
theorem rn_steps_in (n : Nat) (a0 : D) : rn (n + 1) 17 [a0] = (evSs (Cn n) b_steps_in [some (.sh a0), none, none]).res := rfl
theorem rn_is_path (n : Nat) (a0 : D) : rn (n + 1) 18 [a0] = (evSs (Cn n) b_is_path [some (.sh a0)]).res := rfl
theorem rn_rows_of (n : Nat) (a0 a1 a2 : D) : rn (n + 1) 19 [a0, a1, a2] = (evSs (Cn n) b_rows_of [some (.sh a0), some (.sh a1), some (.sh a2), none, none, none, none, none, none, none]).res := rfl
theorem rn_numbered (n : Nat) (a0 : D) : rn (n + 1) 20 [a0] = (evSs (Cn n) b_numbered [some (.sh a0)]).res := rfl
theorem rn_law_count_k02 (n : Nat) (a0 : D) : rn (n + 1) 21 [a0] = (evSs (Cn n) b_law_count_k02 [some (.sh a0), none, none, none, none]).res := rfl
theorem rn_kids_of (n : Nat) (a0 a1 : D) : rn (n + 1) 22 [a0, a1] = (evSs (Cn n) b_kids_of [some (.sh a0), some (.sh a1), none]).res := rfl
theorem rn_all_below (n : Nat) (a0 a1 : D) : rn (n + 1) 23 [a0, a1] = (evSs (Cn n) b_all_below [some (.sh a0), some (.sh a1), none]).res := rfl
theorem rn_places (n : Nat) (a0 a1 a2 : D) : rn (n + 1) 24 [a0, a1, a2] = (evSs (Cn n) b_places [some (.sh a0), some (.sh a1), some (.sh a2)]).res := rfl
theorem rn_by_step (n : Nat) (a0 a1 a2 : D) : rn (n + 1) 25 [a0, a1, a2] = (evSs (Cn n) b_by_step [some (.sh a0), some (.sh a1), some (.sh a2), none, none, none]).res := rfl
theorem rn_ways_from (n : Nat) (a0 a1 a2 : D) : rn (n + 1) 26 [a0, a1, a2] = (evSs (Cn n) b_ways_from [some (.sh a0), some (.sh a1), some (.sh a2), none, none, none, none, none, none]).res := rfl
theorem rn_ways (n : Nat) (a0 a1 : D) : rn (n + 1) 27 [a0, a1] = (evSs (Cn n) b_ways [some (.sh a0), some (.sh a1)]).res := rfl
theorem rn_finds (n : Nat) (a0 a1 : D) : rn (n + 1) 28 [a0, a1] = (evSs (Cn n) b_finds [some (.sh a0), some (.sh a1), none]).res := rfl
theorem rn_has_find (n : Nat) (a0 a1 : D) : rn (n + 1) 29 [a0, a1] = (evSs (Cn n) b_has_find [some (.sh a0), some (.sh a1)]).res := rfl
theorem rn_finds_from (n : Nat) (a0 a1 a2 : D) : rn (n + 1) 30 [a0, a1, a2] = (evSs (Cn n) b_finds_from [some (.sh a0), some (.sh a1), some (.sh a2), none]).res := rfl
theorem rn_law_nodes (n : Nat) (a0 a1 : D) : rn (n + 1) 31 [a0, a1] = (evSs (Cn n) b_law_nodes [some (.sh a0), some (.sh a1), none, none, none]).res := rfl
theorem rn_law_ways (n : Nat) (a0 a1 : D) : rn (n + 1) 32 [a0, a1] = (evSs (Cn n) b_law_ways [some (.sh a0), some (.sh a1), none, none, none, none, none, none, none, none, none, none, none, none]).res := rfl
theorem rn_law_finds (n : Nat) (a0 a1 : D) : rn (n + 1) 33 [a0, a1] = (evSs (Cn n) b_law_finds [some (.sh a0), some (.sh a1), none]).res := rfl
theorem rn_law_plain (n : Nat) (a0 : D) : rn (n + 1) 34 [a0] = (evSs (Cn n) b_law_plain [some (.sh a0), none, none, none, none, none, none, none, none, none]).res := rfl
theorem rn_law_told_k03 (n : Nat) (a0 a1 a2 : D) : rn (n + 1) 35 [a0, a1, a2] = caught 0 (evSs (Cn n) b_law_told_k03 [some (.sh a0), some (.sh a1), some (.sh a2), none]).res := rfl
theorem rn_law_bare (n : Nat) (a0 : D) : rn (n + 1) 36 [a0] = (evSs (Cn n) b_law_bare [some (.sh a0), none, none, none]).res := rfl
theorem rn_law_turned (n : Nat) (a0 : D) : rn (n + 1) 37 [a0] = (evSs (Cn n) b_law_turned [some (.sh a0), none]).res := rfl
theorem rn_law_leads (n : Nat) (a0 a1 a2 a3 : D) : rn (n + 1) 38 [a0, a1, a2, a3] = (evSs (Cn n) b_law_leads [some (.sh a0), some (.sh a1), some (.sh a2), some (.sh a3), none, none, none, none, none]).res := rfl
theorem rn_last_number (n : Nat) (a0 : D) : rn (n + 1) 39 [a0] = (evSs (Cn n) b_last_number [some (.sh a0)]).res := rfl
theorem rn_comes_back (n : Nat) (a0 a1 a2 : D) : rn (n + 1) 40 [a0, a1, a2] = (evSs (Cn n) b_comes_back [some (.sh a0), some (.sh a1), some (.sh a2), none]).res := rfl
theorem rn_fits (n : Nat) (a0 a1 a2 a3 a4 : D) : rn (n + 1) 41 [a0, a1, a2, a3, a4] = (evSs (Cn n) b_fits [some (.sh a0), some (.sh a1), some (.sh a2), some (.sh a3), some (.sh a4), none, none, none, none]).res := rfl
theorem rn_leadings_from (n : Nat) (a0 a1 a2 a3 : D) : rn (n + 1) 42 [a0, a1, a2, a3] = (evSs (Cn n) b_leadings_from [some (.sh a0), some (.sh a1), some (.sh a2), some (.sh a3), none, none, none]).res := rfl
theorem rn_leading (n : Nat) (a0 a1 : D) : rn (n + 1) 43 [a0, a1] = (evSs (Cn n) b_leading [some (.sh a0), some (.sh a1)]).res := rfl
theorem rn_is_leading (n : Nat) (a0 a1 a2 : D) : rn (n + 1) 44 [a0, a1, a2] = (evSs (Cn n) b_is_leading [some (.sh a0), some (.sh a1), some (.sh a2), none, none, none, none]).res := rfl
theorem rn_is_within (n : Nat) (a0 a1 : D) : rn (n + 1) 45 [a0, a1] = (evSs (Cn n) b_is_within [some (.sh a0), some (.sh a1)]).res := rfl
theorem rn_law_is_within (n : Nat) (a0 a1 : D) : rn (n + 1) 46 [a0, a1] = (evSs (Cn n) b_law_is_within [some (.sh a0), some (.sh a1), none, none]).res := rfl
theorem rn_law_last (n : Nat) (a0 : D) : rn (n + 1) 47 [a0] = (evSs (Cn n) b_law_last [some (.sh a0), none]).res := rfl
theorem rn_law_is_leading (n : Nat) (a0 a1 a2 : D) : rn (n + 1) 48 [a0, a1, a2] = (evSs (Cn n) b_law_is_leading [some (.sh a0), some (.sh a1), some (.sh a2), none, none, none, none, none, none, none, none, none, none]).res := rfl
theorem rn_law_near (n : Nat) (a0 a1 : D) : rn (n + 1) 49 [a0, a1] = (evSs (Cn n) b_law_near [some (.sh a0), some (.sh a1), none, none, none, none, none, none]).res := rfl
theorem rn_law_short_near (n : Nat) (a0 a1 : D) : rn (n + 1) 50 [a0, a1] = (evSs (Cn n) b_law_short_near [some (.sh a0), some (.sh a1)]).res := rfl
theorem rn_grown (n : Nat) (a0 a1 a2 : D) : rn (n + 1) 51 [a0, a1, a2] = (evSs (Cn n) b_grown [some (.sh a0), some (.sh a1), some (.sh a2), none, none, none, none, none, none]).res := rfl
theorem rn_plain_tree (n : Nat) (a0 : D) : rn (n + 1) 52 [a0] = (evSs (Cn n) b_plain_tree [some (.sh a0), none, none, none]).res := rfl
theorem rn_parting (n : Nat) (a0 a1 : D) : rn (n + 1) 53 [a0, a1] = (evSs (Cn n) b_parting [some (.sh a0), some (.sh a1)]).res := rfl
theorem rn_is_parting (n : Nat) (a0 a1 a2 : D) : rn (n + 1) 54 [a0, a1, a2] = (evSs (Cn n) b_is_parting [some (.sh a0), some (.sh a1), some (.sh a2), none, none, none]).res := rfl
theorem rn_law_is_tree (n : Nat) (a0 : D) : rn (n + 1) 55 [a0] = (evSs (Cn n) b_law_is_tree [some (.sh a0), none]).res := rfl
theorem rn_law_parts (n : Nat) (a0 a1 a2 : D) : rn (n + 1) 56 [a0, a1, a2] = (evSs (Cn n) b_law_parts [some (.sh a0), some (.sh a1), some (.sh a2), none]).res := rfl
theorem rn_rows_of_trees (n : Nat) (a0 : D) : rn (n + 1) 57 [a0] = (evSs (Cn n) b_rows_of_trees [some (.sh a0), none, none, none, none, none]).res := rfl
theorem rn_trees_of (n : Nat) (a0 : D) : rn (n + 1) 58 [a0] = (evSs (Cn n) b_trees_of [some (.sh a0), none, none, none]).res := rfl
theorem rn_least_tree (n : Nat) (a0 a1 a2 : D) : rn (n + 1) 59 [a0, a1, a2] = (evSs (Cn n) b_least_tree [some (.sh a0), some (.sh a1), some (.sh a2), none, none, none, none]).res := rfl
theorem rn_law_all_trees (n : Nat) (a0 : D) : rn (n + 1) 60 [a0] = (evSs (Cn n) b_law_all_trees [some (.sh a0), none, none, none, none, none]).res := rfl
theorem rn_are_alike (n : Nat) (a0 a1 : D) : rn (n + 1) 61 [a0, a1] = (evSs (Cn n) b_are_alike [some (.sh a0), some (.sh a1)]).res := rfl
theorem rn_cut_tests (n : Nat) (a0 : D) : rn (n + 1) 62 [a0] = (evSs (Cn n) b_cut_tests [some (.sh a0), none, none, none, none, none]).res := rfl
theorem rn_cut_paths (n : Nat) (a0 : D) : rn (n + 1) 63 [a0] = (evSs (Cn n) b_cut_paths [some (.sh a0), none, none, none, none]).res := rfl
theorem rn_one_step (n : Nat) (a0 : D) : rn (n + 1) 64 [a0] = (evSs (Cn n) b_one_step [some (.sh a0), none, none, none]).res := rfl
theorem rn_short (n : Nat) (a0 : D) : rn (n + 1) 66 [a0] = (evSs (Cn n) b_short [some (.sh a0), none, none, none, none, none, none]).res := rfl
theorem rn_law_less (n : Nat) (a0 : D) : rn (n + 1) 67 [a0] = (evSs (Cn n) b_law_less [some (.sh a0), none, none, none, none, none, none, none, none, none, none]).res := rfl
theorem rn_law_sorted (n : Nat) (a0 : D) : rn (n + 1) 68 [a0] = (evSs (Cn n) b_law_sorted [some (.sh a0), none, none, none]).res := rfl
theorem rn_law_tests (n : Nat) (a0 : D) : rn (n + 1) 69 [a0] = (evSs (Cn n) b_law_tests [some (.sh a0), none, none, none, none, none, none]).res := rfl
theorem rn_law_short (n : Nat) (a0 : D) : rn (n + 1) 70 [a0] = (evSs (Cn n) b_law_short [some (.sh a0), none, none]).res := rfl
theorem rn_law_otherwise (n : Nat) (a0 : D) : rn (n + 1) 71 [a0] = (evSs (Cn n) b_law_otherwise [some (.sh a0), none, none, none, none, none, none]).res := rfl
theorem rn_law_fits (n : Nat) (a0 : D) : rn (n + 1) 72 [a0] = (evSs (Cn n) b_law_fits [some (.sh a0), none, none, none, none]).res := rfl
theorem rn_law_split (n : Nat) (a0 : D) : rn (n + 1) 73 [a0] = (evSs (Cn n) b_law_split [some (.sh a0), none, none, none, none, none]).res := rfl
theorem rn_behind (n : Nat) (a0 a1 : D) : rn (n + 1) 74 [a0, a1] = (evSs (Cn n) b_behind [some (.sh a0), some (.sh a1)]).res := rfl
theorem rn_with_test (n : Nat) (a0 a1 : D) : rn (n + 1) 75 [a0, a1] = (evSs (Cn n) b_with_test [some (.sh a0), some (.sh a1), none, none, none]).res := rfl
theorem rn_turned_in (n : Nat) (a0 : D) : rn (n + 1) 76 [a0] = (evSs (Cn n) b_turned_in [some (.sh a0), none, none, none, none]).res := rfl
theorem rn_law_deep (n : Nat) (a0 : D) : rn (n + 1) 77 [a0] = (evSs (Cn n) b_law_deep [some (.sh a0), none, none, none, none, none]).res := rfl
theorem rn_plain_paths (n : Nat) : rn (n + 1) 79 [] = (evSs (Cn n) b_plain_paths [none, none, none, none, none, none, none]).res := rfl
theorem rn_by_finds (n : Nat) (a0 a1 : D) : rn (n + 1) 80 [a0, a1] = (evSs (Cn n) b_by_finds [some (.sh a0), some (.sh a1), none]).res := rfl
theorem rn_law_all_k14 (n : Nat) : rn (n + 1) 82 [] = (evSs (Cn n) b_law_all_k14 [none, none, none, none, none, none, none]).res := rfl
theorem rn_with_kids (n : Nat) (a0 a1 a2 : D) : rn (n + 1) 83 [a0, a1, a2] = (evSs (Cn n) b_with_kids [some (.sh a0), some (.sh a1), some (.sh a2), none, none]).res := rfl
theorem rn_put (n : Nat) (a0 a1 a2 : D) : rn (n + 1) 84 [a0, a1, a2] = (evSs (Cn n) b_put [some (.sh a0), some (.sh a1), some (.sh a2)]).res := rfl
theorem rn_cut (n : Nat) (a0 a1 : D) : rn (n + 1) 85 [a0, a1] = (evSs (Cn n) b_cut [some (.sh a0), some (.sh a1), none]).res := rfl
theorem rn_come (n : Nat) (a0 a1 a2 a3 : D) : rn (n + 1) 86 [a0, a1, a2, a3] = (evSs (Cn n) b_come [some (.sh a0), some (.sh a1), some (.sh a2), some (.sh a3), none, none]).res := rfl
theorem rn_called_then (n : Nat) (a0 a1 : D) : rn (n + 1) 87 [a0, a1] = (evSs (Cn n) b_called_then [some (.sh a0), some (.sh a1), none]).res := rfl
theorem rn_gone (n : Nat) (a0 a1 a2 : D) : rn (n + 1) 88 [a0, a1, a2] = (evSs (Cn n) b_gone [some (.sh a0), some (.sh a1), some (.sh a2), none, none]).res := rfl
theorem rn_law_told_k15 (n : Nat) (a0 a1 a2 a3 a4 : D) : rn (n + 1) 89 [a0, a1, a2, a3, a4] = caught 0 (evSs (Cn n) b_law_told_k15 [some (.sh a0), some (.sh a1), some (.sh a2), some (.sh a3), some (.sh a4), none]).res := rfl
theorem rn_law_put (n : Nat) (a0 a1 a2 : D) : rn (n + 1) 90 [a0, a1, a2] = (evSs (Cn n) b_law_put [some (.sh a0), some (.sh a1), some (.sh a2), none, none]).res := rfl
theorem rn_law_cut (n : Nat) (a0 a1 : D) : rn (n + 1) 91 [a0, a1] = (evSs (Cn n) b_law_cut [some (.sh a0), some (.sh a1), none, none]).res := rfl
theorem rn_tree_text (n : Nat) (a0 : D) : rn (n + 1) 93 [a0] = (evSs (Cn n) b_tree_text [some (.sh a0), none]).res := rfl
theorem rn_law_path_text (n : Nat) (a0 : D) : rn (n + 1) 96 [a0] = (evSs (Cn n) b_law_path_text [some (.sh a0), none, none, none, none, none]).res := rfl
theorem rn_law_tree_text (n : Nat) (a0 : D) : rn (n + 1) 97 [a0] = (evSs (Cn n) b_law_tree_text [some (.sh a0), none]).res := rfl
theorem rn_law_read (n : Nat) (a0 a1 : D) : rn (n + 1) 98 [a0, a1] = caught 1 (evSs (Cn n) b_law_read [some (.sh a0), some (.sh a1)]).res := rfl
theorem rn_law_told_k18 (n : Nat) (a0 a1 : D) : rn (n + 1) 99 [a0, a1] = caught 0 (evSs (Cn n) b_law_told_k18 [some (.sh a0), some (.sh a1), none]).res := rfl
theorem rn_law_path_at (n : Nat) (a0 a1 : D) : rn (n + 1) 100 [a0, a1] = (evSs (Cn n) b_law_path_at [some (.sh a0), some (.sh a1), none, none, none, none, none]).res := rfl
theorem rn_law_tree_at (n : Nat) (a0 a1 : D) : rn (n + 1) 101 [a0, a1] = (evSs (Cn n) b_law_tree_at [some (.sh a0), some (.sh a1), none, none, none]).res := rfl
theorem rn_law_due (n : Nat) (a0 a1 : D) : rn (n + 1) 102 [a0, a1] = (evSs (Cn n) b_law_due [some (.sh a0), some (.sh a1), none, none]).res := rfl
end Tf
namespace Tf
open PySem L2
def top (i : Nat) : Stmt := PySem.Challenge.pw_treefinds_k03_finds.main.body.getD i (.Pass ⟨0, 0, 0, 0⟩)
def fnsL : List (Option Str) := [none, none, so "nodes", none, so "tree_at", so "_law_mix", so "_law_same", so "_law_tree", so "_law_path", so "_law_steps", none, so "_law_word", none, none, none, none, none, none, none, none, none, none, so "kids_of", so "all_below", so "places", so "by_step", so "ways_from", so "ways", so "finds", so "has_find", so "finds_from", so "_law_nodes", so "_law_ways", so "_law_finds", so "_law_plain", so "_law_told", none, none, none, none, none, none, none, none, none, none, none, none, none, none, none, none, none, none, none, none, none, none, none, none, none, none, none, none, none, none, none, none, none, none, none, none, none, none, none, none, none, none, none, none, none, none, none, none, none, none, none, none, none, none, none, none, none, none, none, none, none, none, none, none, none, none, none]
def glsL : List (Option Str) := [none, none, none, none, none]
def xcsL : List (Option Str) := [so "NoNode", so "NoText"]
def ck (N : List Str) : Ck := ⟨N, fnsL, glsL, xcsL, none⟩
theorem sc_nodes : FnScope N_nodes P_nodes (defScope (top 5)) := ⟨rfl, rfl, rfl, by decide +kernel, rfl, by decide +kernel, by decide +kernel⟩
theorem ch_nodes : chkSs (ck N_nodes) f_nodes.body (defScope (top 5)) (fun _ => true) (defBody (top 5)) = true := by decide +kernel
theorem sc_tree_at : FnScope N_tree_at P_tree_at (defScope (top 6)) := ⟨rfl, rfl, rfl, by decide +kernel, rfl, by decide +kernel, by decide +kernel⟩
theorem ch_tree_at : chkSs (ck N_tree_at) f_tree_at.body (defScope (top 6)) (fun _ => true) (defBody (top 6)) = true := by decide +kernel
theorem sc_kids_of : FnScope N_kids_of P_kids_of (defScope (top 7)) := ⟨rfl, rfl, rfl, by decide +kernel, rfl, by decide +kernel, by decide +kernel⟩
theorem ch_kids_of : chkSs (ck N_kids_of) f_kids_of.body (defScope (top 7)) (fun _ => true) (defBody (top 7)) = true := by decide +kernel
theorem sc_all_below : FnScope N_all_below P_all_below (defScope (top 8)) := ⟨rfl, rfl, rfl, by decide +kernel, rfl, by decide +kernel, by decide +kernel⟩
theorem ch_all_below : chkSs (ck N_all_below) f_all_below.body (defScope (top 8)) (fun _ => true) (defBody (top 8)) = true := by decide +kernel
theorem sc_places : FnScope N_places P_places (defScope (top 10)) := ⟨rfl, rfl, rfl, by decide +kernel, rfl, by decide +kernel, by decide +kernel⟩
theorem ch_places : chkSs (ck N_places) f_places.body (defScope (top 10)) (fun _ => true) (defBody (top 10)) = true := by decide +kernel
theorem sc_by_step : FnScope N_by_step P_by_step (defScope (top 11)) := ⟨rfl, rfl, rfl, by decide +kernel, rfl, by decide +kernel, by decide +kernel⟩
theorem ch_by_step : chkSs (ck N_by_step) f_by_step.body (defScope (top 11)) (fun _ => true) (defBody (top 11)) = true := by decide +kernel
theorem sc_ways_from : FnScope N_ways_from P_ways_from (defScope (top 12)) := ⟨rfl, rfl, rfl, by decide +kernel, rfl, by decide +kernel, by decide +kernel⟩
theorem ch_ways_from : chkSs (ck N_ways_from) f_ways_from.body (defScope (top 12)) (fun _ => true) (defBody (top 12)) = true := by decide +kernel
theorem sc_ways : FnScope N_ways P_ways (defScope (top 13)) := ⟨rfl, rfl, rfl, by decide +kernel, rfl, by decide +kernel, by decide +kernel⟩
theorem ch_ways : chkSs (ck N_ways) f_ways.body (defScope (top 13)) (fun _ => true) (defBody (top 13)) = true := by decide +kernel
theorem sc_finds : FnScope N_finds P_finds (defScope (top 14)) := ⟨rfl, rfl, rfl, by decide +kernel, rfl, by decide +kernel, by decide +kernel⟩
theorem ch_finds : chkSs (ck N_finds) f_finds.body (defScope (top 14)) (fun _ => true) (defBody (top 14)) = true := by decide +kernel
theorem sc_has_find : FnScope N_has_find P_has_find (defScope (top 15)) := ⟨rfl, rfl, rfl, by decide +kernel, rfl, by decide +kernel, by decide +kernel⟩
theorem ch_has_find : chkSs (ck N_has_find) f_has_find.body (defScope (top 15)) (fun _ => true) (defBody (top 15)) = true := by decide +kernel
theorem sc_finds_from : FnScope N_finds_from P_finds_from (defScope (top 16)) := ⟨rfl, rfl, rfl, by decide +kernel, rfl, by decide +kernel, by decide +kernel⟩
theorem ch_finds_from : chkSs (ck N_finds_from) f_finds_from.body (defScope (top 16)) (fun _ => true) (defBody (top 16)) = true := by decide +kernel
theorem sc_law_cell : FnScope ["script", "k"] ["script", "k"] (defScope (top 18)) := ⟨rfl, rfl, rfl, by decide +kernel, rfl, by decide +kernel, by decide +kernel⟩
theorem sc_law_mix : FnScope N_law_mix P_law_mix (defScope (top 19)) := ⟨rfl, rfl, rfl, by decide +kernel, rfl, by decide +kernel, by decide +kernel⟩
theorem ch_law_mix : chkSs (ck N_law_mix) f_law_mix.body (defScope (top 19)) (fun _ => true) (defBody (top 19)) = true := by decide +kernel
theorem sc_law_same : FnScope N_law_same P_law_same (defScope (top 20)) := ⟨rfl, rfl, rfl, by decide +kernel, rfl, by decide +kernel, by decide +kernel⟩
theorem ch_law_same : chkSs (ck N_law_same) f_law_same.body (defScope (top 20)) (fun _ => true) (defBody (top 20)) = true := by decide +kernel
theorem sc_law_tree : FnScope N_law_tree P_law_tree (defScope (top 21)) := ⟨rfl, rfl, rfl, by decide +kernel, rfl, by decide +kernel, by decide +kernel⟩
theorem ch_law_tree : chkSs (ck N_law_tree) f_law_tree.body (defScope (top 21)) (fun _ => true) (defBody (top 21)) = true := by decide +kernel
theorem sc_law_path : FnScope N_law_path P_law_path (defScope (top 22)) := ⟨rfl, rfl, rfl, by decide +kernel, rfl, by decide +kernel, by decide +kernel⟩
theorem ch_law_path : chkSs (ck N_law_path) f_law_path.body (defScope (top 22)) (fun _ => true) (defBody (top 22)) = true := by decide +kernel
theorem sc_law_steps : FnScope N_law_steps P_law_steps (defScope (top 23)) := ⟨rfl, rfl, rfl, by decide +kernel, rfl, by decide +kernel, by decide +kernel⟩
theorem ch_law_steps : chkSs (ck N_law_steps) f_law_steps.body (defScope (top 23)) (fun _ => true) (defBody (top 23)) = true := by decide +kernel
theorem sc_law_nodes : FnScope N_law_nodes P_law_nodes (defScope (top 24)) := ⟨rfl, rfl, rfl, by decide +kernel, rfl, by decide +kernel, by decide +kernel⟩
theorem ch_law_nodes : chkSs (ck N_law_nodes) f_law_nodes.body (defScope (top 24)) (fun _ => true) (defBody (top 24)) = true := by decide +kernel
theorem sc_law_ways : FnScope N_law_ways P_law_ways (defScope (top 25)) := ⟨rfl, rfl, rfl, by decide +kernel, rfl, by decide +kernel, by decide +kernel⟩
theorem ch_law_ways : chkSs (ck N_law_ways) f_law_ways.body (defScope (top 25)) (fun _ => true) (defBody (top 25)) = true := by decide +kernel
theorem sc_law_finds : FnScope N_law_finds P_law_finds (defScope (top 26)) := ⟨rfl, rfl, rfl, by decide +kernel, rfl, by decide +kernel, by decide +kernel⟩
theorem ch_law_finds : chkSs (ck N_law_finds) f_law_finds.body (defScope (top 26)) (fun _ => true) (defBody (top 26)) = true := by decide +kernel
theorem sc_law_plain : FnScope N_law_plain P_law_plain (defScope (top 27)) := ⟨rfl, rfl, rfl, by decide +kernel, rfl, by decide +kernel, by decide +kernel⟩
theorem ch_law_plain : chkSs (ck N_law_plain) f_law_plain.body (defScope (top 27)) (fun _ => true) (defBody (top 27)) = true := by decide +kernel
theorem sc_law_word : FnScope ["kept", "kinds"] ["kept"] (defScope (top 28)) := ⟨rfl, rfl, rfl, by decide +kernel, rfl, by decide +kernel, by decide +kernel⟩
theorem sc_law_told_k03 : FnScope N_law_told_k03 P_law_told_k03 (defScope (top 29)) := ⟨rfl, rfl, rfl, by decide +kernel, rfl, by decide +kernel, by decide +kernel⟩
theorem ch_law_told_k03 : chkSs (ck N_law_told_k03) f_law_told_k03.body (defScope (top 29)) (fun _ => true) (tryBody (top 29)) = true := by decide +kernel
def N_law : List Str := ["script", "k", "great", "path", "tree", "cell", "drawn", "some", "due", "node", "part", "here", "j", "kid", "row"]
def P_law : List Str := ["script"]
def b_law_1 : Ss := (.cons (.set 11 (.lst (.comp (.tup (.cons (.name 12) (.cons (.name 13) .nil))) (.enum (.idx (.var 10) (.con (.int 1)))) .no (.tup (.cons (.bin .Add (.var 9) (.tup (.cons (.var 12) .nil))) (.cons (.var 13) .nil))))))
    (.cons (.set 8 (.bi .tuple (.lst (.sset (.lst (.comp (.name 14) (.seq (.call 32 (.cons (.var 3) (.cons (.var 11) .nil)))) .no (.idx (.var 14) (.neg (.con (.int 1))))))))))
    (.cons (.iff (.not (.call 6 (.cons (.call 35 (.cons (.var 3) (.cons (.var 4) (.cons (.var 9) .nil)))) (.cons (.var 8) .nil)))) (.cons (.ret (.con (.bool false)))
    .nil) .nil)
    .nil)))
def b_law_2 : Ss := (.cons (.set 7 (.call 32 (.cons (.var 3) (.cons (.lst (.disp (.cons (.tup (.cons (.tup .nil) (.cons (.var 4) .nil))) .nil))) .nil))))
    (.cons (.set 8 (.call 33 (.cons (.var 3) (.cons (.var 4) .nil))))
    (.cons (.iff (.not (.call 6 (.cons (.tup (.cons (.call 28 (.cons (.var 3) (.cons (.var 4) .nil))) (.cons (.call 27 (.cons (.var 3) (.cons (.var 4) .nil))) .nil))) (.cons (.tup (.cons (.var 8) (.cons (.bi .tuple (.lst (.srt (.var 7)))) .nil))) .nil)))) (.cons (.ret (.con (.bool false)))
    .nil) .nil)
    (.cons (.iff (.not (.call 6 (.cons (.call 29 (.cons (.var 3) (.cons (.var 4) .nil))) (.cons (.cmp .NotEq (.var 8) (.tup .nil)) .nil)))) (.cons (.ret (.con (.bool false)))
    .nil) .nil)
    (.cons (.for_ (.tup (.cons (.name 9) (.cons (.name 10) .nil))) (.seq (.call 31 (.cons (.var 4) (.cons (.tup .nil) .nil)))) b_law_1)
    (.cons (.iff (.cmp .NotEq (.call 35 (.cons (.var 3) (.cons (.var 4) (.cons (.tup (.cons (.con (.int 20)) .nil)) .nil)))) (.con (.str "no node"))) (.cons (.ret (.con (.bool false)))
    .nil) .nil)
    .nil))))))
def b_law_3 : Ss := (.cons (.set 5 (.bin .Add (.cell 0 (.bin .Mod (.var 1) (.con (.int 9)))) (.bin .Mult (.con (.int 31)) (.var 1))))
    (.cons (.set 3 (.call 8 (.cons (.var 5) (.cons (.bin .Add (.con (.int 1)) (.call 5 (.cons (.var 5) (.cons (.con (.int 9887)) (.cons (.con (.int 7)) .nil))))) .nil))))
    (.cons (.set 6 (.call 7 (.cons (.bin .Add (.cell 0 (.con (.int 9))) (.bin .Mult (.con (.int 7)) (.var 1))) (.cons (.con (.int 10)) .nil))))
    (.cons (.for_ (.name 4) (.seq (.tup (.cons (.var 6) (.cons (.idx (.call 34 (.cons (.var 3) .nil)) (.con (.int 0))) (.cons (.tup (.cons (.con (.str "a")) (.cons (.tup (.cons (.idx (.call 34 (.cons (.var 3) .nil)) (.con (.int 0))) (.cons (.var 6) .nil))) .nil))) .nil))))) b_law_2)
    .nil))))
def b_law : Ss := (.cons (.for_ (.name 1) (.rng1 (.con (.int 10))) b_law_3)
    (.cons (.set 2 (.call 7 (.cons (.cell 0 (.con (.int 8))) (.cons (.con (.int 30)) .nil))))
    (.cons (.set 3 (.call 8 (.cons (.cell 0 (.con (.int 7))) (.cons (.con (.int 3)) .nil))))
    (.cons (.iff (.not (.call 6 (.cons (.call 28 (.cons (.var 3) (.cons (.var 2) .nil))) (.cons (.call 33 (.cons (.var 3) (.cons (.var 2) .nil))) .nil)))) (.cons (.ret (.con (.bool false)))
    .nil) .nil)
    (.cons (.set 3 (.tup (.cons (.tup (.cons (.con (.str "deep")) (.cons (.con (.str "a")) (.cons (.tup (.cons (.tup (.cons (.tup (.cons (.con (.str "in")) (.cons (.con (.str "b")) (.cons (.tup .nil) .nil)))) .nil)) .nil)) .nil)))) (.cons (.tup (.cons (.con (.str "deep")) (.cons (.con (.str "c")) (.cons (.tup .nil) .nil)))) .nil))))
    (.cons (.set 4 (.tup (.cons (.con (.str "a")) (.cons (.tup (.cons (.tup (.cons (.con (.str "b")) (.cons (.tup .nil) .nil))) (.cons (.tup (.cons (.con (.str "a")) (.cons (.tup (.cons (.tup (.cons (.con (.str "c")) (.cons (.tup .nil) .nil))) .nil)) .nil))) .nil))) .nil))))
    (.cons (.ret (.and (.cmp .Eq (.call 28 (.cons (.var 3) (.cons (.var 4) .nil))) (.tup (.cons (.tup (.cons (.con (.int 1)) (.cons (.con (.int 0)) .nil))) .nil))) (.cmp .Eq (.call 27 (.cons (.var 3) (.cons (.var 4) .nil))) (.tup (.cons (.tup (.cons (.tup .nil) (.cons (.tup (.cons (.con (.int 1)) (.cons (.con (.int 0)) .nil))) .nil))) .nil)))))
    .nil)))))))
def f_law : Fn := ⟨1, 15, b_law⟩
theorem sc_law : FnScope N_law P_law (defScope (top 30)) := ⟨rfl, rfl, rfl, by decide +kernel, rfl, by decide +kernel, by decide +kernel⟩
theorem ch_law : chkSs (ck N_law) f_law.body (defScope (top 30)) (fun _ => true) (defBody (top 30)) = true := by decide +kernel
end Tf
namespace Tf
open PySem L2
theorem all_mk {l : PySem.W.OpenLaw} {w : World} {K : PySem.W.Frag} {h : Heap} {mg : Str → Option Value} {fa : Addr} (X : K.In h) (G : h.Ns mainGlobals mg) (hfa : mg "law" = some (.ref fa))
    (law_run : ∀ ns : List Int, ns.length ≤ 63 → (evSs (Cn LV) f_law.body (start0 f_law [some (.scr ns)])).res = .ok (.bool true))
    {f0 : Addr} {od0 an0 : Option Addr} {sl0 : Array (Option Value)} {oc0 kV0 dc0 pm0 cd0 ct0 : Value}
    (a0 : PySem.W.nsIn K mainGlobals "nodes" = some (some (.ref f0))) (l0 : K.lookup f0 = some ⟨oc0, od0, .func (PySem.W.fnOf "nodes" "nodes" (defArgs (top 5)) (defBody (top 5)) (defScope (top 5)) .none kV0 dc0 pm0 an0 cd0 ct0), sl0⟩) (c0 : PySem.W.codeIn K cd0 "nodes" = true) (k0 : PySem.W.keepIn K (.ref f0) = true)
    {f1 : Addr} {od1 an1 : Option Addr} {sl1 : Array (Option Value)} {oc1 kV1 dc1 pm1 cd1 ct1 : Value}
    (a1 : PySem.W.nsIn K mainGlobals "tree_at" = some (some (.ref f1))) (l1 : K.lookup f1 = some ⟨oc1, od1, .func (PySem.W.fnOf "tree_at" "tree_at" (defArgs (top 6)) (defBody (top 6)) (defScope (top 6)) .none kV1 dc1 pm1 an1 cd1 ct1), sl1⟩) (c1 : PySem.W.codeIn K cd1 "tree_at" = true) (k1 : PySem.W.keepIn K (.ref f1) = true)
    {f2 : Addr} {od2 an2 : Option Addr} {sl2 : Array (Option Value)} {oc2 kV2 dc2 pm2 cd2 ct2 : Value}
    (a2 : PySem.W.nsIn K mainGlobals "kids_of" = some (some (.ref f2))) (l2 : K.lookup f2 = some ⟨oc2, od2, .func (PySem.W.fnOf "kids_of" "kids_of" (defArgs (top 7)) (defBody (top 7)) (defScope (top 7)) .none kV2 dc2 pm2 an2 cd2 ct2), sl2⟩) (c2 : PySem.W.codeIn K cd2 "kids_of" = true) (k2 : PySem.W.keepIn K (.ref f2) = true)
    {f3 : Addr} {od3 an3 : Option Addr} {sl3 : Array (Option Value)} {oc3 kV3 dc3 pm3 cd3 ct3 : Value}
    (a3 : PySem.W.nsIn K mainGlobals "all_below" = some (some (.ref f3))) (l3 : K.lookup f3 = some ⟨oc3, od3, .func (PySem.W.fnOf "all_below" "all_below" (defArgs (top 8)) (defBody (top 8)) (defScope (top 8)) .none kV3 dc3 pm3 an3 cd3 ct3), sl3⟩) (c3 : PySem.W.codeIn K cd3 "all_below" = true) (k3 : PySem.W.keepIn K (.ref f3) = true)
    {f4 : Addr} {od4 an4 : Option Addr} {sl4 : Array (Option Value)} {oc4 kV4 dc4 pm4 cd4 ct4 : Value}
    (a4 : PySem.W.nsIn K mainGlobals "places" = some (some (.ref f4))) (l4 : K.lookup f4 = some ⟨oc4, od4, .func (PySem.W.fnOf "places" "places" (defArgs (top 10)) (defBody (top 10)) (defScope (top 10)) .none kV4 dc4 pm4 an4 cd4 ct4), sl4⟩) (c4 : PySem.W.codeIn K cd4 "places" = true) (k4 : PySem.W.keepIn K (.ref f4) = true)
    {f5 : Addr} {od5 an5 : Option Addr} {sl5 : Array (Option Value)} {oc5 kV5 dc5 pm5 cd5 ct5 : Value}
    (a5 : PySem.W.nsIn K mainGlobals "by_step" = some (some (.ref f5))) (l5 : K.lookup f5 = some ⟨oc5, od5, .func (PySem.W.fnOf "by_step" "by_step" (defArgs (top 11)) (defBody (top 11)) (defScope (top 11)) .none kV5 dc5 pm5 an5 cd5 ct5), sl5⟩) (c5 : PySem.W.codeIn K cd5 "by_step" = true) (k5 : PySem.W.keepIn K (.ref f5) = true)
    {f6 : Addr} {od6 an6 : Option Addr} {sl6 : Array (Option Value)} {oc6 kV6 dc6 pm6 cd6 ct6 : Value}
    (a6 : PySem.W.nsIn K mainGlobals "ways_from" = some (some (.ref f6))) (l6 : K.lookup f6 = some ⟨oc6, od6, .func (PySem.W.fnOf "ways_from" "ways_from" (defArgs (top 12)) (defBody (top 12)) (defScope (top 12)) .none kV6 dc6 pm6 an6 cd6 ct6), sl6⟩) (c6 : PySem.W.codeIn K cd6 "ways_from" = true) (k6 : PySem.W.keepIn K (.ref f6) = true)
    {f7 : Addr} {od7 an7 : Option Addr} {sl7 : Array (Option Value)} {oc7 kV7 dc7 pm7 cd7 ct7 : Value}
    (a7 : PySem.W.nsIn K mainGlobals "ways" = some (some (.ref f7))) (l7 : K.lookup f7 = some ⟨oc7, od7, .func (PySem.W.fnOf "ways" "ways" (defArgs (top 13)) (defBody (top 13)) (defScope (top 13)) .none kV7 dc7 pm7 an7 cd7 ct7), sl7⟩) (c7 : PySem.W.codeIn K cd7 "ways" = true) (k7 : PySem.W.keepIn K (.ref f7) = true)
    {f8 : Addr} {od8 an8 : Option Addr} {sl8 : Array (Option Value)} {oc8 kV8 dc8 pm8 cd8 ct8 : Value}
    (a8 : PySem.W.nsIn K mainGlobals "finds" = some (some (.ref f8))) (l8 : K.lookup f8 = some ⟨oc8, od8, .func (PySem.W.fnOf "finds" "finds" (defArgs (top 14)) (defBody (top 14)) (defScope (top 14)) .none kV8 dc8 pm8 an8 cd8 ct8), sl8⟩) (c8 : PySem.W.codeIn K cd8 "finds" = true) (k8 : PySem.W.keepIn K (.ref f8) = true)
    {f9 : Addr} {od9 an9 : Option Addr} {sl9 : Array (Option Value)} {oc9 kV9 dc9 pm9 cd9 ct9 : Value}
    (a9 : PySem.W.nsIn K mainGlobals "has_find" = some (some (.ref f9))) (l9 : K.lookup f9 = some ⟨oc9, od9, .func (PySem.W.fnOf "has_find" "has_find" (defArgs (top 15)) (defBody (top 15)) (defScope (top 15)) .none kV9 dc9 pm9 an9 cd9 ct9), sl9⟩) (c9 : PySem.W.codeIn K cd9 "has_find" = true) (k9 : PySem.W.keepIn K (.ref f9) = true)
    {f10 : Addr} {od10 an10 : Option Addr} {sl10 : Array (Option Value)} {oc10 kV10 dc10 pm10 cd10 ct10 : Value}
    (a10 : PySem.W.nsIn K mainGlobals "finds_from" = some (some (.ref f10))) (l10 : K.lookup f10 = some ⟨oc10, od10, .func (PySem.W.fnOf "finds_from" "finds_from" (defArgs (top 16)) (defBody (top 16)) (defScope (top 16)) .none kV10 dc10 pm10 an10 cd10 ct10), sl10⟩) (c10 : PySem.W.codeIn K cd10 "finds_from" = true) (k10 : PySem.W.keepIn K (.ref f10) = true)
    {f11 : Addr} {od11 an11 : Option Addr} {sl11 : Array (Option Value)} {oc11 kV11 dc11 pm11 cd11 ct11 : Value}
    (a11 : PySem.W.nsIn K mainGlobals "_law_cell" = some (some (.ref f11))) (l11 : K.lookup f11 = some ⟨oc11, od11, .func (PySem.W.fnOf "_law_cell" "_law_cell" (defArgs (top 18)) (defBody (top 18)) (defScope (top 18)) .none kV11 dc11 pm11 an11 cd11 ct11), sl11⟩) (c11 : PySem.W.codeIn K cd11 "_law_cell" = true) (k11 : PySem.W.keepIn K (.ref f11) = true)
    {f12 : Addr} {od12 an12 : Option Addr} {sl12 : Array (Option Value)} {oc12 kV12 dc12 pm12 cd12 ct12 : Value}
    (a12 : PySem.W.nsIn K mainGlobals "_law_mix" = some (some (.ref f12))) (l12 : K.lookup f12 = some ⟨oc12, od12, .func (PySem.W.fnOf "_law_mix" "_law_mix" (defArgs (top 19)) (defBody (top 19)) (defScope (top 19)) .none kV12 dc12 pm12 an12 cd12 ct12), sl12⟩) (c12 : PySem.W.codeIn K cd12 "_law_mix" = true) (k12 : PySem.W.keepIn K (.ref f12) = true)
    {f13 : Addr} {od13 an13 : Option Addr} {sl13 : Array (Option Value)} {oc13 kV13 dc13 pm13 cd13 ct13 : Value}
    (a13 : PySem.W.nsIn K mainGlobals "_law_same" = some (some (.ref f13))) (l13 : K.lookup f13 = some ⟨oc13, od13, .func (PySem.W.fnOf "_law_same" "_law_same" (defArgs (top 20)) (defBody (top 20)) (defScope (top 20)) .none kV13 dc13 pm13 an13 cd13 ct13), sl13⟩) (c13 : PySem.W.codeIn K cd13 "_law_same" = true) (k13 : PySem.W.keepIn K (.ref f13) = true)
    {f14 : Addr} {od14 an14 : Option Addr} {sl14 : Array (Option Value)} {oc14 kV14 dc14 pm14 cd14 ct14 : Value}
    (a14 : PySem.W.nsIn K mainGlobals "_law_tree" = some (some (.ref f14))) (l14 : K.lookup f14 = some ⟨oc14, od14, .func (PySem.W.fnOf "_law_tree" "_law_tree" (defArgs (top 21)) (defBody (top 21)) (defScope (top 21)) .none kV14 dc14 pm14 an14 cd14 ct14), sl14⟩) (c14 : PySem.W.codeIn K cd14 "_law_tree" = true) (k14 : PySem.W.keepIn K (.ref f14) = true)
    {f15 : Addr} {od15 an15 : Option Addr} {sl15 : Array (Option Value)} {oc15 kV15 dc15 pm15 cd15 ct15 : Value}
    (a15 : PySem.W.nsIn K mainGlobals "_law_path" = some (some (.ref f15))) (l15 : K.lookup f15 = some ⟨oc15, od15, .func (PySem.W.fnOf "_law_path" "_law_path" (defArgs (top 22)) (defBody (top 22)) (defScope (top 22)) .none kV15 dc15 pm15 an15 cd15 ct15), sl15⟩) (c15 : PySem.W.codeIn K cd15 "_law_path" = true) (k15 : PySem.W.keepIn K (.ref f15) = true)
    {f16 : Addr} {od16 an16 : Option Addr} {sl16 : Array (Option Value)} {oc16 kV16 dc16 pm16 cd16 ct16 : Value}
    (a16 : PySem.W.nsIn K mainGlobals "_law_steps" = some (some (.ref f16))) (l16 : K.lookup f16 = some ⟨oc16, od16, .func (PySem.W.fnOf "_law_steps" "_law_steps" (defArgs (top 23)) (defBody (top 23)) (defScope (top 23)) .none kV16 dc16 pm16 an16 cd16 ct16), sl16⟩) (c16 : PySem.W.codeIn K cd16 "_law_steps" = true) (k16 : PySem.W.keepIn K (.ref f16) = true)
    {f17 : Addr} {od17 an17 : Option Addr} {sl17 : Array (Option Value)} {oc17 kV17 dc17 pm17 cd17 ct17 : Value}
    (a17 : PySem.W.nsIn K mainGlobals "_law_nodes" = some (some (.ref f17))) (l17 : K.lookup f17 = some ⟨oc17, od17, .func (PySem.W.fnOf "_law_nodes" "_law_nodes" (defArgs (top 24)) (defBody (top 24)) (defScope (top 24)) .none kV17 dc17 pm17 an17 cd17 ct17), sl17⟩) (c17 : PySem.W.codeIn K cd17 "_law_nodes" = true) (k17 : PySem.W.keepIn K (.ref f17) = true)
    {f18 : Addr} {od18 an18 : Option Addr} {sl18 : Array (Option Value)} {oc18 kV18 dc18 pm18 cd18 ct18 : Value}
    (a18 : PySem.W.nsIn K mainGlobals "_law_ways" = some (some (.ref f18))) (l18 : K.lookup f18 = some ⟨oc18, od18, .func (PySem.W.fnOf "_law_ways" "_law_ways" (defArgs (top 25)) (defBody (top 25)) (defScope (top 25)) .none kV18 dc18 pm18 an18 cd18 ct18), sl18⟩) (c18 : PySem.W.codeIn K cd18 "_law_ways" = true) (k18 : PySem.W.keepIn K (.ref f18) = true)
    {f19 : Addr} {od19 an19 : Option Addr} {sl19 : Array (Option Value)} {oc19 kV19 dc19 pm19 cd19 ct19 : Value}
    (a19 : PySem.W.nsIn K mainGlobals "_law_finds" = some (some (.ref f19))) (l19 : K.lookup f19 = some ⟨oc19, od19, .func (PySem.W.fnOf "_law_finds" "_law_finds" (defArgs (top 26)) (defBody (top 26)) (defScope (top 26)) .none kV19 dc19 pm19 an19 cd19 ct19), sl19⟩) (c19 : PySem.W.codeIn K cd19 "_law_finds" = true) (k19 : PySem.W.keepIn K (.ref f19) = true)
    {f20 : Addr} {od20 an20 : Option Addr} {sl20 : Array (Option Value)} {oc20 kV20 dc20 pm20 cd20 ct20 : Value}
    (a20 : PySem.W.nsIn K mainGlobals "_law_plain" = some (some (.ref f20))) (l20 : K.lookup f20 = some ⟨oc20, od20, .func (PySem.W.fnOf "_law_plain" "_law_plain" (defArgs (top 27)) (defBody (top 27)) (defScope (top 27)) .none kV20 dc20 pm20 an20 cd20 ct20), sl20⟩) (c20 : PySem.W.codeIn K cd20 "_law_plain" = true) (k20 : PySem.W.keepIn K (.ref f20) = true)
    {f21 : Addr} {od21 an21 : Option Addr} {sl21 : Array (Option Value)} {oc21 kV21 dc21 pm21 cd21 ct21 : Value}
    (a21 : PySem.W.nsIn K mainGlobals "_law_word" = some (some (.ref f21))) (l21 : K.lookup f21 = some ⟨oc21, od21, .func (PySem.W.fnOf "_law_word" "_law_word" (defArgs (top 28)) (defBody (top 28)) (defScope (top 28)) .none kV21 dc21 pm21 an21 cd21 ct21), sl21⟩) (c21 : PySem.W.codeIn K cd21 "_law_word" = true) (k21 : PySem.W.keepIn K (.ref f21) = true)
    {f22 : Addr} {od22 an22 : Option Addr} {sl22 : Array (Option Value)} {oc22 kV22 dc22 pm22 cd22 ct22 : Value}
    (a22 : PySem.W.nsIn K mainGlobals "_law_told" = some (some (.ref f22))) (l22 : K.lookup f22 = some ⟨oc22, od22, .func (PySem.W.fnOf "_law_told" "_law_told" (defArgs (top 29)) (defBody (top 29)) (defScope (top 29)) .none kV22 dc22 pm22 an22 cd22 ct22), sl22⟩) (c22 : PySem.W.codeIn K cd22 "_law_told" = true) (k22 : PySem.W.keepIn K (.ref f22) = true)
    {f23 : Addr} {od23 an23 : Option Addr} {sl23 : Array (Option Value)} {oc23 kV23 dc23 pm23 cd23 ct23 : Value}
    (a23 : PySem.W.nsIn K mainGlobals "law" = some (some (.ref f23))) (l23 : K.lookup f23 = some ⟨oc23, od23, .func (PySem.W.fnOf "law" "law" (defArgs (top 30)) (defBody (top 30)) (defScope (top 30)) .none kV23 dc23 pm23 an23 cd23 ct23), sl23⟩) (c23 : PySem.W.codeIn K cd23 "law" = true) (k23 : PySem.W.keepIn K (.ref f23) = true)
    (z0 : PySem.W.nsIn K mainGlobals "len" = some none)
    (z1 : PySem.W.nsIn K mainGlobals "all" = some none)
    (z2 : PySem.W.nsIn K mainGlobals "any" = some none)
    (z3 : PySem.W.nsIn K mainGlobals "sum" = some none)
    (z4 : PySem.W.nsIn K mainGlobals "tuple" = some none)
    (z5 : PySem.W.nsIn K mainGlobals "int" = some none)
    (z6 : PySem.W.nsIn K mainGlobals "min" = some none)
    (z7 : PySem.W.nsIn K mainGlobals "list" = some none)
    (z8 : PySem.W.nsIn K mainGlobals "isinstance" = some none)
    (z9 : PySem.W.nsIn K mainGlobals "str" = some none)
    (z10 : PySem.W.nsIn K mainGlobals "bool" = some none)
    (z11 : PySem.W.nsIn K mainGlobals "range" = some none)
    (z12 : PySem.W.nsIn K mainGlobals "enumerate" = some none)
    (z13 : PySem.W.nsIn K mainGlobals "zip" = some none)
    (z14 : PySem.W.nsIn K mainGlobals "sorted" = some none)
    (z15 : PySem.W.nsIn K mainGlobals "set" = some none)
    {xa0 : Addr} (x0 : PySem.W.nsIn K mainGlobals "NoNode" = some (some (.ref xa0))) (xe0 : PySem.W.excIn K xa0 [.type "ValueError", .type "Exception", .type "BaseException", .type "object"] "ValueError.__new__" = true) (xk0 : PySem.W.keepIn K (.ref xa0) = true) (xs0 : PySem.W.subIn K (.ref xa0) (.type "BaseException") = some true) (xq0 : PySem.W.typeIn K (.ref xa0) = some (.type "type"))
    {xa1 : Addr} (x1 : PySem.W.nsIn K mainGlobals "NoText" = some (some (.ref xa1))) (xe1 : PySem.W.excIn K xa1 [.type "ValueError", .type "Exception", .type "BaseException", .type "object"] "ValueError.__new__" = true) (xk1 : PySem.W.keepIn K (.ref xa1) = true) (xs1 : PySem.W.subIn K (.ref xa1) (.type "BaseException") = some true) (xq1 : PySem.W.typeIn K (.ref xa1) = some (.type "type"))
    {xt : Addr} (xt0 : PySem.W.nsIn K mainGlobals "TreeError" = some (some (.ref xt))) (xt1 : PySem.W.subIn K (.ref xt) (.type "BaseException") = some true) (xt2 : PySem.W.hasDictIn K xt = true) (xt3 : PySem.W.typeIn K (.ref xt) = some (.type "type"))
    (xu0 : PySem.W.subIn K (.ref xa0) (.ref xt) = some true)
    (xu1 : PySem.W.subIn K (.ref xa1) (.ref xt) = some true)
    (zv : PySem.W.nsIn K mainGlobals "ValueError" = some none) (sp : PySem.W.specialIn K (.builtin "object.__class__") "__get__" = some (some (.builtin "getset_descriptor.__get__"))) (tn : PySem.W.takesIn K (.builtin "object.__class__") = some true)
    (v00 : PySem.W.findIn K (.ref xa0) "__getattribute__" = some (some (.builtin "BaseException.__getattribute__"))) (v01 : PySem.W.findIn K (.ref xa0) "__getattr__" = some none) (v02 : PySem.W.hasDictIn K xa0 = true) (v03 : PySem.W.findIn K (.ref xa0) "__class__" = some (some (.builtin "object.__class__"))) (v04 : PySem.W.mroIn K xa0 (.type "object") = some true) (v05 : PySem.W.subIn K (.ref xa0) (.type "ValueError") = some true)
    (v10 : PySem.W.findIn K (.ref xa1) "__getattribute__" = some (some (.builtin "BaseException.__getattribute__"))) (v11 : PySem.W.findIn K (.ref xa1) "__getattr__" = some none) (v12 : PySem.W.hasDictIn K xa1 = true) (v13 : PySem.W.findIn K (.ref xa1) "__class__" = some (some (.builtin "object.__class__"))) (v14 : PySem.W.mroIn K xa1 (.type "object") = some true) (v15 : PySem.W.subIn K (.ref xa1) (.type "ValueError") = some true)
    (s00 : PySem.W.subIn K (.ref xa0) (.ref xa0) = some true) (s01 : PySem.W.subIn K (.ref xa0) (.ref xa1) = some false) (s10 : PySem.W.subIn K (.ref xa1) (.ref xa0) = some false)
    : ∃ fd : FuncData, (∀ (s : Shared) (v : Value), BindsTo s fd ⟨[v], []⟩ [("script", v)]) ∧ ∀ base : Heap, K.In base → base.Ns mainGlobals mg → FnOk l.prog w K mg base (L2.CX l.prog w) (LV + 2) fa fd ["script"] (spLaw K) := by
  have e := hfa.symm.trans (PySem.W.mg_of X G a23)
  cases e
  have FL := fun_mk (st := top 30) l23 c23 k23
  refine ⟨PySem.W.fnOf "law" "law" (defArgs (top 30)) (defBody (top 30)) (defScope (top 30)) .none kV23 dc23 pm23 an23 cd23 ct23, fun s v => .of_eq rfl, fun base _ _ => ?_⟩
  have D0 : DefAt K mg "nodes" (top 5) P_nodes := defAt_mk X G a0 l0 c0 k0 fun _ _ _ _ _ _ us hl => match us, hl with | [_], _ => rfl
  have D1 : DefAt K mg "tree_at" (top 6) P_tree_at := defAt_mk X G a1 l1 c1 k1 fun _ _ _ _ _ _ us hl => match us, hl with | [_, _], _ => rfl
  have D2 : DefAt K mg "kids_of" (top 7) P_kids_of := defAt_mk X G a2 l2 c2 k2 fun _ _ _ _ _ _ us hl => match us, hl with | [_, _], _ => rfl
  have D3 : DefAt K mg "all_below" (top 8) P_all_below := defAt_mk X G a3 l3 c3 k3 fun _ _ _ _ _ _ us hl => match us, hl with | [_, _], _ => rfl
  have D4 : DefAt K mg "places" (top 10) P_places := defAt_mk X G a4 l4 c4 k4 fun _ _ _ _ _ _ us hl => match us, hl with | [_, _, _], _ => rfl
  have D5 : DefAt K mg "by_step" (top 11) P_by_step := defAt_mk X G a5 l5 c5 k5 fun _ _ _ _ _ _ us hl => match us, hl with | [_, _, _], _ => rfl
  have D6 : DefAt K mg "ways_from" (top 12) P_ways_from := defAt_mk X G a6 l6 c6 k6 fun _ _ _ _ _ _ us hl => match us, hl with | [_, _, _], _ => rfl
  have D7 : DefAt K mg "ways" (top 13) P_ways := defAt_mk X G a7 l7 c7 k7 fun _ _ _ _ _ _ us hl => match us, hl with | [_, _], _ => rfl
  have D8 : DefAt K mg "finds" (top 14) P_finds := defAt_mk X G a8 l8 c8 k8 fun _ _ _ _ _ _ us hl => match us, hl with | [_, _], _ => rfl
  have D9 : DefAt K mg "has_find" (top 15) P_has_find := defAt_mk X G a9 l9 c9 k9 fun _ _ _ _ _ _ us hl => match us, hl with | [_, _], _ => rfl
  have D10 : DefAt K mg "finds_from" (top 16) P_finds_from := defAt_mk X G a10 l10 c10 k10 fun _ _ _ _ _ _ us hl => match us, hl with | [_, _, _], _ => rfl
  have D12 : DefAt K mg "_law_mix" (top 19) P_law_mix := defAt_mk X G a12 l12 c12 k12 fun _ _ _ _ _ _ us hl => match us, hl with | [_, _, _], _ => rfl
  have D13 : DefAt K mg "_law_same" (top 20) P_law_same := defAt_mk X G a13 l13 c13 k13 fun _ _ _ _ _ _ us hl => match us, hl with | [_, _], _ => rfl
  have D14 : DefAt K mg "_law_tree" (top 21) P_law_tree := defAt_mk X G a14 l14 c14 k14 fun _ _ _ _ _ _ us hl => match us, hl with | [_, _], _ => rfl
  have D15 : DefAt K mg "_law_path" (top 22) P_law_path := defAt_mk X G a15 l15 c15 k15 fun _ _ _ _ _ _ us hl => match us, hl with | [_, _], _ => rfl
  have D16 : DefAt K mg "_law_steps" (top 23) P_law_steps := defAt_mk X G a16 l16 c16 k16 fun _ _ _ _ _ _ us hl => match us, hl with | [_], _ => rfl
  have D17 : DefAt K mg "_law_nodes" (top 24) P_law_nodes := defAt_mk X G a17 l17 c17 k17 fun _ _ _ _ _ _ us hl => match us, hl with | [_, _], _ => rfl
  have D18 : DefAt K mg "_law_ways" (top 25) P_law_ways := defAt_mk X G a18 l18 c18 k18 fun _ _ _ _ _ _ us hl => match us, hl with | [_, _], _ => rfl
  have D19 : DefAt K mg "_law_finds" (top 26) P_law_finds := defAt_mk X G a19 l19 c19 k19 fun _ _ _ _ _ _ us hl => match us, hl with | [_, _], _ => rfl
  have D20 : DefAt K mg "_law_plain" (top 27) P_law_plain := defAt_mk X G a20 l20 c20 k20 fun _ _ _ _ _ _ us hl => match us, hl with | [_], _ => rfl
  have D21 : DefAt K mg "_law_word" (top 28) P_law_word := defAt_mk X G a21 l21 c21 k21 fun _ _ _ _ _ _ us hl => match us, hl with | [_], _ => rfl
  have D22 : DefAt K mg "_law_told" (top 29) P_law_told_k03 := defAt_mk X G a22 l22 c22 k22 fun _ _ _ _ _ _ us hl => match us, hl with | [_, _, _], _ => rfl
  have hb : ∀ x ∈ bnames, mg x = none := by
    intro x hx
    simp only [bnames, List.mem_cons, List.not_mem_nil, or_false] at hx
    rcases hx with rfl | rfl | rfl | rfl | rfl | rfl | rfl | rfl | rfl | rfl | rfl | rfl | rfl | rfl | rfl | rfl
    · exact PySem.W.mg_none_of X G z0
    · exact PySem.W.mg_none_of X G z1
    · exact PySem.W.mg_none_of X G z2
    · exact PySem.W.mg_none_of X G z3
    · exact PySem.W.mg_none_of X G z4
    · exact PySem.W.mg_none_of X G z5
    · exact PySem.W.mg_none_of X G z6
    · exact PySem.W.mg_none_of X G z7
    · exact PySem.W.mg_none_of X G z8
    · exact PySem.W.mg_none_of X G z9
    · exact PySem.W.mg_none_of X G z10
    · exact PySem.W.mg_none_of X G z11
    · exact PySem.W.mg_none_of X G z12
    · exact PySem.W.mg_none_of X G z13
    · exact PySem.W.mg_none_of X G z14
    · exact PySem.W.mg_none_of X G z15
  have hc : ∃ a fd ps, FnOk l.prog w K mg base (L2.CX l.prog w) 1 a fd ps (spCell K) ∧ mg "_law_cell" = some (.ref a) ∧ PySem.W.keepIn K (.ref a) = true ∧ Binds K fd ps [] :=
    have FC := fun_mk (st := top 18) l11 c11 k11
    ⟨f11, _, _, cell_ok FC sc_law_cell (hb _ (by decide)) rfl (.inl rfl) (.inl rfl) rfl, PySem.W.mg_of X G a11, k11, FC.binds (ps := ["script", "k"]) fun _ _ _ _ _ _ us hl => match us, hl with | [_, _], _ => rfl⟩
  have TK : TryK K mg (fun n => ([.ref xa0, .ref xa1] : List Value).getD n .none) xt := tryK_mk (a0 := xa0) (a1 := xa1) rfl rfl (PySem.W.mg_of X G xt0) xt1 xt2 xt3 xu0 xu1
  have EK : ErrK K mg (fun n => ([.ref xa0, .ref xa1] : List Value).getD n .none) xa0 xa1 := errK_mk rfl rfl (PySem.W.mg_of X G x0) (PySem.W.mg_of X G x1) (hb _ (by decide)) (PySem.W.mg_none_of X G zv) ⟨v00, v01, xs0, v02, v03, v04, xq0, v05⟩ ⟨v10, v11, xs1, v12, v13, v14, xq1, v15⟩ sp tn s00 s01 s10
  have WA : WordAt l.prog w K mg base (fun n => ([.ref xa0, .ref xa1] : List Value).getD n .none) := word_at EK D21 sc_law_word rfl rfl rfl rfl rfl rfl rfl rfl rfl
  have ent : ∀ (f : Nat) (x : Str), (ck []).fns[f]? = some (some x) → EntOk (ck []) (fun n => ([.ref xa0, .ref xa1] : List Value).getD n .none) tbl gv io l.prog w K mg base f x := by
    intro f x e
    match f, e with
    | 0, e => cases e
    | 1, e => cases e
    | 2, e => cases e; exact .inl ⟨f_nodes, top 5, N_nodes, P_nodes, rfl, D0, sc_nodes, rfl, rfl, ch_nodes⟩
    | 3, e => cases e
    | 4, e => cases e; exact .inl ⟨f_tree_at, top 6, N_tree_at, P_tree_at, rfl, D1, sc_tree_at, rfl, rfl, ch_tree_at⟩
    | 5, e => cases e; exact .inl ⟨f_law_mix, top 19, N_law_mix, P_law_mix, rfl, D12, sc_law_mix, rfl, rfl, ch_law_mix⟩
    | 6, e => cases e; exact .inl ⟨f_law_same, top 20, N_law_same, P_law_same, rfl, D13, sc_law_same, rfl, rfl, ch_law_same⟩
    | 7, e => cases e; exact .inl ⟨f_law_tree, top 21, N_law_tree, P_law_tree, rfl, D14, sc_law_tree, rfl, rfl, ch_law_tree⟩
    | 8, e => cases e; exact .inl ⟨f_law_path, top 22, N_law_path, P_law_path, rfl, D15, sc_law_path, rfl, rfl, ch_law_path⟩
    | 9, e => cases e; exact .inl ⟨f_law_steps, top 23, N_law_steps, P_law_steps, rfl, D16, sc_law_steps, rfl, rfl, ch_law_steps⟩
    | 10, e => cases e
    | 11, e => cases e; exact fail_ent D21 rfl
    | 12, e => cases e
    | 13, e => cases e
    | 14, e => cases e
    | 15, e => cases e
    | 16, e => cases e
    | 17, e => cases e
    | 18, e => cases e
    | 19, e => cases e
    | 20, e => cases e
    | 21, e => cases e
    | 22, e => cases e; exact .inl ⟨f_kids_of, top 7, N_kids_of, P_kids_of, rfl, D2, sc_kids_of, rfl, rfl, ch_kids_of⟩
    | 23, e => cases e; exact .inl ⟨f_all_below, top 8, N_all_below, P_all_below, rfl, D3, sc_all_below, rfl, rfl, ch_all_below⟩
    | 24, e => cases e; exact .inl ⟨f_places, top 10, N_places, P_places, rfl, D4, sc_places, rfl, rfl, ch_places⟩
    | 25, e => cases e; exact .inl ⟨f_by_step, top 11, N_by_step, P_by_step, rfl, D5, sc_by_step, rfl, rfl, ch_by_step⟩
    | 26, e => cases e; exact .inl ⟨f_ways_from, top 12, N_ways_from, P_ways_from, rfl, D6, sc_ways_from, rfl, rfl, ch_ways_from⟩
    | 27, e => cases e; exact .inl ⟨f_ways, top 13, N_ways, P_ways, rfl, D7, sc_ways, rfl, rfl, ch_ways⟩
    | 28, e => cases e; exact .inl ⟨f_finds, top 14, N_finds, P_finds, rfl, D8, sc_finds, rfl, rfl, ch_finds⟩
    | 29, e => cases e; exact .inl ⟨f_has_find, top 15, N_has_find, P_has_find, rfl, D9, sc_has_find, rfl, rfl, ch_has_find⟩
    | 30, e => cases e; exact .inl ⟨f_finds_from, top 16, N_finds_from, P_finds_from, rfl, D10, sc_finds_from, rfl, rfl, ch_finds_from⟩
    | 31, e => cases e; exact .inl ⟨f_law_nodes, top 24, N_law_nodes, P_law_nodes, rfl, D17, sc_law_nodes, rfl, rfl, ch_law_nodes⟩
    | 32, e => cases e; exact .inl ⟨f_law_ways, top 25, N_law_ways, P_law_ways, rfl, D18, sc_law_ways, rfl, rfl, ch_law_ways⟩
    | 33, e => cases e; exact .inl ⟨f_law_finds, top 26, N_law_finds, P_law_finds, rfl, D19, sc_law_finds, rfl, rfl, ch_law_finds⟩
    | 34, e => cases e; exact .inl ⟨f_law_plain, top 27, N_law_plain, P_law_plain, rfl, D20, sc_law_plain, rfl, rfl, ch_law_plain⟩
    | 35, e => cases e; exact tr_ent (fn := f_law_told_k03) rfl D22 sc_law_told_k03 rfl rfl TK rfl ch_law_told_k03 (i := 3) rfl rfl (by decide) (by decide) rfl rfl WA
    | 36, e => cases e
    | 37, e => cases e
    | 38, e => cases e
    | 39, e => cases e
    | 40, e => cases e
    | 41, e => cases e
    | 42, e => cases e
    | 43, e => cases e
    | 44, e => cases e
    | 45, e => cases e
    | 46, e => cases e
    | 47, e => cases e
    | 48, e => cases e
    | 49, e => cases e
    | 50, e => cases e
    | 51, e => cases e
    | 52, e => cases e
    | 53, e => cases e
    | 54, e => cases e
    | 55, e => cases e
    | 56, e => cases e
    | 57, e => cases e
    | 58, e => cases e
    | 59, e => cases e
    | 60, e => cases e
    | 61, e => cases e
    | 62, e => cases e
    | 63, e => cases e
    | 64, e => cases e
    | 65, e => cases e
    | 66, e => cases e
    | 67, e => cases e
    | 68, e => cases e
    | 69, e => cases e
    | 70, e => cases e
    | 71, e => cases e
    | 72, e => cases e
    | 73, e => cases e
    | 74, e => cases e
    | 75, e => cases e
    | 76, e => cases e
    | 77, e => cases e
    | 78, e => cases e
    | 79, e => cases e
    | 80, e => cases e
    | 81, e => cases e
    | 82, e => cases e
    | 83, e => cases e
    | 84, e => cases e
    | 85, e => cases e
    | 86, e => cases e
    | 87, e => cases e
    | 88, e => cases e
    | 89, e => cases e
    | 90, e => cases e
    | 91, e => cases e
    | 92, e => cases e
    | 93, e => cases e
    | 94, e => cases e
    | 95, e => cases e
    | 96, e => cases e
    | 97, e => cases e
    | 98, e => cases e
    | 99, e => cases e
    | 100, e => cases e
    | 101, e => cases e
    | 102, e => cases e
    | n + 103, e => cases e
  have hg : ∀ (g : Nat) (x : Str) (d : D), (ck []).gls[g]? = some (some x) → gv g = some d → ∃ u v, mg x = some u ∧ RelV v u ∧ Rep K (fun _ => none) v d := by
    intro g x d e1 e2
    match g, e1, e2 with
    | 0, e1, e2 => cases e1
    | 1, e1, e2 => cases e1
    | 2, e1, e2 => cases e1
    | 3, e1, e2 => cases e1
    | 4, e1, e2 => cases e1
    | n + 5, e1, e2 => cases e1
  have hx : ∀ (n : Nat) (x : Str), (ck []).xcs[n]? = some (some x) → ∃ a, (fun n => ([.ref xa0, .ref xa1] : List Value).getD n .none) n = .ref a ∧ mg x = some (.ref a) ∧ PySem.W.excIn K a [.type "ValueError", .type "Exception", .type "BaseException", .type "object"] "ValueError.__new__" = true ∧
      PySem.W.keepIn K (.ref a) = true ∧ PySem.W.subIn K (.ref a) (.type "BaseException") = some true ∧ PySem.W.typeIn K (.ref a) = some (.type "type") := by
    intro n x e
    match n, e with
    | 0, e => cases e; exact ⟨xa0, rfl, PySem.W.mg_of X G x0, xe0, xk0, xs0, xq0⟩
    | 1, e => cases e; exact ⟨xa1, rfl, PySem.W.mg_of X G x1, xe1, xk1, xs1, xq1⟩
    | n + 2, e => cases e
  have hi : ∀ x, (ck []).io = some x → IoOk (ck []) tbl gv io K mg x := by
    intro x e
    cases e
  have amb := amb_all (c := ck []) (xv := (fun n => ([.ref xa0, .ref xa1] : List Value).getD n .none)) (tbl := tbl) (gv := gv) (io := io) (P := l.prog) (w := w) (base := base) ent hg hb hx hc hi LV
  exact law_ok FL sc_law amb f_law rfl rfl rfl ch_law law_run
end Tf
namespace Tf
open PySem
/-! Tm1: rules to run the evaluator by simp. -/
section
variable (C : EvC) (s : Sd)
@[simp] theorem e_var (i : Nat) : ev C (.var i) s = match s[i]? with
    | some (some (.sh d)) => .ok d
    | _ => .fail := by rw [ev] <;> rfl
@[simp] theorem e_con (d : D) : ev C (.con d) s = .ok d := by rw [ev]
@[simp] theorem e_glo (g : Nat) : ev C (.glo g) s = match C.gv g with
    | some d => .ok d
    | none => .fail := by rw [ev] <;> rfl
@[simp] theorem e_tup (es : Es) : ev C (.tup es) s = (evs C es s).bind fun ds => .ok (.tuple ds) := by rw [ev]
@[simp] theorem e_lst (l : L) : ev C (.lst l) s = (evL C l s).bind fun ds => .ok (.list ds) := by rw [ev]
@[simp] theorem e_bin (op : Operator) (a b : E) : ev C (.bin op a b) s = (ev C a s).bind fun x => (ev C b s).bind fun y => binD op x y := by rw [ev]
@[simp] theorem e_neg (a : E) : ev C (.neg a) s = (ev C a s).bind negD := by rw [ev]
@[simp] theorem e_cmp (op : CmpOp) (a b : E) : ev C (.cmp op a b) s = (ev C a s).bind fun x => (ev C b s).bind fun y => (cmpD op x y).bind fun t => .ok (.bool t) := by rw [ev]
@[simp] theorem e_idx (a i : E) : ev C (.idx a i) s = (ev C a s).bind fun x => (ev C i s).bind fun y => idxD x y := by rw [ev]
@[simp] theorem e_slc (a : E) (lo hi : Eo) : ev C (.slc a lo hi) s = (ev C a s).bind fun x => (evo C lo s).bind fun l => (evo C hi s).bind fun h => slcD l h x := by rw [ev]
@[simp] theorem e_rev (a : E) : ev C (.rev a) s = (ev C a s).bind revD := by rw [ev]
@[simp] theorem e_call (f : Nat) (es : Es) : ev C (.call f es) s = (evs C es s).bind fun ds => C.call f ds := by rw [ev]
@[simp] theorem e_isi (a : E) (t : Ty) : ev C (.isi a t) s = (ev C a s).bind fun x => .ok (.bool (isTy t x)) := by rw [ev]
@[simp] theorem e_isi2 (a : E) (t u : Ty) : ev C (.isi2 a t u) s = (ev C a s).bind fun x => .ok (.bool (isTy t x || isTy u x)) := by rw [ev]
@[simp] theorem e_bi (b : Bi) (a : E) : ev C (.bi b a) s = (ev C a s).bind fun x => biD b x := by rw [ev]
@[simp] theorem e_min2 (a b : E) : ev C (.min2 a b) s = (ev C a s).bind fun x => (ev C b s).bind fun y => min2D x y := by rw [ev]
@[simp] theorem e_upper (a : E) : ev C (.upper a) s = (ev C a s).bind upperD := by rw [ev]
@[simp] theorem e_not (a : E) : ev C (.not a) s = (ev C a s).bind fun x => (truth x).bind fun t => .ok (.bool (!t)) := by rw [ev]
@[simp] theorem e_and (a b : E) : ev C (.and a b) s = (ev C a s).bind fun x => (truth x).bind fun t => match t with
    | true => ev C b s
    | false => .ok x := by rw [ev] <;> rfl
@[simp] theorem e_or (a b : E) : ev C (.or a b) s = (ev C a s).bind fun x => (truth x).bind fun t => match t with
    | true => .ok x
    | false => ev C b s := by rw [ev] <;> rfl
@[simp] theorem e_ite (c a b : E) : ev C (.ite c a b) s = (ev C c s).bind fun x => (truth x).bind fun t => match t with
    | true => ev C a s
    | false => ev C b s := by rw [ev] <;> rfl
@[simp] theorem e_cmp2 (o p : CmpOp) (a b c : E) : ev C (.cmp2 o p a b c) s = (ev C a s).bind fun x => (ev C b s).bind fun y => (cmpD o x y).bind fun t => match t with
    | true => (ev C c s).bind fun z => (cmpD p y z).bind fun t => .ok (.bool t)
    | false => .ok (.bool false) := by rw [ev] <;> rfl
@[simp] theorem e_lenO (i : Nat) : ev C (.lenO i) s = match s[i]? with
    | some (some (.ow ds)) => .ok (.int ds.length)
    | _ => .fail := by rw [ev] <;> rfl
@[simp] theorem e_rows (a b : E) : ev C (.rows a b) s = (ev C a s).bind fun x => (ev C b s).bind fun y => match C.io x y [] with
    | some es => .ok (.tuple es)
    | none => .fail := by rw [ev] <;> rfl
@[simp] theorem e_cell (i : Nat) (e : E) : ev C (.cell i e) s = match s[i]? with
    | some (some (.scr ns)) => (ev C e s).bind fun x => match x with
      | .int k => if 0 ≤ k then .ok (.int (ns.getD k.toNat 0)) else .fail
      | _ => .fail
    | _ => .fail := by rw [ev] <;> rfl
@[simp] theorem es_nil' : evs C .nil s = .ok [] := by rw [evs]
@[simp] theorem es_cons' (e : E) (r : Es) : evs C (.cons e r) s = (ev C e s).bind fun x => (evs C r s).bind fun xs => .ok (x :: xs) := by rw [evs]
@[simp] theorem eo_no : evo C .no s = .ok none := by rw [evo]
@[simp] theorem eo_yes (e : E) : evo C (.yes e) s = (ev C e s).bind fun x => (intOf x).bind fun i => .ok (some i) := by rw [evo]
@[simp] theorem ec_no : evc C .no s = .ok true := by rw [evc]
@[simp] theorem ec_yes (e : E) : evc C (.yes e) s = (ev C e s).bind truth := by rw [evc]
@[simp] theorem el_disp (es : Es) : evL C (.disp es) s = evs C es s := by rw [evL]
@[simp] theorem el_cat (a b : E) : evL C (.cat a b) s = (ev C a s).bind fun x => (ev C b s).bind fun y => (listOf x).bind fun xs => (listOf y).bind fun ys => catD xs ys := by rw [evL]
@[simp] theorem el_rep (a k : E) : evL C (.rep a k) s = (ev C a s).bind fun x => (ev C k s).bind fun y => (listOf x).bind fun xs => repD xs y := by rw [evL]
@[simp] theorem el_ofs (a : E) : evL C (.ofs a) s = (ev C a s).bind seqOf := by rw [evL]
@[simp] theorem ei_seq (a : E) : evI C (.seq a) s = (ev C a s).bind itemsOf := by rw [evI]
@[simp] theorem ei_rng1 (a : E) : evI C (.rng1 a) s = (ev C a s).bind fun x => (intOf x).bind fun i => rng 0 i := by rw [evI]
@[simp] theorem ei_rng2 (a b : E) : evI C (.rng2 a b) s = (ev C a s).bind fun x => (ev C b s).bind fun y => (intOf x).bind fun i => (intOf y).bind fun j => rng i j := by rw [evI]
@[simp] theorem ei_enum (a : E) : evI C (.enum a) s = (ev C a s).bind fun x => (seqOf x).bind fun xs => .ok (enumD 0 xs) := by rw [evI]
@[simp] theorem ei_zip (a b : E) : evI C (.zip a b) s = (ev C a s).bind fun x => (ev C b s).bind fun y => (tupOf x).bind fun xs => (tupOf y).bind fun ys => .ok (zipD xs ys) := by rw [evI]
@[simp] theorem s_nil' : evSs C .nil s = .nx s := by rw [evSs]
@[simp] theorem s_cons' (x : S) (r : Ss) : evSs C (.cons x r) s = (evS C x s).then fun s' => evSs C r s' := by rw [evSs]
@[simp] theorem s_set' (i : Nat) (e : E) : evS C (.set i e) s = (ev C e s).out fun d => .nx (s.set i (some (.sh d))) := by rw [evS]
@[simp] theorem s_setL' (i : Nat) (l : L) : evS C (.setL i l) s = (evL C l s).out fun ds => .nx (s.set i (some (.ow ds))) := by rw [evS]
@[simp] theorem s_frz' (i : Nat) : evS C (.frz i) s = match s[i]? with
    | some (some (.ow ds)) => .nx (s.set i (some (.sh (.list ds))))
    | _ => .nx s := by rw [evS] <;> rfl
@[simp] theorem s_unp' (t : Tgs) (e : E) : evS C (.unp t e) s = (ev C e s).out fun d => match bindT (.tup t) d s with
    | some s' => .nx s'
    | none => .fail := by rw [evS] <;> rfl
@[simp] theorem s_par' (i j : Nat) (a b : E) : evS C (.par i j a b) s = (ev C a s).out fun x => (ev C b s).out fun y => .nx ((s.set i (some (.sh x))).set j (some (.sh y))) := by rw [evS]
@[simp] theorem s_app' (i : Nat) (e : E) : evS C (.app i e) s = match s[i]? with
    | some (some (.ow ds)) => (ev C e s).out fun d => if ds.length < lim then .nx (s.set i (some (.ow (ds ++ [d])))) else .fail
    | _ => .fail := by rw [evS] <;> rfl
@[simp] theorem s_ext' (i : Nat) (e : E) : evS C (.ext i e) s = match s[i]? with
    | some (some (.ow ds)) => ((ev C e s).bind listOf).out fun es => if ds.length + es.length ≤ lim then .nx (s.set i (some (.ow (ds ++ es)))) else .fail
    | _ => .fail := by rw [evS] <;> rfl
@[simp] theorem s_ret' (e : E) : evS C (.ret e) s = (ev C e s).out fun d => .rt d := by rw [evS]
@[simp] theorem s_exp' (e : E) : evS C (.exp e) s = (ev C e s).out fun _ => .nx s := by rw [evS]
@[simp] theorem s_rai' (c : Nat) : evS C (.rai c) s = .exc c := by rw [evS]
@[simp] theorem s_iff' (c : E) (a b : Ss) : evS C (.iff c a b) s = ((ev C c s).bind truth).out fun t => match t with
    | true => evSs C a s
    | false => evSs C b s := by rw [evS] <;> rfl
@[simp] theorem s_for' (t : Tg) (it : It) (b : Ss) : evS C (.for_ t it b) s = (evI C it s).out fun items => loopFor t (fun s' => evSs C b s') items s := by rw [evS]
@[simp] theorem b_name (i : Nat) (d : D) : bindT (.name i) d s = some (s.set i (some (.sh d))) := by rw [bindT]
@[simp] theorem b_tg (ts : Tgs) (ds : List D) : bindT (.tup ts) (.tuple ds) s = bindTs ts ds s := by rw [bindT]
@[simp] theorem bs_nil : bindTs .nil [] s = some s := by rw [bindTs]
@[simp] theorem bs_cons (t : Tg) (r : Tgs) (d : D) (ds : List D) : bindTs (.cons t r) (d :: ds) s = match bindT t d s with
    | some s' => bindTs r ds s'
    | none => none := by rw [bindTs] <;> rfl
@[simp] theorem sl_name (i : Nat) : slotsT (.name i) = [i] := by rw [slotsT]
@[simp] theorem sl_tg (ts : Tgs) : slotsT (.tup ts) = slotsTs ts := by rw [slotsT]
@[simp] theorem sls_nil : slotsTs .nil = [] := by rw [slotsTs]
@[simp] theorem sls_cons (t : Tg) (r : Tgs) : slotsTs (.cons t r) = slotsT t ++ slotsTs r := by rw [slotsTs]
@[simp] theorem w_nil : wipeD s [] = s := rfl
@[simp] theorem w_cons (v : Nat) (vs : List Nat) : wipeD s (v :: vs) = (wipeD s vs).set v none := rfl
end
@[simp] theorem i_lst (xs : List D) : itemsOf (.list xs) = .ok xs := rfl
@[simp] theorem i_tup (xs : List D) : itemsOf (.tuple xs) = .ok xs := rfl
@[simp] theorem sq_lst (xs : List D) : seqOf (.list xs) = .ok xs := rfl
@[simp] theorem sq_tup (xs : List D) : seqOf (.tuple xs) = .ok xs := rfl
@[simp] theorem l_of (xs : List D) : listOf (.list xs) = .ok xs := rfl
@[simp] theorem tu_of (xs : List D) : tupOf (.tuple xs) = .ok xs := rfl
@[simp] theorem i_of (i : Int) : intOf (.int i) = .ok i := rfl
@[simp] theorem bi_lenT (xs : List D) : biD .len (.tuple xs) = .ok (.int xs.length) := rfl
@[simp] theorem bi_lenL (xs : List D) : biD .len (.list xs) = .ok (.int xs.length) := rfl
@[simp] theorem bi_tup (xs : List D) : biD .tuple (.list xs) = .ok (.tuple xs) := rfl
@[simp] theorem m2 (i j : Int) : min2D (.int i) (.int j) = .ok (.int (if j < i then j else i)) := rfl
@[simp] theorem isT_tup (xs : List D) : isTy .tuple (.tuple xs) = true := rfl
theorem runF_ok {C : EvC} {f : Fn} {ds : List D} (h : ds.length = f.np) : runF C f ds = (evSs C f.body (start0 f (ds.map fun d => some (.sh d)))).res := by
  unfold runF; rw [if_pos h]
@[simp] theorem res_rt (d : D) : (Out.rt d).res = .ok d := rfl
@[simp] theorem res_nx (s : Sd) : (Out.nx s).res = .ok .none := rfl
@[simp] theorem res_exc (c : Nat) : (Out.exc c).res = .exc c := rfl
@[simp] theorem out_exc {A : Type} (c : Nat) (f : A → Out) : (R.exc c : R A).out f = .exc c := rfl
@[simp] theorem then_exc (c : Nat) (f : Sd → Out) : (Out.exc c).then f = .exc c := rfl
@[simp] theorem b_add (i j : Int) : binD .Add (.int i) (.int j) = .ok (.int (i + j)) := rfl
@[simp] theorem b_sub (i j : Int) : binD .Sub (.int i) (.int j) = .ok (.int (i - j)) := rfl
@[simp] theorem b_mod (i j : Int) (h : 0 < j) : binD .Mod (.int i) (.int j) = .ok (.int (i % j)) := if_pos h
theorem b_mul (i j : Int) (h : (-(2 ^ 64) < i ∧ i < 2 ^ 64) ∨ (-(2 ^ 64) < j ∧ j < 2 ^ 64)) : binD .Mult (.int i) (.int j) = .ok (.int (i * j)) := if_pos h
@[simp] theorem b_tup (xs ys : List D) (h : xs.length + ys.length ≤ lim) : binD .Add (.tuple xs) (.tuple ys) = .ok (.tuple (xs ++ ys)) := if_pos h
@[simp] theorem b_str (x y : Str) (h : x.length + y.length ≤ lim) : binD .Add (.str x) (.str y) = .ok (.str (x ++ y)) := if_pos h
@[simp] theorem t_bool (b : Bool) : truth (.bool b) = .ok b := rfl
@[simp] theorem t_none : truth .none = .ok false := rfl
@[simp] theorem t_int (i : Int) : truth (.int i) = .ok (i != 0) := rfl
@[simp] theorem t_tup (xs : List D) : truth (.tuple xs) = .ok (!xs.isEmpty) := rfl
@[simp] theorem t_lst (xs : List D) : truth (.list xs) = .ok (!xs.isEmpty) := rfl
@[simp] theorem c_lt (i j : Int) : cmpD .Lt (.int i) (.int j) = .ok (decide (i < j)) := rfl
@[simp] theorem c_le (i j : Int) : cmpD .LtE (.int i) (.int j) = .ok (decide (i ≤ j)) := rfl
@[simp] theorem c_gt (i j : Int) : cmpD .Gt (.int i) (.int j) = .ok (decide (j < i)) := rfl
@[simp] theorem c_ge (i j : Int) : cmpD .GtE (.int i) (.int j) = .ok (decide (j ≤ i)) := rfl
theorem eqv_int (i j : Int) : PyData.eqv (.int i) (.int j) = decide (i = j) := by
  simp only [PyData.eqv]; rfl
theorem eqv_str (x y : Str) : PyData.eqv (.str x) (.str y) = (x == y) := by
  simp only [PyData.eqv]
theorem near_int (i j : Int) : near (.int i) (.int j) = true := by
  simp [near, PyData.depth]
theorem near_str (i : Str) (d : D) : near (.str i) d = true := by
  simp [near, PyData.depth]
@[simp] theorem c_eqi (i j : Int) : cmpD .Eq (.int i) (.int j) = .ok (decide (i = j)) := by
  rw [cmpD, if_pos (near_int i j), eqv_int]
@[simp] theorem c_nei (i j : Int) : cmpD .NotEq (.int i) (.int j) = .ok (!decide (i = j)) := by
  rw [cmpD, if_pos (near_int i j), eqv_int]
theorem ev_and {C : EvC} {a b : E} {s : Sd} {p q : Bool} (ha : ev C a s = .ok (.bool p)) (hb : p = true → ev C b s = .ok (.bool q)) : ev C (.and a b) s = .ok (.bool (p && q)) := by
  unfold ev; rw [ha]
  cases p with
  | true => simp [hb rfl]
  | false => simp
theorem ev_or {C : EvC} {a b : E} {s : Sd} {p q : Bool} (ha : ev C a s = .ok (.bool p)) (hb : p = false → ev C b s = .ok (.bool q)) : ev C (.or a b) s = .ok (.bool (p || q)) := by
  unfold ev; rw [ha]
  cases p with
  | true => simp
  | false => simp [hb rfl]
/-! ### step by step -/
theorem ss_nx {C : EvC} {x : S} {r : Ss} {s s' : Sd} (h : evS C x s = .nx s') : evSs C (.cons x r) s = evSs C r s' := by rw [evSs, h]; rfl
theorem ss_rt {C : EvC} {x : S} {r : Ss} {s : Sd} {d : D} (h : evS C x s = .rt d) : evSs C (.cons x r) s = .rt d := by rw [evSs, h]; rfl
theorem ss_exc {C : EvC} {x : S} {r : Ss} {s : Sd} {d : Nat} (h : evS C x s = .exc d) : evSs C (.cons x r) s = .exc d := by rw [evSs, h]; rfl
theorem iff_t {C : EvC} {c : E} {a b : Ss} {s : Sd} {d : D} (h : ev C c s = .ok d) (ht : truth d = .ok true) : evS C (.iff c a b) s = evSs C a s := by rw [evS, h, R.bind_ok, ht]; rfl
theorem iff_f {C : EvC} {c : E} {a b : Ss} {s : Sd} {d : D} (h : ev C c s = .ok d) (ht : truth d = .ok false) : evS C (.iff c a b) s = evSs C b s := by rw [evS, h, R.bind_ok, ht]; rfl
theorem set_ok {C : EvC} {i : Nat} {e : E} {s : Sd} {d : D} (h : ev C e s = .ok d) : evS C (.set i e) s = .nx (s.set i (some (.sh d))) := by rw [evS, h]; rfl
theorem ret_ok {C : EvC} {e : E} {s : Sd} {d : D} (h : ev C e s = .ok d) : evS C (.ret e) s = .rt d := by rw [evS, h]; rfl
theorem for_ok {C : EvC} {t : Tg} {it : It} {b : Ss} {s : Sd} {ds : List D} (h : evI C it s = .ok ds) : evS C (.for_ t it b) s = loopFor t (fun s' => evSs C b s') ds s := by rw [evS, h]; rfl
theorem and_f {C : EvC} {a b : E} {s : Sd} (h : ev C a s = .ok (.bool false)) : ev C (.and a b) s = .ok (.bool false) := by rw [ev, h]; rfl
theorem and_t {C : EvC} {a b : E} {s : Sd} (h : ev C a s = .ok (.bool true)) : ev C (.and a b) s = ev C b s := by rw [ev, h]; rfl
theorem or_t {C : EvC} {a b : E} {s : Sd} (h : ev C a s = .ok (.bool true)) : ev C (.or a b) s = .ok (.bool true) := by rw [ev, h]; rfl
theorem or_f {C : EvC} {a b : E} {s : Sd} (h : ev C a s = .ok (.bool false)) : ev C (.or a b) s = ev C b s := by rw [ev, h]; rfl
theorem res_of {o o' : Out} {r : R D} (h : o = o') (h2 : o'.res = r) : o.res = r := by rw [h]; exact h2
/-! ### comprehensions and loops -/
theorem compGo_map {f : D → R (Option D)} {g : D → D} : ∀ {xs : List D}, (∀ d ∈ xs, f d = .ok (some (g d))) → compGo f xs = .ok (xs.map g)
  | [], _ => rfl
  | x :: xs, h => by
    have h1 := h x (by simp)
    have h2 := compGo_map (xs := xs) fun d hd => h d (by simp [hd])
    simp [compGo, h1, h2]
theorem compGo_filter {f : D → R (Option D)} {p : D → Bool} {g : D → D} : ∀ {xs : List D}, (∀ d ∈ xs, f d = .ok (if p d then some (g d) else none)) → compGo f xs = .ok ((xs.filter p).map g)
  | [], _ => rfl
  | x :: xs, h => by
    have h1 := h x (by simp)
    have h2 := compGo_filter (xs := xs) fun d hd => h d (by simp [hd])
    simp only [compGo, h1, h2, R.still_ok, R.bind_ok, List.filter_cons]
    cases p x <;> simp
theorem boolsOf_map (xs : List D) (g : D → Bool) : boolsOf (xs.map fun d => .bool (g d)) = some (xs.map g) := by
  induction xs with
  | nil => rfl
  | cons x xs ih => simp [boolsOf, ih]
theorem intsOf_map (xs : List D) (g : D → Int) : intsOf (xs.map fun d => .int (g d)) = some (xs.map g) := by
  induction xs with
  | nil => rfl
  | cons x xs ih => simp [intsOf, ih]
theorem loopFor_inv {t : Tg} {f : Sd → Out} (I : List D → Sd → Prop) (step : ∀ d r s, I (d :: r) s → ∃ s1 s2, bindT t d s = some s1 ∧ f s1 = .nx s2 ∧ I r s2) : ∀ (ds : List D) (s : Sd), I ds s → ∃ s', loopFor t f ds s = .nx s' ∧ I [] s'
  | [], s, h => ⟨s, rfl, h⟩
  | d :: r, s, h => by
    obtain ⟨s1, s2, e1, e2, h2⟩ := step d r s h
    obtain ⟨s', e3, h3⟩ := loopFor_inv I step r s2 h2
    refine ⟨s', ?_, h3⟩
    unfold loopFor
    rw [e1]
    show (f s1).then _ = _
    rw [e2]
    exact e3
theorem rangeD_eq (lo : Int) (n : Nat) : rangeD lo n = (List.range n).map fun i => .int (lo + (i : Nat)) := by
  induction n generalizing lo with
  | zero => rfl
  | succ n ih =>
    rw [rangeD, ih, List.range_succ_eq_map]
    simp [Function.comp_def]
    intro a _
    omega
theorem rng_ok {lo hi : Int} (h1 : -(2 ^ 62) ≤ lo) (h2 : lo < 2 ^ 62) (h3 : -(2 ^ 62) ≤ hi) (h4 : hi < 2 ^ 62) : rng lo hi = .ok (rangeD lo (hi - lo).toNat) := if_pos ⟨h1, h2, h3, h4⟩

/-! ### the mix -/
def mix (c p m : Int) : Int := (c * 48271 % p) * (c * 48271 % p + 7) % p % m
theorem mix_lo (c p m : Int) (h : 0 < m) : 0 ≤ mix c p m := Int.emod_nonneg _ (by omega)
theorem mix_hi (c p m : Int) (h : 0 < m) : mix c p m < m := Int.emod_lt_of_pos _ h
theorem r_mix (n : Nat) (c p m : Int) (hp : 0 < p) (hp2 : p < 2 ^ 60) (hm : 0 < m) : rn (n + 1) 5 [.int c, .int p, .int m] = .ok (.int (mix c p m)) := by
  have h1 : 0 ≤ c * 48271 % p := Int.emod_nonneg _ (by omega)
  have h2 : c * 48271 % p < p := Int.emod_lt_of_pos _ hp
  rw [rn_law_mix]
  have g1 : binD .Mult (.int c) (.int 48271) = .ok (.int (c * 48271)) := b_mul _ _ (.inr (by decide))
  have g2 : binD .Mult (.int (c * 48271 % p)) (.int (c * 48271 % p + 7)) = .ok (.int ((c * 48271 % p) * (c * 48271 % p + 7))) := b_mul _ _ (.inl ⟨by omega, by omega⟩)
  simp [b_law_mix, g1, g2, hp, hm, mix]
end Tf
namespace Tf
open PySem
/-! Tm2: paths, typed; what _law_steps and _law_path tell. -/
theorem compGo_enc {A : Type} {f : D → R (Option D)} {enc g : A → D} : ∀ {xs : List A}, (∀ x ∈ xs, f (enc x) = .ok (some (g x))) → compGo f (xs.map enc) = .ok (xs.map g)
  | [], _ => rfl
  | x :: xs, h => by
    have h1 := h x (by simp)
    have h2 := compGo_enc (xs := xs) fun d hd => h d (by simp [hd])
    simp [compGo, h1, h2]
theorem boolsOf_enc {A : Type} (xs : List A) (g : A → Bool) : boolsOf (xs.map fun d => .bool (g d)) = some (xs.map g) := by
  induction xs with
  | nil => rfl
  | cons x xs ih => simp [boolsOf, ih]
theorem intsOf_enc {A : Type} (xs : List A) (g : A → Int) : intsOf (xs.map fun d => .int (g d)) = some (xs.map g) := by
  induction xs with
  | nil => rfl
  | cons x xs ih => simp [intsOf, ih]
inductive St where
  | mk (w : Bool) (l : Fin 3) (ts : List (List St))
def wayS (w : Bool) : Str := if w then "deep" else "in"
def letS : Fin 3 → Str
  | 0 => "a"
  | 1 => "b"
  | 2 => "c"
mutual
def encS : St → D
  | .mk w l ts => .tuple [.str (wayS w), .str (letS l), .tuple (encPs ts)]
def encL : List St → List D
  | [] => []
  | s :: r => encS s :: encL r
def encPs : List (List St) → List D
  | [] => []
  | p :: r => .tuple (encL p) :: encPs r
end
abbrev Pa := List St
def encP (p : Pa) : D := .tuple (encL p)
theorem encL_eq (p : Pa) : encL p = p.map encS := by
  induction p with
  | nil => rw [encL]; rfl
  | cons s r ih => rw [encL, ih]; rfl
theorem encPs_eq (p : List Pa) : encPs p = p.map encP := by
  induction p with
  | nil => rw [encPs]; rfl
  | cons s r ih => rw [encPs, ih]; rfl
theorem encS_eq (w : Bool) (l : Fin 3) (ts : List Pa) : encS (.mk w l ts) = .tuple [.str (wayS w), .str (letS l), .tuple (ts.map encP)] := by
  rw [encS, encPs_eq]
theorem encP_eq (p : Pa) : encP p = .tuple (p.map encS) := by rw [encP, encL_eq]
def St.ts : St → List Pa
  | .mk _ _ ts => ts
def St.w : St → Bool
  | .mk w _ _ => w
def St.l : St → Fin 3
  | .mk _ l _ => l
mutual
def stS : St → Nat
  | .mk _ _ ts => 1 + stPs ts
def stL : List St → Nat
  | [] => 0
  | s :: r => stS s + stL r
def stPs : List (List St) → Nat
  | [] => 0
  | p :: r => stL p + stPs r
end
theorem stL_eq (p : Pa) : stL p = (p.map stS).sum := by
  induction p with
  | nil => rw [stL]; rfl
  | cons s r ih => rw [stL, ih]; rfl
theorem stPs_eq (p : List Pa) : stPs p = (p.map stL).sum := by
  induction p with
  | nil => rw [stPs]; rfl
  | cons s r ih => rw [stPs, ih]; rfl
theorem stS_eq (s : St) : stS s = 1 + (s.ts.map stL).sum := by
  cases s with
  | mk w l ts => rw [stS, stPs_eq]; rfl
mutual
def wfS : St → Bool
  | .mk _ _ ts => decide (ts.length ≤ 2) && wfPs ts
def wfL : List St → Bool
  | [] => true
  | s :: r => wfS s && wfL r
def wfPs : List (List St) → Bool
  | [] => true
  | p :: r => (decide (1 ≤ p.length) && decide (p.length ≤ 3) && wfL p) && wfPs r
end
def wfP (p : Pa) : Bool := decide (1 ≤ p.length) && decide (p.length ≤ 3) && wfL p
theorem wfL_eq (p : Pa) : wfL p = p.all wfS := by
  induction p with
  | nil => rw [wfL]; rfl
  | cons s r ih => rw [wfL, ih]; rfl
theorem wfPs_eq (p : List Pa) : wfPs p = p.all wfP := by
  induction p with
  | nil => rw [wfPs]; rfl
  | cons s r ih => rw [wfPs, ih]; rfl
theorem wfS_eq (s : St) : wfS s = (decide (s.ts.length ≤ 2) && s.ts.all wfP) := by
  cases s with
  | mk w l ts => rw [wfS, wfPs_eq]; rfl
theorem mem_le_sum {A : Type} {f : A → Nat} {xs : List A} {x : A} (h : x ∈ xs) : f x ≤ (xs.map f).sum := by
  induction xs with
  | nil => cases h
  | cons y ys ih =>
    simp only [List.map_cons, List.sum_cons]
    rcases List.mem_cons.mp h with rfl | h
    · omega
    · have := ih h; omega
theorem one_le_stS (s : St) : 1 ≤ stS s := by rw [stS_eq]; omega
theorem len_le_sum {A : Type} {f : A → Nat} {xs : List A} (h : ∀ x ∈ xs, 1 ≤ f x) : xs.length ≤ (xs.map f).sum := by
  induction xs with
  | nil => simp
  | cons y ys ih =>
    have h1 := h y (by simp)
    have h2 := ih fun x hx => h x (by simp [hx])
    simp only [List.length_cons, List.map_cons, List.sum_cons]; omega
theorem len_le_st (p : Pa) : p.length ≤ stL p := by
  rw [stL_eq]; exact len_le_sum fun s _ => one_le_stS s
theorem encS_tests (s : St) : idxD (encS s) (.int 2) = .ok (.tuple (s.ts.map encP)) := by
  cases s with
  | mk w l ts => rw [encS_eq]; rfl
theorem sum_cast {A : Type} (f : A → Nat) (xs : List A) : (((xs.map f).sum : Nat) : Int) = (xs.map fun x => (f x : Int)).sum := by
  induction xs with
  | nil => rfl
  | cons x xs ih => simp [ih]
theorem r_steps : ∀ (n : Nat) (p : Pa), stL p < n → wfL p = true → stL p ≤ 1000 → rn n 9 [encP p] = .ok (.int (stL p))
  | 0, p, h, _, _ => by omega
  | n + 1, p, h, hw, hb => by
    have hl := len_le_st p
    rw [rn_law_steps, encP_eq]
    have hlim : lim = 1000000 := rfl
    have hin : ∀ s ∈ p, ∀ t ∈ s.ts, rn n 9 [encP t] = .ok (.int (stL t)) := by
      intro s hs t ht
      have h1 : stL t ≤ (s.ts.map stL).sum := mem_le_sum ht
      have h2 : stS s ≤ (p.map stS).sum := mem_le_sum hs
      rw [stS_eq] at h2
      rw [stL_eq p] at h hb
      have hw1 : wfS s = true := by rw [wfL_eq] at hw; exact List.all_eq_true.mp hw s hs
      rw [wfS_eq] at hw1
      simp only [Bool.and_eq_true] at hw1
      have hw2 := List.all_eq_true.mp hw1.2 t ht
      unfold wfP at hw2
      simp only [Bool.and_eq_true] at hw2
      exact r_steps n t (by omega) hw2.2 (by omega)
    have hts : ∀ s ∈ p, s.ts.length ≤ 2 := by
      intro s hs
      have hw1 : wfS s = true := by rw [wfL_eq] at hw; exact List.all_eq_true.mp hw s hs
      rw [wfS_eq] at hw1
      simp only [Bool.and_eq_true, decide_eq_true_eq] at hw1
      exact hw1.1
    have hpl : p.length ≤ lim := by omega
    have hcall : (Cn n).call = rn n := rfl
    simp [b_law_steps, evL, hpl]
    rw [compGo_enc (g := fun s => .int (stS s))]
    · simp [biD, intsOf_enc]
      rw [stL_eq, sum_cast]
    · intro s hs
      have hl2 : s.ts.length ≤ lim := by have := hts s hs; omega
      simp [encS_tests, hl2]
      rw [compGo_enc (g := fun t => .int (stL t))]
      · simp [biD, intsOf_enc]
        rw [stS_eq, ← sum_cast]; omega
      · intro t ht
        rw [hin s hs t ht]; rfl
end Tf
namespace Tf
open PySem
/-! Tm3: what _law_path draws is a path of at most so many steps. -/
theorem ways_idx (i : Int) (h0 : 0 ≤ i) (h1 : i < 2) : ∃ w, idxD (.tuple [.str "in", .str "deep"]) (.int i) = .ok (.str (wayS w)) := by
  have : i = 0 ∨ i = 1 := by omega
  rcases this with rfl | rfl
  · exact ⟨false, rfl⟩
  · exact ⟨true, rfl⟩
theorem abcab_idx (i : Int) (h0 : 0 ≤ i) (h1 : i < 5) : ∃ l, idxD (.str "abcab") (.int i) = .ok (.str (letS l)) := by
  have : i = 0 ∨ i = 1 ∨ i = 2 ∨ i = 3 ∨ i = 4 := by omega
  rcases this with rfl | rfl | rfl | rfl | rfl
  · exact ⟨0, rfl⟩
  · exact ⟨1, rfl⟩
  · exact ⟨2, rfl⟩
  · exact ⟨0, rfl⟩
  · exact ⟨1, rfl⟩
theorem stPs_app (ts : List Pa) (p : Pa) : stPs (ts ++ [p]) = stPs ts + stL p := by
  rw [stPs_eq, stPs_eq]; simp
theorem stL_app (q : Pa) (s : St) : stL (q ++ [s]) = stL q + stS s := by
  rw [stL_eq, stL_eq]; simp
theorem wfL_app (q : Pa) (s : St) : wfL (q ++ [s]) = (wfL q && wfS s) := by
  rw [wfL_eq, wfL_eq]; simp
theorem mem_range {lo : Int} {n : Nat} {d : D} (h : d ∈ rangeD lo n) : ∃ i : Int, d = .int i ∧ lo ≤ i ∧ i < lo + n := by
  rw [rangeD_eq] at h
  obtain ⟨i, hi, rfl⟩ := List.mem_map.mp h
  rw [List.mem_range] at hi
  exact ⟨_, rfl, by omega, by omega⟩
theorem rng0 {hi : Int} (h3 : 0 ≤ hi) (h4 : hi < 2 ^ 62) : rng 0 hi = .ok (rangeD 0 hi.toNat) := by
  rw [rng_ok (by omega) (by omega) (by omega) h4]; simp
theorem rangeD_len (lo : Int) (n : Nat) : (rangeD lo n).length = n := by rw [rangeD_eq]; simp
def J1 (c m M : Int) (q : List St) (k seed : Int) (a9 : Option Sl) (left0 : Int) (ds : List D) (s : Sd) : Prop :=
  ∃ (left : Int) (ts : List Pa) (a8 a10 : Option Sl), s = [some (.sh (.int c)), some (.sh (.int m)), some (.sh (.int (1 + M))), some (.sh (.int left)), some (.ow (q.map encS)), some (.sh (.int k)), some (.sh (.int seed)), some (.ow (ts.map encP)), a8, a9, a10] ∧
    0 ≤ left ∧ ts.all wfP = true ∧ (stPs ts : Int) + left = left0 ∧ ts.length + ds.length ≤ 2 ∧ ∀ d ∈ ds, ∃ j : Int, d = .int j
def J2 (c m M : Int) (ds : List D) (s : Sd) : Prop :=
  ∃ (left : Int) (q : List St) (a5 a6 a7 a8 a9 a10 : Option Sl), s = [some (.sh (.int c)), some (.sh (.int m)), some (.sh (.int (1 + M))), some (.sh (.int left)), some (.ow (q.map encS)), a5, a6, a7, a8, a9, a10] ∧
    0 ≤ left ∧ wfL q = true ∧ (stL q : Int) + left + ds.length = m ∧ (q.length : Int) + ds.length = 1 + M ∧ ∀ d ∈ ds, ∃ j : Int, d = .int j
theorem r_path : ∀ (n : Nat) (c m : Int), 1 ≤ m → m ≤ 100 → m < n → ∃ p : Pa, rn n 8 [.int c, .int m] = .ok (encP p) ∧ wfP p = true ∧ (stL p : Int) ≤ m
  | 0, c, m, h1, _, h2 => by omega
  | n + 1, c, m, h1, h100, h2 => by
    have hlim : lim = 1000000 := rfl
    obtain ⟨n', rfl⟩ : ∃ n', n = n' + 1 := ⟨n - 1, by omega⟩
    have hmn : 0 < (if m < 3 then m else 3) := by split <;> omega
    have ha := mix_lo c 9941 _ hmn
    have hb := mix_hi c 9941 _ hmn
    have hmix : rn (n' + 1) 5 [.int c, .int 9941, .int (if m < 3 then m else 3)] = .ok (.int (mix c 9941 (if m < 3 then m else 3))) := r_mix n' _ _ _ (by omega) (by omega) hmn
    generalize hM : mix c 9941 (if m < 3 then m else 3) = M at ha hb hmix
    have hM3 : 1 + M ≤ 3 ∧ 1 + M ≤ m := by split at hb <;> omega
    have inner : ∀ (q : List St) (k seed : Int) (a9 : Option Sl) (left0 : Int), left0 < m → ∀ (ds : List D) (s : Sd), J1 c m M q k seed a9 left0 ds s →
        ∃ s', loopFor (.name 8) (fun s' => evSs (Cn (n' + 1)) b_law_path_1 s') ds s = .nx s' ∧ J1 c m M q k seed a9 left0 [] s' := by
      intro q k seed a9 left0 hl0 ds s h
      refine loopFor_inv (J1 c m M q k seed a9 left0) ?_ ds s h
      rintro d r s ⟨left, ts, a8, a10, rfl, g1, g2, g3, g4, g5⟩
      obtain ⟨j, rfl⟩ := g5 d (by simp)
      simp only [List.length_cons] at g4
      by_cases hpos : 0 < left
      · have m1 := mix_lo seed 9929 left hpos
        have m2 := mix_hi seed 9929 left hpos
        obtain ⟨p, e1, e2, e3⟩ := r_path (n' + 1) (seed + 29 * j + 5) (1 + mix seed 9929 left) (by omega) (by omega) (by omega)
        have e4 := r_steps (n' + 1) p (by omega) (by unfold wfP at e2; simp only [Bool.and_eq_true] at e2; exact e2.2) (by omega)
        have e5 := r_mix n' seed 9929 left (by omega) (by omega) hpos
        have e6 := b_mul 29 j (.inl ⟨by decide, by decide⟩)
        have e7 : ts.length < lim := by omega
        refine ⟨_, [some (.sh (.int c)), some (.sh (.int m)), some (.sh (.int (1 + M))), some (.sh (.int (left - stL p))), some (.ow (q.map encS)), some (.sh (.int k)), some (.sh (.int seed)), some (.ow ((ts ++ [p]).map encP)), some (.sh (.int j)), a9, some (.sh (encP p))], b_name _ _ _, by simp [b_law_path_1, hpos, e1, e4, e5, e6, e7], ?_⟩
        refine ⟨left - stL p, ts ++ [p], _, _, rfl, by omega, by simp only [List.all_append, g2, Bool.true_and, List.all_cons, e2, List.all_nil], ?_, ?_, fun d hd => g5 d (by simp [hd])⟩
        · rw [stPs_app]; push_cast; omega
        · simp; omega
      · refine ⟨_, [some (.sh (.int c)), some (.sh (.int m)), some (.sh (.int (1 + M))), some (.sh (.int left)), some (.ow (q.map encS)), some (.sh (.int k)), some (.sh (.int seed)), some (.ow (ts.map encP)), some (.sh (.int j)), a9, a10], b_name _ _ _, by simp [b_law_path_1, hpos], ?_⟩
        exact ⟨left, ts, _, _, rfl, g1, g2, g3, by omega, fun d hd => g5 d (by simp [hd])⟩
    have outer : ∀ (ds : List D) (s : Sd), J2 c m M ds s → ∃ s', loopFor (.name 5) (fun s' => evSs (Cn (n' + 1)) b_law_path_2 s') ds s = .nx s' ∧ J2 c m M [] s' := by
      refine loopFor_inv (J2 c m M) ?_
      rintro d r s ⟨left, q, a5, a6, a7, a8, a9, a10, rfl, g1, g2, g3, g4, g5⟩
      obtain ⟨j, rfl⟩ := g5 d (by simp)
      simp only [List.length_cons] at g3 g4
      have e6 := b_mul 17 j (.inl ⟨by decide, by decide⟩)
      have e5 := r_mix n' (c + 17 * j) 9931 3 (by omega) (by omega) (by omega)
      have e7 := r_mix n' (c + 17 * j) 9923 2 (by omega) (by omega) (by omega)
      have e8 := r_mix n' (c + 17 * j) 9907 5 (by omega) (by omega) (by omega)
      have k1 := mix_lo (c + 17 * j) 9931 3 (by omega)
      have k2 := mix_hi (c + 17 * j) 9931 3 (by omega)
      obtain ⟨w, hw⟩ := ways_idx _ (mix_lo (c + 17 * j) 9923 2 (by omega)) (mix_hi (c + 17 * j) 9923 2 (by omega))
      obtain ⟨l, hl⟩ := abcab_idx _ (mix_lo (c + 17 * j) 9907 5 (by omega)) (mix_hi (c + 17 * j) 9907 5 (by omega))
      obtain ⟨s', x1, left', ts, b8, b10, rfl, x2, x3, x4, x5, _⟩ := inner q j (c + 17 * j) a9 left (by omega) (rangeD 0 (mix (c + 17 * j) 9931 3).toNat) [some (.sh (.int c)), some (.sh (.int m)), some (.sh (.int (1 + M))), some (.sh (.int left)), some (.ow (q.map encS)), some (.sh (.int j)), some (.sh (.int (c + 17 * j))), some (.ow []), a8, a9, a10]
        ⟨left, [], a8, a10, rfl, g1, rfl, by simp [stPs], by rw [rangeD_len]; simp; omega, fun d hd => by obtain ⟨i, hi, _⟩ := mem_range hd; exact ⟨i, hi⟩⟩
      have e9 := rng0 (hi := mix (c + 17 * j) 9931 3) (by omega) (by omega)
      have e10 : q.length < lim := by omega
      refine ⟨_, [some (.sh (.int c)), some (.sh (.int m)), some (.sh (.int (1 + M))), some (.sh (.int left')), some (.ow ((q ++ [St.mk w l ts]).map encS)), some (.sh (.int j)), some (.sh (.int (c + 17 * j))), some (.sh (.list (ts.map encP))), b8, some (.sh (.str (wayS w))), b10], b_name _ _ _, ?_, ?_⟩
      · simp [b_law_path_2, e6, e5, e9, x1, e7, hw, e8, hl, e10, encS_eq]
      · have hs : stS (St.mk w l ts) = 1 + stPs ts := by rw [stS]
        refine ⟨left', q ++ [St.mk w l ts], _, _, _, _, _, _, rfl, x2, ?_, ?_, ?_, fun d hd => g5 d (by simp [hd])⟩
        · rw [wfL_app, g2, wfS_eq]
          simp only [St.ts, x3, Bool.true_and, Bool.and_true, decide_eq_true_eq]
          simp at x5; exact decide_eq_true x5
        · rw [stL_app, hs]; push_cast; omega
        · simp; omega
    obtain ⟨s', x1, left', q, b5, b6, b7, b8, b9, b10, rfl, x2, x3, x4, x5, _⟩ := outer (rangeD 0 (1 + M).toNat) [some (.sh (.int c)), some (.sh (.int m)), some (.sh (.int (1 + M))), some (.sh (.int (m - (1 + M)))), some (.ow []), none, none, none, none, none, none]
      ⟨m - (1 + M), [], none, none, none, none, none, none, rfl, by omega, by simp [wfL], by rw [rangeD_len]; simp [stL]; omega, by rw [rangeD_len]; simp; omega, fun d hd => by obtain ⟨i, hi, _⟩ := mem_range hd; exact ⟨i, hi⟩⟩
    have e9 := rng0 (hi := 1 + M) (by omega) (by omega)
    refine ⟨q, ?_, ?_, by simp at x4; omega⟩
    · rw [rn_law_path]
      simp [b_law_path, hmix, e9, x1, encP_eq]
    · unfold wfP
      simp at x5
      simp only [x3, Bool.and_true, Bool.and_eq_true, decide_eq_true_eq]
      omega
end Tf
namespace Tf
open PySem
/-! Tm4: things of small size; what _law_odd makes. -/
/-- at most n deep, every text and row at most k long -/
def fit (k : Nat) : Nat → D → Prop
  | 0, _ => False
  | n + 1, d => match d with
    | .none => True
    | .bool _ => True
    | .int _ => True
    | .str x => x.length ≤ k
    | .list xs => xs.length ≤ k ∧ ∀ x ∈ xs, fit k n x
    | .tuple xs => xs.length ≤ k ∧ ∀ x ∈ xs, fit k n x
    | .dict _ => False
/-- of tuples, texts and numbers alone -/
def tsi (k : Nat) : Nat → D → Prop
  | 0, _ => False
  | n + 1, d => match d with
    | .int _ => True
    | .str x => x.length ≤ k
    | .tuple xs => xs.length ≤ k ∧ ∀ x ∈ xs, tsi k n x
    | _ => False
theorem fit_mono {k k' : Nat} (hk : k ≤ k') : ∀ {n m : Nat} {d : D}, n ≤ m → fit k n d → fit k' m d
  | 0, _, _, _, h => h.elim
  | n + 1, 0, _, hm, _ => by omega
  | n + 1, m + 1, d, hm, h => by
    cases d with
    | str x => exact Nat.le_trans h hk
    | list xs => exact ⟨Nat.le_trans h.1 hk, fun x hx => fit_mono hk (by omega) (h.2 x hx)⟩
    | tuple xs => exact ⟨Nat.le_trans h.1 hk, fun x hx => fit_mono hk (by omega) (h.2 x hx)⟩
    | dict _ => exact h.elim
    | _ => trivial
theorem tsi_fit {k : Nat} : ∀ {n : Nat} {d : D}, tsi k n d → fit k n d
  | 0, _, h => h.elim
  | n + 1, d, h => by
    cases d with
    | str x => exact h
    | int x => trivial
    | tuple xs => exact ⟨h.1, fun x hx => tsi_fit (h.2 x hx)⟩
    | _ => exact h.elim
theorem depthAll_le {m : Nat} : ∀ (xs : List D), (∀ x ∈ xs, x.depth ≤ m) → PyData.depthAll xs ≤ m
  | [], _ => by simp [PyData.depthAll]
  | x :: xs, h => by
    have h1 := h x (by simp)
    have h2 := depthAll_le xs fun y hy => h y (by simp [hy])
    simp only [PyData.depthAll]
    omega
theorem fit_depth {k : Nat} : ∀ {n : Nat} {d : D}, fit k n d → d.depth ≤ n
  | 0, _, h => h.elim
  | n + 1, d, h => by
    cases d with
    | list xs =>
      have := depthAll_le xs fun x hx => fit_depth (h.2 x hx)
      simp only [PyData.depth]; omega
    | tuple xs =>
      have := depthAll_le xs fun x hx => fit_depth (h.2 x hx)
      simp only [PyData.depth]; omega
    | dict _ => exact h.elim
    | _ => simp [PyData.depth]
theorem cut_mem {A : Type} {xs : List A} {lo hi : Option Int} {x : A} (h : x ∈ cutD xs lo hi) : x ∈ xs := by
  unfold cutD at h
  exact List.mem_of_mem_drop (List.mem_of_mem_take h)
theorem cut_len {A : Type} (xs : List A) (lo hi : Option Int) : (cutD xs lo hi).length ≤ xs.length := by
  unfold cutD
  simp only [List.length_take, List.length_drop]; omega
theorem slcT (lo hi : Option Int) (xs : List D) : slcD lo hi (.tuple xs) = .ok (.tuple (cutD xs lo hi)) := rfl
theorem slcS (lo hi : Option Int) (x : Str) (h : x.length ≤ lim) : slcD lo hi (.str x) = .ok (.str ⟨(cutD x.cps.toList lo hi).toArray⟩) := if_pos h
theorem c_neNil (xs : List D) : cmpD .NotEq (.tuple xs) (.tuple []) = .ok (!xs.isEmpty) := by
  have hn : near (.tuple xs) (.tuple []) = true := by
    simp [near, PyData.depth, PyData.depthAll]
  rw [cmpD, if_pos hn]
  cases xs <;> simp [PyData.eqv, PyData.eqvAll]
theorem atI_some {A : Type} {xs : List A} {i : Int} (h0 : 0 ≤ i) (h1 : i < xs.length) : ∃ x, L2.atI xs i = some x ∧ xs[i.toNat]? = some x := by
  have hl : i.toNat < xs.length := by omega
  have e : ((i.toNat : Nat) : Int) = i := by omega
  have := L2.atI_nat (List.getElem?_eq_getElem hl)
  rw [e] at this
  exact ⟨_, this, List.getElem?_eq_getElem hl⟩
theorem idx_mem {xs : List D} {i : Int} (h0 : 0 ≤ i) (h1 : i < xs.length) : ∃ x ∈ xs, idxD (.tuple xs) (.int i) = .ok x ∧ idxD (.list xs) (.int i) = .ok x := by
  obtain ⟨x, e1, e2⟩ := atI_some h0 h1
  exact ⟨x, List.mem_of_getElem? e2, by simp [idxD, e1], by simp [idxD, e1]⟩
theorem cat_ok (xs ys : List D) (h : xs.length + ys.length ≤ lim) : catD xs ys = .ok (xs ++ ys) := if_pos h
theorem rep2 (xs : List D) (h : xs.length ≤ 1000) : repD xs (.int 2) = .ok (xs ++ xs) := by
  have : repD xs (.int 2) = .ok (List.replicate (2 : Int).toNat xs).flatten := if_pos ⟨by decide, by decide, h⟩
  rw [this]
  simp [List.replicate]
def oddBase : List D := [.none, .bool true, .bool false, .int 0, .int 1, .int (-1), .int 2, .int 7, .int 10, .int 1000, .str "", .str "a", .str "A", .tuple [], .tuple [.str "a"], .list [.int 1]]
theorem oddBase_fit {k n : Nat} (hk : 1 ≤ k) : ∀ d ∈ oddBase, fit k (n + 2) d := by
  intro d hd
  have h : ∀ d ∈ oddBase, fit 1 2 d := by
    intro d hd
    simp only [oddBase, List.mem_cons, List.not_mem_nil, or_false] at hd
    rcases hd with rfl | rfl | rfl | rfl | rfl | rfl | rfl | rfl | rfl | rfl | rfl | rfl | rfl | rfl | rfl | rfl
    all_goals (simp [fit])
    all_goals (try decide)
  exact fit_mono hk (by omega) (h d hd)
theorem strLen_app (x y : Str) : (x ++ y).length = x.length + y.length := by
  show (x.cps ++ y.cps).size = _
  rw [Array.size_append]; rfl
mutual
/-- how many texts there are -/
def nsD : D → Nat
  | .str _ => 1
  | .list xs => nsA xs
  | .tuple xs => nsA xs
  | .none => 0
  | .bool _ => 0
  | .int _ => 0
  | .dict _ => 0
def nsA : List D → Nat
  | [] => 0
  | x :: r => nsD x + nsA r
end
theorem nsA_app : ∀ xs ys : List D, nsA (xs ++ ys) = nsA xs + nsA ys
  | [], ys => by rw [List.nil_append, nsA]; omega
  | x :: xs, ys => by rw [List.cons_append, nsA, nsA, nsA_app xs ys]; omega
theorem nsA_rev : ∀ xs : List D, nsA xs.reverse = nsA xs
  | [] => rfl
  | x :: xs => by rw [List.reverse_cons, nsA_app, nsA_rev xs, nsA, nsA, nsA]; omega
theorem nsA_cut (xs : List D) (lo hi : Option Int) : nsA (cutD xs lo hi) ≤ nsA xs := by
  unfold cutD
  have h1 := congrArg nsA (List.take_append_drop (HT.sIx xs.length 0 lo) xs)
  have h2 := congrArg nsA (List.take_append_drop (HT.sIx xs.length xs.length hi - HT.sIx xs.length 0 lo) (xs.drop (HT.sIx xs.length 0 lo)))
  rw [nsA_app] at h1 h2
  omega
theorem oddBase_ns : ∀ d ∈ oddBase, nsD d ≤ 1 := by
  intro d hd
  simp only [oddBase, List.mem_cons, List.not_mem_nil, or_false] at hd
  rcases hd with rfl | rfl | rfl | rfl | rfl | rfl | rfl | rfl | rfl | rfl | rfl | rfl | rfl | rfl | rfl | rfl
  all_goals simp [nsD, nsA]
theorem nsA_mid {xs : List D} {i : Int} (h0 : 0 ≤ i) {y : D} (h : xs[i.toNat]? = some y) : nsA (cutD xs none (some i)) + nsD y + nsA (cutD xs (some (i + 1)) none) = nsA xs := by
  obtain ⟨hi, rfl⟩ := List.getElem?_eq_some_iff.mp h
  have e1 : cutD xs none (some i) = xs.take i.toNat := by
    unfold cutD
    have : HT.sIx xs.length xs.length (some i) = i.toNat := by
      have := HT.sIx_nat xs.length xs.length i.toNat
      rw [show ((i.toNat : Nat) : Int) = i by omega] at this
      rw [this]; omega
    rw [this, HT.sIx_none, List.drop_zero, Nat.sub_zero]
  have e2 : cutD xs (some (i + 1)) none = xs.drop (i.toNat + 1) := by
    unfold cutD
    have : HT.sIx xs.length 0 (some (i + 1)) = i.toNat + 1 := by
      have := HT.sIx_nat xs.length 0 (i.toNat + 1)
      rw [show ((i.toNat + 1 : Nat) : Int) = i + 1 by omega] at this
      rw [this]; omega
    rw [this, HT.sIx_none, List.take_of_length_le (by simp)]
  have h1 := congrArg nsA (List.take_append_drop i.toNat xs)
  rw [nsA_app, List.drop_eq_getElem_cons hi, nsA] at h1
  rw [e1, e2]; omega
theorem r_odd : ∀ (n N k : Nat) (d : D) (c : Int), tsi k n d → 1 ≤ k → k ≤ 100 → n ≤ 100 → n < N → ∃ r, rn (N + 1) 10 [d, .int c] = .ok r ∧ fit (2 * k + 2) (n + 2) r ∧ nsD r ≤ 2 * nsD d + 1
  | 0, N, k, d, c, h, _, _, _, _ => h.elim
  | n + 1, N, k, d, c, h, h1, hk, hn, hN => by
    have hlim : lim = 1000000 := rfl
    obtain ⟨N', rfl⟩ : ∃ n', N = n' + 1 := ⟨N - 1, by omega⟩
    have e1 := r_mix N' c 9781 5 (by omega) (by omega) (by omega)
    have fin : ∀ L : List D, 0 < L.length → L.length ≤ 1000 → (∀ x ∈ L, fit (2 * k + 2) (n + 3) x ∧ nsD x ≤ 2 * nsD d + 1) → ∃ r, (rn (N' + 1) 5 [.int c, .int 9749, .int L.length]).bind (fun y => idxD (.list L) y) = .ok r ∧ fit (2 * k + 2) (n + 3) r ∧ nsD r ≤ 2 * nsD d + 1 := by
      intro L l0 l1 hf
      have e2 := r_mix N' c 9749 L.length (by omega) (by omega) (by omega)
      obtain ⟨x, hx, _, e3⟩ := idx_mem (xs := L) (mix_lo c 9749 L.length (by omega)) (mix_hi c 9749 L.length (by omega))
      exact ⟨x, by rw [e2, R.bind_ok, e3], hf x hx⟩
    have bf : ∀ x ∈ oddBase, fit (2 * k + 2) (n + 3) x ∧ nsD x ≤ 2 * nsD d + 1 := fun x hx => ⟨oddBase_fit (by omega) x hx, by have := oddBase_ns x hx; omega⟩
    cases d with
    | tuple xs =>
      obtain ⟨hx1, hx2⟩ := h
      have sub : ∀ ys : List D, ys.length ≤ 2 * k + 2 → (∀ y ∈ ys, y ∈ xs) → fit (2 * k + 2) (n + 3) (.tuple ys) := fun ys hl hm => ⟨hl, fun y hy => fit_mono (by omega) (by omega) (tsi_fit (hx2 y (hm y hy)))⟩
      by_cases hA : xs ≠ [] ∧ 0 < mix c 9781 5
      · obtain ⟨hA1, hA2⟩ := hA
        have hlen : 0 < xs.length := List.length_pos_iff.mpr hA1
        have hemp : xs.isEmpty = false := by cases xs <;> simp_all
        have e2 := r_mix N' c 9769 xs.length (by omega) (by omega) (by omega)
        have m1 := mix_lo c 9769 xs.length (by omega)
        have m2 := mix_hi c 9769 xs.length (by omega)
        generalize mix c 9769 xs.length = at0 at e2 m1 m2
        obtain ⟨y, hat, hgt⟩ := atI_some (xs := xs) m1 m2
        have hy : y ∈ xs := List.mem_of_getElem? hgt
        have e3 : idxD (.tuple xs) (.int at0) = .ok y := by simp [idxD, hat]
        have hmid := nsA_mid m1 hgt
        have e4 := b_mul 31 at0 (.inl ⟨by decide, by decide⟩)
        obtain ⟨r, e5, e6, e6n⟩ := r_odd n N' k y (c + 31 * at0 + 7) (hx2 y hy) h1 hk (by omega) (by omega)
        have c1 := cut_len xs none (some at0)
        have c2 := cut_len xs (some (at0 + 1)) none
        have e7 := b_tup (cutD xs none (some at0)) [r] (by simp; omega)
        have e8 := b_tup (cutD xs none (some at0) ++ [r]) (cutD xs (some (at0 + 1)) none) (by simp; omega)
        refine ⟨.tuple (cutD xs none (some at0) ++ [r] ++ cutD xs (some (at0 + 1)) none), ?_, ⟨?_, ?_⟩, by rw [nsD, nsD, nsA_app, nsA_app, nsA, nsA]; omega⟩
        · rw [rn_law_odd]
          simp only [b_law_odd, s_cons', s_iff', e_and, e_isi, e_var, List.getElem?_cons_zero, List.getElem?_cons_succ, R.bind_ok, isT_tup, t_bool, e_cmp, e_tup, es_nil', c_neNil, hemp, Bool.not_false, e_call, es_cons', e_con, e1, c_gt, hA2, decide_true, R.out_ok, s_set', e_bi, bi_lenT, e2, List.set_cons_succ, List.set_cons_zero, Out.then_nx, s_ret', e_bin, e_slc, eo_no, eo_yes, i_of, slcT, e_idx, e3, e4, b_add, e5, e7, e8, Out.then_rt, res_rt]
        · simp; omega
        · intro z hz
          simp only [List.mem_append, List.mem_singleton] at hz
          rcases hz with (hz | rfl) | hz
          · exact fit_mono (by omega) (by omega) (tsi_fit (hx2 z (cut_mem hz)))
          · exact e6
          · exact fit_mono (by omega) (by omega) (tsi_fit (hx2 z (cut_mem hz)))
      · have c1 := cut_len xs (some (-1)) none
        have c2 := cut_len xs none (some (-1))
        have c3 := cut_len xs (some 1) none
        have e7 := b_tup xs (cutD xs (some (-1)) none) (by omega)
        have e8 := rep2 [.list xs, .tuple (xs ++ cutD xs (some (-1)) none), .tuple (cutD xs none (some (-1))), .tuple xs.reverse, .tuple (cutD xs (some 1) none), .tuple [.tuple xs]] (by simp)
        have e9 := cat_ok oddBase ([.list xs, .tuple (xs ++ cutD xs (some (-1)) none), .tuple (cutD xs none (some (-1))), .tuple xs.reverse, .tuple (cutD xs (some 1) none), .tuple [.tuple xs]] ++ [.list xs, .tuple (xs ++ cutD xs (some (-1)) none), .tuple (cutD xs none (some (-1))), .tuple xs.reverse, .tuple (cutD xs (some 1) none), .tuple [.tuple xs]]) (by simp [oddBase]; omega)
        have f6 : ∀ x ∈ ([.list xs, .tuple (xs ++ cutD xs (some (-1)) none), .tuple (cutD xs none (some (-1))), .tuple xs.reverse, .tuple (cutD xs (some 1) none), .tuple [.tuple xs]] : List D), fit (2 * k + 2) (n + 3) x := by
          intro x hx
          simp only [List.mem_cons, List.not_mem_nil, or_false] at hx
          rcases hx with rfl | rfl | rfl | rfl | rfl | rfl
          · exact ⟨by omega, fun y hy => fit_mono (by omega) (by omega) (tsi_fit (hx2 y hy))⟩
          · exact sub _ (by simp; omega) fun y hy => by
              rcases List.mem_append.mp hy with hy | hy
              · exact hy
              · exact cut_mem hy
          · exact sub _ (by omega) fun y hy => cut_mem hy
          · exact sub _ (by simp; omega) fun y hy => List.mem_reverse.mp hy
          · exact sub _ (by omega) fun y hy => cut_mem hy
          · exact ⟨by simp, fun y hy => by
              simp only [List.mem_singleton] at hy
              subst hy
              exact ⟨by omega, fun y hy => fit_mono (by omega) (by omega) (tsi_fit (hx2 y hy))⟩⟩
        have g6 : ∀ x ∈ ([.list xs, .tuple (xs ++ cutD xs (some (-1)) none), .tuple (cutD xs none (some (-1))), .tuple xs.reverse, .tuple (cutD xs (some 1) none), .tuple [.tuple xs]] : List D), nsD x ≤ 2 * nsD (.tuple xs) + 1 := by
          have q1 := nsA_cut xs (some (-1)) none
          have q2 := nsA_cut xs none (some (-1))
          have q3 := nsA_cut xs (some 1) none
          intro x hx
          simp only [List.mem_cons, List.not_mem_nil, or_false] at hx
          rcases hx with rfl | rfl | rfl | rfl | rfl | rfl
          · rw [nsD, nsD]; omega
          · rw [nsD, nsD, nsA_app]; omega
          · rw [nsD, nsD]; omega
          · rw [nsD, nsD, nsA_rev]; omega
          · rw [nsD, nsD]; omega
          · rw [nsD, nsA, nsA, nsD]; omega
        generalize hLd : ([.list xs, .tuple (xs ++ cutD xs (some (-1)) none), .tuple (cutD xs none (some (-1))), .tuple xs.reverse, .tuple (cutD xs (some 1) none), .tuple [.tuple xs]] : List D) = L6 at e8 e9 f6 g6
        have hL6 : L6.length = 6 := by subst hLd; rfl
        obtain ⟨r, e10, e11⟩ := fin (oddBase ++ (L6 ++ L6)) (by simp [oddBase]) (by simp [oddBase, hL6]) (by
          intro x hx
          simp only [List.mem_append] at hx
          rcases hx with hx | hx | hx
          · exact bf x hx
          · exact ⟨f6 x hx, g6 x hx⟩
          · exact ⟨f6 x hx, g6 x hx⟩)
        refine ⟨r, ?_, e11⟩
        rw [rn_law_odd, b_law_odd]
        refine res_of (ss_nx (s' := [some (.sh (.tuple xs)), some (.sh (.int c)), none, none]) ?_) ?_
        · refine (iff_f (d := .bool false) ?_ rfl).trans (s_nil' _ _)
          rw [and_t (by simp)]
          by_cases hx : xs = []
          · exact and_f (by subst hx; simp [c_neNil])
          · have hm : ¬ 0 < mix c 9781 5 := fun z => hA ⟨hx, z⟩
            rw [and_t (by simp [c_neNil, hx])]
            simp [e1, hm]
        refine res_of (ss_nx (set_ok (d := .list oddBase) (by simp [negD, oddBase]))) ?_
        refine res_of (ss_nx (s' := [some (.sh (.tuple xs)), some (.sh (.int c)), some (.sh (.list (oddBase ++ (L6 ++ L6)))), none]) ?_) ?_
        · refine (iff_t (d := .bool true) (by simp) rfl).trans ((ss_nx (set_ok (d := .list (oddBase ++ (L6 ++ L6))) ?_)).trans (s_nil' _ _))
          simp only [e_lst, el_cat, e_var, List.set_cons_succ, List.set_cons_zero, List.getElem?_cons_zero, List.getElem?_cons_succ, R.bind_ok, el_rep, el_disp, es_cons', es_nil', el_ofs, sq_tup, e_bin, e_slc, eo_yes, eo_no, e_neg, e_con, negD, i_of, slcT, e7, e_rev, revD, e_tup, hLd, l_of, e8, e9]
        refine res_of (ss_rt (ret_ok (d := r) ?_)) rfl
        rw [← e10]
        simp only [e_idx, e_var, List.getElem?_cons_zero, List.getElem?_cons_succ, R.bind_ok, e_call, es_cons', es_nil', e_con, e_bi, bi_lenL]
    | str x =>
      have hx : x.length ≤ k := h
      have hxl : x.length ≤ lim := by omega
      have u1 : upperD (.str x) = .ok (.str ⟨x.cps.map PyProof.Rows.up1⟩) := if_pos hxl
      have u2 : binD .Mult (.str x) (.int 2) = .ok (.str (Txt.mul x 2)) := if_pos ⟨by decide, by decide, by omega⟩
      have c1 := cut_len x.cps.toList none (some (-1))
      have c2 := cut_len x.cps.toList none (some 1)
      have hsz : x.cps.toList.length = x.length := by rw [Array.length_toList]; rfl
      have e5 := b_str x "a" (by have : ("a" : Str).length = 1 := by decide +kernel
                                 omega)
      have e6 := b_str x " " (by have : (" " : Str).length = 1 := by decide +kernel
                                 omega)
      have l2 : (⟨(cutD x.cps.toList none (some 1)).toArray⟩ : Str).length ≤ x.length := by
        show ((cutD x.cps.toList none (some 1)).toArray).size ≤ _
        simp only [List.size_toArray]; omega
      have l3 : (⟨(cutD x.cps.toList none (some (-1))).toArray⟩ : Str).length ≤ x.length := by
        show ((cutD x.cps.toList none (some (-1))).toArray).size ≤ _
        simp only [List.size_toArray]; omega
      have e7 := b_str x ⟨(cutD x.cps.toList none (some 1)).toArray⟩ (by omega)
      have f6 : ∀ z ∈ ([.str (x ++ "a"), .str ⟨(cutD x.cps.toList none (some (-1))).toArray⟩, .str ⟨x.cps.map PyProof.Rows.up1⟩, .str (x ++ " "), .str (Txt.mul x 2), .list [.str x], .str (x ++ ⟨(cutD x.cps.toList none (some 1)).toArray⟩)] : List D), fit (2 * k + 2) (n + 3) z := by
        intro z hz
        simp only [List.mem_cons, List.not_mem_nil, or_false] at hz
        rcases hz with rfl | rfl | rfl | rfl | rfl | rfl | rfl
        · show (x ++ "a" : Str).length ≤ _
          rw [strLen_app]
          have : ("a" : Str).length = 1 := by decide +kernel
          omega
        · show Str.length _ ≤ _
          omega
        · show (x.cps.map PyProof.Rows.up1).size ≤ _
          rw [Array.size_map]
          have : x.cps.size = x.length := rfl
          omega
        · show (x ++ " " : Str).length ≤ _
          rw [strLen_app]
          have : (" " : Str).length = 1 := by decide +kernel
          omega
        · show (Txt.mul x 2).length ≤ _
          have := PyProof.Rows.len_mul x 2
          rw [if_neg (by decide)] at this
          omega
        · refine ⟨by simp, fun y hy => ?_⟩
          simp only [List.mem_singleton] at hy
          subst hy
          show x.length ≤ _
          omega
        · show Str.length _ ≤ _
          rw [strLen_app]
          omega
      have e8 := rep2 [.str (x ++ "a"), .str ⟨(cutD x.cps.toList none (some (-1))).toArray⟩, .str ⟨x.cps.map PyProof.Rows.up1⟩, .str (x ++ " "), .str (Txt.mul x 2), .list [.str x], .str (x ++ ⟨(cutD x.cps.toList none (some 1)).toArray⟩)] (by simp)
      have g6 : ∀ z ∈ ([.str (x ++ "a"), .str ⟨(cutD x.cps.toList none (some (-1))).toArray⟩, .str ⟨x.cps.map PyProof.Rows.up1⟩, .str (x ++ " "), .str (Txt.mul x 2), .list [.str x], .str (x ++ ⟨(cutD x.cps.toList none (some 1)).toArray⟩)] : List D), nsD z ≤ 2 * nsD (.str x) + 1 := by
        intro z hz
        simp only [List.mem_cons, List.not_mem_nil, or_false] at hz
        rcases hz with rfl | rfl | rfl | rfl | rfl | rfl | rfl
        all_goals simp [nsD, nsA]
      generalize hLd : ([.str (x ++ "a"), .str ⟨(cutD x.cps.toList none (some (-1))).toArray⟩, .str ⟨x.cps.map PyProof.Rows.up1⟩, .str (x ++ " "), .str (Txt.mul x 2), .list [.str x], .str (x ++ ⟨(cutD x.cps.toList none (some 1)).toArray⟩)] : List D) = L6 at e8 f6 g6
      have hL6 : L6.length = 7 := by subst hLd; rfl
      have e9 := cat_ok oddBase (L6 ++ L6) (by simp [oddBase, hL6]; omega)
      obtain ⟨r, e10, e11⟩ := fin (oddBase ++ (L6 ++ L6)) (by simp [oddBase]) (by simp [oddBase, hL6]) (by
        intro x hx
        simp only [List.mem_append] at hx
        rcases hx with hx | hx | hx
        · exact bf x hx
        · exact ⟨f6 x hx, g6 x hx⟩
        · exact ⟨f6 x hx, g6 x hx⟩)
      refine ⟨r, ?_, e11⟩
      rw [rn_law_odd, b_law_odd]
      refine res_of (ss_nx (s' := [some (.sh (.str x)), some (.sh (.int c)), none, none]) ?_) ?_
      · refine (iff_f (d := .bool false) (and_f ?_) rfl).trans (s_nil' _ _)
        simp [isTy]
      refine res_of (ss_nx (set_ok (d := .list oddBase) (by simp [negD, oddBase]))) ?_
      refine res_of (ss_nx (s' := [some (.sh (.str x)), some (.sh (.int c)), some (.sh (.list (oddBase ++ (L6 ++ L6)))), none]) ?_) ?_
      · refine (iff_f (d := .bool false) (by simp [isTy]) rfl).trans ?_
        refine (ss_nx ?_).trans (s_nil' _ _)
        refine (iff_t (d := .bool true) (by simp [isTy]) rfl).trans ?_
        refine (ss_nx (set_ok (d := .list (oddBase ++ (L6 ++ L6))) ?_)).trans (s_nil' _ _)
        simp only [e_lst, el_cat, e_var, List.set_cons_succ, List.set_cons_zero, List.getElem?_cons_zero, List.getElem?_cons_succ, R.bind_ok, el_rep, el_disp, es_cons', es_nil', e_bin, e_slc, eo_yes, eo_no, e_neg, e_con, negD, i_of, slcS _ _ x hxl, e5, e6, e7, e_upper, u1, u2, hLd, l_of, e8, e9]
      refine res_of (ss_rt (ret_ok (d := r) ?_)) rfl
      rw [← e10]
      simp only [e_idx, e_var, List.getElem?_cons_zero, List.getElem?_cons_succ, R.bind_ok, e_call, es_cons', es_nil', e_con, e_bi, bi_lenL]
    | int i =>
      have u2 : binD .Mult (.int i) (.int 2) = .ok (.int (i * 2)) := b_mul _ _ (.inr (by decide))
      have f6 : ∀ z ∈ ([.int (i + 1), .int (i - 1), .int (0 - i), .tuple [.int i], .int (i + 2), .int (i * 2)] : List D), fit (2 * k + 2) (n + 3) z := by
        intro z hz
        simp only [List.mem_cons, List.not_mem_nil, or_false] at hz
        rcases hz with rfl | rfl | rfl | rfl | rfl | rfl
        · trivial
        · trivial
        · trivial
        · refine ⟨by simp, fun y hy => ?_⟩
          simp only [List.mem_singleton] at hy
          subst hy
          trivial
        · trivial
        · trivial
      have e8 := rep2 [.int (i + 1), .int (i - 1), .int (0 - i), .tuple [.int i], .int (i + 2), .int (i * 2)] (by simp)
      have g6 : ∀ z ∈ ([.int (i + 1), .int (i - 1), .int (0 - i), .tuple [.int i], .int (i + 2), .int (i * 2)] : List D), nsD z ≤ 2 * nsD (.int i) + 1 := by
        intro z hz
        simp only [List.mem_cons, List.not_mem_nil, or_false] at hz
        rcases hz with rfl | rfl | rfl | rfl | rfl | rfl
        all_goals simp [nsD, nsA]
      generalize hLd : ([.int (i + 1), .int (i - 1), .int (0 - i), .tuple [.int i], .int (i + 2), .int (i * 2)] : List D) = L6 at e8 f6 g6
      have hL6 : L6.length = 6 := by subst hLd; rfl
      have e9 := cat_ok oddBase (L6 ++ L6) (by simp [oddBase, hL6]; omega)
      obtain ⟨r, e10, e11⟩ := fin (oddBase ++ (L6 ++ L6)) (by simp [oddBase]) (by simp [oddBase, hL6]) (by
        intro x hx
        simp only [List.mem_append] at hx
        rcases hx with hx | hx | hx
        · exact bf x hx
        · exact ⟨f6 x hx, g6 x hx⟩
        · exact ⟨f6 x hx, g6 x hx⟩)
      refine ⟨r, ?_, e11⟩
      rw [rn_law_odd, b_law_odd]
      refine res_of (ss_nx (s' := [some (.sh (.int i)), some (.sh (.int c)), none, none]) ?_) ?_
      · refine (iff_f (d := .bool false) (and_f ?_) rfl).trans (s_nil' _ _)
        simp [isTy]
      refine res_of (ss_nx (set_ok (d := .list oddBase) (by simp [negD, oddBase]))) ?_
      refine res_of (ss_nx (s' := [some (.sh (.int i)), some (.sh (.int c)), some (.sh (.list (oddBase ++ (L6 ++ L6)))), none]) ?_) ?_
      · refine (iff_f (d := .bool false) (by simp [isTy]) rfl).trans ?_
        refine (ss_nx ?_).trans (s_nil' _ _)
        refine (iff_f (d := .bool false) (by simp [isTy]) rfl).trans ?_
        refine (ss_nx ?_).trans (s_nil' _ _)
        refine (iff_t (d := .bool true) (by simp [isTy]) rfl).trans ?_
        refine (ss_nx (set_ok (d := .list (oddBase ++ (L6 ++ L6))) ?_)).trans (s_nil' _ _)
        simp only [e_lst, el_cat, e_var, List.set_cons_succ, List.set_cons_zero, List.getElem?_cons_zero, List.getElem?_cons_succ, R.bind_ok, el_rep, el_disp, es_cons', es_nil', e_bin, e_con, e_tup, b_add, b_sub, u2, hLd, l_of, e8, e9]
      refine res_of (ss_rt (ret_ok (d := r) ?_)) rfl
      rw [← e10]
      simp only [e_idx, e_var, List.getElem?_cons_zero, List.getElem?_cons_succ, R.bind_ok, e_call, es_cons', es_nil', e_con, e_bi, bi_lenL]
    | _ => exact h.elim
end Tf
namespace Tf
open PySem
/-! Tm5: is_path and the law's plain count, for things of any kind. -/
def letB : D → Bool
  | .str x => x == "a" || x == "b" || x == "c"
  | _ => false
def stepB (p : D → Bool) : D → Bool
  | .tuple [.str w, l, .tuple ts] => (w == "in" || w == "deep") && letB l && decide (ts.length ≤ 2) && ts.all p
  | _ => false
def pathB : Nat → D → Bool
  | 0, _ => false
  | n + 1, .tuple xs => decide (1 ≤ xs.length) && decide (xs.length ≤ 3) && xs.all (stepB (pathB n))
  | _ + 1, _ => false
theorem str_one {x : Str} (h : x.length = 1) : ∃ c, x = ⟨#[c]⟩ := by
  obtain ⟨⟨l⟩⟩ := x
  have : l.length = 1 := h
  match l, this with
  | [c], _ => exact ⟨c, rfl⟩
theorem sa : ("a" : Str) = ⟨#[97]⟩ := by decide +kernel
theorem sb : ("b" : Str) = ⟨#[98]⟩ := by decide +kernel
theorem sc : ("c" : Str) = ⟨#[99]⟩ := by decide +kernel
theorem one_beq (c a : Nat) : ((⟨#[c]⟩ : Str) == ⟨#[a]⟩) = decide (c = a) := by
  rw [Bool.eq_iff_iff, beq_iff_eq, decide_eq_true_eq]
  constructor
  · intro h; injection h with h; simpa using h
  · intro h; rw [h]
theorem in_abc (c : Nat) : (!(Builtin.Str.occurrences ("abc" : Str) ⟨#[c]⟩ 0 ("abc" : Str).length 1).isEmpty) = (((⟨#[c]⟩ : Str) == "a") || ((⟨#[c]⟩ : Str) == "b") || ((⟨#[c]⟩ : Str) == "c")) := by
  have := StrLaws.found_one ("abc" : Str) c
  rw [this, sa, sb, sc, one_beq, one_beq, one_beq]
  have e : ("abc" : Str).cps.toList = [97, 98, 99] := by decide +kernel
  rw [e]
  simp [Bool.or_assoc]
theorem letB_one {x : Str} (h : x.length ≠ 1) : letB (.str x) = false := by
  unfold letB
  have : ∀ y : Str, y.length = 1 → (x == y) = false := fun y hy => by
    rw [beq_eq_false_iff_ne]; intro z; subst z; exact h hy
  show (x == "a" || x == "b" || x == "c") = false
  rw [this "a" (by decide +kernel), this "b" (by decide +kernel), this "c" (by decide +kernel)]
  rfl
theorem lenS (x : Str) (h : x.length ≤ lim) : biD .len (.str x) = .ok (.int x.length) := if_pos h
theorem r_letter {k m : Nat} (n : Nat) (d : D) (hf : fit k m d) (hk : k ≤ 1000) : rn (n + 1) 0 [d, .str "abc"] = .ok (.bool (letB d)) := by
  have hlim : lim = 1000000 := rfl
  rw [rn_is_letter, b_is_letter]
  refine res_of (ss_rt (ret_ok (d := .bool (letB d)) ?_)) rfl
  cases d with
  | str x =>
    have hx : x.length ≤ lim := by
      cases m with
      | zero => exact hf.elim
      | succ m => have : x.length ≤ k := hf; omega
    rw [and_t (by simp [isTy])]
    by_cases h1 : x.length = 1
    · rw [and_t (by simp [lenS x hx, h1])]
      obtain ⟨c, rfl⟩ := str_one h1
      simp only [e_cmp, e_var, List.getElem?_cons_zero, List.getElem?_cons_succ, R.bind_ok, cmpD, in_abc]
      rfl
    · rw [and_f (by simp [lenS x hx]; omega), letB_one h1]
  | _ => exact and_f (by simp [isTy])
theorem eqv_strT (x : Str) (d : D) : PyData.eqv (.str x) d = match d with | .str y => x == y | _ => false := by
  cases d <;> simp [PyData.eqv]
def inB2 (a b : Str) : D → Bool
  | .str y => (a == y) || (b == y)
  | _ => false
def inB3 (a b c : Str) : D → Bool
  | .str y => (a == y) || ((b == y) || (c == y))
  | _ => false
theorem in_two {k m : Nat} (a b : Str) (d : D) (hf : fit k m d) (hm : m ≤ 190) : cmpD .NotIn d (.tuple [.str a, .str b]) = .ok (!inB2 a b d) := by
  have hd : d.depth ≤ 190 := Nat.le_trans (fit_depth hf) hm
  rw [cmpD, if_pos hd]
  · simp only [inD, List.any_cons, List.any_nil, Bool.or_false, eqv_strT]
    cases d <;> rfl
theorem in_three {k m : Nat} (a b c : Str) (d : D) (hf : fit k m d) (hm : m ≤ 190) : cmpD .NotIn d (.tuple [.str a, .str b, .str c]) = .ok (!inB3 a b c d) := by
  have hd : d.depth ≤ 190 := Nat.le_trans (fit_depth hf) hm
  rw [cmpD, if_pos hd]
  · simp only [inD, List.any_cons, List.any_nil, Bool.or_false, eqv_strT]
    cases d <;> rfl
theorem not_tup {d : D} (h : ∀ xs, d ≠ .tuple xs) : isTy .tuple d = false := by
  cases d with
  | tuple xs => exact absurd rfl (h xs)
  | _ => rfl
theorem not_str {d : D} (h : ∀ xs, d ≠ .str xs) : isTy .str d = false := by
  cases d with
  | str xs => exact absurd rfl (h xs)
  | _ => rfl
theorem stepB_no {p : D → Bool} {d : D} (h : ∀ w l ts, d ≠ .tuple [.str w, l, .tuple ts]) : stepB p d = false := by
  unfold stepB
  split
  · exact absurd rfl (h _ _ _)
  · rfl
theorem r_step {k m : Nat} (N : Nat) (d : D) (p : D → Bool) (hf : fit k m d) (hk : k ≤ 1000) (hm : m ≤ 190) (ih : ∀ t m', m' + 2 ≤ m → fit k m' t → rn (N + 1) 16 [t] = .ok (.bool (p t))) : rn (N + 2) 15 [d] = .ok (.bool (stepB p d)) := by
  have hlim : lim = 1000000 := rfl
  rw [rn_is_step, b_is_step]
  by_cases hT : ∃ xs, d = .tuple xs
  · obtain ⟨xs, rfl⟩ := hT
    cases m with
    | zero => exact hf.elim
    | succ m =>
    obtain ⟨hf1, hf2⟩ := hf
    by_cases h3 : xs.length = 3
    · match xs, h3 with
      | [a, b, c], _ =>
        have fa := hf2 a (by simp)
        have fb := hf2 b (by simp)
        have fc := hf2 c (by simp)
        have i0 : idxD (.tuple [a, b, c]) (.int 0) = .ok a := rfl
        have i1 : idxD (.tuple [a, b, c]) (.int 1) = .ok b := rfl
        have i2 : idxD (.tuple [a, b, c]) (.int 2) = .ok c := rfl
        have g2 : gv 2 = some (.tuple [.str "in", .str "deep"]) := rfl
        have g3 : gv 3 = some (.str "abc") := rfl
        by_cases hw : ∃ w, a = .str w
        · obtain ⟨w, rfl⟩ := hw
          have e1 := in_two "in" "deep" (.str w) fa (by omega)
          simp only [inB2] at e1
          by_cases hw2 : (("in" : Str) == w || ("deep" : Str) == w) = true
          · rw [hw2] at e1
            have hw3 : (w == ("in" : Str) || w == ("deep" : Str)) = true := by
              rw [Bool.or_eq_true] at hw2 ⊢
              rcases hw2 with z | z
              · exact .inl (by rw [eq_of_beq z]; simp)
              · exact .inr (by rw [eq_of_beq z]; simp)
            refine res_of (ss_nx (s' := [some (.sh (.tuple [.str w, b, c])), none]) ?_) ?_
            · refine (iff_f (d := .bool false) ?_ rfl).trans (s_nil' _ _)
              rw [or_f (by simp), or_f (by simp), or_f (by simp [i0, isTy])]
              simp [i0, g2, e1]
            have e2 := r_letter N b fb hk
            by_cases hb : letB b = true
            · by_cases hc : ∃ ts, c = .tuple ts
              · obtain ⟨ts, rfl⟩ := hc
                by_cases hl : ts.length ≤ 2
                · refine res_of (ss_nx (s' := [some (.sh (.tuple [.str w, b, .tuple ts])), none]) ?_) ?_
                  · refine (iff_f (d := .bool false) ?_ rfl).trans (s_nil' _ _)
                    rw [or_f (by simp [i1, g3, e2, hb]), or_f (by simp [i2])]
                    simp [i2]; omega
                  refine res_of (ss_rt (ret_ok (d := .bool (ts.all p)) ?_)) ?_
                  · have hl2 : ts.length ≤ lim := by omega
                    have hc2 : ∀ t ∈ ts, rn (N + 1) 16 [t] = .ok (.bool (p t)) := fun t ht => by
                      cases m with
                      | zero => exact fc.elim
                      | succ m => exact ih t m (by omega) (fc.2 t ht)
                    simp [evL, i2, hl2]
                    have e3 := compGo_enc (enc := fun t : D => t) (g := fun t => .bool (p t)) (xs := ts) (f := fun d => (rn (N + 1) 16 [d]).bind fun y => R.ok (some y)) (fun t ht => by rw [hc2 t ht]; rfl)
                    rw [List.map_id'] at e3
                    rw [e3]
                    simp [biD, boolsOf_enc]
                  · simp [stepB, hw3, hb, hl]
                · refine res_of (ss_rt (d := .bool false) ?_) ?_
                  · refine (iff_t (d := .bool true) ?_ rfl).trans (ss_rt (ret_ok (by simp)))
                    rw [or_f (by simp [i1, g3, e2, hb]), or_f (by simp [i2])]
                    simp [i2]; omega
                  · simp [stepB, hl]
              · refine res_of (ss_rt (d := .bool false) ?_) ?_
                · refine (iff_t (d := .bool true) ?_ rfl).trans (ss_rt (ret_ok (by simp)))
                  rw [or_f (by simp [i1, g3, e2, hb])]
                  have hn := not_tup fun xs z => hc ⟨xs, z⟩
                  exact or_t (by simp [i2, hn])
                · rw [stepB_no fun w' l ts z => hc ⟨ts, by injection z with z; injection z with _ z; injection z with _ z; injection z with z _⟩]
                  rfl
            · refine res_of (ss_rt (d := .bool false) ?_) ?_
              · refine (iff_t (d := .bool true) ?_ rfl).trans (ss_rt (ret_ok (by simp)))
                exact or_t (by simp [i1, g3, e2, hb])
              · simp only [Bool.not_eq_true] at hb
                cases c <;> simp [stepB, hb]
          · simp only [Bool.not_eq_true] at hw2
            rw [hw2] at e1
            have hw3 : (w == ("in" : Str) || w == ("deep" : Str)) = false := by
              rw [Bool.or_eq_false_iff] at hw2 ⊢
              simp only [beq_eq_false_iff_ne] at hw2 ⊢
              exact ⟨fun z => hw2.1 z.symm, fun z => hw2.2 z.symm⟩
            refine res_of (ss_rt (d := .bool false) ?_) ?_
            · refine (iff_t (d := .bool true) ?_ rfl).trans (ss_rt (ret_ok (by simp)))
              rw [or_f (by simp), or_f (by simp), or_f (by simp [i0, isTy])]
              simp [i0, g2, e1]
            · cases c <;> simp [stepB, hw3]
        · refine res_of (ss_rt (d := .bool false) ?_) ?_
          · refine (iff_t (d := .bool true) ?_ rfl).trans (ss_rt (ret_ok (by simp)))
            have hn := not_str fun xs z => hw ⟨xs, z⟩
            rw [or_f (by simp), or_f (by simp)]
            exact or_t (by simp [i0, hn])
          · rw [stepB_no fun w' l ts z => hw ⟨w', by injection z with z; injection z with z _⟩]
            rfl
    · refine res_of (ss_rt (d := .bool false) ?_) ?_
      · refine (iff_t (d := .bool true) ?_ rfl).trans (ss_rt (ret_ok (by simp)))
        rw [or_f (by simp)]
        refine or_t ?_
        have h3' : ¬ (xs.length : Int) = 3 := by omega
        simp [h3']
      · rw [stepB_no fun w' l ts z => h3 (by injection z with z; rw [z]; rfl)]
        rfl
  · refine res_of (ss_rt (d := .bool false) ?_) ?_
    · refine (iff_t (d := .bool true) ?_ rfl).trans (ss_rt (ret_ok (by simp)))
      have hn := not_tup fun xs z => hT ⟨xs, z⟩
      exact or_t (by simp [hn])
    · rw [stepB_no fun w' l ts z => hT ⟨_, z⟩]
      rfl
theorem pathB_no {n : Nat} {d : D} (h : ∀ xs, d ≠ .tuple xs) : pathB n d = false := by
  cases n with
  | zero => rfl
  | succ n => cases d with
    | tuple xs => exact absurd rfl (h xs)
    | _ => rfl
theorem r_any_path : ∀ (n N m k : Nat) (d : D), fit k m d → k ≤ 1000 → m ≤ n → n ≤ 190 → 2 * n < N → rn (N + 1) 16 [d] = .ok (.bool (pathB n d))
  | 0, N, m, k, d, hf, _, hm, _, _ => by
    have : m = 0 := by omega
    subst this
    exact hf.elim
  | n + 1, N, m, k, d, hf, hk, hm, hn, hN => by
    have hlim : lim = 1000000 := rfl
    obtain ⟨N', rfl⟩ : ∃ n', N = n' + 2 := ⟨N - 2, by omega⟩
    rw [rn_is_any_path, b_is_any_path]
    refine res_of (ss_rt (ret_ok (d := .bool (pathB (n + 1) d)) ?_)) rfl
    by_cases hT : ∃ xs, d = .tuple xs
    · obtain ⟨xs, rfl⟩ := hT
      rw [and_t (by simp)]
      cases m with
      | zero => exact hf.elim
      | succ m =>
      obtain ⟨hf1, hf2⟩ := hf
      have hstep : ∀ s ∈ xs, rn (N' + 2) 15 [s] = .ok (.bool (stepB (pathB n) s)) := fun s hs =>
        r_step N' s (pathB n) (hf2 s hs) hk (by omega) fun t m' hm' ft => r_any_path n N' m' k t ft hk (by omega) (by omega) (by omega)
      by_cases h1 : 1 ≤ xs.length
      · have h1' : (1 : Int) ≤ xs.length := by omega
        by_cases h3 : xs.length ≤ 3
        · have h3' : (xs.length : Int) ≤ 3 := by omega
          rw [and_t (by simp [h1', h3'])]
          have hl2 : xs.length ≤ lim := by omega
          simp [evL, hl2]
          have e3 := compGo_enc (enc := fun t : D => t) (g := fun t => .bool (stepB (pathB n) t)) (xs := xs) (f := fun d => (rn (N' + 2) 15 [d]).bind fun y => R.ok (some y)) (fun t ht => by rw [hstep t ht]; rfl)
          rw [List.map_id'] at e3
          rw [e3]
          simp [biD, boolsOf_enc, pathB, h1, h3]
        · have h3' : ¬ (xs.length : Int) ≤ 3 := by omega
          rw [and_f (by simp [h1', h3'])]
          simp [pathB, h3]
      · have h1' : ¬ (1 : Int) ≤ xs.length := by omega
        rw [and_f (by simp [h1'])]
        simp [pathB, h1]
    · have hn := not_tup fun xs z => hT ⟨xs, z⟩
      rw [and_f (by simp [hn]), pathB_no fun xs z => hT ⟨xs, z⟩]
end Tf
namespace Tf
open PySem
/-! Tm6: how many steps: the law's plain count, steps_in, is_path. -/
def cS (c : D → Nat) : D → Nat
  | .tuple [_, _, .tuple ts] => 1 + (ts.map c).sum
  | _ => 0
def cnt : Nat → D → Nat
  | 0, _ => 0
  | n + 1, .tuple xs => if pathB (n + 1) (.tuple xs) = true then (xs.map (cS (cnt n))).sum else 0
  | _ + 1, _ => 0
theorem stepB_inv {p : D → Bool} {d : D} (h : stepB p d = true) : ∃ w l ts, d = .tuple [.str w, l, .tuple ts] ∧ (w == "in" || w == "deep") = true ∧ letB l = true ∧ ts.length ≤ 2 ∧ ts.all p = true := by
  unfold stepB at h
  split at h
  · simp only [Bool.and_eq_true, decide_eq_true_eq] at h
    exact ⟨_, _, _, rfl, h.1.1.1, h.1.1.2, h.1.2, h.2⟩
  · cases h
theorem pathB_inv {n : Nat} {d : D} (h : pathB n d = true) : ∃ n' xs, n = n' + 1 ∧ d = .tuple xs ∧ 1 ≤ xs.length ∧ xs.length ≤ 3 ∧ xs.all (stepB (pathB n')) = true := by
  unfold pathB at h
  split at h
  · cases h
  · simp only [Bool.and_eq_true, decide_eq_true_eq] at h
    exact ⟨_, _, rfl, rfl, h.1.1, h.1.2, h.2⟩
  · cases h
theorem cnt_pos (n : Nat) (d : D) : (cnt n d ≠ 0) ↔ pathB n d = true := by
  cases n with
  | zero => simp [cnt, pathB]
  | succ n =>
    by_cases hp : pathB (n + 1) d = true
    · obtain ⟨n', xs, e, rfl, h1, h2, h3⟩ := pathB_inv hp
      cases e
      rw [cnt, if_pos hp]
      refine ⟨fun _ => hp, fun _ => ?_⟩
      match xs, h1 with
      | x :: r, _ =>
        have h4 := List.all_eq_true.mp h3 x (by simp)
        obtain ⟨w, l, ts, rfl, _⟩ := stepB_inv h4
        simp only [List.map_cons, List.sum_cons, cS]
        omega
    · refine ⟨fun z => absurd ?_ z, fun z => absurd z hp⟩
      cases d with
      | tuple xs => rw [cnt, if_neg hp]
      | _ => rfl
theorem cnt_no {n : Nat} {d : D} (h : ¬ pathB n d = true) : cnt n d = 0 := by
  by_cases z : cnt n d = 0
  · exact z
  · exact absurd ((cnt_pos n d).mp z) h
/-- 0 in some -/
theorem zero_in (ys : List Nat) : cmpD .In (.int 0) (.list (ys.map fun (t : Nat) => .int (t : Int))) = .ok (decide (0 ∈ ys)) := by
  rw [cmpD, if_pos (by simp [PyData.depth])]
  congr 1
  induction ys with
  | nil => rfl
  | cons y ys ih =>
    unfold inD at ih ⊢
    rw [List.map_cons, List.any_cons, ih, eqv_int, Bool.eq_iff_iff]
    simp
    constructor
    · rintro (h | h)
      · exact .inl (by omega)
      · exact .inr h
    · rintro (h | h)
      · exact .inl (by omega)
      · exact .inr h
def tsB (p : D → Bool) : D → Bool
  | .tuple ts => decide (ts.length ≤ 2) && ts.all p
  | _ => false
theorem stepB3 (p : D → Bool) (a b c : D) : stepB p (.tuple [a, b, c]) = (inB2 "in" "deep" a && letB b && tsB p c) := by
  cases a with
  | str y =>
    have h : (y == ("in" : Str) || y == ("deep" : Str)) = (("in" : Str) == y || ("deep" : Str) == y) := by
      rw [BEq.comm (a := y), BEq.comm (a := y)]
    cases c with
    | tuple ts => simp only [stepB, inB2, tsB, h, Bool.and_assoc]
    | _ => simp [stepB, tsB]
  | _ => simp [stepB, inB2]
theorem r_count1 {k m : Nat} (N n : Nat) (th d : D) (a3 a4 : Option Sl) (mm : Int) (hf : fit k m d) (hk : k ≤ 1000) (hm : m ≤ 190)
    (ih : ∀ t m', m' + 2 ≤ m → fit k m' t → rn N 21 [t] = .ok (.int (cnt n t))) :
    (stepB (pathB n) d = true → ∃ b3, evSs (Cn N) b_law_count_k02_1 [some (.sh th), some (.sh (.int mm)), some (.sh d), a3, a4] = .nx [some (.sh th), some (.sh (.int (mm + cS (cnt n) d))), some (.sh d), b3, a4]) ∧
    (stepB (pathB n) d = false → evSs (Cn N) b_law_count_k02_1 [some (.sh th), some (.sh (.int mm)), some (.sh d), a3, a4] = .rt (.int 0)) := by
  have hlim : lim = 1000000 := rfl
  by_cases hT : ∃ xs, d = .tuple xs
  · obtain ⟨xs, rfl⟩ := hT
    cases m with
    | zero => exact hf.elim
    | succ m =>
    obtain ⟨hf1, hf2⟩ := hf
    by_cases h3 : xs.length = 3
    · match xs, h3 with
      | [a, b, c], _ =>
        have fa := hf2 a (by simp)
        have fb := hf2 b (by simp)
        have fc := hf2 c (by simp)
        have i0 : idxD (.tuple [a, b, c]) (.int 0) = .ok a := rfl
        have i1 : idxD (.tuple [a, b, c]) (.int 1) = .ok b := rfl
        have i2 : idxD (.tuple [a, b, c]) (.int 2) = .ok c := rfl
        have e1 := in_two "in" "deep" a fa (by omega)
        have e2 := in_three "a" "b" "c" b fb (by omega)
        have hb2 : inB3 "a" "b" "c" b = letB b := by
          cases b with
          | str y =>
            show (("a" : Str) == y || (("b" : Str) == y || ("c" : Str) == y)) = (y == "a" || y == "b" || y == "c")
            rw [Bool.or_assoc, BEq.comm (a := y), BEq.comm (a := y), BEq.comm (a := y)]
          | _ => rfl
        rw [hb2] at e2
        generalize hwb : inB2 "in" "deep" a = wb at e1
        rw [stepB3, hwb]
        have ex0 : wb = false → evSs (Cn N) b_law_count_k02_1 [some (.sh th), some (.sh (.int mm)), some (.sh (.tuple [a, b, c])), a3, a4] = .rt (.int 0) := fun hw => by
          rw [b_law_count_k02_1]
          refine ss_rt ((iff_t (d := .bool true) ?_ rfl).trans (ss_rt (ret_ok (by simp))))
          rw [or_f (by simp), or_f (by simp)]
          simp [i0, e1, hw]
        cases wb with
        | false => exact ⟨fun z => (by simp at z), fun _ => ex0 rfl⟩
        | true =>
        have st1 : evS (Cn N) (.iff (.or (.not (.isi (.var 2) .tuple)) (.or (.cmp .NotEq (.bi .len (.var 2)) (.con (.int 3))) (.cmp .NotIn (.idx (.var 2) (.con (.int 0))) (.tup (.cons (.con (.str "in")) (.cons (.con (.str "deep")) .nil)))))) (.cons (.ret (.con (.int 0))) .nil) .nil) [some (.sh th), some (.sh (.int mm)), some (.sh (.tuple [a, b, c])), a3, a4] = .nx [some (.sh th), some (.sh (.int mm)), some (.sh (.tuple [a, b, c])), a3, a4] := by
          refine (iff_f (d := .bool false) ?_ rfl).trans (s_nil' _ _)
          rw [or_f (by simp), or_f (by simp)]
          simp [i0, e1]
        by_cases hb : letB b = true
        · have st2 : evS (Cn N) (.iff (.cmp .NotIn (.idx (.var 2) (.con (.int 1))) (.tup (.cons (.con (.str "a")) (.cons (.con (.str "b")) (.cons (.con (.str "c")) .nil))))) (.cons (.ret (.con (.int 0))) .nil) .nil) [some (.sh th), some (.sh (.int mm)), some (.sh (.tuple [a, b, c])), a3, a4] = .nx [some (.sh th), some (.sh (.int mm)), some (.sh (.tuple [a, b, c])), a3, a4] := by
            refine (iff_f (d := .bool false) ?_ rfl).trans (s_nil' _ _)
            simp [i1, e2, hb]
          by_cases hc : ∃ ts, c = .tuple ts
          · obtain ⟨ts, rfl⟩ := hc
            by_cases hl : ts.length ≤ 2
            · have hl2 : ts.length ≤ lim := by omega
              have hc2 : ∀ t ∈ ts, rn N 21 [t] = .ok (.int (cnt n t)) := fun t ht => by
                cases m with
                | zero => exact fc.elim
                | succ m => exact ih t m (by omega) (fc.2 t ht)
              have e3 := compGo_enc (enc := fun t : D => t) (g := fun t => .int (cnt n t)) (xs := ts) (f := fun d => (rn N 21 [d]).bind fun y => R.ok (some y)) (fun t ht => by rw [hc2 t ht]; rfl)
              rw [List.map_id'] at e3
              have hall : ts.all (pathB n) = true ↔ ¬ 0 ∈ ts.map (cnt n) := by
                rw [List.all_eq_true, List.mem_map]
                constructor
                · rintro h ⟨t, ht, e⟩
                  exact (cnt_pos n t).mpr (h t ht) e
                · intro h t ht
                  exact (cnt_pos n t).mp fun e => h ⟨t, ht, e⟩
              have e4 := zero_in (ts.map (cnt n))
              rw [List.map_map] at e4
              have hsum : intsOf (ts.map fun t => .int (cnt n t : Int)) = some (ts.map fun t => (cnt n t : Int)) := intsOf_enc ts fun t => (cnt n t : Int)
              have st4 : evSs (Cn N) b_law_count_k02_1 [some (.sh th), some (.sh (.int mm)), some (.sh (.tuple [a, b, .tuple ts])), a3, a4] = evSs (Cn N) (.cons (.iff (.cmp .In (.con (.int 0)) (.var 3)) (.cons (.ret (.con (.int 0))) .nil) .nil) (.cons (.set 1 (.bin .Add (.bin .Add (.var 1) (.con (.int 1))) (.bi .sum (.var 3)))) .nil)) [some (.sh th), some (.sh (.int mm)), some (.sh (.tuple [a, b, .tuple ts])), some (.sh (.list (ts.map fun t => .int (cnt n t)))), a4] := by
                rw [b_law_count_k02_1]
                refine (ss_nx st1).trans ((ss_nx st2).trans ((ss_nx (s' := [some (.sh th), some (.sh (.int mm)), some (.sh (.tuple [a, b, .tuple ts])), a3, a4]) ?_).trans (ss_nx (set_ok (d := .list (ts.map fun t => .int (cnt n t))) ?_))))
                · refine (iff_f (d := .bool false) ?_ rfl).trans (s_nil' _ _)
                  rw [or_f (by simp [i2])]
                  simp [i2]; omega
                · simp [evL, i2, hl2]
                  rw [e3]; rfl
              constructor
              · intro hs
                simp only [Bool.true_and, Bool.and_eq_true, tsB] at hs
                have h0 := hall.mp hs.2.2
                refine ⟨some (.sh (.list (ts.map fun t => .int (cnt n t)))), st4.trans ((ss_nx (s' := [some (.sh th), some (.sh (.int mm)), some (.sh (.tuple [a, b, .tuple ts])), some (.sh (.list (ts.map fun t => .int (cnt n t)))), a4]) ?_).trans ((ss_nx (set_ok (d := .int (mm + 1 + (ts.map fun t => (cnt n t : Int)).sum)) ?_)).trans ?_))⟩
                · refine (iff_f (d := .bool false) ?_ rfl).trans (s_nil' _ _)
                  have e4' : cmpD .In (.int 0) (.list (ts.map fun t => .int (cnt n t))) = .ok false := by
                    rw [show (ts.map fun t => PyData.int (cnt n t)) = ts.map ((fun (t : Nat) => PyData.int (t : Int)) ∘ cnt n) from rfl, e4, decide_eq_false h0]
                  simp [e4']
                · simp [biD, hsum]
                · simp only [s_nil', List.set_cons_succ, List.set_cons_zero, cS]
                  rw [show (mm + ((1 + (ts.map (cnt n)).sum : Nat) : Int)) = mm + 1 + (ts.map fun t => (cnt n t : Int)).sum by rw [← sum_cast]; omega]
              · intro hs
                have h0 : 0 ∈ ts.map (cnt n) := by
                  refine Classical.byContradiction fun z => ?_
                  have := hall.mpr z
                  simp [tsB, hb, hl, this] at hs
                refine st4.trans (ss_rt ((iff_t (d := .bool true) ?_ rfl).trans (ss_rt (ret_ok (by simp)))))
                have e4' : cmpD .In (.int 0) (.list (ts.map fun t => .int (cnt n t))) = .ok true := by
                  rw [show (ts.map fun t => PyData.int (cnt n t)) = ts.map ((fun (t : Nat) => PyData.int (t : Int)) ∘ cnt n) from rfl, e4, decide_eq_true h0]
                simp [e4']
            · refine ⟨fun z => (by simp [tsB, hl] at z), fun _ => ?_⟩
              rw [b_law_count_k02_1]
              refine (ss_nx st1).trans ((ss_nx st2).trans (ss_rt ((iff_t (d := .bool true) ?_ rfl).trans (ss_rt (ret_ok (by simp))))))
              rw [or_f (by simp [i2])]
              simp [i2]; omega
          · have hn := not_tup fun xs z => hc ⟨xs, z⟩
            refine ⟨fun z => ?_, fun _ => ?_⟩
            · cases c with
              | tuple ts => exact absurd ⟨ts, rfl⟩ hc
              | _ => simp [tsB] at z
            · rw [b_law_count_k02_1]
              refine (ss_nx st1).trans ((ss_nx st2).trans (ss_rt ((iff_t (d := .bool true) ?_ rfl).trans (ss_rt (ret_ok (by simp))))))
              exact or_t (by simp [i2, hn])
        · refine ⟨fun z => (by simp [hb] at z), fun _ => ?_⟩
          rw [b_law_count_k02_1]
          refine (ss_nx st1).trans (ss_rt ((iff_t (d := .bool true) ?_ rfl).trans (ss_rt (ret_ok (by simp)))))
          simp [i1, e2, hb]
    · have hno : stepB (pathB n) (.tuple xs) = false := stepB_no fun w' l ts z => h3 (by injection z with z; rw [z]; rfl)
      rw [hno]
      refine ⟨fun z => (by cases z), fun _ => ?_⟩
      rw [b_law_count_k02_1]
      refine ss_rt ((iff_t (d := .bool true) ?_ rfl).trans (ss_rt (ret_ok (by simp))))
      rw [or_f (by simp)]
      have h3' : ¬ (xs.length : Int) = 3 := by omega
      exact or_t (by simp [h3'])
  · have hno : stepB (pathB n) d = false := stepB_no fun w' l ts z => hT ⟨_, z⟩
    rw [hno]
    refine ⟨fun z => (by cases z), fun _ => ?_⟩
    rw [b_law_count_k02_1]
    have hn := not_tup fun xs z => hT ⟨xs, z⟩
    refine ss_rt ((iff_t (d := .bool true) ?_ rfl).trans (ss_rt (ret_ok (by simp))))
    exact or_t (by simp [hn])
theorem r_countL {k m : Nat} (N n : Nat) (th : D) (hk : k ≤ 1000) (hm : m ≤ 190)
    (ih : ∀ t m', m' + 2 ≤ m → fit k m' t → rn N 21 [t] = .ok (.int (cnt n t))) : ∀ (xs : List D) (mm : Int) (a2 a3 a4 : Option Sl), (∀ x ∈ xs, fit k m x) →
    (xs.all (stepB (pathB n)) = true → ∃ b2 b3 b4, loopFor (.name 2) (fun s' => evSs (Cn N) b_law_count_k02_1 s') xs [some (.sh th), some (.sh (.int mm)), a2, a3, a4] = .nx [some (.sh th), some (.sh (.int (mm + ((xs.map (cS (cnt n))).sum : Nat)))), b2, b3, b4]) ∧
    (xs.all (stepB (pathB n)) = false → loopFor (.name 2) (fun s' => evSs (Cn N) b_law_count_k02_1 s') xs [some (.sh th), some (.sh (.int mm)), a2, a3, a4] = .rt (.int 0))
  | [], mm, a2, a3, a4, _ => ⟨fun _ => ⟨a2, a3, a4, by simp [loopFor]⟩, fun z => by cases z⟩
  | x :: xs, mm, a2, a3, a4, hf => by
    obtain ⟨h1, h2⟩ := r_count1 N n th x a3 a4 mm (hf x (by simp)) hk hm ih
    have hb : bindT (.name 2) x [some (.sh th), some (.sh (.int mm)), a2, a3, a4] = some [some (.sh th), some (.sh (.int mm)), some (.sh x), a3, a4] := b_name _ _ _
    rw [List.all_cons]
    by_cases hx : stepB (pathB n) x = true
    · rw [hx, Bool.true_and]
      obtain ⟨b3, e1⟩ := h1 hx
      obtain ⟨g1, g2⟩ := r_countL N n th hk hm ih xs (mm + cS (cnt n) x) (some (.sh x)) b3 a4 fun y hy => hf y (by simp [hy])
      constructor
      · intro hs
        obtain ⟨b2', b3', b4', e2⟩ := g1 hs
        refine ⟨b2', b3', b4', ?_⟩
        unfold loopFor
        rw [hb]
        show (evSs (Cn N) b_law_count_k02_1 _).then _ = _
        rw [e1]
        show loopFor _ _ _ _ = _
        rw [e2]
        simp only [List.map_cons, List.sum_cons]
        rw [show (mm + (cS (cnt n) x : Int) + ((xs.map (cS (cnt n))).sum : Nat) : Int) = mm + ((cS (cnt n) x + (xs.map (cS (cnt n))).sum : Nat) : Int) by omega]
      · intro hs
        unfold loopFor
        rw [hb]
        show (evSs (Cn N) b_law_count_k02_1 _).then _ = _
        rw [e1]
        exact g2 hs
    · simp only [Bool.not_eq_true] at hx
      rw [hx, Bool.false_and]
      refine ⟨fun z => (by cases z), fun _ => ?_⟩
      unfold loopFor
      rw [hb]
      show (evSs (Cn N) b_law_count_k02_1 _).then _ = _
      rw [h2 hx]
      rfl
theorem r_count : ∀ (n N m k : Nat) (d : D), fit k m d → k ≤ 1000 → m ≤ n → n ≤ 190 → n < N → rn N 21 [d] = .ok (.int (cnt n d))
  | 0, N, m, k, d, hf, _, hm, _, _ => by
    have : m = 0 := by omega
    subst this
    exact hf.elim
  | n + 1, N, m, k, d, hf, hk, hm, hn, hN => by
    have hlim : lim = 1000000 := rfl
    obtain ⟨N', rfl⟩ : ∃ n', N = n' + 1 := ⟨N - 1, by omega⟩
    rw [rn_law_count_k02, b_law_count_k02]
    by_cases hT : ∃ xs, d = .tuple xs
    · obtain ⟨xs, rfl⟩ := hT
      cases m with
      | zero => exact hf.elim
      | succ m =>
      obtain ⟨hf1, hf2⟩ := hf
      by_cases hl : 1 ≤ xs.length ∧ xs.length ≤ 3
      · have l1 : (0 : Int) < xs.length := by omega
        have l2 : (xs.length : Int) < 4 := by omega
        refine res_of (ss_nx (s' := [some (.sh (.tuple xs)), none, none, none, none]) ?_) ?_
        · refine (iff_f (d := .bool false) ?_ rfl).trans (s_nil' _ _)
          rw [or_f (by simp)]
          have l1n : 0 < xs.length := by omega
          simp [l1n, l2]
        refine res_of (ss_nx (set_ok (d := .int 0) (by simp))) ?_
        obtain ⟨h1, h2⟩ := r_countL N' n (.tuple xs) hk (by omega : m ≤ 190) (fun t m' hm' ft => r_count n N' m' k t ft hk (by omega) (by omega) (by omega)) xs 0 none none none hf2
        by_cases ha : xs.all (stepB (pathB n)) = true
        · obtain ⟨b2, b3, b4, e1⟩ := h1 ha
          refine res_of (ss_nx ((for_ok (ds := xs) (by simp)).trans e1)) ?_
          refine res_of (ss_rt (ret_ok (d := .int (cnt (n + 1) (.tuple xs))) ?_)) rfl
          have hp : pathB (n + 1) (.tuple xs) = true := by simp only [pathB, hl.1, hl.2, ha, decide_true, Bool.and_self]
          rw [cnt, if_pos hp]
          simp
        · simp only [Bool.not_eq_true] at ha
          refine res_of (ss_rt ((for_ok (ds := xs) (by simp)).trans (h2 ha))) ?_
          have hp : ¬ pathB (n + 1) (.tuple xs) = true := by simp [pathB, ha]
          rw [cnt_no hp]; rfl
      · refine res_of (ss_rt (d := .int 0) ?_) ?_
        · refine (iff_t (d := .bool true) ?_ rfl).trans (ss_rt (ret_ok (by simp)))
          rw [or_f (by simp)]
          by_cases h0 : (0 : Int) < xs.length
          · have l2 : ¬ (xs.length : Int) < 4 := by omega
            have h0n : 0 < xs.length := by omega
            simp [h0n, l2]
          · have h0n : ¬ 0 < xs.length := by omega
            simp [h0n]
        · have hp : ¬ pathB (n + 1) (.tuple xs) = true := by
            simp only [pathB, Bool.and_eq_true, decide_eq_true_eq]
            exact fun z => hl z.1
          rw [cnt_no hp]; rfl
    · have hn := not_tup fun xs z => hT ⟨xs, z⟩
      refine res_of (ss_rt (d := .int 0) ?_) ?_
      · refine (iff_t (d := .bool true) ?_ rfl).trans (ss_rt (ret_ok (by simp)))
        exact or_t (by simp [hn])
      · rw [cnt_no (by rw [pathB_no fun xs z => hT ⟨xs, z⟩]; simp)]; rfl
theorem r_steps_in : ∀ (n N : Nat) (d : D), pathB n d = true → n < N → rn N 17 [d] = .ok (.int (cnt n d))
  | 0, N, d, hp, _ => by cases hp
  | n + 1, N, d, hp, hN => by
    have hlim : lim = 1000000 := rfl
    obtain ⟨N', rfl⟩ : ∃ n', N = n' + 1 := ⟨N - 1, by omega⟩
    obtain ⟨n', xs, e, rfl, h1, h2, h3⟩ := pathB_inv hp
    cases e
    rw [rn_steps_in, b_steps_in]
    refine res_of (ss_rt (ret_ok (d := .int (cnt (n + 1) (.tuple xs))) ?_)) rfl
    rw [cnt, if_pos hp]
    have hl2 : xs.length ≤ lim := by omega
    have hin : ∀ s ∈ xs, ∃ a b ts, s = .tuple [a, b, .tuple ts] ∧ ts.length ≤ 2 ∧ ∀ t ∈ ts, rn N' 17 [t] = .ok (.int (cnt n t)) := fun s hs => by
      obtain ⟨w, l, ts, rfl, _, _, hl, ha⟩ := stepB_inv (List.all_eq_true.mp h3 s hs)
      exact ⟨_, _, _, rfl, hl, fun t ht => r_steps_in n N' t (List.all_eq_true.mp ha t ht) (by omega)⟩
    have hsum : ((xs.map fun s => ((cS (cnt n) s : Int) - 1)).sum + xs.length : Int) = (((xs.map (cS (cnt n))).sum : Nat) : Int) := by
      clear hin h3 hl2 h1 h2 hp
      induction xs with
      | nil => rfl
      | cons x xs ih =>
        simp only [List.map_cons, List.sum_cons, List.length_cons]
        push_cast at ih ⊢
        omega
    simp [evL, hl2]
    rw [compGo_map (g := fun s => .int ((cS (cnt n) s : Int) - 1))]
    · simp [biD, intsOf_enc]
      omega
    · intro s hs
      obtain ⟨a, b, ts, rfl, hl, ht⟩ := hin s hs
      have i2 : idxD (.tuple [a, b, .tuple ts]) (.int 2) = .ok (.tuple ts) := rfl
      have hl3 : ts.length ≤ lim := by omega
      simp only [i2, R.bind_ok, i_tup, hl3, if_true]
      rw [compGo_map (g := fun t => .int (cnt n t))]
      · simp only [R.bind_ok, biD, intsOf_enc, cS]
        rw [← sum_cast]
        congr 3
        omega
      · intro t h
        rw [ht t h]; rfl
/-- is_path -/
theorem r_is_path (N n m k : Nat) (d : D) (hf : fit k m d) (hk : k ≤ 1000) (hm : m ≤ n) (hn : n ≤ 190) (hN : 2 * n + 2 < N) : rn N 18 [d] = .ok (.bool (decide (0 < cnt n d ∧ cnt n d < 8))) := by
  obtain ⟨N', rfl⟩ : ∃ n', N = n' + 2 := ⟨N - 2, by omega⟩
  rw [rn_is_path, b_is_path]
  refine res_of (ss_rt (ret_ok (d := .bool (decide (0 < cnt n d ∧ cnt n d < 8))) ?_)) rfl
  have e1 := r_any_path n N' m k d hf hk hm hn (by omega)
  by_cases hp : pathB n d = true
  · have hc := (cnt_pos n d).mpr hp
    have e2 := r_steps_in n (N' + 1) d hp (by omega)
    have g4 : gv 4 = some (.int 7) := rfl
    rw [and_t (by simp [e1, hp])]
    have : decide (0 < cnt n d ∧ cnt n d < 8) = decide ((cnt n d : Int) ≤ 7) := by
      rw [decide_eq_decide]; omega
    rw [this]
    simp [e2, g4]
  · have hc := cnt_no hp
    simp only [Bool.not_eq_true] at hp
    rw [and_f (by simp [e1, hp]), hc]
    rfl
end Tf
namespace Tf
open PySem
/-! Tm7: typed paths as data; the rows of a path. -/
theorem wayS_len (w : Bool) : (wayS w).length ≤ 10 := by cases w <;> decide +kernel
theorem letS_len (l : Fin 3) : (letS l).length ≤ 10 := by
  match l with
  | 0 => decide +kernel
  | 1 => decide +kernel
  | 2 => decide +kernel
theorem mem_wfL {p : Pa} (h : wfL p = true) {s : St} (hs : s ∈ p) : s.ts.length ≤ 2 ∧ s.ts.all wfP = true := by
  rw [wfL_eq] at h
  have := List.all_eq_true.mp h s hs
  rw [wfS_eq] at this
  simpa using this
theorem st_mem {p : Pa} {s : St} (hs : s ∈ p) {t : Pa} (ht : t ∈ s.ts) : stL t < stL p := by
  have h1 : stL t ≤ (s.ts.map stL).sum := mem_le_sum ht
  have h2 : stS s ≤ (p.map stS).sum := mem_le_sum hs
  rw [stS_eq] at h2
  rw [stL_eq p]; omega
theorem wfP_inv {p : Pa} (h : wfP p = true) : 1 ≤ p.length ∧ p.length ≤ 3 ∧ wfL p = true := by
  unfold wfP at h
  simp only [Bool.and_eq_true, decide_eq_true_eq] at h
  exact ⟨h.1.1, h.1.2, h.2⟩
theorem tsi_enc : ∀ (j : Nat) (p : Pa), stL p ≤ j → wfL p = true → p.length ≤ 10 → tsi 10 (3 * j + 1) (encP p)
  | 0, p, h, _, _ => by
    have := len_le_st p
    have : p = [] := List.length_eq_zero_iff.mp (by omega)
    subst this
    rw [encP_eq]
    exact ⟨by simp, fun x hx => by cases hx⟩
  | j + 1, p, h, hw, hl => by
    rw [encP_eq]
    refine ⟨by simpa using hl, fun x hx => ?_⟩
    obtain ⟨s, hs, rfl⟩ := List.mem_map.mp hx
    obtain ⟨w1, w2⟩ := mem_wfL hw hs
    cases s with
    | mk w l ts =>
      rw [encS_eq]
      refine ⟨by simp, fun y hy => ?_⟩
      simp only [List.mem_cons, List.not_mem_nil, or_false] at hy
      rcases hy with rfl | rfl | rfl
      · exact wayS_len w
      · exact letS_len l
      · refine ⟨by simp; exact Nat.le_trans w1 (by omega), fun z hz => ?_⟩
        obtain ⟨t, ht, rfl⟩ := List.mem_map.mp hz
        obtain ⟨a1, a2, a3⟩ := wfP_inv (List.all_eq_true.mp w2 t ht)
        have := st_mem hs (t := t) ht
        exact tsi_enc j t (by omega) a3 (by omega)
theorem fit_enc {p : Pa} {j : Nat} (h : stL p ≤ j) (hw : wfP p = true) : fit 10 (3 * j + 1) (encP p) := by
  obtain ⟨a1, a2, a3⟩ := wfP_inv hw
  exact tsi_fit (tsi_enc j p h a3 (by omega))
theorem letB_let (l : Fin 3) : letB (.str (letS l)) = true := by
  match l with
  | 0 => rfl
  | 1 => rfl
  | 2 => rfl
theorem pathB_enc : ∀ (n : Nat) (p : Pa), wfP p = true → stL p ≤ n → pathB n (encP p) = true
  | 0, p, hw, h => by
    have := len_le_st p
    have := (wfP_inv hw).1
    omega
  | n + 1, p, hw, h => by
    obtain ⟨a1, a2, a3⟩ := wfP_inv hw
    rw [encP_eq, pathB]
    simp only [List.length_map, a1, a2, decide_true, Bool.true_and, List.all_eq_true]
    intro x hx
    obtain ⟨s, hs, rfl⟩ := List.mem_map.mp hx
    obtain ⟨w1, w2⟩ := mem_wfL a3 hs
    have ht : ∀ t ∈ s.ts, pathB n (encP t) = true := fun t ht => by
      have := st_mem hs ht
      exact pathB_enc n t (List.all_eq_true.mp w2 t ht) (by omega)
    cases s with
    | mk w l ts =>
      rw [encS_eq]
      have hway : ((wayS w) == "in" || (wayS w) == "deep") = true := by cases w <;> rfl
      simp only [stepB, hway, letB_let, List.length_map, Bool.true_and, Bool.and_eq_true, decide_eq_true_eq, List.all_eq_true]
      refine ⟨w1, fun y hy => ?_⟩
      obtain ⟨t, h1, rfl⟩ := List.mem_map.mp hy
      exact ht t h1
theorem cnt_enc : ∀ (n : Nat) (p : Pa), wfP p = true → stL p ≤ n → cnt n (encP p) = stL p
  | 0, p, hw, h => by
    have := len_le_st p
    have := (wfP_inv hw).1
    omega
  | n + 1, p, hw, h => by
    have hp := pathB_enc (n + 1) p hw h
    obtain ⟨a1, a2, a3⟩ := wfP_inv hw
    rw [encP_eq] at hp ⊢
    rw [cnt, if_pos hp, stL_eq, List.map_map]
    congr 1
    refine List.map_congr_left fun s hs => ?_
    obtain ⟨w1, w2⟩ := mem_wfL a3 hs
    have ht : ∀ t ∈ s.ts, cnt n (encP t) = stL t := fun t ht => by
      have := st_mem hs ht
      exact cnt_enc n t (List.all_eq_true.mp w2 t ht) (by omega)
    cases s with
    | mk w l ts =>
      show cS (cnt n) (encS (.mk w l ts)) = _
      rw [encS_eq, stS_eq, cS, List.map_map]
      congr 2
      exact List.map_congr_left fun t h1 => ht t h1
mutual
def rowS : St → D → Nat → List D
  | .mk w l ts, ah, f => .tuple [ah, .str (wayS w), .str (letS l)] :: rowsT ts f (f + 1)
def rowsL : List St → D → Nat → List D
  | [], _, _ => []
  | s :: r, ah, f => rowS s ah f ++ rowsL r (.int f) (f + (rowS s ah f).length)
def rowsT : List (List St) → Nat → Nat → List D
  | [], _, _ => []
  | t :: r, n, f => rowsL t (.int n) f ++ rowsT r n (f + (rowsL t (.int n) f).length)
end
mutual
theorem rowS_len : ∀ (s : St) (ah : D) (f : Nat), (rowS s ah f).length = stS s
  | .mk w l ts, ah, f => by rw [rowS, stS, List.length_cons, rowsT_len]; omega
theorem rowsL_len : ∀ (p : List St) (ah : D) (f : Nat), (rowsL p ah f).length = stL p
  | [], ah, f => by rw [rowsL, stL]; rfl
  | s :: r, ah, f => by rw [rowsL, stL, List.length_append, rowsL_len r, rowS_len s]
theorem rowsT_len : ∀ (p : List (List St)) (n f : Nat), (rowsT p n f).length = stPs p
  | [], n, f => by rw [rowsT, stPs]; rfl
  | t :: r, n, f => by rw [rowsT, stPs, List.length_append, rowsT_len r, rowsL_len t]
end
/-- the number of a path's last step -/
def lsD : List St → D → Nat → D
  | [], la, _ => la
  | s :: r, _, f => lsD r (.int f) (f + stS s)
def J3 (pd ah : D) (f : Nat) (la wy le tsd : D) (num : Nat) (tot : List D) (ts : List Pa) (ds : List D) (s : Sd) : Prop :=
  ∃ (acc : List D) (a9 : Option Sl) (r : List Pa), s = [some (.sh pd), some (.sh ah), some (.sh (.int f)), some (.ow acc), some (.sh la), some (.sh wy), some (.sh le), some (.sh tsd), some (.sh (.int num)), a9] ∧
    ds = r.map encP ∧ acc ++ rowsT r num (f + acc.length) = tot ∧ ∀ t ∈ r, t ∈ ts
def J4 (pd ah : D) (f : Nat) (p : Pa) (ds : List D) (s : Sd) : Prop :=
  ∃ (acc : List D) (la : D) (a5 a6 a7 a8 a9 : Option Sl) (r : List St), s = [some (.sh pd), some (.sh ah), some (.sh (.int f)), some (.ow acc), some (.sh la), a5, a6, a7, a8, a9] ∧
    ds = r.map encS ∧ acc ++ rowsL r la (f + acc.length) = rowsL p ah f ∧ (∀ s ∈ r, s ∈ p) ∧ lsD r la (f + acc.length) = lsD p ah f
theorem r_rows_of : ∀ (N : Nat) (p : Pa) (ah : D) (f : Nat), stL p < N → stL p ≤ 1000 → rn N 19 [encP p, ah, .int f] = .ok (.tuple [.list (rowsL p ah f), lsD p ah f])
  | 0, p, ah, f, h, _ => by omega
  | N + 1, p, ah, f, h, hb => by
    have hlim : lim = 1000000 := rfl
    have hlen := rowsL_len p ah f
    have inner : ∀ (pd la wy le tsd : D) (num : Nat) (tot : List D) (ts : List Pa), (∀ t ∈ ts, stL t < stL p) → tot.length ≤ 1000 → ∀ (ds : List D) (s : Sd), J3 pd ah f la wy le tsd num tot ts ds s →
        ∃ s', loopFor (.name 9) (fun s' => evSs (Cn N) b_rows_of_1 s') ds s = .nx s' ∧ J3 pd ah f la wy le tsd num tot ts [] s' := by
      intro pd la wy le tsd num tot ts hts htot
      refine loopFor_inv _ ?_
      rintro d r0 s ⟨acc, a9, r, rfl, hd, g1, g2⟩
      match r, hd, g1, g2 with
      | t :: r, hd, g1, g2 =>
        simp only [List.map_cons, List.cons.injEq] at hd
        obtain ⟨rfl, rfl⟩ := hd
        rw [rowsT, ← List.append_assoc] at g1
        have e1 := r_rows_of N t (.int num) (f + acc.length) (by have := hts t (g2 t (by simp)); omega) (by have := hts t (g2 t (by simp)); omega)
        have e2 : acc.length + (rowsL t (.int num) (f + acc.length)).length ≤ lim := by
          have := congrArg List.length g1
          simp only [List.length_append] at this
          omega
        have e3 : ∀ xs y, idxD (.tuple [xs, y]) (.int 0) = .ok xs := fun _ _ => rfl
        push_cast at e1
        refine ⟨_, [some (.sh pd), some (.sh ah), some (.sh (.int f)), some (.ow (acc ++ rowsL t (.int num) (f + acc.length))), some (.sh la), some (.sh wy), some (.sh le), some (.sh tsd), some (.sh (.int num)), some (.sh (encP t))], b_name _ _ _, ?_, ?_⟩
        · simp [b_rows_of_1, e1, e2, e3]
        · refine ⟨_, _, r, rfl, rfl, ?_, fun t ht => g2 t (by simp [ht])⟩
          rw [List.length_append, ← Nat.add_assoc]
          exact g1
    have outer : ∀ (ds : List D) (s : Sd), J4 (encP p) ah f p ds s → ∃ s', loopFor (.tup (.cons (.name 5) (.cons (.name 6) (.cons (.name 7) .nil)))) (fun s' => evSs (Cn N) b_rows_of_2 s') ds s = .nx s' ∧ J4 (encP p) ah f p [] s' := by
      refine loopFor_inv _ ?_
      rintro d r0 s ⟨acc, la, a5, a6, a7, a8, a9, r, rfl, hd, g1, g2, g3⟩
      match r, hd, g1, g2, g3 with
      | .mk w l ts :: r, hd, g1, g2, g3 =>
        simp only [List.map_cons, List.cons.injEq] at hd
        obtain ⟨rfl, rfl⟩ := hd
        rw [rowsL, ← List.append_assoc] at g1
        have hlen2 := congrArg List.length g1
        rw [hlen] at hlen2
        simp only [List.length_append] at hlen2
        have hrs : rowS (.mk w l ts) la (f + acc.length) = .tuple [la, .str (wayS w), .str (letS l)] :: rowsT ts (f + acc.length) (f + acc.length + 1) := by rw [rowS]
        have hts : ∀ t ∈ ts, stL t < stL p := fun t ht => st_mem (g2 _ (by simp)) (s := .mk w l ts) ht
        obtain ⟨s', x1, acc', b9, r', rfl, x2, x3, _⟩ := inner (encP p) la (.str (wayS w)) (.str (letS l)) (.tuple (ts.map encP)) (f + acc.length) (acc ++ rowS (.mk w l ts) la (f + acc.length)) ts hts (by rw [List.length_append]; omega) (ts.map encP)
          [some (.sh (encP p)), some (.sh ah), some (.sh (.int f)), some (.ow (acc ++ [.tuple [la, .str (wayS w), .str (letS l)]])), some (.sh la), some (.sh (.str (wayS w))), some (.sh (.str (letS l))), some (.sh (.tuple (ts.map encP))), some (.sh (.int (f + acc.length : Nat))), a9]
          ⟨_, a9, ts, rfl, rfl, by rw [hrs, List.length_append, List.append_assoc]; simp [Nat.add_assoc], fun t ht => ht⟩
        have hr' : r' = [] := by cases r' with | nil => rfl | cons _ _ => cases x2
        subst hr'
        rw [rowsT, List.append_nil] at x3
        have hb' : bindT (.tup (.cons (.name 5) (.cons (.name 6) (.cons (.name 7) .nil)))) (encS (.mk w l ts)) [some (.sh (encP p)), some (.sh ah), some (.sh (.int f)), some (.ow acc), some (.sh la), a5, a6, a7, a8, a9] = some [some (.sh (encP p)), some (.sh ah), some (.sh (.int f)), some (.ow acc), some (.sh la), some (.sh (.str (wayS w))), some (.sh (.str (letS l))), some (.sh (.tuple (ts.map encP))), a8, a9] := by
          rw [encS_eq]; simp
        have hacc : acc.length < lim := by rw [hrs] at hlen2; simp only [List.length_cons] at hlen2; omega
        push_cast at x1
        refine ⟨_, [some (.sh (encP p)), some (.sh ah), some (.sh (.int f)), some (.ow acc'), some (.sh (.int (f + acc.length : Nat))), some (.sh (.str (wayS w))), some (.sh (.str (letS l))), some (.sh (.tuple (ts.map encP))), some (.sh (.int (f + acc.length : Nat))), b9], hb', ?_, ?_⟩
        · simp [b_rows_of_2, hacc, x1]
        · refine ⟨acc', _, _, _, _, _, _, r, rfl, rfl, ?_, fun t ht => g2 t (by simp [ht]), ?_⟩
          · rw [x3, List.length_append, ← Nat.add_assoc]
            exact g1
          · rw [x3, List.length_append, ← Nat.add_assoc, rowS_len]
            rw [lsD] at g3
            exact g3
    obtain ⟨s', x1, acc, la, b5, b6, b7, b8, b9, r', rfl, x2, x3, _, x4⟩ := outer (p.map encS) [some (.sh (encP p)), some (.sh ah), some (.sh (.int f)), some (.ow []), some (.sh ah), none, none, none, none, none]
      ⟨[], ah, none, none, none, none, none, p, rfl, rfl, by simp, fun s hs => hs, rfl⟩
    have hr' : r' = [] := by cases r' with | nil => rfl | cons _ _ => cases x2
    subst hr'
    rw [rowsL, List.append_nil] at x3
    subst x3
    rw [lsD] at x4
    rw [← x4]
    rw [rn_rows_of, b_rows_of]
    have hi : ∀ s, evI (Cn N) (.seq (.var 0)) (some (.sh (encP p)) :: s) = .ok (p.map encS) := fun s => by
      rw [encP_eq]; simp
    refine res_of (ss_nx (s' := [some (.sh (encP p)), some (.sh ah), some (.sh (.int f)), some (.ow []), none, none, none, none, none, none]) (by simp)) ?_
    refine res_of (ss_nx (s' := [some (.sh (encP p)), some (.sh ah), some (.sh (.int f)), some (.ow []), some (.sh ah), none, none, none, none, none]) (by simp)) ?_
    refine res_of (ss_nx ((for_ok (hi _)).trans x1)) ?_
    simp
end Tf
namespace Tf
open PySem
/-! Tm8: the rows by the law's plain walk; numbered; the same found as due. -/
@[simp] theorem s_io' (C : EvC) (s : Sd) (i : Nat) (a b : E) : evS C (.io i a b) s = match s[i]? with
    | some (some (.ow ds)) => (ev C a s).out fun x => (ev C b s).out fun y => match C.io x y ds with
      | some es => .nx (s.set i (some (.ow es)))
      | none => .fail
    | _ => .fail := by rw [evS] <;> rfl
def J5 (pd ah : D) (wy le tsd : D) (num : Nat) (tot : List D) (ts : List Pa) (ds : List D) (s : Sd) : Prop :=
  ∃ (acc : List D) (a7 : Option Sl) (r : List Pa), s = [some (.sh pd), some (.sh ah), some (.ow acc), some (.sh wy), some (.sh le), some (.sh tsd), some (.sh (.int num)), a7] ∧
    ds = r.map encP ∧ acc ++ rowsT r num acc.length = tot ∧ ∀ t ∈ r, t ∈ ts
def J6 (pd : D) (tot : List D) (p : Pa) (ds : List D) (s : Sd) : Prop :=
  ∃ (acc : List D) (la : D) (a3 a4 a5 a6 a7 : Option Sl) (r : List St), s = [some (.sh pd), some (.sh la), some (.ow acc), a3, a4, a5, a6, a7] ∧
    ds = r.map encS ∧ acc ++ rowsL r la acc.length = tot ∧ ∀ s ∈ r, s ∈ p
theorem r_io : ∀ (N : Nat) (p : Pa) (ah : D) (ds : List D), stL p < N → ds.length + stL p ≤ 1000 → io N (encP p) ah ds = some (ds ++ rowsL p ah ds.length)
  | 0, p, ah, ds, h, _ => by omega
  | N + 1, p, ah, ds, h, hb => by
    have hlim : lim = 1000000 := rfl
    have hlen := rowsL_len p ah ds.length
    have inner : ∀ (pd la wy le tsd : D) (num : Nat) (tot : List D) (ts : List Pa), (∀ t ∈ ts, stL t < stL p) → tot.length ≤ 1000 → ∀ (es : List D) (s : Sd), J5 pd la wy le tsd num tot ts es s →
        ∃ s', loopFor (.name 7) (fun s' => evSs ⟨fun _ _ => .fail, gv, 1000, io N⟩ b_law_rows_1 s') es s = .nx s' ∧ J5 pd la wy le tsd num tot ts [] s' := by
      intro pd la wy le tsd num tot ts hts htot
      refine loopFor_inv _ ?_
      rintro d r0 s ⟨acc, a9, r, rfl, hd, g1, g2⟩
      match r, hd, g1, g2 with
      | t :: r, hd, g1, g2 =>
        simp only [List.map_cons, List.cons.injEq] at hd
        obtain ⟨rfl, rfl⟩ := hd
        rw [rowsT, ← List.append_assoc] at g1
        have hl1 := congrArg List.length g1
        simp only [List.length_append, rowsL_len] at hl1
        have e1 := r_io N t (.int num) acc (by have := hts t (g2 t (by simp)); omega) (by omega)
        refine ⟨_, [some (.sh pd), some (.sh la), some (.ow (acc ++ rowsL t (.int num) acc.length)), some (.sh wy), some (.sh le), some (.sh tsd), some (.sh (.int num)), some (.sh (encP t))], b_name _ _ _, ?_, ?_⟩
        · simp [b_law_rows_1, e1]
        · refine ⟨_, _, r, rfl, rfl, ?_, fun t ht => g2 t (by simp [ht])⟩
          rw [List.length_append]
          exact g1
    have outer : ∀ (es : List D) (s : Sd), J6 (encP p) (ds ++ rowsL p ah ds.length) p es s → ∃ s', loopFor (.tup (.cons (.name 3) (.cons (.name 4) (.cons (.name 5) .nil)))) (fun s' => evSs ⟨fun _ _ => .fail, gv, 1000, io N⟩ b_law_rows_2 s') es s = .nx s' ∧ J6 (encP p) (ds ++ rowsL p ah ds.length) p [] s' := by
      refine loopFor_inv _ ?_
      rintro d r0 s ⟨acc, la, a3, a4, a5, a6, a7, r, rfl, hd, g1, g2⟩
      match r, hd, g1, g2 with
      | .mk w l ts :: r, hd, g1, g2 =>
        simp only [List.map_cons, List.cons.injEq] at hd
        obtain ⟨rfl, rfl⟩ := hd
        rw [rowsL, ← List.append_assoc] at g1
        have hlen2 := congrArg List.length g1
        simp only [List.length_append] at hlen2
        have hrs : rowS (.mk w l ts) la acc.length = .tuple [la, .str (wayS w), .str (letS l)] :: rowsT ts acc.length (acc.length + 1) := by rw [rowS]
        have hts : ∀ t ∈ ts, stL t < stL p := fun t ht => st_mem (g2 _ (by simp)) (s := .mk w l ts) ht
        obtain ⟨s', x1, acc', b9, r', rfl, x2, x3, _⟩ := inner (encP p) la (.str (wayS w)) (.str (letS l)) (.tuple (ts.map encP)) acc.length (acc ++ rowS (.mk w l ts) la acc.length) ts hts (by rw [List.length_append]; omega) (ts.map encP)
          [some (.sh (encP p)), some (.sh la), some (.ow (acc ++ [.tuple [la, .str (wayS w), .str (letS l)]])), some (.sh (.str (wayS w))), some (.sh (.str (letS l))), some (.sh (.tuple (ts.map encP))), some (.sh (.int acc.length)), a7]
          ⟨_, a7, ts, rfl, rfl, by rw [hrs, List.length_append, List.append_assoc]; simp, fun t ht => ht⟩
        have hr' : r' = [] := by cases r' with | nil => rfl | cons _ _ => cases x2
        subst hr'
        rw [rowsT, List.append_nil] at x3
        have hb' : bindT (.tup (.cons (.name 3) (.cons (.name 4) (.cons (.name 5) .nil)))) (encS (.mk w l ts)) [some (.sh (encP p)), some (.sh la), some (.ow acc), a3, a4, a5, a6, a7] = some [some (.sh (encP p)), some (.sh la), some (.ow acc), some (.sh (.str (wayS w))), some (.sh (.str (letS l))), some (.sh (.tuple (ts.map encP))), a6, a7] := by
          rw [encS_eq]; simp
        have hacc : acc.length < lim := by rw [hrs] at hlen2; simp only [List.length_cons] at hlen2; omega
        refine ⟨_, [some (.sh (encP p)), some (.sh (.int acc.length)), some (.ow acc'), some (.sh (.str (wayS w))), some (.sh (.str (letS l))), some (.sh (.tuple (ts.map encP))), some (.sh (.int acc.length)), b9], hb', ?_, ?_⟩
        · simp [b_law_rows_2, hacc, x1]
        · refine ⟨acc', _, _, _, _, _, _, r, rfl, rfl, ?_, fun t ht => g2 t (by simp [ht])⟩
          rw [x3, List.length_append]
          exact g1
    obtain ⟨s', x1, acc, la, b3, b4, b5, b6, b7, r', rfl, x2, x3, _⟩ := outer (p.map encS) [some (.sh (encP p)), some (.sh ah), some (.ow ds), none, none, none, none, none]
      ⟨ds, ah, none, none, none, none, none, p, rfl, rfl, rfl, fun s hs => hs⟩
    have hr' : r' = [] := by cases r' with | nil => rfl | cons _ _ => cases x2
    subst hr'
    rw [rowsL, List.append_nil] at x3
    subst x3
    rw [io]
    unfold ioF
    have hi : ∀ s, evI ⟨fun _ _ => .fail, gv, 1000, io N⟩ (.seq (.var 0)) (some (.sh (encP p)) :: s) = .ok (p.map encS) := fun s => by
      rw [encP_eq]; simp
    have : evS ⟨fun _ _ => .fail, gv, 1000, io N⟩ m_law_rows ([some (.sh (encP p)), some (.sh ah), some (.ow ds)] ++ List.replicate (N_law_rows.length - 3) none) = .nx [some (.sh (encP p)), some (.sh la), some (.ow (ds ++ rowsL p ah ds.length)), b3, b4, b5, b6, b7] := (for_ok (hi _)).trans x1
    rw [this]
    rfl
theorem r_numbered (N : Nat) (p : Pa) (h : stL p < N) (hb : stL p ≤ 1000) : rn (N + 1) 20 [encP p] = .ok (.tuple (rowsL p .none 0)) := by
  have e := r_rows_of N p .none 0 h hb
  generalize lsD p .none 0 = la at e
  have e3 : ∀ xs y, idxD (.tuple [xs, y]) (.int 0) = .ok xs := fun _ _ => rfl
  rw [rn_numbered]
  have e' : rn N 19 [encP p, .none, .int 0] = .ok (.tuple [.list (rowsL p .none 0), la]) := e
  simp [b_numbered, e', e3]
end Tf
namespace Tf
open PySem
/-! Tm9: the same found as due. -/
def pln : Nat → D → Prop
  | 0, _ => False
  | n + 1, d => match d with
    | .none => True
    | .bool _ => True
    | .int _ => True
    | .str _ => True
    | .tuple xs => xs.length ≤ 900000 ∧ ∀ x ∈ xs, pln n x
    | _ => False
theorem zip_self (xs : List D) : zipD xs xs = xs.map fun x => .tuple [x, x] := by
  induction xs with
  | nil => rfl
  | cons x xs ih => rw [zipD, ih]; rfl
theorem all_true {A : Type} (xs : List A) : (xs.map fun _ => true).all id = true := by
  induction xs with
  | nil => rfl
  | cons x xs ih => simp
theorem r_same : ∀ (n N : Nat) (d : D), pln n d → n ≤ N → rn N 6 [d, d] = .ok (.bool true)
  | 0, N, d, h, _ => h.elim
  | n + 1, N, d, h, hN => by
    have hlim : lim = 1000000 := rfl
    obtain ⟨N', rfl⟩ : ∃ n', N = n' + 1 := ⟨N - 1, by omega⟩
    rw [rn_law_same, b_law_same]
    cases d with
    | tuple xs =>
      obtain ⟨h1, h2⟩ := h
      refine res_of (ss_rt (d := .bool true) ?_) rfl
      refine (iff_t (d := .bool true) (by simp) rfl).trans ?_
      refine (ss_nx (s' := [some (.sh (.tuple xs)), some (.sh (.tuple xs)), none, none]) ?_).trans ?_
      · refine (iff_f (d := .bool false) ?_ rfl).trans (s_nil' _ _)
        rw [or_f (by simp)]
        simp
      refine ss_rt (ret_ok ?_)
      have hl : xs.length ≤ lim := by omega
      simp [evL, zip_self, hl]
      rw [compGo_enc (g := fun _ => .bool true)]
      · simp only [R.bind_ok, biD, boolsOf_enc, all_true]
      · intro x hx
        have := r_same n N' x (h2 x hx) (by omega)
        simp [this]
    | none =>
      refine res_of (ss_nx ((iff_f (d := .bool false) (by simp [isTy]) rfl).trans (s_nil' _ _))) ?_
      refine res_of (ss_rt (d := .bool true) ?_) rfl
      exact (iff_t (d := .bool true) (by simp [cmpD]) rfl).trans (ss_rt (ret_ok (by simp [cmpD])))
    | bool b =>
      refine res_of (ss_nx ((iff_f (d := .bool false) (by simp [isTy]) rfl).trans (s_nil' _ _))) ?_
      refine res_of (ss_nx ((iff_f (d := .bool false) (by simp [cmpD]) rfl).trans (s_nil' _ _))) ?_
      refine res_of (ss_rt (d := .bool true) ?_) rfl
      refine (iff_t (d := .bool true) (or_t (by simp [isTy])) rfl).trans (ss_rt (ret_ok ?_))
      rw [and_t (by simp [isTy]), and_t (by simp [isTy])]
      simp [cmpD, near, PyData.depth, PyData.eqv]
    | int i =>
      refine res_of (ss_nx ((iff_f (d := .bool false) (by simp [isTy]) rfl).trans (s_nil' _ _))) ?_
      refine res_of (ss_nx ((iff_f (d := .bool false) (by simp [cmpD]) rfl).trans (s_nil' _ _))) ?_
      refine res_of (ss_nx ((iff_f (d := .bool false) ((or_f (by simp [isTy])).trans (by simp [isTy])) rfl).trans (s_nil' _ _))) ?_
      refine res_of (ss_rt (ret_ok (d := .bool true) ?_)) rfl
      rw [and_t (by simp [isTy])]
      simp
    | str x =>
      refine res_of (ss_nx ((iff_f (d := .bool false) (by simp [isTy]) rfl).trans (s_nil' _ _))) ?_
      refine res_of (ss_nx ((iff_f (d := .bool false) (by simp [cmpD]) rfl).trans (s_nil' _ _))) ?_
      refine res_of (ss_nx ((iff_f (d := .bool false) ((or_f (by simp [isTy])).trans (by simp [isTy])) rfl).trans (s_nil' _ _))) ?_
      refine res_of (ss_rt (ret_ok (d := .bool true) ?_)) rfl
      rw [and_t (by simp [isTy])]
      simp [cmpD, near_str, eqv_str]
    | _ => exact h.elim
mutual
theorem rowS_pln : ∀ (s : St) (ah : D) (f : Nat), pln 1 ah → ∀ x ∈ rowS s ah f, pln 2 x
  | .mk w l ts, ah, f, h, x, hx => by
    rw [rowS, List.mem_cons] at hx
    rcases hx with rfl | hx
    · refine ⟨by simp, fun y hy => ?_⟩
      simp only [List.mem_cons, List.not_mem_nil, or_false] at hy
      rcases hy with rfl | rfl | rfl
      · exact h
      · trivial
      · trivial
    · exact rowsT_pln ts f (f + 1) x hx
theorem rowsL_pln : ∀ (p : List St) (ah : D) (f : Nat), pln 1 ah → ∀ x ∈ rowsL p ah f, pln 2 x
  | [], ah, f, _, x, hx => by rw [rowsL] at hx; cases hx
  | s :: r, ah, f, h, x, hx => by
    rw [rowsL, List.mem_append] at hx
    rcases hx with hx | hx
    · exact rowS_pln s ah f h x hx
    · exact rowsL_pln r (.int f) _ trivial x hx
theorem rowsT_pln : ∀ (p : List (List St)) (n f : Nat), ∀ x ∈ rowsT p n f, pln 2 x
  | [], n, f, x, hx => by rw [rowsT] at hx; cases hx
  | t :: r, n, f, x, hx => by
    rw [rowsT, List.mem_append] at hx
    rcases hx with hx | hx
    · exact rowsL_pln t (.int n) _ trivial x hx
    · exact rowsT_pln r _ _ x hx
end
end Tf
namespace Tf
open PySem
/-! Tm10: trees, typed; what _law_tree draws. -/
inductive Tr where
  | mk (l : Fin 4) (ks : List Tr)
def letT : Fin 4 → Str
  | 0 => "a"
  | 1 => "b"
  | 2 => "c"
  | 3 => "d"
mutual
def encT : Tr → D
  | .mk l ks => .tuple [.str (letT l), .tuple (encTs ks)]
def encTs : List Tr → List D
  | [] => []
  | t :: r => encT t :: encTs r
end
mutual
def szT : Tr → Nat
  | .mk _ ks => 1 + szTs ks
def szTs : List Tr → Nat
  | [] => 0
  | t :: r => szT t + szTs r
end
theorem encTs_eq (ks : List Tr) : encTs ks = ks.map encT := by
  induction ks with
  | nil => rw [encTs]; rfl
  | cons s r ih => rw [encTs, ih]; rfl
theorem encT_eq (l : Fin 4) (ks : List Tr) : encT (.mk l ks) = .tuple [.str (letT l), .tuple (ks.map encT)] := by
  rw [encT, encTs_eq]
theorem szTs_eq (ks : List Tr) : szTs ks = (ks.map szT).sum := by
  induction ks with
  | nil => rw [szTs]; rfl
  | cons s r ih => rw [szTs, ih]; rfl
theorem szTs_app (ks : List Tr) (t : Tr) : szTs (ks ++ [t]) = szTs ks + szT t := by
  rw [szTs_eq, szTs_eq]; simp
theorem abcdab_idx (i : Int) (h0 : 0 ≤ i) (h1 : i < 6) : ∃ l, idxD (.str "abcdab") (.int i) = .ok (.str (letT l)) := by
  have : i = 0 ∨ i = 1 ∨ i = 2 ∨ i = 3 ∨ i = 4 ∨ i = 5 := by omega
  rcases this with rfl | rfl | rfl | rfl | rfl | rfl
  · exact ⟨0, rfl⟩
  · exact ⟨1, rfl⟩
  · exact ⟨2, rfl⟩
  · exact ⟨3, rfl⟩
  · exact ⟨0, rfl⟩
  · exact ⟨1, rfl⟩
theorem loopWhile_inv {c : Sd → R Bool} {f : Sd → Out} (I : Nat → Sd → Prop) (step : ∀ m s, I m s → (c s = .ok false ∧ m = 0) ∨ (c s = .ok true ∧ ∃ m' s', m' < m ∧ f s = .nx s' ∧ I m' s')) : ∀ (n m : Nat) (s : Sd), m < n → I m s → ∃ s', loopWhile c f n s = .nx s' ∧ I 0 s'
  | 0, m, s, h, _ => by omega
  | n + 1, m, s, h, hI => by
    rcases step m s hI with ⟨e, rfl⟩ | ⟨e, m', s', hm, ef, hI'⟩
    · exact ⟨s, by unfold loopWhile; rw [e]; rfl, hI⟩
    · obtain ⟨s2, e2, h2⟩ := loopWhile_inv I step n m' s' (by omega) hI'
      refine ⟨s2, ?_, h2⟩
      unfold loopWhile
      rw [e]
      show (f s).then _ = _
      rw [ef]
      exact e2
theorem whl_ok {C : EvC} {c : E} {b : Ss} {s : Sd} : evS C (.whl c b) s = loopWhile (fun s' => (ev C c s').bind truth) (fun s' => evSs C b s') C.wf s := by rw [evS]
def J7 (c m : Int) (lt : D) (left : Nat) (s : Sd) : Prop :=
  ∃ (ks : List Tr) (a5 a6 : Option Sl), s = [some (.sh (.int c)), some (.sh (.int m)), some (.sh lt), some (.ow (ks.map encT)), some (.sh (.int left)), a5, a6] ∧ (szTs ks : Int) + left + 1 = m
theorem r_tree : ∀ (n : Nat) (c m : Int), 1 ≤ m → m ≤ 100 → m < n → ∃ t : Tr, rn n 7 [.int c, .int m] = .ok (encT t) ∧ (szT t : Int) = m
  | 0, c, m, h1, _, h2 => by omega
  | n + 1, c, m, h1, h100, h2 => by
    have hlim : lim = 1000000 := rfl
    obtain ⟨n', rfl⟩ : ∃ n', n = n' + 1 := ⟨n - 1, by omega⟩
    obtain ⟨l, hl⟩ := abcdab_idx _ (mix_lo c 9973 6 (by omega)) (mix_hi c 9973 6 (by omega))
    have e0 := r_mix n' c 9973 6 (by omega) (by omega) (by omega)
    have loop : ∀ (k : Nat) (s : Sd), k < 1000 → J7 c m (.str (letT l)) k s → ∃ s', loopWhile (fun s' => (ev (Cn (n' + 1)) (.cmp .Gt (.var 4) (.con (.int 0))) s').bind truth) (fun s' => evSs (Cn (n' + 1)) b_law_tree_1 s') 1000 s = .nx s' ∧ J7 c m (.str (letT l)) 0 s' := by
      intro k s hk hJ
      refine loopWhile_inv (J7 c m (.str (letT l))) ?_ 1000 k s hk hJ
      rintro left s ⟨ks, a5, a6, rfl, hs⟩
      by_cases hz : left = 0
      · exact .inl ⟨by subst hz; simp, hz⟩
      refine .inr ⟨?_, ?_⟩
      · have : (0 : Int) < left := by omega
        simp [this]
        omega
      have hpos : (0 : Int) < left := by omega
      have e6 := b_mul 13 (left : Int) (.inl ⟨by decide, by decide⟩)
      have e1 := r_mix n' (c + 13 * left) 9967 left (by omega) (by omega) hpos
      have m1 := mix_lo (c + 13 * left) 9967 left hpos
      have m2 := mix_hi (c + 13 * left) 9967 left hpos
      have e2 := r_mix n' (c + 13 * left) 9949 3 (by omega) (by omega) (by omega)
      have hkl : ks.length < lim := by
        have : ks.length ≤ szTs ks := by rw [szTs_eq]; exact len_le_sum fun t _ => by cases t; rw [szT]; omega
        omega
      have body : ∀ size : Int, 1 ≤ size → size ≤ left → (∃ s2, evS (Cn (n' + 1)) (.iff (.cmp .Eq (.call 5 (.cons (.var 5) (.cons (.con (.int 9949)) (.cons (.con (.int 3)) .nil)))) (.con (.int 0))) (.cons (.set 6 (.var 4)) .nil) .nil) [some (.sh (.int c)), some (.sh (.int m)), some (.sh (.str (letT l))), some (.ow (ks.map encT)), some (.sh (.int left)), some (.sh (.int (c + 13 * left))), some (.sh (.int (1 + mix (c + 13 * left) 9967 left)))] = .nx s2 ∧ s2 = [some (.sh (.int c)), some (.sh (.int m)), some (.sh (.str (letT l))), some (.ow (ks.map encT)), some (.sh (.int left)), some (.sh (.int (c + 13 * left))), some (.sh (.int size))]) →
          ∃ m' s', m' < left ∧ evSs (Cn (n' + 1)) b_law_tree_1 [some (.sh (.int c)), some (.sh (.int m)), some (.sh (.str (letT l))), some (.ow (ks.map encT)), some (.sh (.int left)), a5, a6] = .nx s' ∧ J7 c m (.str (letT l)) m' s' := by
        rintro size g1 g2 ⟨s2, e3, rfl⟩
        obtain ⟨t, e4, e5⟩ := r_tree (n' + 1) (c + 13 * left + 7) size g1 (by omega) (by omega)
        refine ⟨left - size.toNat, [some (.sh (.int c)), some (.sh (.int m)), some (.sh (.str (letT l))), some (.ow ((ks ++ [t]).map encT)), some (.sh (.int (left - size.toNat : Nat))), some (.sh (.int (c + 13 * left))), some (.sh (.int size))], by omega, ?_, ks ++ [t], _, _, rfl, ?_⟩
        · rw [b_law_tree_1]
          refine (ss_nx (set_ok (d := .int (c + 13 * left)) (by simp [e6]))).trans ?_
          refine (ss_nx (set_ok (d := .int (1 + mix (c + 13 * left) 9967 left)) (by simp [e1]))).trans ?_
          refine (ss_nx e3).trans ?_
          have hc : ((left - size.toNat : Nat) : Int) = left - size := by omega
          simp [e4, hkl, hc]
        · rw [szTs_app]; push_cast; omega
      by_cases h0 : mix (c + 13 * left) 9949 3 = 0
      · exact body left (by omega) (by omega) ⟨_, (iff_t (d := .bool true) (by simp [e2, h0]) rfl).trans ((ss_nx (set_ok (d := .int left) (by simp))).trans (s_nil' _ _)), rfl⟩
      · exact body (1 + mix (c + 13 * left) 9967 left) (by omega) (by omega) ⟨_, (iff_f (d := .bool false) (by simp [e2, h0]) rfl).trans (s_nil' _ _), rfl⟩
    obtain ⟨s', x1, ks, b5, b6, rfl, x2⟩ := loop (m - 1).toNat [some (.sh (.int c)), some (.sh (.int m)), some (.sh (.str (letT l))), some (.ow []), some (.sh (.int (m - 1).toNat)), none, none] (by omega) ⟨[], none, none, rfl, by rw [szTs]; omega⟩
    refine ⟨.mk l ks, ?_, by rw [szT]; push_cast; omega⟩
    rw [rn_law_tree, b_law_tree]
    have hc : ((m - 1).toNat : Int) = m - 1 := by omega
    rw [hc] at x1
    refine res_of (ss_nx (set_ok (d := .str (letT l)) (by simp [e0, hl]))) ?_
    refine res_of (ss_nx (s' := [some (.sh (.int c)), some (.sh (.int m)), some (.sh (.str (letT l))), some (.ow []), some (.sh (.int (m - 1))), none, none]) (by rw [evS]; simp)) ?_
    refine res_of (ss_nx (whl_ok.trans x1)) ?_
    simp [encT_eq]
end Tf
namespace Tf
open PySem
/-! Tm11: the nodes of a tree. -/
mutual
def nodesT : Tr → List (List Int)
  | .mk _ ks => [] :: nodesK 0 ks
def nodesK : Nat → List Tr → List (List Int)
  | _, [] => []
  | i, t :: r => (nodesT t).map (fun n => (i : Int) :: n) ++ nodesK (i + 1) r
end
mutual
theorem nodesT_len : ∀ t : Tr, (nodesT t).length = szT t
  | .mk l ks => by rw [nodesT, szT, List.length_cons, nodesK_len 0 ks]; omega
theorem nodesK_len : ∀ (i : Nat) (ks : List Tr), (nodesK i ks).length = szTs ks
  | _, [] => by rw [nodesK, szTs]; rfl
  | i, t :: r => by rw [nodesK, szTs, List.length_append, List.length_map, nodesT_len t, nodesK_len (i + 1) r]
end
def Tr.ks : Tr → List Tr
  | .mk _ ks => ks
def Tr.l : Tr → Fin 4
  | .mk l _ => l
theorem sz_mem {t : Tr} {k : Tr} (h : k ∈ t.ks) : szT k < szT t := by
  cases t with
  | mk l ks =>
    have := mem_le_sum (f := szT) h
    rw [szT, szTs_eq]
    simp only [Tr.ks] at this
    omega
theorem encT_kids (t : Tr) : idxD (encT t) (.int 1) = .ok (.tuple (t.ks.map encT)) := by
  cases t with
  | mk l ks => rw [encT_eq]; rfl
theorem encT_let (t : Tr) : idxD (encT t) (.int 0) = .ok (.str (letT t.l)) := by
  cases t with
  | mk l ks => rw [encT_eq]; rfl
theorem nodesT_eq (t : Tr) : nodesT t = [] :: nodesK 0 t.ks := by
  cases t with
  | mk l ks => rw [nodesT]; rfl
theorem encI_add (i : Int) (n : List Int) : binD .Add (.tuple [.int i]) (encI n) = if n.length + 1 ≤ lim then .ok (encI (i :: n)) else .fail := by
  unfold encI
  show (if _ then _ else _) = _
  simp [Nat.add_comm]
mutual
theorem nodesT_deep : ∀ (t : Tr) (n : List Int), n ∈ nodesT t → n.length < szT t
  | .mk l ks, n, h => by
    rw [nodesT, List.mem_cons] at h
    rw [szT]
    rcases h with rfl | h
    · simp only [List.length_nil]; omega
    · have := nodesK_deep 0 ks n h
      omega
theorem nodesK_deep : ∀ (i : Nat) (ks : List Tr) (n : List Int), n ∈ nodesK i ks → n.length ≤ szTs ks
  | _, [], n, h => by rw [nodesK] at h; cases h
  | i, t :: r, n, h => by
    rw [nodesK, List.mem_append] at h
    rw [szTs]
    rcases h with h | h
    · obtain ⟨m, hm, rfl⟩ := List.mem_map.mp h
      have := nodesT_deep t m hm
      simp only [List.length_cons]; omega
    · have := nodesK_deep (i + 1) r n h
      omega
end
def J8 (t : Tr) (ds : List D) (s : Sd) : Prop :=
  ∃ (i : Nat) (acc : List (List Int)) (r : List Tr) (a2 a3 a4 : Option Sl), s = [some (.sh (encT t)), some (.ow (acc.map encI)), a2, a3, a4] ∧ ds = enumD i (r.map encT) ∧ acc ++ nodesK i r = nodesT t ∧ ∀ k ∈ r, k ∈ t.ks
theorem r_nodes : ∀ (N : Nat) (t : Tr), szT t < N → szT t ≤ 1000 → rn N 2 [encT t] = .ok (.tuple ((nodesT t).map encI))
  | 0, t, h, _ => by omega
  | N + 1, t, h, hb => by
    have hlim : lim = 1000000 := rfl
    have loop : ∀ (ds : List D) (s : Sd), J8 t ds s → ∃ s', loopFor (.tup (.cons (.name 2) (.cons (.name 3) .nil))) (fun s' => evSs (Cn N) b_nodes_1 s') ds s = .nx s' ∧ J8 t [] s' := by
      refine loopFor_inv _ ?_
      rintro d r0 s ⟨i, acc, r, a2, a3, a4, rfl, hd, g1, g2⟩
      match r, hd, g1, g2 with
      | k :: r, hd, g1, g2 =>
        simp only [List.map_cons, enumD, List.cons.injEq] at hd
        obtain ⟨rfl, rfl⟩ := hd
        rw [nodesK, ← List.append_assoc] at g1
        have hk := sz_mem (g2 k (by simp))
        have e1 := r_nodes N k (by omega) (by omega)
        have hl1 := congrArg List.length g1
        rw [nodesT_len] at hl1
        simp only [List.length_append, List.length_map] at hl1
        refine ⟨_, [some (.sh (encT t)), some (.ow ((acc ++ (nodesT k).map fun n => (i : Int) :: n).map encI)), some (.sh (.int i)), some (.sh (encT k)), a4], by simp; rfl, ?_, ?_⟩
        · have hn : (nodesT k).length ≤ lim := by omega
          have hc : acc.length + (nodesT k).length ≤ lim := by omega
          rw [b_nodes_1]
          simp [evL, e1, hn]
          rw [compGo_enc (g := fun n => encI ((i : Int) :: n))]
          · simp [hc, Function.comp_def]
          · intro n hn'
            have := nodesT_deep k n hn'
            rw [encI_add, if_pos (by omega)]; rfl
        · exact ⟨i + 1, _, r, _, _, _, rfl, rfl, g1, fun x hx => g2 x (by simp [hx])⟩
    obtain ⟨s', x1, i, acc, r, b2, b3, b4, rfl, x2, x3, _⟩ := loop (enumD 0 (t.ks.map encT)) [some (.sh (encT t)), some (.ow ([[]].map encI)), none, none, none] ⟨0, [[]], t.ks, none, none, none, rfl, rfl, by rw [nodesT_eq]; rfl, fun k hk => hk⟩
    have hr : r = [] := by cases r with | nil => rfl | cons _ _ => cases x2
    subst hr
    rw [nodesK, List.append_nil] at x3
    subst x3
    rw [rn_nodes, b_nodes]
    refine res_of (ss_nx (s' := [some (.sh (encT t)), some (.ow ([[]].map encI)), none, none, none]) (by simp [encI])) ?_
    refine res_of (ss_nx ((for_ok (ds := enumD 0 (t.ks.map encT)) (by simp [encT_kids])).trans x1)) ?_
    simp
end Tf
namespace Tf
open PySem
/-! Tm12: loops that gather; nodes with their trees; tree_at, kids_of, all_below, places. -/
theorem loop_flat {A : Type} {t : Tg} {f : Sd → Out} {enc : A → D} {g : A → List D} (Q : List D → Sd → Prop) (B : Nat) :
    ∀ (xs : List A) (acc : List D) (s : Sd), (∀ x ∈ xs, ∀ acc s, Q acc s → acc.length + (g x).length ≤ B → ∃ s1 s2, bindT t (enc x) s = some s1 ∧ f s1 = .nx s2 ∧ Q (acc ++ g x) s2) →
      Q acc s → (acc ++ xs.flatMap g).length ≤ B → ∃ s', loopFor t f (xs.map enc) s = .nx s' ∧ Q (acc ++ xs.flatMap g) s'
  | [], acc, s, _, hQ, _ => ⟨s, rfl, by simpa using hQ⟩
  | x :: xs, acc, s, step, hQ, hB => by
    simp only [List.flatMap_cons, ← List.append_assoc] at hB ⊢
    obtain ⟨s1, s2, e1, e2, h2⟩ := step x (by simp) acc s hQ (by simp only [List.length_append] at hB; omega)
    obtain ⟨s', e3, h3⟩ := loop_flat Q B xs (acc ++ g x) s2 (fun y hy => step y (by simp [hy])) h2 hB
    refine ⟨s', ?_, h3⟩
    rw [List.map_cons]
    unfold loopFor
    rw [e1]
    show (f s1).then _ = _
    rw [e2]
    exact e3
/-- a loop over typed items, the state being told by what was done -/
theorem loop_each {A : Type} {t : Tg} {f : Sd → Out} {enc : A → D} (Q : Sd → Prop) :
    ∀ (xs : List A) (s : Sd), (∀ x ∈ xs, ∀ s, Q s → ∃ s1 s2, bindT t (enc x) s = some s1 ∧ f s1 = .nx s2 ∧ Q s2) → Q s → ∃ s', loopFor t f (xs.map enc) s = .nx s' ∧ Q s'
  | [], s, _, hQ => ⟨s, rfl, hQ⟩
  | x :: xs, s, step, hQ => by
    obtain ⟨s1, s2, e1, e2, h2⟩ := step x (by simp) s hQ
    obtain ⟨s', e3, h3⟩ := loop_each Q xs s2 (fun y hy => step y (by simp [hy])) h2
    refine ⟨s', ?_, h3⟩
    rw [List.map_cons]
    unfold loopFor
    rw [e1]
    show (f s1).then _ = _
    rw [e2]
    exact e3
theorem loop_fold {A B : Type} {t : Tg} {f : Sd → Out} {enc : A → D} (g : B → A → B) (Q : B → Sd → Prop) :
    ∀ (xs : List A) (b : B) (s : Sd), (∀ x ∈ xs, ∀ b s, Q b s → ∃ s1 s2, bindT t (enc x) s = some s1 ∧ f s1 = .nx s2 ∧ Q (g b x) s2) → Q b s → ∃ s', loopFor t f (xs.map enc) s = .nx s' ∧ Q (xs.foldl g b) s'
  | [], b, s, _, hQ => ⟨s, rfl, hQ⟩
  | x :: xs, b, s, step, hQ => by
    obtain ⟨s1, s2, e1, e2, h2⟩ := step x (by simp) b s hQ
    obtain ⟨s', e3, h3⟩ := loop_fold g Q xs (g b x) s2 (fun y hy => step y (by simp [hy])) h2
    refine ⟨s', ?_, h3⟩
    rw [List.map_cons]
    unfold loopFor
    rw [e1]
    show (f s1).then _ = _
    rw [e2]
    exact e3
theorem compGo_encF {A : Type} {f : D → R (Option D)} {enc g : A → D} {p : A → Bool} : ∀ {xs : List A}, (∀ x ∈ xs, f (enc x) = .ok (if p x then some (g x) else none)) → compGo f (xs.map enc) = .ok ((xs.filter p).map g)
  | [], _ => rfl
  | x :: xs, h => by
    have h1 := h x (by simp)
    have h2 := compGo_encF (xs := xs) fun d hd => h d (by simp [hd])
    simp only [compGo, h1, h2, R.still_ok, R.bind_ok, List.filter_cons, List.map_cons]
    cases p x <;> simp
theorem comp_map {A : Type} {enc g : A → D} {C : EvC} {t : Tg} {it : It} {e : E} {s : Sd} {xs : List A} (hI : evI C it s = .ok (xs.map enc)) (hl : xs.length ≤ lim)
    (h : ∀ x ∈ xs, ∃ s', bindT t (enc x) (wipeD s (slotsT t)) = some s' ∧ ev C e s' = .ok (g x)) : evL C (.comp t it .no e) s = .ok (xs.map g) := by
  rw [evL, hI, R.bind_ok, List.length_map, if_pos hl, compGo_enc (g := g)]
  intro x hx
  obtain ⟨s', e1, e2⟩ := h x hx
  rw [e1]
  simp only [ec_no, R.bind_ok, e2]
theorem comp_filter {A : Type} {enc g : A → D} {p : A → Bool} {C : EvC} {t : Tg} {it : It} {c e : E} {s : Sd} {xs : List A} (hI : evI C it s = .ok (xs.map enc)) (hl : xs.length ≤ lim)
    (h : ∀ x ∈ xs, ∃ s', bindT t (enc x) (wipeD s (slotsT t)) = some s' ∧ (∃ d, ev C c s' = .ok d ∧ truth d = .ok (p x)) ∧ (p x = true → ev C e s' = .ok (g x))) : evL C (.comp t it (.yes c) e) s = .ok ((xs.filter p).map g) := by
  rw [evL, hI, R.bind_ok, List.length_map, if_pos hl, compGo_encF (p := p) (g := g)]
  intro x hx
  obtain ⟨s', e1, ⟨d, e2, e3⟩, e4⟩ := h x hx
  rw [e1]
  simp only [ec_yes, e2, R.bind_ok, e3]
  cases hp : p x with
  | true => simp only [e4 hp, R.bind_ok, if_true]
  | false => simp only [Bool.false_eq_true, if_false]
/-! ### enumerate -/
def en {A : Type} : Nat → List A → List (Nat × A)
  | _, [] => []
  | i, x :: r => (i, x) :: en (i + 1) r
theorem enumD_enc {A : Type} (enc : A → D) : ∀ (i : Nat) (xs : List A), enumD i (xs.map enc) = (en i xs).map fun p => .tuple [.int p.1, enc p.2]
  | _, [] => rfl
  | i, x :: r => by rw [List.map_cons, enumD, en, List.map_cons, enumD_enc enc (i + 1) r]
theorem en_len {A : Type} : ∀ (i : Nat) (xs : List A), (en i xs).length = xs.length
  | _, [] => rfl
  | i, x :: r => by rw [en, List.length_cons, List.length_cons, en_len]
theorem en_mem {A : Type} : ∀ (i : Nat) (xs : List A) (p : Nat × A), p ∈ en i xs ↔ i ≤ p.1 ∧ xs[p.1 - i]? = some p.2
  | i, [], p => by simp [en]
  | i, x :: r, (j, y) => by
    rw [en, List.mem_cons, en_mem (i + 1) r (j, y)]
    simp only
    constructor
    · rintro (h | ⟨h1, h2⟩)
      · cases h; simp
      · refine ⟨by omega, ?_⟩
        rw [show j - i = (j - (i + 1)) + 1 by omega, List.getElem?_cons_succ]; exact h2
    · rintro ⟨h1, h2⟩
      by_cases h : j = i
      · subst h; simp at h2; left; rw [h2]
      · right
        refine ⟨by omega, ?_⟩
        rw [show j - i = (j - (i + 1)) + 1 by omega, List.getElem?_cons_succ] at h2; exact h2
theorem en_app {A : Type} : ∀ (i : Nat) (xs ys : List A), en i (xs ++ ys) = en i xs ++ en (i + xs.length) ys
  | i, [], ys => by simp [en]
  | i, x :: r, ys => by rw [List.cons_append, en, en_app, en, List.length_cons, List.cons_append]; congr 3; omega
theorem en_snd {A : Type} : ∀ (i : Nat) (xs : List A), (en i xs).map Prod.snd = xs
  | _, [] => rfl
  | i, x :: r => by rw [en, List.map_cons, en_snd]
/-! ### nodes with their trees -/
abbrev Nd := List Int
abbrev NT := Nd × Tr
def kdK (n : Nd) : Nat → List Tr → List NT
  | _, [] => []
  | i, t :: r => (n ++ [(i : Int)], t) :: kdK n (i + 1) r
def kids (x : NT) : List NT := kdK x.1 0 x.2.ks
mutual
def nwT : Nd → Tr → List NT
  | n, .mk l ks => (n, .mk l ks) :: nwK n 0 ks
def nwK : Nd → Nat → List Tr → List NT
  | _, _, [] => []
  | n, i, t :: r => nwT (n ++ [(i : Int)]) t ++ nwK n (i + 1) r
end
theorem nwK_eq (n : Nd) : ∀ (i : Nat) (ks : List Tr), nwK n i ks = (kdK n i ks).flatMap fun x => nwT x.1 x.2
  | _, [] => by rw [nwK, kdK]; rfl
  | i, t :: r => by rw [nwK, kdK, nwK_eq n (i + 1) r]; rfl
theorem nwT_eq (n : Nd) (t : Tr) : nwT n t = (n, t) :: (kids (n, t)).flatMap fun x => nwT x.1 x.2 := by
  cases t with
  | mk l ks => rw [nwT, nwK_eq]; rfl
theorem kdK_en (n : Nd) : ∀ (i : Nat) (ks : List Tr), kdK n i ks = (en i ks).map fun p => (n ++ [(p.1 : Int)], p.2)
  | _, [] => rfl
  | i, t :: r => by rw [kdK, en, kdK_en n (i + 1) r]; rfl
theorem kids_en (x : NT) : kids x = (en 0 x.2.ks).map fun p => (x.1 ++ [(p.1 : Int)], p.2) := kdK_en _ _ _
def atT : Tr → Nd → Option Tr
  | t, [] => some t
  | t, k :: r => if 0 ≤ k then (t.ks[k.toNat]?).bind fun c => atT c r else none
theorem atT_app : ∀ (n m : Nd) (t : Tr), atT t (n ++ m) = (atT t n).bind fun c => atT c m
  | [], m, t => by rw [List.nil_append, atT]; rfl
  | k :: r, m, t => by
    rw [List.cons_append, atT, atT]
    by_cases h : 0 ≤ k
    · rw [if_pos h, if_pos h]
      cases t.ks[k.toNat]? with
      | none => rfl
      | some c => exact atT_app r m c
    · rw [if_neg h, if_neg h]; rfl
theorem at_one (t : Tr) (i : Nat) : atT t [(i : Int)] = t.ks[i]? := by
  rw [atT, if_pos (by omega)]
  simp only [Int.toNat_natCast]
  cases t.ks[i]? <;> rfl
theorem kids_mem (n : Nd) (t : Tr) (x : NT) : x ∈ kids (n, t) ↔ ∃ i : Nat, x.1 = n ++ [(i : Int)] ∧ t.ks[i]? = some x.2 := by
  rw [kids_en, List.mem_map]
  constructor
  · rintro ⟨⟨i, k⟩, h, rfl⟩
    rw [en_mem] at h
    exact ⟨i, rfl, by simpa using h.2⟩
  · rintro ⟨i, h1, h2⟩
    refine ⟨(i, x.2), ?_, ?_⟩
    · rw [en_mem]; simpa using h2
    · simp only; rw [← h1]
theorem sz_get {t k : Tr} {i : Nat} (h : t.ks[i]? = some k) : szT k < szT t := sz_mem (List.mem_of_getElem? h)
theorem nwT_mem : ∀ (t : Tr) (n : Nd) (x : NT), x ∈ nwT n t ↔ ∃ m, x.1 = n ++ m ∧ atT t m = some x.2
  | t, n, x => by
    have ih : ∀ k : Tr, k ∈ t.ks → ∀ (n : Nd) (x : NT), x ∈ nwT n k ↔ ∃ m, x.1 = n ++ m ∧ atT k m = some x.2 := fun k hk n x => nwT_mem k n x
    rw [nwT_eq, List.mem_cons, List.mem_flatMap]
    constructor
    · rintro (rfl | ⟨y, hy, hx⟩)
      · exact ⟨[], by simp, rfl⟩
      · obtain ⟨i, h1, h2⟩ := (kids_mem n t y).mp hy
        obtain ⟨m, h3, h4⟩ := (ih y.2 (List.mem_of_getElem? h2) y.1 x).mp hx
        refine ⟨(i : Int) :: m, by rw [h3, h1]; simp, ?_⟩
        rw [atT, if_pos (by omega)]
        simp only [Int.toNat_natCast, h2, Option.bind_some]
        exact h4
    · rintro ⟨m, h1, h2⟩
      cases m with
      | nil =>
        left
        rw [atT] at h2
        simp at h1
        cases x; simp_all
      | cons k m =>
        right
        rw [atT] at h2
        by_cases hk : 0 ≤ k
        · rw [if_pos hk] at h2
          cases hc : t.ks[k.toNat]? with
          | none => rw [hc] at h2; cases h2
          | some c =>
            rw [hc] at h2
            have hkk : ((k.toNat : Nat) : Int) = k := by omega
            refine ⟨(n ++ [k], c), (kids_mem n t _).mpr ⟨k.toNat, by rw [hkk], hc⟩, ?_⟩
            rw [ih c (List.mem_of_getElem? hc)]
            exact ⟨m, by rw [h1]; simp, h2⟩
        · rw [if_neg hk] at h2; cases h2
termination_by t => szT t
decreasing_by exact sz_mem hk
mutual
theorem nwT_nodes : ∀ (t : Tr) (n : Nd), (nwT n t).map Prod.fst = (nodesT t).map fun m => n ++ m
  | .mk l ks, n => by rw [nwT, nodesT, List.map_cons, List.map_cons, nwK_nodes ks n 0]; simp
theorem nwK_nodes : ∀ (ks : List Tr) (n : Nd) (i : Nat), (nwK n i ks).map Prod.fst = (nodesK i ks).map fun m => n ++ m
  | [], n, i => by rw [nwK, nodesK]; rfl
  | t :: r, n, i => by
    rw [nwK, nodesK, List.map_append, List.map_append, nwT_nodes t, nwK_nodes r n (i + 1), List.map_map]
    congr 1
    simp [Function.comp_def]
end
theorem nwT_nodes0 (t : Tr) : (nwT [] t).map Prod.fst = nodesT t := by rw [nwT_nodes]; simp
theorem nwT_len (n : Nd) (t : Tr) : (nwT n t).length = szT t := by
  have := congrArg List.length (nwT_nodes t n)
  simp only [List.length_map, nodesT_len] at this
  exact this
theorem ks_len (t : Tr) : t.ks.length < szT t := by
  cases t with
  | mk l ks =>
    rw [szT]
    have : ks.length ≤ szTs ks := by rw [szTs_eq]; exact len_le_sum fun t _ => by cases t; rw [szT]; omega
    simp only [Tr.ks]; omega
theorem sz_pos (t : Tr) : 1 ≤ szT t := by cases t; rw [szT]; omega
theorem at_len : ∀ (n : Nd) (t c : Tr), atT t n = some c → n.length + szT c ≤ szT t
  | [], t, c, h => by rw [atT] at h; cases h; simp
  | k :: r, t, c, h => by
    rw [atT] at h
    by_cases hk : 0 ≤ k
    · rw [if_pos hk] at h
      cases hc : t.ks[k.toNat]? with
      | none => rw [hc] at h; cases h
      | some c' =>
        rw [hc] at h
        have := at_len r c' c h
        have := sz_get hc
        simp only [List.length_cons]; omega
    · rw [if_neg hk] at h; cases h
/-! ### tree_at -/
theorem tree_at_loop (C : EvC) : ∀ (n : Nd) (t : Tr) (a1 a2 : Option Sl), loopFor (.name 2) (fun s' => evSs C b_tree_at_1 s') (n.map .int) [some (.sh (encT t)), a1, a2] =
    match atT t n with
    | some c => .nx [some (.sh (encT c)), a1, match n.getLast? with | some k => some (.sh (.int k)) | none => a2]
    | none => .exc 0
  | [], t, a1, a2 => rfl
  | k :: r, t, a1, a2 => by
    rw [List.map_cons]
    unfold loopFor
    rw [b_name, atT]
    show (evSs C b_tree_at_1 [some (.sh (encT t)), a1, some (.sh (.int k))]).then _ = _
    by_cases hk : 0 ≤ k
    · by_cases hl : k < t.ks.length
      · obtain ⟨c, e1, e2⟩ := atI_some hk hl
        have e1' : L2.atI (t.ks.map encT) k = some (encT c) := by
          have hl' : k.toNat < (t.ks.map encT).length := by simp; omega
          have := L2.atI_nat (List.getElem?_eq_getElem hl')
          rw [show ((k.toNat : Nat) : Int) = k by omega] at this
          rw [this]
          simp [List.getElem?_eq_some_iff] at e2 ⊢
          obtain ⟨_, e2⟩ := e2
          rw [e2]
        have hb : evSs C b_tree_at_1 [some (.sh (encT t)), a1, some (.sh (.int k))] = .nx [some (.sh (encT c)), a1, some (.sh (.int k))] := by
          have e3 : idxD (.tuple (t.ks.map encT)) (.int k) = .ok (encT c) := by simp [idxD, e1']
          rw [b_tree_at_1]
          simp [encT_kids, hk, hl, e3]
        rw [hb, if_pos hk, e2]
        show loopFor _ _ _ _ = _
        rw [tree_at_loop C r c a1 (some (.sh (.int k)))]
        simp only [Option.bind_some]
        cases atT c r with
        | none => rfl
        | some c' =>
          simp only
          congr 3
          cases r with
          | nil => rfl
          | cons x y => simp [List.getLast?_cons]
      · have e2 : t.ks[k.toNat]? = none := by
          rw [List.getElem?_eq_none_iff]; omega
        have hb : evSs C b_tree_at_1 [some (.sh (encT t)), a1, some (.sh (.int k))] = .exc 0 := by
          rw [b_tree_at_1]
          simp [encT_kids, hk, hl]
        rw [hb, if_pos hk, e2]
        rfl
    · have hb : evSs C b_tree_at_1 [some (.sh (encT t)), a1, some (.sh (.int k))] = .exc 0 := by
        rw [b_tree_at_1]
        simp [encT_kids, hk]
      rw [hb, if_neg hk]
      rfl
theorem r_tree_at (N : Nat) (t : Tr) (n : Nd) : rn (N + 1) 4 [encT t, encI n] = match atT t n with
    | some c => .ok (encT c)
    | none => .exc 0 := by
  rw [rn_tree_at, b_tree_at]
  have h := tree_at_loop (Cn N) n t (some (.sh (encI n))) none
  have hi : evI (Cn N) (.seq (.var 1)) [some (.sh (encT t)), some (.sh (encI n)), none] = .ok (n.map .int) := by
    simp [encI]
  have hf := for_ok (t := .name 2) (b := b_tree_at_1) hi
  rw [h] at hf
  cases hc : atT t n with
  | none =>
    rw [hc] at hf
    exact res_of (ss_exc hf) rfl
  | some c =>
    rw [hc] at hf
    refine res_of (ss_nx hf) ?_
    simp
theorem r_tree_at' {N : Nat} {t c : Tr} {n : Nd} (h : atT t n = some c) : rn (N + 1) 4 [encT t, encI n] = .ok (encT c) := by
  rw [r_tree_at, h]
theorem encI_app (n m : Nd) (h : n.length + m.length ≤ lim) : binD .Add (encI n) (encI m) = .ok (encI (n ++ m)) := by
  unfold encI
  rw [b_tup _ _ (by simpa using h)]; simp
theorem encI_app1 (n : Nd) (k : Int) (h : n.length + 1 ≤ lim) : binD .Add (encI n) (.tuple [.int k]) = .ok (encI (n ++ [k])) := encI_app n [k] h
theorem range_en {A : Type} (xs : List A) : rangeD 0 xs.length = (en 0 xs).map fun p => .int p.1 := by
  rw [rangeD_eq]
  have : ∀ (i : Nat) (xs : List A), (List.range xs.length).map (fun j => (PyData.int ((i : Int) + (j : Nat)))) = (en i xs).map fun p => .int p.1 := by
    intro i xs
    induction xs generalizing i with
    | nil => rfl
    | cons x xs ih =>
      rw [List.length_cons, List.range_succ_eq_map, en, List.map_cons, List.map_cons, ← ih (i + 1), List.map_map]
      congr 1
      · simp
        intro a _
        omega
  exact this 0 xs
theorem rng_en {A : Type} (xs : List A) (h : xs.length ≤ 1000) : rng 0 (xs.length : Int) = .ok ((en 0 xs).map fun p => .int p.1) := by
  rw [rng0 (by omega) (by omega)]
  simp only [Int.toNat_natCast]
  rw [range_en]
/-- range(n): rewriting beneath rng is to be kept from the kernel -/
theorem rng1_ok {C : EvC} {e : E} {s : Sd} {i : Int} {ds : List D} (h : ev C e s = .ok (.int i)) (h2 : rng 0 i = .ok ds) : evI C (.rng1 e) s = .ok ds := by
  rw [ei_rng1, h, R.bind_ok, i_of, R.bind_ok, h2]
theorem rng2_ok {C : EvC} {e f : E} {s : Sd} {i j : Int} {ds : List D} (h : ev C e s = .ok (.int i)) (h' : ev C f s = .ok (.int j)) (h2 : rng i j = .ok ds) : evI C (.rng2 e f) s = .ok ds := by
  rw [ei_rng2, h, R.bind_ok, h', R.bind_ok, i_of, R.bind_ok, i_of, R.bind_ok, h2]
theorem r_kids_of {N : Nat} {t c : Tr} {n : Nd} (h : atT t n = some c) (hb : szT t ≤ 1000) : rn (N + 2) 22 [encT t, encI n] = .ok (.list ((kids (n, c)).map fun x => encI x.1)) := by
  have hlim : lim = 1000000 := rfl
  have h1 := at_len n t c h
  have h2 := ks_len c
  have e1 : rn (N + 1) 4 [encT t, encI n] = _ := r_tree_at' h
  rw [rn_kids_of, b_kids_of]
  have e2 := rng_en c.ks (by omega)
  refine res_of (ss_rt (ret_ok (d := .list ((kids (n, c)).map fun x => encI x.1)) ?_)) rfl
  rw [e_lst, comp_map (xs := en 0 c.ks) (enc := fun p => .int p.1) (g := fun p => encI (n ++ [(p.1 : Int)]))]
  · rw [R.bind_ok, kids_en, List.map_map]; rfl
  · exact rng1_ok (by simp [e1, encT_kids]) e2
  · rw [en_len]; omega
  · intro p _
    exact ⟨_, b_name _ _ _, by simp [encI_app1 n (p.1 : Int) (by omega)]⟩
theorem eqv_tup_nil (n : Nd) : PyData.eqv (encI n) (.tuple []) = n.isEmpty := by
  cases n <;> simp [encI, PyData.eqv, PyData.eqvAll]
theorem ne_nil (n : Nd) : cmpD .NotEq (encI n) (.tuple []) = .ok (!n.isEmpty) := by
  unfold encI
  rw [c_neNil]; simp
theorem nwT_tail (n : Nd) (t : Tr) : (kids (n, t)).flatMap (fun x => (nwT x.1 x.2).map fun x => x.1) = (nodesK 0 t.ks).map fun m => n ++ m := by
  have h := nwT_nodes t n
  rw [nwT_eq, nodesT_eq, List.map_cons, List.map_cons, List.map_flatMap] at h
  simp only [List.append_nil, List.cons.injEq, true_and] at h
  exact h
theorem nodesK_ne : ∀ (ks : List Tr) (i : Nat) (m : Nd), m ∈ nodesK i ks → m.isEmpty = false
  | [], i, m, h => by rw [nodesK] at h; cases h
  | t :: r, i, m, h => by
    rw [nodesK, List.mem_append] at h
    rcases h with h | h
    · obtain ⟨x, _, rfl⟩ := List.mem_map.mp h; rfl
    · exact nodesK_ne r _ m h
theorem r_all_below {N : Nat} {t c : Tr} {n : Nd} (h : atT t n = some c) (hN : szT t < N) (hb : szT t ≤ 1000) : rn (N + 1) 23 [encT t, encI n] = .ok (.list (((kids (n, c)).flatMap fun x => nwT x.1 x.2).map fun x => encI x.1)) := by
  have hlim : lim = 1000000 := rfl
  obtain ⟨N', rfl⟩ : ∃ n', N = n' + 1 := ⟨N - 1, by omega⟩
  have h1 := at_len n t c h
  have e1 : rn (N' + 1) 4 [encT t, encI n] = _ := r_tree_at' h
  have e2 := r_nodes (N' + 1) c (by omega) (by omega)
  rw [rn_all_below, b_all_below]
  refine res_of (ss_rt (ret_ok (d := .list (((kids (n, c)).flatMap fun x => nwT x.1 x.2).map fun x => encI x.1)) ?_)) rfl
  rw [e_lst, comp_filter (xs := nodesT c) (enc := encI) (g := fun m => encI (n ++ m)) (p := fun m => !m.isEmpty)]
  · rw [R.bind_ok]
    congr 2
    rw [nodesT_eq, List.filter_cons, List.isEmpty_nil]
    simp only [Bool.not_true, Bool.false_eq_true, if_false]
    rw [List.filter_eq_self.mpr (fun m hm => by rw [nodesK_ne _ _ m hm]; rfl)]
    have h3 := congrArg (List.map encI) (nwT_tail n c)
    rw [List.map_map] at h3
    rw [show (fun m => encI (n ++ m)) = (encI ∘ fun m => n ++ m) from rfl, ← h3]
    simp [List.map_flatMap, Function.comp_def]
  · simp [e1, e2]
  · rw [nodesT_len]; omega
  · intro m hm
    have := nodesT_deep c m hm
    exact ⟨_, b_name _ _ _, ⟨_, by simp [ne_nil]; rfl, rfl⟩, fun _ => by simp [encI_app n m (by omega)]⟩
end Tf
namespace Tf
open PySem
/-! Tm13: the ways of a path, typed; places, by_step, ways_from. -/
def below (w : Bool) (ks : List NT) : List NT := if w then ks.flatMap (fun x => nwT x.1 x.2) else ks
mutual
def okS : St → NT → Bool
  | .mk _ l ts, x => decide (x.2.l.val = l.val) && okTs ts (kids x)
def wyL : List St → List NT → List (List Nd)
  | [], _ => [[]]
  | s :: r, ks => ((below s.w ks).filter fun x => okS s x).flatMap fun x => (wyL r (kids x)).map fun row => x.1 :: row
def okTs : List (List St) → List NT → Bool
  | [], _ => true
  | p :: r, ks => !(wyL p ks).isEmpty && okTs r ks
end
theorem okTs_eq (ts : List Pa) (ks : List NT) : okTs ts ks = ts.all fun p => !(wyL p ks).isEmpty := by
  induction ts with
  | nil => rw [okTs]; rfl
  | cons p r ih => rw [okTs, ih]; rfl
theorem okS_eq (s : St) (x : NT) : okS s x = (decide (x.2.l.val = s.l.val) && s.ts.all fun p => !(wyL p (kids x)).isEmpty) := by
  cases s with
  | mk w l ts => rw [okS, okTs_eq]; rfl
theorem wyL_nil (ks : List NT) : wyL [] ks = [[]] := by rw [wyL]
theorem wyL_cons (s : St) (r : Pa) (ks : List NT) : wyL (s :: r) ks = ((below s.w ks).filter fun x => okS s x).flatMap fun x => (wyL r (kids x)).map fun row => x.1 :: row := by rw [wyL]
/-! ### how many -/
def cb : Nat → Nat → Nat
  | _, 0 => 1
  | 0, _ + 1 => 0
  | S + 1, j + 1 => cb S j + cb S (j + 1)
theorem cb_step (S j : Nat) : cb (S + 1) (j + 1) = cb S j + cb S (j + 1) := by rw [cb]
theorem cb_mono1 : ∀ (S j : Nat), cb S j ≤ cb (S + 1) j
  | S, 0 => by cases S <;> simp [cb]
  | S, j + 1 => by rw [cb_step]; omega
theorem cb_mono {S T : Nat} (h : S ≤ T) (j : Nat) : cb S j ≤ cb T j := by
  induction h with
  | refl => exact Nat.le_refl _
  | step _ ih => exact Nat.le_trans ih (cb_mono1 _ j)
theorem cb_add : ∀ (a b j : Nat), cb a (j + 1) + cb b (j + 1) ≤ cb (a + b) (j + 1)
  | 0, b, j => by simp [cb]
  | a + 1, b, j => by
    have h1 := cb_add a b j
    have h2 : cb a j ≤ cb (a + b) j := cb_mono (by omega) j
    rw [show a + 1 + b = a + b + 1 by omega, cb_step, cb_step]; omega
theorem cb_31 (j : Nat) (h : j ≤ 6) : cb 31 j ≤ 800000 := by
  have h1 : ∀ i : Fin 7, cb 31 i.val ≤ 800000 := by decide +kernel
  exact h1 ⟨j, by omega⟩
def szs (ks : List NT) : Nat := (ks.map fun x => szT x.2).sum
theorem szs_kdK (n : Nd) : ∀ (i : Nat) (ks : List Tr), szs (kdK n i ks) = szTs ks
  | _, [] => by rw [kdK, szTs]; rfl
  | i, t :: r => by
    have := szs_kdK n (i + 1) r
    unfold szs at this ⊢
    rw [kdK, szTs, List.map_cons, List.sum_cons, this]
theorem szs_kids (x : NT) : szs (kids x) + 1 = szT x.2 := by
  obtain ⟨n, t⟩ := x
  obtain ⟨l, ks⟩ := t
  unfold kids
  rw [szs_kdK, szT]; simp only [Tr.ks]; omega
theorem sum_flatMap {A B : Type} (f : B → Nat) (g : A → List B) (xs : List A) : ((xs.flatMap g).map f).sum = (xs.map fun x => ((g x).map f).sum).sum := by
  induction xs with
  | nil => rfl
  | cons x xs ih => simp [ih]
theorem sum_le {A : Type} (f g : A → Nat) (xs : List A) (h : ∀ x ∈ xs, f x ≤ g x) : (xs.map f).sum ≤ (xs.map g).sum := by
  induction xs with
  | nil => simp
  | cons x xs ih =>
    have h1 := h x (by simp)
    have h2 := ih fun y hy => h y (by simp [hy])
    simp only [List.map_cons, List.sum_cons]; omega
theorem cb_sum (j : Nat) (ks : List NT) : (ks.map fun x => cb (szT x.2) (j + 1)).sum ≤ cb (szs ks) (j + 1) := by
  induction ks with
  | nil => simp [szs, cb]
  | cons x r ih =>
    have := cb_add (szT x.2) (szs r) j
    have e : szs (x :: r) = szT x.2 + szs r := by simp [szs]
    rw [List.map_cons, List.sum_cons, e]; omega
theorem nw_sum (j : Nat) : ∀ (m : Nat) (x : NT), szT x.2 ≤ m → ((nwT x.1 x.2).map fun y => cb (szs (kids y)) j).sum ≤ cb (szT x.2) (j + 1)
  | 0, x, h => by have := sz_pos x.2; omega
  | m + 1, x, h => by
    have hs := szs_kids x
    rw [nwT_eq, List.map_cons, List.sum_cons, sum_flatMap]
    have h1 : ((kids x).map fun y => ((nwT y.1 y.2).map fun y => cb (szs (kids y)) j).sum).sum ≤ ((kids x).map fun y => cb (szT y.2) (j + 1)).sum := sum_le _ _ _ fun y hy => by
      have : szT y.2 ≤ szs (kids x) := mem_le_sum (f := fun x : NT => szT x.2) hy
      exact nw_sum j m y (by omega)
    have h2 := cb_sum j (kids x)
    rw [← hs, cb_step]
    have e : kids (x.1, x.2) = kids x := rfl
    rw [e]; omega
theorem below_sum (j : Nat) (w : Bool) (ks : List NT) : ((below w ks).map fun x => cb (szs (kids x)) j).sum ≤ cb (szs ks) (j + 1) := by
  refine Nat.le_trans ?_ (cb_sum j ks)
  unfold below
  cases w with
  | true =>
    rw [if_pos rfl, sum_flatMap]
    exact sum_le _ _ _ fun x _ => nw_sum j _ x (Nat.le_refl _)
  | false =>
    rw [if_neg (by decide)]
    refine sum_le _ _ _ fun x _ => ?_
    rw [← szs_kids x, cb_step]; omega
theorem len_flatMap {A B : Type} (g : A → List B) (xs : List A) : (xs.flatMap g).length = (xs.map fun x => (g x).length).sum := by
  induction xs with
  | nil => rfl
  | cons x xs ih => simp [ih]
theorem sum_filter {A : Type} (f : A → Nat) (p : A → Bool) (xs : List A) : ((xs.filter p).map f).sum ≤ (xs.map f).sum := by
  induction xs with
  | nil => simp
  | cons x xs ih =>
    rw [List.filter_cons]
    split
    · simp only [List.map_cons, List.sum_cons]; omega
    · simp only [List.map_cons, List.sum_cons]; omega
theorem wy_len : ∀ (p : Pa) (ks : List NT), (wyL p ks).length ≤ cb (szs ks) p.length
  | [], ks => by rw [wyL_nil]; simp [cb]
  | s :: r, ks => by
    rw [wyL_cons, len_flatMap]
    refine Nat.le_trans (sum_filter _ _ _) (Nat.le_trans ?_ (below_sum r.length s.w ks))
    exact sum_le _ _ _ fun x _ => by rw [List.length_map]; exact wy_len r (kids x)
theorem wy_lim (p : Pa) (ks : List NT) (h : szs ks ≤ 31) (hp : p.length ≤ 6) : (wyL p ks).length ≤ 800000 :=
  Nat.le_trans (wy_len p ks) (Nat.le_trans (cb_mono h _) (cb_31 _ hp))
theorem below_len (w : Bool) (ks : List NT) : (below w ks).length ≤ szs ks := by
  unfold below szs
  cases w with
  | true =>
    rw [if_pos rfl, len_flatMap]
    exact sum_le _ _ _ fun x _ => by rw [nwT_len]; exact Nat.le_refl _
  | false =>
    rw [if_neg (by decide)]
    exact len_le_sum fun x _ => sz_pos x.2
/-! ### where a step leads -/
def encO : Option Nd → D
  | none => .none
  | some n => encI n
def kidsU (t : Tr) : Option Nd → List NT
  | none => [([], t)]
  | some n => match atT t n with
    | some c => kids (n, c)
    | none => []
def okU (t : Tr) : Option Nd → Prop
  | none => True
  | some n => ∃ c, atT t n = some c
theorem kidsU_some' (t : Tr) (n : Nd) : kidsU t (some n) = match atT t n with
    | some c => kids (n, c)
    | none => [] := rfl
theorem kidsU_some {t c : Tr} {n : Nd} (h : atT t n = some c) : kidsU t (some n) = kids (n, c) := by
  rw [kidsU_some', h]
theorem kidsU_at {t : Tr} {u : Option Nd} {x : NT} (h : x ∈ kidsU t u) : atT t x.1 = some x.2 := by
  cases u with
  | none =>
    simp only [kidsU, List.mem_singleton] at h
    subst h; rfl
  | some n =>
    rw [kidsU_some'] at h
    cases hc : atT t n with
    | none => rw [hc] at h; cases h
    | some c =>
      rw [hc] at h
      obtain ⟨i, h1, h2⟩ := (kids_mem n c x).mp h
      rw [h1, atT_app, hc, Option.bind_some, at_one, h2]
theorem below_at {t : Tr} {u : Option Nd} {w : Bool} {x : NT} (h : x ∈ below w (kidsU t u)) : atT t x.1 = some x.2 := by
  unfold below at h
  cases w with
  | true =>
    rw [if_pos rfl, List.mem_flatMap] at h
    obtain ⟨y, hy, hx⟩ := h
    have h1 := kidsU_at hy
    obtain ⟨m, h2, h3⟩ := (nwT_mem y.2 y.1 x).mp hx
    rw [h2, atT_app, h1, Option.bind_some, h3]
  | false =>
    rw [if_neg (by decide)] at h
    exact kidsU_at h
theorem szs_kidsU (t : Tr) (u : Option Nd) : szs (kidsU t u) ≤ szT t := by
  cases u with
  | none => simp [kidsU, szs]
  | some n =>
    rw [kidsU_some']
    cases hc : atT t n with
    | none => simp [szs]
    | some c =>
      have h1 := szs_kids (n, c)
      have h2 := at_len n t c hc
      simp only at h1 ⊢; omega
theorem encS_way (s : St) : idxD (encS s) (.int 0) = .ok (.str (wayS s.w)) := by
  cases s with
  | mk w l ts => rw [encS_eq]; rfl
theorem encS_let (s : St) : idxD (encS s) (.int 1) = .ok (.str (letS s.l)) := by
  cases s with
  | mk w l ts => rw [encS_eq]; rfl
theorem cmp_str (x y : Str) : cmpD .Eq (.str x) (.str y) = .ok (x == y) := by rw [cmpD, if_pos (near_str _ _), eqv_str]
theorem cmp_strN (x y : Str) : cmpD .NotEq (.str x) (.str y) = .ok (!(x == y)) := by rw [cmpD, if_pos (near_str _ _), eqv_str]
theorem way_in (w : Bool) : (wayS w == "in") = !w := by cases w <;> decide +kernel
theorem way_deep (w : Bool) : (wayS w == "deep") = w := by cases w <;> decide +kernel
theorem let_eq : ∀ (a : Fin 4) (b : Fin 3), (letT a == letS b) = decide (a.val = b.val) := by decide +kernel
theorem r_places {N : Nat} {t : Tr} {u : Option Nd} {s : St} (hu : okU t u) (hN : szT t < N) (hb : szT t ≤ 1000) : rn (N + 2) 24 [encS s, encT t, encO u] = .ok (.list ((below s.w (kidsU t u)).map fun x => encI x.1)) := by
  have hlim : lim = 1000000 := rfl
  rw [rn_places, b_places]
  have hw : ∀ a : D, ev (Cn (N + 1)) (.cmp .Eq (.idx (.var 0) (.con (.int 0))) (.con (.str "in"))) [some (.sh (encS s)), some (.sh (encT t)), some (.sh a)] = .ok (.bool (!s.w)) := fun a => by
    simp [encS_way, cmp_str, way_in]
  cases u with
  | none =>
    have e2 := r_nodes (N + 1) t (by omega) hb
    refine res_of (ss_rt (d := .list ((below s.w (kidsU t none)).map fun x => encI x.1)) ?_) rfl
    refine (iff_t (d := .bool true) (by simp [encO, cmpD]) rfl).trans (ss_rt (ret_ok ?_))
    rw [e_ite, hw]
    cases hc : s.w with
    | false => simp [below, kidsU, encI]
    | true => 
      simp [below, kidsU, e2]
      rw [← nwT_nodes0, List.map_map]; rfl
  | some n =>
    obtain ⟨c, hc⟩ := hu
    have e1 := r_kids_of (N := N - 1) hc hb
    have e2 := r_all_below (N := N) hc (by omega) hb
    rw [show N - 1 + 2 = N + 1 by omega] at e1
    refine res_of (ss_nx ((iff_f (d := .bool false) (by simp [encO, encI, cmpD]) rfl).trans (s_nil' _ _))) ?_
    refine res_of (ss_rt (ret_ok (d := .list ((below s.w (kidsU t (some n))).map fun x => encI x.1)) ?_)) rfl
    rw [e_ite, hw, kidsU_some hc]
    cases hc : s.w with
    | false => simp [below, encO, e1]
    | true => simp [below, encO, e2]
def encW (row : List Nd) : D := .tuple (row.map encI)
theorem ne_list (xs : List D) : cmpD .NotEq (.list xs) (.list []) = .ok (!xs.isEmpty) := by
  have hn : near (.list xs) (.list []) = true := by simp [near, PyData.depth, PyData.depthAll]
  rw [cmpD, if_pos hn]
  cases xs <;> simp [PyData.eqv, PyData.eqvAll]
theorem eq_list (xs : List D) : cmpD .Eq (.list xs) (.list []) = .ok xs.isEmpty := by
  have hn : near (.list xs) (.list []) = true := by simp [near, PyData.depth, PyData.depthAll]
  rw [cmpD, if_pos hn]
  cases xs <;> simp [PyData.eqv, PyData.eqvAll]
theorem r_by_step {N : Nat} {t : Tr} {u : Option Nd} {s : St} (hu : okU t u) (hN : szT t + 2 < N) (hb : szT t ≤ 31) (hts : s.ts.length ≤ 1000)
    (hw : ∀ q ∈ s.ts, ∀ n c, atT t n = some c → rn N 26 [encP q, encT t, encI n] = .ok (.list ((wyL q (kids (n, c))).map encW))) :
    rn (N + 1) 25 [encS s, encT t, encO u] = .ok (.list (((below s.w (kidsU t u)).filter fun x => okS s x).map fun x => encI x.1)) := by
  have hlim : lim = 1000000 := rfl
  obtain ⟨N', rfl⟩ : ∃ n', N = n' + 2 := ⟨N - 2, by omega⟩
  have e1 := r_places (N := N') (s := s) hu (by omega) (by omega)
  have hbl := below_len s.w (kidsU t u)
  have hks := szs_kidsU t u
  obtain ⟨s', x1, a4, a5, rfl⟩ := loop_flat (t := .name 4) (f := fun s' => evSs (Cn (N' + 2)) b_by_step_1 s') (enc := fun x : NT => encI x.1) (g := fun x => if okS s x then [encI x.1] else [])
    (fun acc st => ∃ a4 a5, st = [some (.sh (encS s)), some (.sh (encT t)), some (.sh (encO u)), some (.ow acc), a4, a5]) 1000 (below s.w (kidsU t u)) [] [some (.sh (encS s)), some (.sh (encT t)), some (.sh (encO u)), some (.ow []), none, none]
    (by
      rintro x hx acc st ⟨a4, a5, rfl⟩ hB
      have hat := below_at hx
      have e2 : rn (N' + 2) 4 [encT t, encI x.1] = .ok (encT x.2) := r_tree_at' hat
      refine ⟨_, [some (.sh (encS s)), some (.sh (encT t)), some (.sh (encO u)), some (.ow (acc ++ if okS s x then [encI x.1] else [])), some (.sh (encI x.1)), a5], b_name _ _ _, ?_, ⟨_, _, rfl⟩⟩
      rw [b_by_step_1]
      have hl : ev (Cn (N' + 2)) (.cmp .Eq (.idx (.call 4 (.cons (.var 1) (.cons (.var 4) .nil))) (.con (.int 0))) (.idx (.var 0) (.con (.int 1)))) [some (.sh (encS s)), some (.sh (encT t)), some (.sh (encO u)), some (.ow acc), some (.sh (encI x.1)), a5] = .ok (.bool (decide (x.2.l.val = s.l.val))) := by
        simp [e2, encT_let, encS_let, cmp_str, let_eq]
      have ha : ev (Cn (N' + 2)) (.bi .all (.lst (.comp (.name 5) (.seq (.idx (.var 0) (.con (.int 2)))) .no (.cmp .NotEq (.call 26 (.cons (.var 5) (.cons (.var 1) (.cons (.var 4) .nil)))) (.lst (.disp .nil)))))) [some (.sh (encS s)), some (.sh (encT t)), some (.sh (encO u)), some (.ow acc), some (.sh (encI x.1)), a5] = .ok (.bool (s.ts.all fun p => !(wyL p (kids x)).isEmpty)) := by
        rw [e_bi, e_lst, comp_map (xs := s.ts) (enc := encP) (g := fun p => .bool (!(wyL p (kids x)).isEmpty))]
        · simp only [R.bind_ok, biD, boolsOf_enc, List.all_map, Function.comp_def, id]
        · simp [encS_tests]
        · omega
        · intro q hq
          refine ⟨_, b_name _ _ _, ?_⟩
          have := hw q hq x.1 x.2 hat
          simp [this, ne_list]
      have hc := ev_and hl fun _ => ha
      rw [← okS_eq] at hc
      cases hv : okS s x with
      | true =>
        rw [hv] at hc
        refine (ss_nx ((iff_t hc rfl).trans (?_ : _ = Out.nx [some (.sh (encS s)), some (.sh (encT t)), some (.sh (encO u)), some (.ow (acc ++ [encI x.1])), some (.sh (encI x.1)), a5]))).trans (s_nil' _ _)
        have : acc.length < lim := by omega
        simp [this]
      | false =>
        rw [hv] at hc
        rw [if_neg (by decide), List.append_nil]
        exact (ss_nx ((iff_f hc rfl).trans (s_nil' _ _))).trans (s_nil' _ _))
    ⟨none, none, rfl⟩
    (by
      rw [List.nil_append, len_flatMap]
      have := sum_le (fun x : NT => (if okS s x then [encI x.1] else []).length) (fun _ => 1) (below s.w (kidsU t u)) fun x _ => by split <;> simp
      have h1 : ∀ xs : List NT, (xs.map fun _ => 1).sum = xs.length := fun xs => by
        induction xs with
        | nil => rfl
        | cons x r ih => rw [List.map_cons, List.sum_cons, ih, List.length_cons]; omega
      have h2 := h1 (below s.w (kidsU t u))
      omega)
  rw [rn_by_step, b_by_step]
  refine res_of (ss_nx (s' := [some (.sh (encS s)), some (.sh (encT t)), some (.sh (encO u)), some (.ow []), none, none]) (by rw [s_setL', el_disp, es_nil']; rfl)) ?_
  refine res_of (ss_nx ((for_ok (ds := (below s.w (kidsU t u)).map fun x => encI x.1) (by simp [e1])).trans x1)) ?_
  have hf : ∀ xs : List NT, (xs.flatMap fun x => if okS s x then [encI x.1] else []) = (xs.filter fun x => okS s x).map fun x => encI x.1 := by
    intro xs
    induction xs with
    | nil => rfl
    | cons x r ih =>
      rw [List.flatMap_cons, ih, List.filter_cons]
      split <;> simp
  simp [hf]
/-! ### the rows of ways_from -/
abbrev RK := List Nd × List NT
def extR (b : List RK) (s : St) : List RK := b.flatMap fun e => ((below s.w e.2).filter fun x => okS s x).map fun x => (e.1 ++ [x.1], kids x)
theorem foldR : ∀ (p : Pa) (b : List RK), (p.foldl extR b).map Prod.fst = b.flatMap fun e => (wyL p e.2).map fun row => e.1 ++ row
  | [], b => by
    induction b with
    | nil => rfl
    | cons e r ih => simp only [List.foldl_nil, List.map_cons, List.flatMap_cons, wyL_nil] at ih ⊢; rw [← ih]; simp
  | s :: p, b => by
    rw [List.foldl_cons, foldR p (extR b s)]
    unfold extR
    rw [List.flatMap_assoc]
    congr 1
    funext e
    rw [wyL_cons, List.flatMap_map, List.map_flatMap]
    congr 1
    funext x
    rw [List.map_map]
    congr 1
    funext row
    simp
theorem foldR0 (p : Pa) (ks : List NT) : (p.foldl extR [([], ks)]).map Prod.fst = wyL p ks := by
  rw [foldR]; simp
def okR (t : Tr) (u : Option Nd) (e : RK) : Prop := ∃ v, okU t v ∧ e.2 = kidsU t v ∧ ((e.1 = [] ∧ v = u) ∨ ∃ r n, e.1 = r ++ [n] ∧ v = some n)
theorem okR_ext {t : Tr} {u : Option Nd} {b : List RK} (h : ∀ e ∈ b, okR t u e) (s : St) : ∀ e ∈ extR b s, okR t u e := by
  intro e he
  unfold extR at he
  rw [List.mem_flatMap] at he
  obtain ⟨e0, h0, he⟩ := he
  obtain ⟨x, hx, rfl⟩ := List.mem_map.mp he
  obtain ⟨v, hv, hk, _⟩ := h e0 h0
  rw [hk] at hx
  have hat := below_at (List.mem_filter.mp hx).1
  exact ⟨some x.1, ⟨x.2, hat⟩, by rw [kidsU_some hat], .inr ⟨_, _, rfl, rfl⟩⟩
theorem encW_app (row : List Nd) (n : Nd) (h : row.length + 1 ≤ lim) : binD .Add (encW row) (.tuple [encI n]) = .ok (encW (row ++ [n])) := by
  unfold encW
  rw [b_tup _ _ (by simpa using h)]; simp
theorem encW_ne (row : List Nd) (n : Nd) : truth (encW (row ++ [n])) = .ok true := by
  unfold encW; simp
theorem encW_last (row : List Nd) (n : Nd) : idxD (encW (row ++ [n])) (.int (-1)) = .ok (encI n) := by
  unfold encW
  rw [List.map_append]
  show (match L2.atI (row.map encI ++ [encI n]) (-1) with | some d => R.ok d | none => .fail) = _
  rw [L2.atI_last]
theorem rows_len : ∀ (p : Pa) (ks : List NT) (row : List Nd), row ∈ wyL p ks → row.length = p.length
  | [], ks, row, h => by rw [wyL_nil] at h; simp at h; simp [h]
  | s :: r, ks, row, h => by
    rw [wyL_cons, List.mem_flatMap] at h
    obtain ⟨x, _, h⟩ := h
    obtain ⟨q, hq, rfl⟩ := List.mem_map.mp h
    simp [rows_len r _ q hq]
/-! ### paths that are not too wide -/
mutual
def wgS : St → Bool
  | .mk _ _ ts => wgPs ts
def wgL : List St → Bool
  | [] => true
  | s :: r => wgS s && wgL r
def wgPs : List (List St) → Bool
  | [] => true
  | p :: r => (decide (1 ≤ p.length) && decide (p.length ≤ 6) && wgL p) && wgPs r
end
def wgP (p : Pa) : Bool := decide (1 ≤ p.length) && decide (p.length ≤ 6) && wgL p
theorem wgL_eq (p : Pa) : wgL p = p.all wgS := by
  induction p with
  | nil => rw [wgL]; rfl
  | cons s r ih => rw [wgL, ih]; rfl
theorem wgPs_eq (p : List Pa) : wgPs p = p.all wgP := by
  induction p with
  | nil => rw [wgPs]; rfl
  | cons s r ih => rw [wgPs, ih]; rfl
theorem wgS_eq (s : St) : wgS s = s.ts.all wgP := by
  cases s with
  | mk w l ts => rw [wgS, wgPs_eq]; rfl
theorem wg_mem {p : Pa} {s : St} {q : Pa} (h : wgL p = true) (hs : s ∈ p) (hq : q ∈ s.ts) : wgP q = true := by
  rw [wgL_eq, List.all_eq_true] at h
  have := h s hs
  rw [wgS_eq, List.all_eq_true] at this
  exact this q hq
theorem wgP_inv {p : Pa} (h : wgP p = true) : 1 ≤ p.length ∧ p.length ≤ 6 ∧ wgL p = true := by
  unfold wgP at h
  simp only [Bool.and_eq_true, decide_eq_true_eq] at h
  exact ⟨h.1.1, h.1.2, h.2⟩
mutual
theorem wf_wgS : ∀ s : St, wfS s = true → wgS s = true
  | .mk w l ts, h => by
    rw [wfS, Bool.and_eq_true] at h
    rw [wgS]; exact wf_wgPs ts h.2
theorem wf_wgL : ∀ p : List St, wfL p = true → wgL p = true
  | [], _ => by rw [wgL]
  | s :: r, h => by
    rw [wfL, Bool.and_eq_true] at h
    rw [wgL, wf_wgS s h.1, wf_wgL r h.2]; rfl
theorem wf_wgPs : ∀ p : List (List St), wfPs p = true → wgPs p = true
  | [], _ => by rw [wgPs]
  | s :: r, h => by
    rw [wfPs] at h
    simp only [Bool.and_eq_true, decide_eq_true_eq] at h
    rw [wgPs, wf_wgL s h.1.2, wf_wgPs r h.2]
    simp only [Bool.and_true, Bool.and_eq_true, decide_eq_true_eq]; omega
end
theorem wf_wgP {p : Pa} (h : wfP p = true) : wgP p = true := by
  unfold wfP at h
  simp only [Bool.and_eq_true, decide_eq_true_eq] at h
  unfold wgP
  rw [wf_wgL p h.2]
  simp only [Bool.and_true, Bool.and_eq_true, decide_eq_true_eq]; omega
theorem ts_len {s : St} {p : Pa} (hs : s ∈ p) (hw : wgL p = true) : s.ts.length < stL p := by
  have h1 : stS s ≤ (p.map stS).sum := mem_le_sum hs
  rw [stS_eq] at h1
  have h2 : s.ts.length ≤ (s.ts.map stL).sum := len_le_sum fun q hq => by
    have := wgP_inv (wg_mem hw hs hq)
    have := len_le_st q
    omega
  rw [stL_eq]; omega
theorem st_in {s : St} {p q : Pa} (hs : s ∈ p) (hq : q ∈ s.ts) : stL q < stL p := by
  have h1 : stS s ≤ (p.map stS).sum := mem_le_sum hs
  have h2 : stL q ≤ (s.ts.map stL).sum := mem_le_sum hq
  rw [stS_eq] at h1
  rw [stL_eq p]; omega
def J9 (p : Pa) (t : Tr) (u : Option Nd) (ds : List D) (s : Sd) : Prop :=
  ∃ (q r : Pa) (a4 a5 a6 a7 a8 : Option Sl), p = q ++ r ∧ ds = r.map encS ∧ s = [some (.sh (encP p)), some (.sh (encT t)), some (.sh (encO u)), some (.sh (.list ((q.foldl extR [([], kidsU t u)]).map fun e => encW e.1))), a4, a5, a6, a7, a8] ∧ ∀ e ∈ q.foldl extR [([], kidsU t u)], okR t u e
theorem r_ways_from : ∀ (N : Nat) (p : Pa) (t : Tr) (u : Option Nd), okU t u → wgL p = true → p.length ≤ 6 → szT t ≤ 31 → stL p ≤ 100 → 2 * stL p + szT t + 4 < N → rn N 26 [encP p, encT t, encO u] = .ok (.list ((wyL p (kidsU t u)).map encW))
  | 0, p, t, u, _, _, _, _, _, h => by omega
  | N + 1, p, t, u, hu, hw, hl, hb, hst, hN => by
    have hlim : lim = 1000000 := rfl
    have hks := szs_kidsU t u
    have loop : ∀ (ds : List D) (s : Sd), J9 p t u ds s → ∃ s', loopFor (.name 4) (fun s' => evSs (Cn N) b_ways_from_2 s') ds s = .nx s' ∧ J9 p t u [] s' := by
      refine loopFor_inv _ ?_
      rintro d r0 st ⟨q, r, a4, a5, a6, a7, a8, hp, hd, rfl, hR⟩
      match r, hd, hp with
      | s :: r, hd, hp =>
        simp only [List.map_cons, List.cons.injEq] at hd
        obtain ⟨rfl, rfl⟩ := hd
        have hsp : s ∈ p := by rw [hp]; simp
        have hex : (q ++ [s]).foldl extR [([], kidsU t u)] = extR (q.foldl extR [([], kidsU t u)]) s := by simp
        have hlen : ((q ++ [s]).foldl extR [([], kidsU t u)]).length ≤ 800000 := by
          have h1 := congrArg List.length (foldR0 (q ++ [s]) (kidsU t u))
          rw [List.length_map] at h1
          rw [h1]
          refine wy_lim _ _ (by omega) ?_
          have := congrArg List.length hp
          simp at this ⊢; omega
        have hrow : ∀ e ∈ q.foldl extR [([], kidsU t u)], e.1.length ≤ 6 := by
          intro e he
          have h1 := rows_len q (kidsU t u) e.1 (by rw [← foldR0]; exact List.mem_map_of_mem he)
          have := congrArg List.length hp
          simp at this; omega
        rw [hex] at hlen
        generalize hb0 : q.foldl extR [([], kidsU t u)] = b at hR hlen hrow hex
        have e5 : ∀ v, okU t v → rn N 25 [encS s, encT t, encO v] = .ok (.list (((below s.w (kidsU t v)).filter fun x => okS s x).map fun x => encI x.1)) := by
          intro v hv
          obtain ⟨N', rfl⟩ : ∃ n', N = n' + 1 := ⟨N - 1, by omega⟩
          have hts := ts_len hsp hw
          refine r_by_step hv (by have := len_le_st p; have : 1 ≤ p.length := List.length_pos_of_mem hsp; omega) hb (by omega) ?_
          intro k hk n c hc
          have h1 := st_in hsp hk
          obtain ⟨k1, k2, k3⟩ := wgP_inv (wg_mem hw hsp hk)
          have := r_ways_from N' k t (some n) ⟨c, hc⟩ k3 k2 hb (by omega) (by omega)
          rw [kidsU_some hc] at this
          exact this
        have hw2 : ∀ e : RK, e ∈ b → ∀ x : NT, x ∈ (below s.w e.2).filter (fun x => okS s x) → e.1.length + 1 ≤ lim := fun e he _ _ => by have := hrow e he; omega
        obtain ⟨s', x1, b6, b7, b8, rfl⟩ := loop_flat (t := .name 6) (f := fun s' => evSs (Cn N) b_ways_from_1 s') (enc := fun e : RK => encW e.1) (g := fun e => ((below s.w e.2).filter fun x => okS s x).map fun x => encW (e.1 ++ [x.1]))
          (fun acc st => ∃ b6 b7 b8, st = [some (.sh (encP p)), some (.sh (encT t)), some (.sh (encO u)), some (.sh (.list (b.map fun e => encW e.1))), some (.sh (encS s)), some (.ow acc), b6, b7, b8]) 800000 b [] [some (.sh (encP p)), some (.sh (encT t)), some (.sh (encO u)), some (.sh (.list (b.map fun e => encW e.1))), some (.sh (encS s)), some (.ow []), a6, a7, a8]
          (by
            rintro e he acc st ⟨b6, b7, b8, rfl⟩ hB
            obtain ⟨v, hv, hk, hv2⟩ := hR e he
            have e6 := e5 v hv
            rw [← hk] at e6
            have hhere : ∀ a5, ev (Cn N) (.ite (.var 6) (.idx (.var 6) (.neg (.con (.int 1)))) (.var 2)) [some (.sh (encP p)), some (.sh (encT t)), some (.sh (encO u)), some (.sh (.list (b.map fun e => encW e.1))), some (.sh (encS s)), a5, some (.sh (encW e.1)), b7, b8] = .ok (encO v) := by
              intro a5
              rcases hv2 with ⟨h1, rfl⟩ | ⟨rr, n, h1, rfl⟩
              · rw [h1]; simp [encW]
              · rw [h1]
                simp [encW_ne, negD, encW_last, encO]
            have hcomp : ∀ a5, evL (Cn N) (.comp (.name 8) (.seq (.call 25 (.cons (.var 4) (.cons (.var 1) (.cons (.var 7) .nil))))) .no (.bin .Add (.var 6) (.tup (.cons (.var 8) .nil)))) [some (.sh (encP p)), some (.sh (encT t)), some (.sh (encO u)), some (.sh (.list (b.map fun e => encW e.1))), some (.sh (encS s)), a5, some (.sh (encW e.1)), some (.sh (encO v)), b8] = .ok (((below s.w e.2).filter fun x => okS s x).map fun x => encW (e.1 ++ [x.1])) := by
              intro a5
              refine comp_map (enc := fun x : NT => encI x.1) (by simp [e6]) ?_ ?_
              · have h1 := below_len s.w e.2
                have h2 := List.length_filter_le (fun x => okS s x) (below s.w e.2)
                have h3 := szs_kidsU t v
                rw [← hk] at h3
                omega
              · intro x hx
                exact ⟨_, b_name _ _ _, by simp [encW_app e.1 x.1 (hw2 e he x hx)]⟩
            refine ⟨_, [some (.sh (encP p)), some (.sh (encT t)), some (.sh (encO u)), some (.sh (.list (b.map fun e => encW e.1))), some (.sh (encS s)), some (.ow (acc ++ ((below s.w e.2).filter fun x => okS s x).map fun x => encW (e.1 ++ [x.1]))), some (.sh (encW e.1)), some (.sh (encO v)), b8], b_name _ _ _, ?_, ⟨_, _, _, rfl⟩⟩
            rw [b_ways_from_1]
            refine (ss_nx (set_ok (hhere _))).trans ?_
            refine (ss_nx (?_ : _ = Out.nx [some (.sh (encP p)), some (.sh (encT t)), some (.sh (encO u)), some (.sh (.list (b.map fun e => encW e.1))), some (.sh (encS s)), some (.ow (acc ++ ((below s.w e.2).filter fun x => okS s x).map fun x => encW (e.1 ++ [x.1]))), some (.sh (encW e.1)), some (.sh (encO v)), b8])).trans (s_nil' _ _)
            rw [s_ext']
            simp only [List.set_cons_succ, List.set_cons_zero, List.getElem?_cons_succ, List.getElem?_cons_zero, e_lst, hcomp, R.bind_ok, l_of, R.out_ok]
            rw [if_pos (by omega)])
          ⟨_, _, _, rfl⟩
          (by
            rw [List.nil_append]
            have h1 : (extR b s).length = (b.flatMap fun e => ((below s.w e.2).filter fun x => okS s x).map fun x => encW (e.1 ++ [x.1])).length := by
              unfold extR
              rw [len_flatMap, len_flatMap]
              simp
            omega)
        refine ⟨_, [some (.sh (encP p)), some (.sh (encT t)), some (.sh (encO u)), some (.sh (.list ((extR b s).map fun e => encW e.1))), some (.sh (encS s)), some (.sh (.list ((extR b s).map fun e => encW e.1))), b6, b7, b8], b_name _ _ _, ?_, ?_⟩
        · rw [b_ways_from_2]
          refine (ss_nx (s' := [some (.sh (encP p)), some (.sh (encT t)), some (.sh (encO u)), some (.sh (.list (b.map fun e => encW e.1))), some (.sh (encS s)), some (.ow []), a6, a7, a8]) (by simp)).trans ?_
          refine (ss_nx ((for_ok (ds := b.map fun e => encW e.1) (by simp)).trans x1)).trans ?_
          have hm : (b.flatMap fun e => ((below s.w e.2).filter fun x => okS s x).map fun x => encW (e.1 ++ [x.1])) = (extR b s).map fun e => encW e.1 := by
            unfold extR
            rw [List.map_flatMap]
            congr 1
            funext e
            rw [List.map_map]; rfl
          rw [List.nil_append, hm]
          simp
        · refine ⟨q ++ [s], r, _, _, _, _, _, by rw [hp]; simp, rfl, by rw [hex], ?_⟩
          rw [hex]
          exact okR_ext hR s
    obtain ⟨s', x1, q, r, a4, a5, a6, a7, a8, hp, hd, rfl, _⟩ := loop (p.map encS) [some (.sh (encP p)), some (.sh (encT t)), some (.sh (encO u)), some (.sh (.list [.tuple []])), none, none, none, none, none]
      ⟨[], p, none, none, none, none, none, rfl, rfl, rfl, fun e he => by
        simp only [List.foldl_nil, List.mem_singleton] at he
        subst he
        exact ⟨u, hu, rfl, .inl ⟨rfl, rfl⟩⟩⟩
    have hr : r = [] := by cases r with | nil => rfl | cons _ _ => cases hd
    subst hr
    rw [List.append_nil] at hp
    subst hp
    rw [rn_ways_from, b_ways_from]
    refine res_of (ss_nx (set_ok (d := .list [.tuple []]) (by simp))) ?_
    refine res_of (ss_nx ((for_ok (ds := p.map encS) (by simp [encP_eq])).trans x1)) ?_
    refine res_of (ss_rt (ret_ok (d := .list ((wyL p (kidsU t u)).map encW)) ?_)) rfl
    rw [← foldR0, List.map_map]
    simp
end Tf
namespace Tf
open PySem
/-! Tm14: finds, has_find, finds_from, ways; _law_nodes, _law_ways, _law_finds. -/
theorem cut_drop {A : Type} (xs : List A) (k : Nat) : cutD xs (some (k : Int)) none = xs.drop k := by
  unfold cutD
  rw [HT.sIx_nat, HT.sIx_none]
  by_cases h : k ≤ xs.length
  · rw [Nat.min_eq_left h, List.take_of_length_le (by simp)]
  · rw [Nat.min_eq_right (by omega), List.drop_of_length_le (by omega), List.drop_of_length_le (by omega)]; simp
theorem cut_take {A : Type} (xs : List A) (k : Nat) : cutD xs none (some (k : Int)) = xs.take k := by
  unfold cutD
  rw [HT.sIx_nat, HT.sIx_none, List.drop_zero, Nat.sub_zero]
  by_cases h : k ≤ xs.length
  · rw [Nat.min_eq_left h]
  · rw [Nat.min_eq_right (by omega), List.take_of_length_le (by omega), List.take_of_length_le (by omega)]
theorem cut_dropI {A : Type} (xs : List A) (k : Int) (h : 0 ≤ k) : cutD xs (some k) none = xs.drop k.toNat := by
  rw [← cut_drop, show ((k.toNat : Nat) : Int) = k by omega]
theorem cut_takeI {A : Type} (xs : List A) (k : Int) (h : 0 ≤ k) : cutD xs none (some k) = xs.take k.toNat := by
  rw [← cut_take, show ((k.toNat : Nat) : Int) = k by omega]
theorem cut_front {A : Type} (xs : List A) : cutD xs none (some (-1)) = xs.dropLast := by
  unfold cutD
  rw [HT.sIx_none, List.drop_zero, Nat.sub_zero]
  have : HT.sIx xs.length xs.length (some (-1)) = xs.length - 1 := by
    show (if (-1 : Int) < 0 then ((-1 : Int) + (xs.length : Int)).toNat else min (-1 : Int).toNat xs.length) = _
    rw [if_pos (by decide)]; omega
  rw [this, ← List.dropLast_eq_take]
theorem nodes_mem (t : Tr) (n : Nd) : n ∈ nodesT t ↔ ∃ c, atT t n = some c := by
  rw [← nwT_nodes0, List.mem_map]
  constructor
  · rintro ⟨x, hx, rfl⟩
    obtain ⟨m, h1, h2⟩ := (nwT_mem t [] x).mp hx
    rw [h1, List.nil_append]
    exact ⟨_, h2⟩
  · rintro ⟨c, hc⟩
    exact ⟨(n, c), (nwT_mem t [] _).mpr ⟨n, rfl, hc⟩, rfl⟩
theorem nodup_len {A : Type} [DecidableEq A] : ∀ (l m : List A), l.Nodup → (∀ x ∈ l, x ∈ m) → l.length ≤ m.length
  | [], m, _, _ => by simp
  | x :: l, m, hn, h => by
    rw [List.nodup_cons] at hn
    have h1 := nodup_len l (m.erase x) hn.2 fun y hy => by
      rw [List.mem_erase_of_ne (fun (e : y = x) => hn.1 (e ▸ hy))]
      exact h y (by simp [hy])
    have h2 : x ∈ m := h x (by simp)
    rw [List.length_erase_of_mem h2] at h1
    have := List.length_pos_of_mem h2
    simp only [List.length_cons]; omega
theorem idx_nat {xs : List D} {k : Nat} {d : D} (h : xs[k]? = some d) : idxD (.tuple xs) (.int (k : Int)) = .ok d := by
  show (match L2.atI xs (k : Int) with | some d => R.ok d | none => .fail) = _
  rw [L2.atI_nat h]
theorem idx0 (x : D) (xs : List D) : idxD (.tuple (x :: xs)) (.int 0) = .ok x := idx_nat (k := 0) rfl
def lastN (row : List Nd) : Nd := row.getLast?.getD []
theorem lastN_app (r : List Nd) (n : Nd) : lastN (r ++ [n]) = n := by simp [lastN]
def fndL (p : Pa) (ks : List NT) : List Nd := (((wyL p ks).map lastN).eraseDups).mergeSort leI
def fnd (p : Pa) (t : Tr) : List Nd := fndL p [([], t)]
theorem fold_okR {t : Tr} {u : Option Nd} (hu : okU t u) (p : Pa) : ∀ e ∈ p.foldl extR [([], kidsU t u)], okR t u e := by
  have : ∀ (p : Pa) (b : List RK), (∀ e ∈ b, okR t u e) → ∀ e ∈ p.foldl extR b, okR t u e := by
    intro p
    induction p with
    | nil => exact fun b h => h
    | cons s r ih => exact fun b h => ih _ (okR_ext h s)
  refine this p _ fun e he => ?_
  simp only [List.mem_singleton] at he
  subst he
  exact ⟨u, hu, rfl, .inl ⟨rfl, rfl⟩⟩
theorem wy_last {t : Tr} {u : Option Nd} (hu : okU t u) {p : Pa} (hp : p ≠ []) {row : List Nd} (h : row ∈ wyL p (kidsU t u)) : ∃ r n, row = r ++ [n] ∧ ∃ c, atT t n = some c := by
  have hl := rows_len p _ row h
  rw [← foldR0] at h
  obtain ⟨e, he, rfl⟩ := List.mem_map.mp h
  obtain ⟨v, hv, _, ⟨h1, _⟩ | ⟨r, n, h1, rfl⟩⟩ := fold_okR hu p e he
  · rw [h1] at hl
    exact absurd (List.length_eq_zero_iff.mp hl.symm) hp
  · exact ⟨r, n, h1, hv⟩
theorem rowsOfD_enc : ∀ ns : List Nd, rowsOfD (ns.map encI) = some ns
  | [] => rfl
  | n :: r => by
    have h1 : rowOf (encI n) = some n := by
      show intsOf (n.map .int) = some n
      have := intsOf_enc n (fun i => i)
      simpa using this
    rw [List.map_cons, rowsOfD, h1, rowsOfD_enc r]
theorem sset_ok {ns : List Nd} (h1 : ns.eraseDups.length < 63) (h2 : ns.length ≤ lim) : ssetD (ns.map encI) = .ok ((ns.eraseDups.mergeSort leI).map encI) := by
  unfold ssetD
  rw [rowsOfD_enc]
  simp only [List.length_map]
  rw [if_pos ⟨h1, h2⟩]
theorem dups_len {t : Tr} {ns : List Nd} (h : ∀ n ∈ ns, ∃ c, atT t n = some c) : ns.eraseDups.length ≤ szT t := by
  rw [← nodesT_len]
  refine nodup_len _ _ (nodup_dups _ ns (Nat.le_refl _)) fun n hn => ?_
  rw [List.mem_eraseDups] at hn
  exact (nodes_mem t n).mpr (h n hn)
theorem last_at {t : Tr} {u : Option Nd} (hu : okU t u) {p : Pa} (hp : p ≠ []) : ∀ n ∈ (wyL p (kidsU t u)).map lastN, ∃ c, atT t n = some c := by
  intro n hn
  obtain ⟨row, hr, rfl⟩ := List.mem_map.mp hn
  obtain ⟨r, n, rfl, hc⟩ := wy_last hu hp hr
  rw [lastN_app]; exact hc
theorem el_sset (C : EvC) (s : Sd) (a : E) : evL C (.sset a) s = (ev C a s).bind fun x => (listOf x).bind ssetD := by rw [evL]
theorem el_srt (C : EvC) (s : Sd) (a : E) : evL C (.srt a) s = (ev C a s).bind fun x => (seqOf x).bind srtD := by rw [evL]
/-- tuple(sorted(set([row[-1] for row in rows]))) -/
theorem ev_last {C : EvC} {s : Sd} {t : Tr} {u : Option Nd} {p : Pa} {it : E} {i : Nat} (hu : okU t u) (hp : p ≠ []) (h6 : p.length ≤ 6) (hb : szT t ≤ 31) (hi : i < s.length)
    (he : ev C it s = .ok (.list ((wyL p (kidsU t u)).map encW))) :
    ev C (.bi .tuple (.lst (.sset (.lst (.comp (.name i) (.seq it) .no (.idx (.var i) (.neg (.con (.int 1))))))))) s = .ok (.tuple ((fndL p (kidsU t u)).map encI)) := by
  have hlim : lim = 1000000 := rfl
  have hks := szs_kidsU t u
  have hwl := wy_lim p (kidsU t u) (by omega) h6
  have h1 := dups_len (last_at hu hp)
  rw [e_bi, e_lst, el_sset, e_lst, comp_map (xs := wyL p (kidsU t u)) (enc := encW) (g := fun row => encI (lastN row))]
  · have hs := sset_ok (ns := (wyL p (kidsU t u)).map lastN) (by omega) (by rw [List.length_map]; omega)
    rw [List.map_map] at hs
    simp only [R.bind_ok, l_of]
    rw [show (fun row => encI (lastN row)) = (encI ∘ lastN) from rfl, hs]
    rfl
  · rw [ei_seq, he]; rfl
  · omega
  · intro row hr
    obtain ⟨r, n, rfl, _⟩ := wy_last hu hp hr
    refine ⟨_, b_name _ _ _, ?_⟩
    have hw : ((wipeD s (slotsT (.name i))).set i (some (.sh (encW (r ++ [n])))))[i]? = some (some (.sh (encW (r ++ [n])))) := by
      rw [List.getElem?_set_self]
      simp [hi]
    rw [lastN_app]
    simp only [e_idx, e_var, hw, R.bind_ok, e_neg, e_con, negD, encW_last]
theorem r_finds {N : Nat} {p : Pa} {t : Tr} (hw : wgP p = true) (hb : szT t ≤ 31) (hst : stL p ≤ 100) (hN : 2 * stL p + szT t + 5 < N) : rn N 28 [encP p, encT t] = .ok (.tuple ((fnd p t).map encI)) := by
  obtain ⟨w1, w2, w3⟩ := wgP_inv hw
  obtain ⟨N', rfl⟩ : ∃ n', N = n' + 1 := ⟨N - 1, by omega⟩
  have e1 := r_ways_from N' p t none trivial w3 w2 hb hst (by omega)
  rw [rn_finds, b_finds]
  refine res_of (ss_rt (ret_ok (d := .tuple ((fnd p t).map encI)) ?_)) rfl
  refine ev_last (t := t) (u := none) trivial (fun e => by subst e; simp at w1) w2 hb (by simp) ?_
  simp only [e_call, es_cons', es_nil', e_var, e_con, List.getElem?_cons_zero, List.getElem?_cons_succ, R.bind_ok]
  exact e1
theorem r_finds_from {N : Nat} {p : Pa} {t : Tr} {n : Nd} (hc : okU t (some n)) (hw : wgP p = true) (hb : szT t ≤ 31) (hst : stL p ≤ 100) (hN : 2 * stL p + szT t + 5 < N) : rn N 30 [encP p, encT t, encI n] = .ok (.tuple ((fndL p (kidsU t (some n))).map encI)) := by
  obtain ⟨w1, w2, w3⟩ := wgP_inv hw
  obtain ⟨N', rfl⟩ : ∃ n', N = n' + 2 := ⟨N - 2, by omega⟩
  have e1 := r_ways_from (N' + 1) p t (some n) hc w3 w2 hb hst (by omega)
  obtain ⟨c, hc'⟩ := hc
  have e2 : rn (N' + 1) 4 [encT t, encI n] = _ := r_tree_at' hc'
  rw [rn_finds_from, b_finds_from]
  refine res_of (ss_nx (s' := [some (.sh (encP p)), some (.sh (encT t)), some (.sh (encI n)), none]) (by simp [e2])) ?_
  refine res_of (ss_rt (ret_ok (d := .tuple ((fndL p (kidsU t (some n))).map encI)) ?_)) rfl
  refine ev_last (t := t) (u := some n) ⟨c, hc'⟩ (fun e => by subst e; simp at w1) w2 hb (by simp) ?_
  simp only [e_call, es_cons', es_nil', e_var, e_con, List.getElem?_cons_zero, List.getElem?_cons_succ, R.bind_ok]
  exact e1
theorem r_finds_from_no {N : Nat} {p : Pa} {t : Tr} {n : Nd} (hc : atT t n = none) : rn (N + 2) 30 [encP p, encT t, encI n] = .exc 0 := by
  have e2 : rn (N + 1) 4 [encT t, encI n] = .exc 0 := by rw [r_tree_at, hc]
  rw [rn_finds_from, b_finds_from]
  refine res_of (ss_exc (d := 0) ?_) rfl
  simp [e2]
theorem r_has_find {N : Nat} {p : Pa} {t : Tr} (hw : wgP p = true) (hb : szT t ≤ 31) (hst : stL p ≤ 100) (hN : 2 * stL p + szT t + 5 < N) : rn N 29 [encP p, encT t] = .ok (.bool (!(wyL p [([], t)]).isEmpty)) := by
  obtain ⟨w1, w2, w3⟩ := wgP_inv hw
  obtain ⟨N', rfl⟩ : ∃ n', N = n' + 1 := ⟨N - 1, by omega⟩
  have e1 := r_ways_from N' p t none trivial w3 w2 hb hst (by omega)
  rw [rn_has_find, b_has_find]
  refine res_of (ss_rt (ret_ok (d := .bool (!(wyL p [([], t)]).isEmpty)) ?_)) rfl
  have e1' : rn N' 26 [encP p, encT t, .none] = .ok (.list ((wyL p [([], t)]).map encW)) := e1
  simp [e1', ne_list]
/-! ### sorted rows -/
theorem depth_encI (n : Nd) : (encI n).depth ≤ 2 := by
  have : PyData.depthAll (n.map .int) ≤ 1 := depthAll_le _ fun x hx => by
    obtain ⟨i, _, rfl⟩ := List.mem_map.mp hx; simp [PyData.depth]
  simp only [encI, PyData.depth]; omega
theorem depth_encW (r : List Nd) : (encW r).depth ≤ 3 := by
  have : PyData.depthAll (r.map encI) ≤ 2 := depthAll_le _ fun x hx => by
    obtain ⟨i, _, rfl⟩ := List.mem_map.mp hx; exact depth_encI i
  simp only [encW, PyData.depth]; omega
theorem alike_encI (a b : Nd) : PySem.W.alike (encI a) (encI b) = true := by
  simp only [encI, PySem.W.alike]; exact PySem.W.alike_ints a b
theorem alikeAll_enc {A : Type} (enc : A → D) (h : ∀ a b, PySem.W.alike (enc a) (enc b) = true) : ∀ (r q : List A), PySem.W.alikeAll (r.map enc) (q.map enc) = true
  | [], q => by simp [PySem.W.alikeAll]
  | a :: r, [] => by simp [PySem.W.alikeAll]
  | a :: r, b :: q => by rw [List.map_cons, List.map_cons, PySem.W.alikeAll, h a b, alikeAll_enc enc h r q]; rfl
theorem alike_encW (a b : List Nd) : PySem.W.alike (encW a) (encW b) = true := by
  simp only [encW, PySem.W.alike]; exact alikeAll_enc encI alike_encI a b
theorem sortOk_enc {A : Type} (enc : A → D) (h : ∀ a b, PySem.W.alike (enc a) (enc b) = true) (xs : List A) (hd : ∀ x ∈ xs, (enc x).depth ≤ 150) (ht : ∀ x ∈ xs, isTupB (enc x) = true) (hl : xs.length ≤ lim) : sortOk (xs.map enc) = true := by
  unfold sortOk
  simp only [Bool.and_eq_true, List.all_map, List.length_map, decide_eq_true_eq, Bool.or_eq_true]
  refine ⟨⟨⟨?_, .inl ?_⟩, ?_⟩, hl⟩
  · rw [List.all_eq_true]
    intro x _
    simp only [Function.comp_def]
    rw [List.all_eq_true]
    intro y _
    exact h x y
  · rw [List.all_eq_true]
    exact fun x hx => ht x hx
  · rw [List.all_eq_true]
    intro x hx
    simp only [Function.comp_def, decide_eq_true_eq]
    exact hd x hx
theorem srt_enc {A : Type} (enc : A → D) (h : ∀ a b, PySem.W.alike (enc a) (enc b) = true) (xs : List A) (hd : ∀ x ∈ xs, (enc x).depth ≤ 150) (ht : ∀ x ∈ xs, isTupB (enc x) = true) (hl : xs.length ≤ lim) : srtD (xs.map enc) = .ok ((xs.map enc).mergeSort leD) := by
  unfold srtD
  rw [if_pos (sortOk_enc enc h xs hd ht hl)]
theorem srt_W (xs : List (List Nd)) (hl : xs.length ≤ lim) : srtD (xs.map encW) = .ok ((xs.map encW).mergeSort leD) :=
  srt_enc encW alike_encW xs (fun x _ => by have := depth_encW x; omega) (fun _ _ => rfl) hl
theorem r_ways {N : Nat} {p : Pa} {t : Tr} (hw : wgP p = true) (hb : szT t ≤ 31) (hst : stL p ≤ 100) (hN : 2 * stL p + szT t + 5 < N) : rn N 27 [encP p, encT t] = .ok (.tuple (((wyL p [([], t)]).map encW).mergeSort leD)) := by
  have hlim : lim = 1000000 := rfl
  obtain ⟨w1, w2, w3⟩ := wgP_inv hw
  obtain ⟨N', rfl⟩ : ∃ n', N = n' + 1 := ⟨N - 1, by omega⟩
  have e1 := r_ways_from N' p t none trivial w3 w2 hb hst (by omega)
  have hks := szs_kidsU t none
  have hwl := wy_lim p (kidsU t none) (by omega) w2
  have e1' : rn N' 26 [encP p, encT t, .none] = .ok (.list ((wyL p [([], t)]).map encW)) := e1
  have e2 := srt_W (wyL p [([], t)]) (by have : kidsU t none = [([], t)] := rfl
                                         rw [this] at hwl; omega)
  rw [rn_ways, b_ways]
  refine res_of (ss_rt (ret_ok (d := .tuple (((wyL p [([], t)]).map encW).mergeSort leD)) ?_)) rfl
  simp [el_srt, e1', e2]
/-! ### the law's own walk -/
def encNT (x : NT) : D := .tuple [encI x.1, encT x.2]
theorem r_law_nodes : ∀ (N : Nat) (t : Tr) (n : Nd), szT t < N → n.length + szT t ≤ 1000 → rn N 31 [encT t, encI n] = .ok (.list ((nwT n t).map encNT))
  | 0, t, n, h, _ => by omega
  | N + 1, t, n, h, hb => by
    have hlim : lim = 1000000 := rfl
    have hlen : (encNT (n, t) :: (en 0 t.ks).flatMap fun p => (nwT (n ++ [(p.1 : Int)]) p.2).map encNT) = (nwT n t).map encNT := by
      rw [nwT_eq, kids_en, List.flatMap_map, List.map_cons, List.map_flatMap]
    have hl2 := congrArg List.length hlen
    rw [List.length_map, nwT_len] at hl2
    obtain ⟨s', x1, a3, a4, rfl⟩ := loop_flat (t := .tup (.cons (.name 3) (.cons (.name 4) .nil))) (f := fun s' => evSs (Cn N) b_law_nodes_1 s') (enc := fun p : Nat × Tr => .tuple [.int p.1, encT p.2]) (g := fun p => (nwT (n ++ [(p.1 : Int)]) p.2).map encNT)
      (fun acc st => ∃ a3 a4, st = [some (.sh (encT t)), some (.sh (encI n)), some (.ow acc), a3, a4]) 1000 (en 0 t.ks) [encNT (n, t)] [some (.sh (encT t)), some (.sh (encI n)), some (.ow [encNT (n, t)]), none, none]
      (by
        rintro ⟨i, k⟩ hx acc st ⟨a3, a4, rfl⟩ hB
        rw [en_mem] at hx
        simp only at hB
        have hk := sz_get hx.2
        have e1 := r_law_nodes N k (n ++ [(i : Int)]) (by simp only at hk; omega) (by simp at hk ⊢; omega)
        refine ⟨[some (.sh (encT t)), some (.sh (encI n)), some (.ow acc), some (.sh (.int i)), some (.sh (encT k))], [some (.sh (encT t)), some (.sh (encI n)), some (.ow (acc ++ (nwT (n ++ [(i : Int)]) k).map encNT)), some (.sh (.int i)), some (.sh (encT k))], by simp, ?_, ⟨_, _, rfl⟩⟩
        rw [b_law_nodes_1]
        have e2 := encI_app1 n (i : Int) (by omega)
        rw [List.length_map] at hB
        have hB' : acc.length + (nwT (n ++ [(i : Int)]) k).length ≤ lim := by omega
        simp [e2, e1, hB'])
      ⟨_, _, rfl⟩
      (by rw [List.singleton_append, hl2]; omega)
    rw [rn_law_nodes, b_law_nodes]
    refine res_of (ss_nx (s' := [some (.sh (encT t)), some (.sh (encI n)), some (.ow [encNT (n, t)]), none, none]) (by simp [encNT])) ?_
    refine res_of (ss_nx ((for_ok (ds := (en 0 t.ks).map fun p => .tuple [.int p.1, encT p.2]) (by simp [encT_kids, enumD_enc])).trans x1)) ?_
    rw [List.singleton_append, hlen]
    simp
theorem bind_pair (i j : Nat) (x y : D) (s : Sd) : bindT (.tup (.cons (.name i) (.cons (.name j) .nil))) (.tuple [x, y]) s = some ((s.set i (some (.sh x))).set j (some (.sh y))) := by simp
theorem flat_filter {A B : Type} (p : A → Bool) (g : A → List B) (xs : List A) : (xs.flatMap fun x => if p x then g x else []) = (xs.filter p).flatMap g := by
  induction xs with
  | nil => rfl
  | cons x r ih =>
    rw [List.flatMap_cons, ih, List.filter_cons]
    cases p x <;> simp
theorem eq_int (i j : Int) : cmpD .Eq (.int i) (.int j) = .ok (decide (i = j)) := c_eqi i j
theorem flat_one {A : Type} (g : A → D) (xs : List A) : (xs.flatMap fun x => [g x]) = xs.map g := by
  induction xs with
  | nil => rfl
  | cons x r ih => rw [List.flatMap_cons, ih]; rfl
theorem kids_ok {x : NT} (h : x.1.length + szT x.2 ≤ 900) : ∀ y ∈ kids x, y.1.length + szT y.2 ≤ 900 := by
  intro y hy
  obtain ⟨i, h1, h2⟩ := (kids_mem x.1 x.2 y).mp hy
  have := sz_get h2
  rw [h1]; simp; omega
theorem nw_ok {x : NT} (h : x.1.length + szT x.2 ≤ 900) : ∀ y ∈ nwT x.1 x.2, y.1.length + szT y.2 ≤ 900 := by
  intro y hy
  obtain ⟨m, h1, h2⟩ := (nwT_mem x.2 x.1 y).mp hy
  have := at_len _ _ _ h2
  rw [h1, List.length_append]; omega
theorem below_ok {w : Bool} {ks : List NT} (h : ∀ x ∈ ks, x.1.length + szT x.2 ≤ 900) : ∀ y ∈ below w ks, y.1.length + szT y.2 ≤ 900 := by
  intro y hy
  unfold below at hy
  cases w with
  | true =>
    rw [if_pos rfl, List.mem_flatMap] at hy
    obtain ⟨x, hx, hy⟩ := hy
    exact nw_ok (h x hx) y hy
  | false => rw [if_neg (by decide)] at hy; exact h y hy
theorem szs_below {w : Bool} {ks : List NT} : ∀ y ∈ below w ks, szT y.2 ≤ szs ks := by
  intro y hy
  unfold below at hy
  cases w with
  | true =>
    rw [if_pos rfl, List.mem_flatMap] at hy
    obtain ⟨x, hx, hy⟩ := hy
    obtain ⟨m, h1, h2⟩ := (nwT_mem x.2 x.1 y).mp hy
    have h3 := at_len _ _ _ h2
    have h4 : szT x.2 ≤ szs ks := mem_le_sum (f := fun x : NT => szT x.2) hx
    omega
  | false =>
    rw [if_neg (by decide)] at hy
    exact mem_le_sum (f := fun x : NT => szT x.2) hy
theorem encP_cons (s : St) (r : Pa) : encP (s :: r) = .tuple (encS s :: r.map encS) := by rw [encP_eq]; rfl
theorem stL_cons (s : St) (r : Pa) : stL (s :: r) = stS s + stL r := by rw [stL]
theorem r_law_ways : ∀ (N : Nat) (p : Pa) (ks : List NT), p ≠ [] → wgL p = true → p.length ≤ 6 → szs ks ≤ 31 → stL p ≤ 100 → (∀ x ∈ ks, x.1.length + szT x.2 ≤ 900) → stL p + 33 < N → rn N 32 [encP p, .list (ks.map encNT)] = .ok (.list ((wyL p ks).map encW))
  | 0, p, ks, _, _, _, _, _, _, h => by omega
  | N + 1, [], ks, h, _, _, _, _, _, _ => absurd rfl h
  | N + 1, .mk w l ts :: r, ks, _, hw, h6, hs, hst, hks, hN => by
    have hlim : lim = 1000000 := rfl
    have hbl := below_len w ks
    have hidx : idxD (encP (.mk w l ts :: r)) (.int 0) = .ok (encS (.mk w l ts)) := by rw [encP_cons, idx0]
    have hwr : wgL r = true := by rw [wgL, Bool.and_eq_true] at hw; exact hw.2
    have hr1 := stL_cons (.mk w l ts) r
    have hts := ts_len (s := .mk w l ts) (List.mem_cons_self) hw
    simp only [St.ts] at hts
    have hs1 := one_le_stS (.mk w l ts)
    generalize hP : encP (.mk w l ts :: r) = P at hidx
    obtain ⟨s', x1, b7, b8, rfl⟩ := loop_flat (t := .tup (.cons (.name 7) (.cons (.name 8) .nil))) (f := fun s' => evSs (Cn N) b_law_ways_1 s') (enc := encNT) (g := fun x => (if w then nwT x.1 x.2 else [x]).map encNT)
      (fun acc st => ∃ b7 b8, st = [some (.sh P), some (.sh (.list (ks.map encNT))), some (.ow acc), none, some (.sh (.str (wayS w))), some (.sh (.str (letS l))), some (.sh (.tuple (ts.map encP))), b7, b8, none, none, none, none, none]) 1000 ks [] [some (.sh P), some (.sh (.list (ks.map encNT))), some (.ow []), none, some (.sh (.str (wayS w))), some (.sh (.str (letS l))), some (.sh (.tuple (ts.map encP))), none, none, none, none, none, none, none]
      (by
        rintro x hx acc st ⟨b7, b8, rfl⟩ hB
        have hx2 := hks x hx
        have hx3 : szT x.2 ≤ szs ks := mem_le_sum (f := fun x : NT => szT x.2) hx
        have e1 := r_law_nodes N x.2 x.1 (by omega) (by omega)
        refine ⟨_, [some (.sh P), some (.sh (.list (ks.map encNT))), some (.ow (acc ++ (if w then nwT x.1 x.2 else [x]).map encNT)), none, some (.sh (.str (wayS w))), some (.sh (.str (letS l))), some (.sh (.tuple (ts.map encP))), some (.sh (encI x.1)), some (.sh (encT x.2)), none, none, none, none, none], by rw [encNT]; exact bind_pair _ _ _ _ _, ?_, ⟨_, _, rfl⟩⟩
        rw [b_law_ways_1]
        rw [List.length_map] at hB
        cases w with
        | true =>
          simp only [if_true] at hB
          have hB' : acc.length + (nwT x.1 x.2).length ≤ lim := by omega
          simp [cmp_str, way_deep, e1, hB']
        | false =>
          have hB' : acc.length + 1 ≤ lim := by simp at hB; omega
          simp [cmp_str, way_deep, hB', encNT])
      ⟨_, _, rfl⟩
      (by
        rw [List.nil_append, ← List.map_flatMap, List.length_map]
        refine Nat.le_trans ?_ (show szs ks ≤ 1000 by omega)
        refine Nat.le_trans ?_ hbl
        unfold below
        cases w <;> simp)
    have hbe : (ks.flatMap fun x => (if w then nwT x.1 x.2 else [x]).map encNT) = (below w ks).map encNT := by
      rw [← List.map_flatMap]
      unfold below
      cases w <;> simp
    rw [List.nil_append, hbe] at x1
    have hbo := below_ok (w := w) hks
    have hbs := szs_below (w := w) (ks := ks)
    generalize hbk : below w ks = bk at x1 hbo hbs hbl
    obtain ⟨s2, x2, c7, c8, c9, c10, c11, c12, c13, rfl⟩ := loop_flat (t := .tup (.cons (.name 7) (.cons (.name 8) .nil))) (f := fun s' => evSs (Cn N) b_law_ways_2 s') (enc := encNT) (g := fun x => if okS (.mk w l ts) x then ((wyL r (kids x)).map fun row => encW (x.1 :: row)) else [])
      (fun acc st => ∃ c7 c8 c9 c10 c11 c12 c13, st = [some (.sh P), some (.sh (.list (ks.map encNT))), some (.sh (.list (bk.map encNT))), some (.ow acc), some (.sh (.str (wayS w))), some (.sh (.str (letS l))), some (.sh (.tuple (ts.map encP))), c7, c8, c9, c10, c11, c12, c13]) 800000 bk [] [some (.sh P), some (.sh (.list (ks.map encNT))), some (.sh (.list (bk.map encNT))), some (.ow []), some (.sh (.str (wayS w))), some (.sh (.str (letS l))), some (.sh (.tuple (ts.map encP))), b7, b8, none, none, none, none, none]
      (by
        rintro x hx acc st ⟨c7, c8, c9, c10, c11, c12, c13, rfl⟩ hB
        have hx1 := hbs x hx
        have hx2 := hbo x hx
        have hx3 := szs_kids x
        have hkx := kids_ok hx2
        have e0 : evL (Cn N) (.comp (.tup (.cons (.name 10) (.cons (.name 11) .nil))) (.enum (.idx (.var 8) (.con (.int 1)))) .no (.tup (.cons (.bin .Add (.var 7) (.tup (.cons (.var 10) .nil))) (.cons (.var 11) .nil)))) [some (.sh P), some (.sh (.list (ks.map encNT))), some (.sh (.list (bk.map encNT))), some (.ow acc), some (.sh (.str (wayS w))), some (.sh (.str (letS l))), some (.sh (.tuple (ts.map encP))), some (.sh (encI x.1)), some (.sh (encT x.2)), c9, c10, c11, c12, c13] = .ok ((kids x).map encNT) := by
          rw [kids_en, List.map_map]
          refine comp_map (enc := fun p : Nat × Tr => .tuple [.int p.1, encT p.2]) (by simp [encT_kids, enumD_enc]) ?_ ?_
          · rw [en_len]; have := ks_len x.2; omega
          · intro p hp
            have e3 := encI_app1 x.1 (p.1 : Int) (by omega)
            exact ⟨_, bind_pair _ _ _ _ _, by simp [e3, encNT]⟩
        refine ⟨[some (.sh P), some (.sh (.list (ks.map encNT))), some (.sh (.list (bk.map encNT))), some (.ow acc), some (.sh (.str (wayS w))), some (.sh (.str (letS l))), some (.sh (.tuple (ts.map encP))), some (.sh (encI x.1)), some (.sh (encT x.2)), c9, c10, c11, c12, c13],
          [some (.sh P), some (.sh (.list (ks.map encNT))), some (.sh (.list (bk.map encNT))), some (.ow (acc ++ if okS (.mk w l ts) x then ((wyL r (kids x)).map fun row => encW (x.1 :: row)) else [])), some (.sh (.str (wayS w))), some (.sh (.str (letS l))), some (.sh (.tuple (ts.map encP))), some (.sh (encI x.1)), some (.sh (encT x.2)), some (.sh (.list ((kids x).map encNT))), c10, c11, c12, c13], by rw [encNT]; exact bind_pair _ _ _ _ _, ?_, ⟨_, _, _, _, _, _, _, rfl⟩⟩
        rw [b_law_ways_2]
        refine (ss_nx (set_ok (d := .list ((kids x).map encNT)) (by rw [e_lst, e0]; rfl))).trans ?_
        simp only [List.set_cons_succ, List.set_cons_zero]
        generalize hs9 : ([some (.sh P), some (.sh (.list (ks.map encNT))), some (.sh (.list (bk.map encNT))), some (.ow acc), some (.sh (.str (wayS w))), some (.sh (.str (letS l))), some (.sh (.tuple (ts.map encP))), some (.sh (encI x.1)), some (.sh (encT x.2)), some (.sh (.list ((kids x).map encNT))), c10, c11, c12, c13] : Sd) = S9
        have hl : ev (Cn N) (.cmp .Eq (.idx (.var 8) (.con (.int 0))) (.var 5)) S9 = .ok (.bool (decide (x.2.l.val = l.val))) := by
          rw [← hs9]
          simp [encT_let, cmp_str, let_eq]
        have ha : ev (Cn N) (.cmp .Eq (.lst (.comp (.name 12) (.seq (.var 6)) (.yes (.cmp .Eq (.call 32 (.cons (.var 12) (.cons (.var 9) .nil))) (.lst (.disp .nil)))) (.var 12))) (.lst (.disp .nil))) S9 = .ok (.bool (ts.all fun p => !(wyL p (kids x)).isEmpty)) := by
          have hf : ev (Cn N) (.lst (.comp (.name 12) (.seq (.var 6)) (.yes (.cmp .Eq (.call 32 (.cons (.var 12) (.cons (.var 9) .nil))) (.lst (.disp .nil)))) (.var 12))) S9 = .ok (.list ((ts.filter fun q => (wyL q (kids x)).isEmpty).map encP)) := by
            rw [e_lst, comp_filter (xs := ts) (enc := encP) (p := fun q => (wyL q (kids x)).isEmpty) (g := encP)]
            · rfl
            · rw [← hs9]; simp
            · omega
            · intro q hq
              have hq1 := st_in (s := .mk w l ts) (p := .mk w l ts :: r) (by simp) hq
              obtain ⟨k1, k2, k3⟩ := wgP_inv (wg_mem (s := .mk w l ts) hw (by simp) hq)
              have e4 := r_law_ways N q (kids x) (fun e => by subst e; simp at k1) k3 k2 (by omega) (by omega) hkx (by omega)
              refine ⟨_, b_name _ _ _, ⟨.bool (wyL q (kids x)).isEmpty, ?_, rfl⟩, fun _ => ?_⟩
              · rw [← hs9]
                simp [e4, eq_list]
              · rw [← hs9]; simp
          rw [e_cmp, hf, R.bind_ok, e_lst, el_disp, es_nil', R.bind_ok, R.bind_ok, eq_list]
          simp only [R.bind_ok, List.isEmpty_map]
          congr 2
          rw [Bool.eq_iff_iff]
          simp [List.isEmpty_iff]
        have hc : ev (Cn N) _ S9 = .ok (.bool (okS (.mk w l ts) x)) := (ev_and hl fun _ => ha).trans (by rw [okS_eq]; rfl)
        cases hv : okS (.mk w l ts) x with
        | false =>
          rw [hv] at hc
          rw [if_neg (by decide), List.append_nil]
          exact (ss_nx ((iff_f hc rfl).trans (s_nil' _ _))).trans ((s_nil' _ _).trans (by rw [← hs9]))
        | true =>
          rw [hv] at hc
          rw [hv, if_pos rfl] at hB
          simp only [if_true]
          refine (ss_nx ((iff_t hc rfl).trans (?_ : _ = Out.nx [some (.sh P), some (.sh (.list (ks.map encNT))), some (.sh (.list (bk.map encNT))), some (.ow (acc ++ ((wyL r (kids x)).map fun row => encW (x.1 :: row)))), some (.sh (.str (wayS w))), some (.sh (.str (letS l))), some (.sh (.tuple (ts.map encP))), some (.sh (encI x.1)), some (.sh (encT x.2)), some (.sh (.list ((kids x).map encNT))), c10, c11, c12, c13]))).trans (s_nil' _ _)
          cases r with
          | nil =>
            rw [wyL_nil] at hB ⊢
            simp at hB
            have hB' : acc.length < lim := by omega
            refine (ss_nx ((iff_t (d := .bool true) ?_ rfl).trans ((ss_nx ?_).trans (s_nil' _ _)))).trans (s_nil' _ _)
            · rw [← hs9, ← hP, encP_eq]; simp
            · rw [← hs9]
              simp [hB', encW]
          | cons s2 r2 =>
            have e4 := r_law_ways N (s2 :: r2) (kids x) (by simp) hwr (by simp at h6 ⊢; omega) (by omega) (by omega) hkx (by omega)
            have hwl := wy_lim (s2 :: r2) (kids x) (by omega) (by simp at h6 ⊢; omega)
            have hcut : slcD (some 1) none P = .ok (encP (s2 :: r2)) := by
              rw [← hP, encP_eq, slcT, show (1 : Int) = ((1 : Nat) : Int) from rfl, cut_drop, encP_eq]; rfl
            have hcomp : evL (Cn N) (.comp (.name 13) (.seq (.call 32 (.cons (.slc (.var 0) (.yes (.con (.int 1))) .no) (.cons (.var 9) .nil)))) .no (.bin .Add (.tup (.cons (.var 7) .nil)) (.var 13))) S9 = .ok ((wyL (s2 :: r2) (kids x)).map fun row => encW (x.1 :: row)) := by
              refine comp_map (enc := encW) ?_ (by omega) ?_
              · rw [← hs9]
                simp [hcut, e4]
              · intro row hrow
                have hrl := rows_len _ _ _ hrow
                refine ⟨_, b_name _ _ _, ?_⟩
                rw [← hs9]
                have : binD .Add (.tuple [encI x.1]) (encW row) = .ok (encW (x.1 :: row)) := by
                  unfold encW
                  rw [b_tup _ _ (by simp at h6 hrl ⊢; omega)]; rfl
                simp [this]
            rw [List.length_map] at hB
            have hB' : acc.length + (wyL (s2 :: r2) (kids x)).length ≤ lim := by omega
            refine (ss_nx ((iff_f (d := .bool false) ?_ rfl).trans ((ss_nx ?_).trans (s_nil' _ _)))).trans (s_nil' _ _)
            · rw [← hs9, ← hP, encP_eq]; simp; omega
            · rw [s_ext', e_lst, hcomp, ← hs9]
              simp only [List.set_cons_succ, List.set_cons_zero, List.getElem?_cons_succ, List.getElem?_cons_zero, R.bind_ok, l_of, R.out_ok, List.length_map]
              rw [if_pos hB'])
      ⟨_, _, _, _, _, _, _, rfl⟩
      (by
        rw [List.nil_append]
        have hwl := wy_lim (.mk w l ts :: r) ks hs h6
        rw [flat_filter]
        rw [wyL_cons] at hwl
        simp only [St.w] at hwl
        rw [hbk] at hwl
        rw [len_flatMap] at hwl ⊢
        simpa using hwl)
    rw [rn_law_ways, b_law_ways]
    refine res_of (ss_nx (s' := [some (.sh P), some (.sh (.list (ks.map encNT))), none, none, some (.sh (.str (wayS w))), some (.sh (.str (letS l))), some (.sh (.tuple (ts.map encP))), none, none, none, none, none, none, none]) ?_) ?_
    · simp [hidx, encS_eq]
    refine res_of (ss_nx (s' := [some (.sh P), some (.sh (.list (ks.map encNT))), some (.ow []), none, some (.sh (.str (wayS w))), some (.sh (.str (letS l))), some (.sh (.tuple (ts.map encP))), none, none, none, none, none, none, none]) (by simp)) ?_
    refine res_of (ss_nx ((for_ok (ds := ks.map encNT) (by simp)).trans x1)) ?_
    refine res_of (ss_nx (s' := [some (.sh P), some (.sh (.list (ks.map encNT))), some (.ow (bk.map encNT)), some (.ow []), some (.sh (.str (wayS w))), some (.sh (.str (letS l))), some (.sh (.tuple (ts.map encP))), b7, b8, none, none, none, none, none]) (by simp)) ?_
    refine res_of (ss_nx (s' := [some (.sh P), some (.sh (.list (ks.map encNT))), some (.sh (.list (bk.map encNT))), some (.ow []), some (.sh (.str (wayS w))), some (.sh (.str (letS l))), some (.sh (.tuple (ts.map encP))), b7, b8, none, none, none, none, none]) (by simp)) ?_
    refine res_of (ss_nx ((for_ok (ds := bk.map encNT) (by simp)).trans x2)) ?_
    have hfin : (bk.flatMap fun x => if okS (.mk w l ts) x then ((wyL r (kids x)).map fun row => encW (x.1 :: row)) else []) = (wyL (.mk w l ts :: r) ks).map encW := by
      rw [flat_filter, wyL_cons, List.map_flatMap]
      simp only [St.w]
      rw [hbk]
      congr 1
      funext x
      rw [List.map_map]; rfl
    rw [List.nil_append, hfin]
    simp
theorem r_law_finds {N : Nat} {p : Pa} {t : Tr} (hw : wgP p = true) (hb : szT t ≤ 31) (hst : stL p ≤ 100) (hN : stL p + 35 < N) : rn N 33 [encP p, encT t] = .ok (.tuple ((fnd p t).map encI)) := by
  obtain ⟨w1, w2, w3⟩ := wgP_inv hw
  obtain ⟨N', rfl⟩ : ∃ n', N = n' + 1 := ⟨N - 1, by omega⟩
  have hp : p ≠ [] := fun e => by subst e; simp at w1
  have e1 := r_law_ways N' p [([], t)] hp w3 w2 (by simp [szs]; omega) hst (by simp; omega) (by omega)
  rw [rn_law_finds, b_law_finds]
  refine res_of (ss_rt (ret_ok (d := .tuple ((fnd p t).map encI)) ?_)) rfl
  refine ev_last (t := t) (u := none) trivial hp w2 hb (by simp) ?_
  have e2 : rn N' 32 [encP p, .list [.tuple [.tuple [], encT t]]] = _ := e1
  simp only [e_call, es_cons', es_nil', e_var, e_con, e_tup, e_lst, el_disp, List.getElem?_cons_zero, List.getElem?_cons_succ, R.bind_ok]
  exact e2
end Tf
namespace Tf
open PySem
/-! Tm15: what a path finds, as a relation; rows of steps; assignments. -/
def arrow (t : Tr) (w : Bool) (u : Option Nd) (v : Nd) : Prop :=
  (∃ c, atT t v = some c) ∧ match u, w with
    | none, false => v = []
    | none, true => True
    | some n, false => ∃ k, v = n ++ [k]
    | some n, true => ∃ m, m ≠ [] ∧ v = n ++ m
theorem arrow_deep {t : Tr} {w : Bool} {u : Option Nd} {v : Nd} (h : arrow t w u v) : arrow t true u v := by
  obtain ⟨h1, h2⟩ := h
  refine ⟨h1, ?_⟩
  match u, w, h2 with
  | none, _, _ => trivial
  | some n, false, ⟨k, h⟩ => exact ⟨[k], by simp, h⟩
  | some n, true, h => exact h
theorem arrow_trans {t : Tr} {u : Option Nd} {v x : Nd} (h : arrow t true u v) (h2 : arrow t true (some v) x) : arrow t true u x := by
  obtain ⟨h1, m, hm, rfl⟩ := h2
  refine ⟨h1, ?_⟩
  match u, h.2 with
  | none, _ => trivial
  | some n, ⟨m', hm', h⟩ => exact ⟨m' ++ m, by simp [hm], by rw [h]; simp⟩
theorem below_iff {t : Tr} {u : Option Nd} (hu : okU t u) (w : Bool) (x : NT) : x ∈ below w (kidsU t u) ↔ arrow t w u x.1 ∧ atT t x.1 = some x.2 := by
  refine ⟨fun h => ⟨⟨⟨x.2, below_at h⟩, ?_⟩, below_at h⟩, fun ⟨⟨_, h1⟩, h2⟩ => ?_⟩
  · unfold below at h
    match u, w, hu with
    | none, false, _ =>
      simp [kidsU] at h
      rw [h]
    | none, true, _ => trivial
    | some n, false, ⟨c, hc⟩ =>
      rw [if_neg (by decide), kidsU_some hc] at h
      obtain ⟨i, h1, _⟩ := (kids_mem n c x).mp h
      exact ⟨_, h1⟩
    | some n, true, ⟨c, hc⟩ =>
      rw [if_pos rfl, kidsU_some hc, List.mem_flatMap] at h
      obtain ⟨y, hy, hx⟩ := h
      obtain ⟨i, h1, _⟩ := (kids_mem n c y).mp hy
      obtain ⟨m, h3, _⟩ := (nwT_mem y.2 y.1 x).mp hx
      exact ⟨(i : Int) :: m, by simp, by rw [h3, h1]; simp⟩
  · unfold below
    match u, w, hu with
    | none, false, _ =>
      simp only at h1
      rw [h1] at h2
      rw [if_neg (by decide), kidsU, List.mem_singleton]
      cases h2
      cases x; simp_all
    | none, true, _ =>
      rw [if_pos rfl, kidsU]
      simp only [List.flatMap_cons, List.flatMap_nil, List.append_nil]
      exact (nwT_mem t [] x).mpr ⟨x.1, rfl, h2⟩
    | some n, false, ⟨c, hc⟩ =>
      obtain ⟨k, h1⟩ := h1
      rw [if_neg (by decide), kidsU_some hc, kids_mem]
      rw [h1, atT_app, hc, Option.bind_some, atT] at h2
      by_cases hk : 0 ≤ k
      · rw [if_pos hk] at h2
        refine ⟨k.toNat, by rw [h1, show ((k.toNat : Nat) : Int) = k by omega], ?_⟩
        cases hq : c.ks[k.toNat]? with
        | none => rw [hq] at h2; cases h2
        | some q => rw [hq, Option.bind_some, atT] at h2; rw [h2]
      · rw [if_neg hk] at h2; cases h2
    | some n, true, ⟨c, hc⟩ =>
      obtain ⟨m, hm, h1⟩ := h1
      rw [if_pos rfl, kidsU_some hc, List.mem_flatMap]
      cases m with
      | nil => exact absurd rfl hm
      | cons k m =>
        rw [h1, atT_app, hc, Option.bind_some, atT] at h2
        by_cases hk : 0 ≤ k
        · rw [if_pos hk] at h2
          cases hq : c.ks[k.toNat]? with
          | none => rw [hq] at h2; cases h2
          | some q =>
            rw [hq, Option.bind_some] at h2
            have hkk : ((k.toNat : Nat) : Int) = k := by omega
            refine ⟨(n ++ [k], q), (kids_mem n c _).mpr ⟨k.toNat, by rw [hkk], hq⟩, ?_⟩
            exact (nwT_mem q _ x).mpr ⟨m, by rw [h1]; simp, h2⟩
        · rw [if_neg hk] at h2; cases h2
def labOk (t : Tr) (v : Nd) (l : Fin 3) : Prop := ∃ c, atT t v = some c ∧ c.l.val = l.val
mutual
def fS (t : Tr) : St → Nd → Prop
  | .mk _ l ts, v => labOk t v l ∧ fTs t ts v
def fL (t : Tr) : List St → Option Nd → Nd → Prop
  | [], u, n => u = some n
  | s :: r, u, n => ∃ v, arrow t s.w u v ∧ fS t s v ∧ fL t r (some v) n
def fTs (t : Tr) : List (List St) → Nd → Prop
  | [], _ => True
  | p :: r, v => (∃ n, fL t p (some v) n) ∧ fTs t r v
end
theorem fTs_iff (t : Tr) (ts : List Pa) (v : Nd) : fTs t ts v ↔ ∀ p ∈ ts, ∃ n, fL t p (some v) n := by
  induction ts with
  | nil => rw [fTs]; simp
  | cons p r ih => rw [fTs, ih]; simp
theorem fS_iff (t : Tr) (s : St) (v : Nd) : fS t s v ↔ labOk t v s.l ∧ ∀ p ∈ s.ts, ∃ n, fL t p (some v) n := by
  cases s with
  | mk w l ts => rw [fS, fTs_iff]; rfl
theorem fL_nil (t : Tr) (u : Option Nd) (n : Nd) : fL t [] u n ↔ u = some n := by rw [fL]
theorem fL_cons (t : Tr) (s : St) (r : Pa) (u : Option Nd) (n : Nd) : fL t (s :: r) u n ↔ ∃ v, arrow t s.w u v ∧ fS t s v ∧ fL t r (some v) n := by rw [fL]
theorem fL_app (t : Tr) (q : Pa) (n : Nd) : ∀ (p : Pa) (u : Option Nd), p ≠ [] → (fL t (p ++ q) u n ↔ ∃ v, fL t p u v ∧ fL t q (some v) n)
  | [], u, h => absurd rfl h
  | [s], u, _ => by
    rw [List.singleton_append, fL_cons]
    constructor
    · rintro ⟨v, h1, h2, h3⟩
      exact ⟨v, (fL_cons _ _ _ _ _).mpr ⟨v, h1, h2, (fL_nil _ _ _).mpr rfl⟩, h3⟩
    · rintro ⟨v, h1, h3⟩
      obtain ⟨x, h4, h5, h6⟩ := (fL_cons _ _ _ _ _).mp h1
      rw [fL_nil] at h6
      cases h6
      exact ⟨_, h4, h5, h3⟩
  | s :: s2 :: r, u, _ => by
    rw [List.cons_append, fL_cons]
    have ih := fun v => fL_app t q n (s2 :: r) (some v) (by simp)
    constructor
    · rintro ⟨v, h1, h2, h3⟩
      obtain ⟨x, h4, h5⟩ := (ih v).mp h3
      exact ⟨x, (fL_cons _ _ _ _ _).mpr ⟨v, h1, h2, h4⟩, h5⟩
    · rintro ⟨x, h1, h3⟩
      obtain ⟨v, h4, h5, h6⟩ := (fL_cons _ _ _ _ _).mp h1
      exact ⟨v, h4, h5, (ih v).mpr ⟨x, h6, h3⟩⟩
theorem fL_at {t : Tr} : ∀ (p : Pa) (u : Option Nd) (n : Nd), p ≠ [] → fL t p u n → ∃ c, atT t n = some c
  | [], _, _, h, _ => absurd rfl h
  | s :: r, u, n, _, h => by
    obtain ⟨v, h1, h2, h3⟩ := (fL_cons _ _ _ _ _).mp h
    cases r with
    | nil => rw [fL_nil] at h3; cases h3; exact h1.1
    | cons s2 r => exact fL_at (s2 :: r) (some v) n (by simp) h3
def lastU (u : Option Nd) (row : List Nd) : Option Nd := match row.getLast? with
  | some n => some n
  | none => u
theorem lastU_nil (u : Option Nd) : lastU u [] = u := rfl
theorem lastU_cons (u : Option Nd) (x : Nd) (row : List Nd) : lastU u (x :: row) = lastU (some x) row := by
  unfold lastU
  rw [List.getLast?_cons]
  cases row.getLast? <;> rfl
theorem lastU_some (x : Nd) (row : List Nd) : ∃ n, lastU (some x) row = some n := by
  unfold lastU
  cases row.getLast? with
  | none => exact ⟨x, rfl⟩
  | some n => exact ⟨n, rfl⟩
mutual
theorem okS_iff : ∀ (t : Tr) (s : St) (x : NT), atT t x.1 = some x.2 → (okS s x = true ↔ fS t s x.1)
  | t, .mk w l ts, x, h => by
    rw [okS, fS, Bool.and_eq_true, okTs_iff t ts x h, decide_eq_true_eq]
    refine and_congr_left fun _ => ⟨fun e => ⟨x.2, h, e⟩, fun ⟨c, h1, e⟩ => ?_⟩
    rw [h] at h1; cases h1; exact e
theorem wy_iff : ∀ (t : Tr) (p : List St) (u : Option Nd) (n : Nd), okU t u → (fL t p u n ↔ ∃ row ∈ wyL p (kidsU t u), lastU u row = some n)
  | t, [], u, n, _ => by rw [fL_nil, wyL_nil]; simp [lastU_nil]
  | t, s :: r, u, n, hu => by
    rw [fL_cons, wyL_cons]
    constructor
    · rintro ⟨v, h1, h2, h3⟩
      obtain ⟨c, hc⟩ := h1.1
      rw [wy_iff t r (some v) n ⟨c, hc⟩, kidsU_some hc] at h3
      obtain ⟨row, hr, hl⟩ := h3
      refine ⟨v :: row, ?_, by rw [lastU_cons]; exact hl⟩
      rw [List.mem_flatMap]
      refine ⟨(v, c), List.mem_filter.mpr ⟨(below_iff hu s.w (v, c)).mpr ⟨h1, hc⟩, (okS_iff t s (v, c) hc).mpr h2⟩, List.mem_map_of_mem hr⟩
    · rintro ⟨row, hr, hl⟩
      rw [List.mem_flatMap] at hr
      obtain ⟨x, hx, hr⟩ := hr
      obtain ⟨row2, hr2, rfl⟩ := List.mem_map.mp hr
      rw [List.mem_filter, below_iff hu] at hx
      obtain ⟨⟨h1, hc⟩, h2⟩ := hx
      refine ⟨x.1, h1, (okS_iff t s x hc).mp h2, ?_⟩
      rw [wy_iff t r (some x.1) n ⟨x.2, hc⟩, kidsU_some hc]
      rw [lastU_cons] at hl
      exact ⟨row2, hr2, hl⟩
theorem okTs_iff : ∀ (t : Tr) (ts : List (List St)) (x : NT), atT t x.1 = some x.2 → (okTs ts (kids x) = true ↔ fTs t ts x.1)
  | t, [], x, h => by rw [okTs, fTs]; simp
  | t, p :: r, x, h => by
    rw [okTs, fTs, Bool.and_eq_true, okTs_iff t r x h]
    refine and_congr_left fun _ => ?_
    have hw := fun n => wy_iff t p (some x.1) n ⟨x.2, h⟩
    rw [kidsU_some h] at hw
    constructor
    · intro e
      cases hq : wyL p (kids x) with
      | nil => rw [hq] at e; cases e
      | cons row q =>
        obtain ⟨n, hn⟩ := lastU_some x.1 row
        exact ⟨n, (hw n).mpr ⟨row, by rw [show kids (x.1, x.2) = kids x from rfl, hq]; simp, hn⟩⟩
    · rintro ⟨n, hn⟩
      obtain ⟨row, hr, _⟩ := (hw n).mp hn
      rw [show kids (x.1, x.2) = kids x from rfl] at hr
      cases hq : wyL p (kids x) with
      | nil => rw [hq] at hr; cases hr
      | cons _ _ => rfl
end
theorem fndL_mem {t : Tr} {p : Pa} {u : Option Nd} (hu : okU t u) (hp : p ≠ []) (n : Nd) : n ∈ fndL p (kidsU t u) ↔ fL t p u n := by
  unfold fndL
  rw [List.mem_mergeSort, List.mem_eraseDups, List.mem_map, wy_iff t p u n hu]
  constructor
  · rintro ⟨row, hr, rfl⟩
    obtain ⟨r, n, rfl, _⟩ := wy_last hu hp hr
    exact ⟨_, hr, by simp [lastU, lastN]⟩
  · rintro ⟨row, hr, hl⟩
    obtain ⟨r, m, rfl, _⟩ := wy_last hu hp hr
    refine ⟨_, hr, ?_⟩
    simp [lastU] at hl
    rw [lastN_app, hl]
theorem fnd_mem {t : Tr} {p : Pa} (hp : p ≠ []) (n : Nd) : n ∈ fnd p t ↔ fL t p none n := fndL_mem (u := none) trivial hp n
theorem fndL_nodup (p : Pa) (ks : List NT) : (fndL p ks).Nodup := (List.mergeSort_perm _ _).nodup_iff.mpr (nodup_dups _ _ (Nat.le_refl _))
theorem fndL_sorted (p : Pa) (ks : List NT) : (fndL p ks).Pairwise fun a b => leI a b = true := sortI _
/-- rising lists with the same members are the same -/
theorem sorted_unique : ∀ (xs ys : List Nd), xs.Nodup → ys.Nodup → (xs.Pairwise fun a b => leI a b = true) → (ys.Pairwise fun a b => leI a b = true) → (∀ n, n ∈ xs ↔ n ∈ ys) → xs = ys
  | [], ys, _, _, _, _, h => by
    cases ys with
    | nil => rfl
    | cons y ys => exact absurd ((h y).mpr (by simp)) (by simp)
  | x :: xs, [], _, _, _, _, h => absurd ((h x).mp (by simp)) (by simp)
  | x :: xs, y :: ys, n1, n2, p1, p2, h => by
    rw [List.nodup_cons] at n1 n2
    rw [List.pairwise_cons] at p1 p2
    have hxy : x = y := by
      have h1 := (h x).mp (by simp)
      have h2 := (h y).mpr (by simp)
      rcases List.mem_cons.mp h1 with e | h1
      · exact e
      rcases List.mem_cons.mp h2 with e | h2
      · exact e.symm
      exact leI_anti x y (p1.1 y h2) (p2.1 x h1)
    subst hxy
    congr 1
    refine sorted_unique xs ys n1.2 n2.2 p1.2 p2.2 fun n => ?_
    have := h n
    simp only [List.mem_cons] at this
    constructor
    · intro hn
      rcases this.mp (.inr hn) with rfl | h
      · exact absurd hn n1.1
      · exact h
    · intro hn
      rcases this.mpr (.inr hn) with rfl | h
      · exact absurd hn n2.1
      · exact h
theorem fnd_ext {p q : Pa} {t t' : Tr} (hp : p ≠ []) (hq : q ≠ []) (h : ∀ n, fL t p none n ↔ fL t' q none n) : fnd p t = fnd q t' :=
  sorted_unique _ _ (fndL_nodup _ _) (fndL_nodup _ _) (fndL_sorted _ _) (fndL_sorted _ _) fun n => by
    show n ∈ fnd p t ↔ n ∈ fnd q t'
    rw [fnd_mem hp, fnd_mem hq, h]
/-! ### rows -/
abbrev Row := Option Nat × Bool × Fin 3
mutual
def rwS : St → Option Nat → Nat → List Row
  | .mk w l ts, ah, f => (ah, w, l) :: rwT ts f (f + 1)
def rwL : List St → Option Nat → Nat → List Row
  | [], _, _ => []
  | s :: r, ah, f => rwS s ah f ++ rwL r (some f) (f + stS s)
def rwT : List (List St) → Nat → Nat → List Row
  | [], _, _ => []
  | p :: r, n, f => rwL p (some n) f ++ rwT r n (f + stL p)
end
def lsL : List St → Option Nat → Nat → Option Nat
  | [], ah, _ => ah
  | s :: r, _, f => lsL r (some f) (f + stS s)
mutual
theorem rwS_len : ∀ (s : St) (ah : Option Nat) (f : Nat), (rwS s ah f).length = stS s
  | .mk w l ts, ah, f => by rw [rwS, stS, List.length_cons, rwT_len]; omega
theorem rwL_len : ∀ (p : List St) (ah : Option Nat) (f : Nat), (rwL p ah f).length = stL p
  | [], ah, f => by rw [rwL, stL]; rfl
  | s :: r, ah, f => by rw [rwL, stL, List.length_append, rwL_len r, rwS_len s]
theorem rwT_len : ∀ (p : List (List St)) (n f : Nat), (rwT p n f).length = stPs p
  | [], n, f => by rw [rwT, stPs]; rfl
  | t :: r, n, f => by rw [rwT, stPs, List.length_append, rwT_len r, rwL_len t]
end
def encA : Option Nat → D
  | none => .none
  | some j => .int j
def encR (r : Row) : D := .tuple [encA r.1, .str (wayS r.2.1), .str (letS r.2.2)]
mutual
theorem rowS_enc : ∀ (s : St) (ah : Option Nat) (f : Nat), rowS s (encA ah) f = (rwS s ah f).map encR
  | .mk w l ts, ah, f => by rw [rowS, rwS, List.map_cons, rowsT_enc]; rfl
theorem rowsL_enc : ∀ (p : List St) (ah : Option Nat) (f : Nat), rowsL p (encA ah) f = (rwL p ah f).map encR
  | [], ah, f => by rw [rowsL, rwL]; rfl
  | s :: r, ah, f => by rw [rowsL, rwL, List.map_append, rowS_enc s ah f, List.length_map, rwS_len, show (PyData.int (f : Int)) = encA (some f) from rfl, rowsL_enc r]
theorem rowsT_enc : ∀ (p : List (List St)) (n f : Nat), rowsT p n f = (rwT p n f).map encR
  | [], n, f => by rw [rowsT, rwT]; rfl
  | t :: r, n, f => by rw [rowsT, rwT, List.map_append, show (PyData.int (n : Int)) = encA (some n) from rfl, rowsL_enc t, List.length_map, rwL_len, rowsT_enc r]
end
theorem lsD_enc : ∀ (p : List St) (ah : Option Nat) (f : Nat), lsD p (encA ah) f = encA (lsL p ah f)
  | [], ah, f => rfl
  | s :: r, ah, f => by rw [lsD, lsL]; exact lsD_enc r (some f) _
theorem lsL_some : ∀ (p : List St) (j f : Nat), j < f → ∃ i, lsL p (some j) f = some i ∧ i < f + stL p
  | [], j, f, h => ⟨j, rfl, by omega⟩
  | s :: r, j, f, h => by
    have := one_le_stS s
    obtain ⟨i, h1, h2⟩ := lsL_some r f (f + stS s) (by omega)
    exact ⟨i, by rw [lsL]; exact h1, by rw [stL_cons]; omega⟩
theorem lsL_ne {p : Pa} (hp : p ≠ []) (ah : Option Nat) (f : Nat) : ∃ i, lsL p ah f = some i ∧ f ≤ i ∧ i < f + stL p := by
  cases p with
  | nil => exact absurd rfl hp
  | cons s r =>
    have h0 := one_le_stS s
    obtain ⟨i, h1, h2⟩ := lsL_some r f (f + stS s) (by omega)
    refine ⟨i, by rw [lsL]; exact h1, ?_, by rw [stL_cons]; omega⟩
    have : ∀ (r : List St) (j f i : Nat), j ≤ f → lsL r (some j) f = some i → j ≤ i := by
      intro r
      induction r with
      | nil => intro j f i _ h; cases h; omega
      | cons s r ih => intro j f i hj h; rw [lsL] at h; have := ih f (f + stS s) i (by omega) h; omega
    exact this r f _ i (by omega) h1
/-- the rows point back -/
def wfr (rs : List Row) (f : Nat) : Prop := ∀ (i : Nat) (r : Row), rs[i]? = some r → ∀ j, r.1 = some j → j < f + i
theorem wfr_app {xs ys : List Row} {f : Nat} (h1 : wfr xs f) (h2 : wfr ys (f + xs.length)) : wfr (xs ++ ys) f := by
  intro i r hr j hj
  by_cases hi : i < xs.length
  · rw [List.getElem?_append_left hi] at hr
    exact h1 i r hr j hj
  · rw [List.getElem?_append_right (by omega)] at hr
    have := h2 _ r hr j hj
    omega
mutual
theorem wfr_S : ∀ (s : St) (ah : Option Nat) (f : Nat), (∀ j, ah = some j → j < f) → wfr (rwS s ah f) f
  | .mk w l ts, ah, f, h => by
    rw [rwS]
    refine wfr_app (xs := [(ah, w, l)]) ?_ (wfr_T ts f (f + 1) (by omega))
    intro i r hr j hj
    cases i with
    | zero =>
      simp at hr; subst hr
      have := h j hj
      omega
    | succ i => simp at hr
theorem wfr_L : ∀ (p : List St) (ah : Option Nat) (f : Nat), (∀ j, ah = some j → j < f) → wfr (rwL p ah f) f
  | [], ah, f, h => by rw [rwL]; intro i r hr; cases hr
  | s :: r, ah, f, h => by
    rw [rwL]
    refine wfr_app (wfr_S s ah f h) ?_
    rw [rwS_len]
    refine wfr_L r (some f) _ fun j hj => ?_
    cases hj
    have := one_le_stS s
    omega
theorem wfr_T : ∀ (p : List (List St)) (n f : Nat), n < f → wfr (rwT p n f) f
  | [], n, f, h => by rw [rwT]; intro i r hr; cases hr
  | t :: r, n, f, h => by
    rw [rwT]
    refine wfr_app (wfr_L t (some n) f fun j hj => by cases hj; exact h) ?_
    rw [rwL_len]
    exact wfr_T r n _ (by omega)
end
/-! ### assignments -/
def plc (u : Option Nd) (a : Nat → Nd) : Option Nat → Option Nd
  | none => u
  | some j => some (a j)
def sat (t : Tr) (u : Option Nd) (a : Nat → Nd) : List Row → Nat → Prop
  | [], _ => True
  | r :: rs, f => (arrow t r.2.1 (plc u a r.1) (a f) ∧ labOk t (a f) r.2.2) ∧ sat t u a rs (f + 1)
theorem sat_app {t : Tr} {u : Option Nd} {a : Nat → Nd} : ∀ (xs ys : List Row) (f : Nat), sat t u a (xs ++ ys) f ↔ sat t u a xs f ∧ sat t u a ys (f + xs.length)
  | [], ys, f => by simp [sat]
  | x :: xs, ys, f => by
    rw [List.cons_append, sat, sat, sat_app xs ys (f + 1), ← and_assoc, List.length_cons, show f + 1 + xs.length = f + (xs.length + 1) by omega]
theorem sat_get {t : Tr} {u : Option Nd} {a : Nat → Nd} : ∀ (rs : List Row) (f : Nat), sat t u a rs f ↔ ∀ (i : Nat) (r : Row), rs[i]? = some r → arrow t r.2.1 (plc u a r.1) (a (f + i)) ∧ labOk t (a (f + i)) r.2.2
  | [], f => by simp [sat]
  | x :: xs, f => by
    rw [sat, sat_get xs (f + 1)]
    constructor
    · rintro ⟨h1, h2⟩ i r hr
      cases i with
      | zero => simp at hr; subst hr; exact h1
      | succ i =>
        rw [List.getElem?_cons_succ] at hr
        have := h2 i r hr
        rw [show f + 1 + i = f + (i + 1) by omega] at this
        exact this
    · intro h
      refine ⟨h 0 x rfl, fun i r hr => ?_⟩
      have := h (i + 1) r (by rw [List.getElem?_cons_succ]; exact hr)
      rw [show f + (i + 1) = f + 1 + i by omega] at this
      exact this
theorem sat_congr {t : Tr} {u : Option Nd} {a b : Nat → Nd} {rs : List Row} {f : Nat} (hw : wfr rs f) (h : ∀ j, j < f + rs.length → a j = b j) (hs : sat t u a rs f) : sat t u b rs f := by
  rw [sat_get] at hs ⊢
  intro i r hr
  have hi : i < rs.length := (List.getElem?_eq_some_iff.mp hr).1
  have h1 := hs i r hr
  rw [← h (f + i) (by omega)]
  have h2 : plc u b r.1 = plc u a r.1 := by
    cases hj : r.1 with
    | none => rfl
    | some j =>
      have := hw i r hr j hj
      simp only [plc]
      rw [h j (by omega)]
  rw [h2]; exact h1
mutual
theorem toS : ∀ (t : Tr) (u : Option Nd) (s : St) (ah : Option Nat) (f : Nat) (a0 : Nat → Nd) (v : Nd), (∀ j, ah = some j → j < f) → arrow t s.w (plc u a0 ah) v → fS t s v → ∃ a, (∀ j, j < f → a j = a0 j) ∧ a f = v ∧ sat t u a (rwS s ah f) f
  | t, u, .mk w l ts, ah, f, a0, v, hah, h1, h2 => by
    rw [fS] at h2
    obtain ⟨a, g1, g2⟩ := toT t u ts f (f + 1) (fun j => if j = f then v else a0 j) (by omega) (by simpa using h2.2)
    have gf : a f = v := by have := g1 f (by omega); simpa using this
    have gj : ∀ j, j < f → a j = a0 j := fun j hj => by
      have := g1 j (by omega)
      rw [if_neg (by omega)] at this
      exact this
    refine ⟨a, gj, gf, ?_⟩
    rw [rwS, sat]
    refine ⟨⟨?_, by rw [gf]; exact h2.1⟩, g2⟩
    have : plc u a ah = plc u a0 ah := by
      cases ah with
      | none => rfl
      | some j => simp only [plc]; rw [gj j (hah j rfl)]
    simp only
    rw [this, gf]; exact h1
theorem toL : ∀ (t : Tr) (u : Option Nd) (p : List St) (ah : Option Nat) (f : Nat) (a0 : Nat → Nd) (n : Nd), (∀ j, ah = some j → j < f) → fL t p (plc u a0 ah) n → ∃ a, (∀ j, j < f → a j = a0 j) ∧ sat t u a (rwL p ah f) f ∧ plc u a (lsL p ah f) = some n
  | t, u, [], ah, f, a0, n, hah, h => ⟨a0, fun _ _ => rfl, by rw [rwL, sat]; trivial, by rw [fL_nil] at h; exact h⟩
  | t, u, s :: r, ah, f, a0, n, hah, h => by
    rw [fL_cons] at h
    obtain ⟨v, h1, h2, h3⟩ := h
    obtain ⟨a1, g1, g2, g3⟩ := toS t u s ah f a0 v hah h1 h2
    have hs := one_le_stS s
    obtain ⟨a2, k1, k2, k3⟩ := toL t u r (some f) (f + stS s) a1 n (fun j hj => by cases hj; omega) (by simp only [plc]; rw [g2]; exact h3)
    refine ⟨a2, fun j hj => (k1 j (by omega)).trans (g1 j hj), ?_, by rw [lsL]; exact k3⟩
    rw [rwL, sat_app, rwS_len]
    refine ⟨sat_congr (wfr_S s ah f hah) (fun j hj => ?_) g3, k2⟩
    rw [rwS_len] at hj
    exact (k1 j hj).symm
theorem toT : ∀ (t : Tr) (u : Option Nd) (ts : List (List St)) (num f : Nat) (a0 : Nat → Nd), num < f → fTs t ts (a0 num) → ∃ a, (∀ j, j < f → a j = a0 j) ∧ sat t u a (rwT ts num f) f
  | t, u, [], num, f, a0, hn, h => ⟨a0, fun _ _ => rfl, by rw [rwT, sat]; trivial⟩
  | t, u, p :: r, num, f, a0, hn, h => by
    rw [fTs] at h
    obtain ⟨⟨n, h1⟩, h2⟩ := h
    obtain ⟨a1, g1, g2, _⟩ := toL t u p (some num) f a0 n (fun j hj => by cases hj; exact hn) h1
    obtain ⟨a2, k1, k2⟩ := toT t u r num (f + stL p) a1 (by omega) (by rw [g1 num hn]; exact h2)
    refine ⟨a2, fun j hj => (k1 j (by omega)).trans (g1 j hj), ?_⟩
    rw [rwT, sat_app, rwL_len]
    refine ⟨sat_congr (wfr_L p (some num) f fun j hj => by cases hj; exact hn) (fun j hj => ?_) g2, k2⟩
    rw [rwL_len] at hj
    exact (k1 j hj).symm
end
mutual
theorem ofS : ∀ (t : Tr) (u : Option Nd) (a : Nat → Nd) (s : St) (ah : Option Nat) (f : Nat), sat t u a (rwS s ah f) f → arrow t s.w (plc u a ah) (a f) ∧ fS t s (a f)
  | t, u, a, .mk w l ts, ah, f, h => by
    rw [rwS, sat] at h
    refine ⟨h.1.1, ?_⟩
    rw [fS]
    exact ⟨h.1.2, ofT t u a ts f (f + 1) (by omega) h.2⟩
theorem ofL : ∀ (t : Tr) (u : Option Nd) (a : Nat → Nd) (p : List St) (ah : Option Nat) (f : Nat) (n : Nd), sat t u a (rwL p ah f) f → plc u a (lsL p ah f) = some n → fL t p (plc u a ah) n
  | t, u, a, [], ah, f, n, _, hl => by rw [fL_nil]; exact hl
  | t, u, a, s :: r, ah, f, n, h, hl => by
    rw [rwL, sat_app, rwS_len] at h
    obtain ⟨h1, h2⟩ := ofS t u a s ah f h.1
    rw [fL_cons]
    refine ⟨a f, h1, h2, ?_⟩
    have := ofL t u a r (some f) (f + stS s) n h.2 (by rw [lsL] at hl; exact hl)
    exact this
theorem ofT : ∀ (t : Tr) (u : Option Nd) (a : Nat → Nd) (ts : List (List St)) (num f : Nat), num < f → sat t u a (rwT ts num f) f → fTs t ts (a num)
  | t, u, a, [], num, f, _, _ => by rw [fTs]; trivial
  | t, u, a, p :: r, num, f, hn, h => by
    rw [rwT, sat_app, rwL_len] at h
    rw [fTs]
    obtain ⟨i, hi, _⟩ := lsL_some p num f hn
    refine ⟨⟨a i, ?_⟩, ofT t u a r num (f + stL p) (by omega) h.2⟩
    exact ofL t u a p (some num) f (a i) h.1 (by rw [hi]; rfl)
end
/-- a path finds just what the assignments of its rows end at -/
theorem fL_sat {t : Tr} {u : Option Nd} {p : Pa} {n : Nd} : fL t p u n ↔ ∃ a, sat t u a (rwL p none 0) 0 ∧ plc u a (lsL p none 0) = some n := by
  constructor
  · intro h
    obtain ⟨a, _, h1, h2⟩ := toL t u p none 0 (fun _ => []) n (fun j hj => by cases hj) h
    exact ⟨a, h1, h2⟩
  · rintro ⟨a, h1, h2⟩
    exact ofL t u a p none 0 n h1 h2
end Tf
namespace Tf
open PySem
/-! Tm16: leadings, typed; a leading is there just if the other path finds the node in the plain tree. -/
def ahd (R : List Row) (i : Nat) : Option Nat := match R[i]? with
  | some r => r.1
  | none => none
def bkF (R : List Row) : Nat → Option Nat → Nat → Bool
  | _, none, _ => false
  | 0, some h, g => decide (h = g)
  | n + 1, some h, g => decide (h = g) || bkF R n (ahd R h) g
def cbk (R : List Row) (i g : Nat) : Bool := bkF R i (ahd R i) g
theorem ahd_lt {R : List Row} (hw : wfr R 0) {i j : Nat} (h : ahd R i = some j) : j < i := by
  unfold ahd at h
  cases hr : R[i]? with
  | none => rw [hr] at h; cases h
  | some r => rw [hr] at h; have := hw i r hr j h; omega
theorem ahd0 {R : List Row} (hw : wfr R 0) : ahd R 0 = none := by
  cases ha : ahd R 0 with
  | none => rfl
  | some j => have := ahd_lt hw ha; omega
theorem bkF_none (R : List Row) (n g : Nat) : bkF R n none g = false := by cases n <;> rw [bkF]
theorem bkF_fuel {R : List Row} (hw : wfr R 0) (g : Nat) : ∀ (k h n m : Nat), h ≤ k → h ≤ n → h ≤ m → bkF R n (some h) g = bkF R m (some h) g
  | k, h, 0, 0, _, _, _ => rfl
  | k, h, 0, m + 1, _, h1, _ => by
    have : h = 0 := by omega
    subst this
    rw [bkF, bkF, ahd0 hw, bkF_none, Bool.or_false]
  | k, h, n + 1, 0, _, _, h1 => by
    have : h = 0 := by omega
    subst this
    rw [bkF, bkF, ahd0 hw, bkF_none, Bool.or_false]
  | 0, h, n + 1, m + 1, h0, _, _ => by
    have : h = 0 := by omega
    subst this
    rw [bkF, bkF, ahd0 hw, bkF_none, bkF_none]
  | k + 1, h, n + 1, m + 1, h0, h1, h2 => by
    rw [bkF, bkF]
    congr 1
    cases ha : ahd R h with
    | none => rw [bkF_none, bkF_none]
    | some j =>
      have hj := ahd_lt hw ha
      exact bkF_fuel hw g k j n m (by omega) (by omega) (by omega)
theorem bkF_step {R : List Row} (hw : wfr R 0) (n h g : Nat) (hn : h ≤ n) : bkF R n (some h) g = (decide (h = g) || bkF R h (ahd R h) g) := by
  rw [bkF_fuel hw g (n + 1) h n (n + 1) (by omega) hn (by omega), bkF]
  congr 1
  cases ha : ahd R h with
  | none => rw [bkF_none, bkF_none]
  | some j =>
    have hj := ahd_lt hw ha
    exact bkF_fuel hw g n j n h (by omega) (by omega) (by omega)
theorem cbk_iff {R : List Row} (hw : wfr R 0) (i g : Nat) : cbk R i g = true ↔ ∃ h, ahd R i = some h ∧ (h = g ∨ cbk R h g = true) := by
  unfold cbk
  cases ha : ahd R i with
  | none => cases i <;> simp [bkF]
  | some h =>
    have := ahd_lt hw ha
    rw [bkF_step hw i h g (by omega), Bool.or_eq_true, decide_eq_true_eq]
    simp
def fitB (R : List Row) (o : Row) (goal : Option Nat) (tg : Nat) : Bool := match R[tg]? with
  | none => false
  | some r => decide (r.2.2 = o.2.2) && (match o.2.1 with
    | true => (match goal with
      | none => true
      | some g => cbk R tg g)
    | false => decide (r.1 = goal) && !r.2.1)
def goalOf (o : Row) (row : List Nat) : Option Nat := o.1.bind fun j => row[j]?
def okT (R O : List Row) (e : Nat × Nat) (row : List Nat) (tg : Nat) : Bool := match O[row.length]? with
  | none => false
  | some o => (decide (row.length ≠ e.2) || decide (tg = e.1)) && fitB R o (goalOf o row) tg
def srch (R O : List Row) (e : Nat × Nat) : Nat → List Nat → Option (List Nat)
  | 0, row => some row
  | n + 1, row => (List.range R.length).findSome? fun tg => if okT R O e row tg then srch R O e n (row ++ [tg]) else none
def Vld (R O : List Row) (e : Nat × Nat) (row : List Nat) : Prop := ∀ i tg, row[i]? = some tg → tg < R.length ∧ okT R O e (row.take i) tg = true
theorem Vld_app {R O : List Row} {e : Nat × Nat} {row : List Nat} {tg : Nat} (h : Vld R O e row) (h1 : tg < R.length) (h2 : okT R O e row tg = true) : Vld R O e (row ++ [tg]) := by
  intro i x hx
  by_cases hi : i < row.length
  · rw [List.getElem?_append_left hi] at hx
    have := h i x hx
    rw [List.take_append_of_le_length (by omega)]
    exact this
  · by_cases hi2 : i = row.length
    · subst hi2
      rw [List.getElem?_append_right (by omega)] at hx
      simp at hx
      subst hx
      rw [List.take_append_of_le_length (by omega), List.take_of_length_le (by omega)]
      exact ⟨h1, h2⟩
    · rw [List.getElem?_append_right (by omega)] at hx
      have : i - row.length = (i - row.length - 1) + 1 := by omega
      rw [this] at hx
      simp at hx
theorem srch_sound {R O : List Row} {e : Nat × Nat} : ∀ (n : Nat) (row row' : List Nat), Vld R O e row → srch R O e n row = some row' → Vld R O e row' ∧ row'.length = row.length + n
  | 0, row, row', h, hs => by
    rw [srch] at hs
    cases hs
    exact ⟨h, rfl⟩
  | n + 1, row, row', h, hs => by
    rw [srch] at hs
    obtain ⟨tg, htg, hs⟩ := List.exists_of_findSome?_eq_some hs
    rw [List.mem_range] at htg
    split at hs
    · rename_i hok
      obtain ⟨h1, h2⟩ := srch_sound n (row ++ [tg]) row' (Vld_app h htg hok) hs
      exact ⟨h1, by rw [h2]; simp; omega⟩
    · cases hs
theorem srch_complete {R O : List Row} {e : Nat × Nat} {full : List Nat} (hv : Vld R O e full) : ∀ (n : Nat) (row : List Nat), row.length + n = full.length → row = full.take row.length → srch R O e n row ≠ none
  | 0, row, _, _ => by rw [srch]; simp
  | n + 1, row, hl, hr => by
    rw [srch]
    intro hn
    rw [List.findSome?_eq_none_iff] at hn
    have hlt : row.length < full.length := by omega
    have hg := List.getElem?_eq_getElem hlt
    obtain ⟨h1, h2⟩ := hv _ _ hg
    have := hn _ (List.mem_range.mpr h1)
    rw [← hr] at h2
    rw [if_pos h2] at this
    refine srch_complete hv n (row ++ [full[row.length]]) (by simp; omega) ?_ this
    rw [List.length_append, List.length_singleton, List.take_succ, hg, ← hr]
    rfl
/-- there is a leading -/
def R0 (p : Pa) : List Row := rwL p none 0
def ends (one other : Pa) : Nat × Nat := ((lsL one none 0).getD 0, (lsL other none 0).getD 0)
def leadS (one other : Pa) : Option (List Nat) := srch (R0 one) (R0 other) (ends one other) (R0 other).length []
def Lead (one other : Pa) (row : List Nat) : Prop := row.length = (R0 other).length ∧ Vld (R0 one) (R0 other) (ends one other) row
theorem leadS_some {one other : Pa} {row : List Nat} (h : leadS one other = some row) : Lead one other row := by
  obtain ⟨h1, h2⟩ := srch_sound _ [] row (fun i tg h => by cases h) h
  exact ⟨by simpa using h2, h1⟩
theorem leadS_none {one other : Pa} {row : List Nat} (h : Lead one other row) : leadS one other ≠ none :=
  srch_complete h.2 _ [] (by rw [h.1]; simp) (by simp)
def within (one other : Pa) : Bool := (leadS one other).isSome
theorem within_iff {one other : Pa} : within one other = true ↔ ∃ row, Lead one other row := by
  unfold within
  constructor
  · intro h
    obtain ⟨row, hr⟩ := Option.isSome_iff_exists.mp h
    exact ⟨row, leadS_some hr⟩
  · rintro ⟨row, hr⟩
    have := leadS_none hr
    cases hq : leadS one other with
    | none => exact absurd hq this
    | some _ => rfl
theorem R0_wfr (p : Pa) : wfr (R0 p) 0 := wfr_L p none 0 fun j hj => by cases hj
theorem R0_len (p : Pa) : (R0 p).length = stL p := rwL_len p none 0
/-! ### a leading carries finds over -/
theorem below_all {t : Tr} {u : Option Nd} {a : Nat → Nd} {R : List Row} (hw : wfr R 0) (hs : sat t u a R 0) : ∀ (i : Nat), i < R.length → arrow t true u (a i)
  | i, hi => by
    have hr := List.getElem?_eq_getElem hi
    have h1 := (sat_get R 0).mp hs i _ hr
    rw [Nat.zero_add] at h1
    cases hj : (R[i]).1 with
    | none =>
      rw [hj] at h1
      exact arrow_deep h1.1
    | some j =>
      have hlt := hw i _ hr j hj
      rw [hj] at h1
      exact arrow_trans (below_all hw hs j (by omega)) (arrow_deep h1.1)
theorem back_arrow {t : Tr} {u : Option Nd} {a : Nat → Nd} {R : List Row} (hw : wfr R 0) (hs : sat t u a R 0) (g : Nat) : ∀ (i : Nat), i < R.length → cbk R i g = true → arrow t true (some (a g)) (a i)
  | i, hi, hc => by
    have hr := List.getElem?_eq_getElem hi
    have h1 := (sat_get R 0).mp hs i _ hr
    rw [Nat.zero_add] at h1
    obtain ⟨h, ha, hh⟩ := (cbk_iff hw i g).mp hc
    have hlt := ahd_lt hw ha
    have ha' : (R[i]).1 = some h := by
      unfold ahd at ha
      rw [hr] at ha
      exact ha
    rw [ha'] at h1
    rcases hh with rfl | hh
    · exact arrow_deep h1.1
    · exact arrow_trans (back_arrow hw hs g h (by omega) hh) (arrow_deep h1.1)
theorem goal_map {row : List Nat} {o : Row} {i : Nat} (hi : i < row.length) (ho : ∀ j, o.1 = some j → j < i) : goalOf o (row.take i) = o.1.map fun j => row[j]?.getD 0 := by
  unfold goalOf
  cases hj : o.1 with
  | none => rfl
  | some j =>
    have := ho j hj
    have hjl : j < row.length := by omega
    simp only [Option.bind_some, Option.map_some]
    rw [List.getElem?_take_of_lt this, List.getElem?_eq_getElem hjl]
    rfl
theorem lead_sound {one other : Pa} (hone : one ≠ []) (hother : other ≠ []) {row : List Nat} (hl : Lead one other row) {t : Tr} {u : Option Nd} {n : Nd} (h : fL t one u n) : fL t other u n := by
  obtain ⟨a, hs, hn⟩ := fL_sat.mp h
  obtain ⟨hlen, hv⟩ := hl
  have hwR := R0_wfr one
  have hwO := R0_wfr other
  refine fL_sat.mpr ⟨fun i => a (row[i]?.getD 0), ?_, ?_⟩
  · rw [sat_get]
    intro i o ho
    have hi : i < (R0 other).length := (List.getElem?_eq_some_iff.mp ho).1
    have hir : i < row.length := by omega
    have hg := List.getElem?_eq_getElem hir
    obtain ⟨h1, h2⟩ := hv i _ hg
    rw [Nat.zero_add, hg]
    have hao := hwO i o ho
    have hgoal := goal_map hir (fun j hj => by have := hao j hj; omega)
    unfold okT at h2
    rw [List.length_take, Nat.min_eq_left (by omega)] at h2
    rw [show (R0 other)[i]? = some o from ho] at h2
    simp only [Bool.and_eq_true] at h2
    have h3 := h2.2
    rw [hgoal] at h3
    unfold fitB at h3
    have hR := List.getElem?_eq_getElem h1
    rw [hR] at h3
    simp only [Bool.and_eq_true, decide_eq_true_eq] at h3
    have hsr := (sat_get _ 0).mp hs _ _ hR
    rw [Nat.zero_add] at hsr
    obtain ⟨h4, h5⟩ := h3
    simp only [Option.getD_some]
    refine ⟨?_, by rw [← h4]; exact hsr.2⟩
    cases hw : o.2.1 with
    | false =>
      rw [hw] at h5
      simp only [Bool.and_eq_true, decide_eq_true_eq, Bool.not_eq_true'] at h5
      have h6 := hsr.1
      rw [h5.2, h5.1] at h6
      have e : plc u (fun i => a (row[i]?.getD 0)) o.1 = plc u a (o.1.map fun j => row[j]?.getD 0) := by
        cases o.1 <;> rfl
      rw [e]; exact h6
    | true =>
      rw [hw] at h5
      cases hj : o.1 with
      | none => exact below_all hwR hs _ h1
      | some j =>
        rw [hj] at h5
        exact back_arrow hwR hs _ _ h1 h5
  · obtain ⟨i1, e1, _, _⟩ := lsL_ne hone none 0
    obtain ⟨i2, e2, _, k2⟩ := lsL_ne hother none 0
    rw [e1] at hn
    rw [e2]
    simp only [plc] at hn ⊢
    rw [Nat.zero_add] at k2
    have hi2 : i2 < row.length := by rw [hlen, R0_len]; exact k2
    have hg := List.getElem?_eq_getElem hi2
    obtain ⟨h1, h2⟩ := hv i2 _ hg
    have ho := List.getElem?_eq_getElem (show i2 < (R0 other).length by omega)
    unfold okT at h2
    rw [List.length_take, Nat.min_eq_left (by omega), ho] at h2
    simp only [Bool.and_eq_true, Bool.or_eq_true, decide_eq_true_eq] at h2
    have h3 := h2.1
    have ee : (ends one other) = (i1, i2) := by unfold ends; rw [e1, e2]; rfl
    rw [ee] at h3
    simp only [ne_eq, not_true_eq_false, false_or] at h3
    rw [hg]
    simp only [Option.getD_some]
    rw [h3]; exact hn
/-! ### the plain tree -/
def l4 (l : Fin 3) : Fin 4 := ⟨l.val, by omega⟩
mutual
def plS : St → Option (Tr × Nd) → Tr × Nd
  | .mk w l ts, o => match w, o with
    | false, none => (.mk (l4 l) (plTs ts), [])
    | false, some x => (.mk (l4 l) (plTs ts ++ [x.1]), (ts.length : Int) :: x.2)
    | true, none => (.mk 3 [.mk (l4 l) (plTs ts)], [0])
    | true, some x => (.mk 3 [.mk (l4 l) (plTs ts ++ [x.1])], 0 :: (ts.length : Int) :: x.2)
def plL : List St → Option (Tr × Nd)
  | [] => none
  | s :: r => some (plS s (plL r))
def plTs : List (List St) → List Tr
  | [] => []
  | p :: r => (match plL p with | some x => x.1 | none => .mk 3 []) :: plTs r
end
theorem plTs_len : ∀ ts : List Pa, (plTs ts).length = ts.length
  | [] => by rw [plTs]; rfl
  | p :: r => by rw [plTs, List.length_cons, plTs_len r, List.length_cons]
def bse (w : Bool) (b : Nd) : Nd := if w then b ++ [0] else b
mutual
def adS : St → Nd → List Nd
  | .mk w _ ts, b => bse w b :: adTs ts (bse w b) 0
def adL : List St → Nd → List Nd
  | [], _ => []
  | s :: r, b => adS s b ++ adL r (bse s.w b ++ [(s.ts.length : Int)])
def adTs : List (List St) → Nd → Nat → List Nd
  | [], _, _ => []
  | p :: r, b, i => adL p (b ++ [(i : Int)]) ++ adTs r b (i + 1)
end
mutual
theorem adS_len : ∀ (s : St) (b : Nd), (adS s b).length = stS s
  | .mk w l ts, b => by rw [adS, stS, List.length_cons, adTs_len]; omega
theorem adL_len : ∀ (p : List St) (b : Nd), (adL p b).length = stL p
  | [], b => by rw [adL, stL]; rfl
  | s :: r, b => by rw [adL, stL, List.length_append, adL_len r, adS_len s]
theorem adTs_len : ∀ (p : List (List St)) (b : Nd) (i : Nat), (adTs p b i).length = stPs p
  | [], b, i => by rw [adTs, stPs]; rfl
  | t :: r, b, i => by rw [adTs, stPs, List.length_append, adTs_len r, adL_len t]
end
/-- the tree that stands at a step's own node -/
def ownT (s : St) (o : Option (Tr × Nd)) : Tr := .mk (l4 s.l) (plTs s.ts ++ (match o with | some x => [x.1] | none => []))
theorem plS_own (s : St) (o : Option (Tr × Nd)) : (plS s o).1 = if s.w then .mk 3 [ownT s o] else ownT s o := by
  cases s with
  | mk w l ts => cases w <;> cases o <;> simp [plS, ownT, St.w, St.l, St.ts]
theorem plS_nd (s : St) (o : Option (Tr × Nd)) (b : Nd) : b ++ (plS s o).2 = bse s.w b ++ (match o with | some x => (s.ts.length : Int) :: x.2 | none => []) := by
  cases s with
  | mk w l ts => cases w <;> cases o <;> simp [plS, bse, St.w, St.ts]
theorem own_at {T : Tr} {b : Nd} {s : St} {o : Option (Tr × Nd)} (h : atT T b = some (plS s o).1) : atT T (bse s.w b) = some (ownT s o) ∧ (s.w = true → ∃ c, atT T b = some c ∧ c.l.val = 3) := by
  rw [plS_own] at h
  cases hw : s.w with
  | false =>
    rw [hw, if_neg (by decide)] at h
    exact ⟨by unfold bse; rw [if_neg (by decide)]; exact h, fun e => by cases e⟩
  | true =>
    rw [hw, if_pos rfl] at h
    refine ⟨?_, fun _ => ⟨_, h, rfl⟩⟩
    unfold bse
    rw [if_pos rfl, atT_app, h, Option.bind_some]
    exact at_one (.mk 3 [ownT s o]) 0
def hook (a : Nat → Nd) (ah : Option Nat) (h : Nd) : Prop := match ah with
  | none => h = []
  | some j => ∃ k, h = a j ++ [k]
def okP (T : Tr) (a : Nat → Nd) (r : Row) (v : Nd) : Prop := ∃ h, hook a r.1 h ∧ v = bse r.2.1 h ∧ labOk T v r.2.2 ∧ (r.2.1 = true → ∃ c, atT T h = some c ∧ c.l.val = 3)
def satP (T : Tr) (a : Nat → Nd) : List Row → Nat → Prop
  | [], _ => True
  | r :: rs, f => okP T a r (a f) ∧ satP T a rs (f + 1)
theorem satP_app {T : Tr} {a : Nat → Nd} : ∀ (xs ys : List Row) (f : Nat), satP T a (xs ++ ys) f ↔ satP T a xs f ∧ satP T a ys (f + xs.length)
  | [], ys, f => by simp [satP]
  | x :: xs, ys, f => by
    rw [List.cons_append, satP, satP, satP_app xs ys (f + 1), ← and_assoc, List.length_cons, show f + 1 + xs.length = f + (xs.length + 1) by omega]
theorem satP_get {T : Tr} {a : Nat → Nd} : ∀ (rs : List Row) (f : Nat), satP T a rs f → ∀ (i : Nat) (r : Row), rs[i]? = some r → okP T a r (a (f + i))
  | [], f, _, i, r, hr => by cases hr
  | x :: xs, f, h, i, r, hr => by
    rw [satP] at h
    cases i with
    | zero => simp at hr; subst hr; exact h.1
    | succ i =>
      rw [List.getElem?_cons_succ] at hr
      have := satP_get xs (f + 1) h.2 i r hr
      rw [show f + 1 + i = f + (i + 1) by omega] at this
      exact this
/-- the addresses agree -/
def agr (a : Nat → Nd) (f : Nat) (ad : List Nd) : Prop := ∀ i v, ad[i]? = some v → a (f + i) = v
theorem agr_l {a : Nat → Nd} {f : Nat} {xs ys : List Nd} (h : agr a f (xs ++ ys)) : agr a f xs := by
  intro i v hi
  refine h i v ?_
  rw [List.getElem?_append_left (List.getElem?_eq_some_iff.mp hi).1]
  exact hi
theorem agr_r {a : Nat → Nd} {f : Nat} {xs ys : List Nd} (h : agr a f (xs ++ ys)) : agr a (f + xs.length) ys := by
  intro i v hi
  have := h (xs.length + i) v (by rw [List.getElem?_append_right (by omega)]; rw [show xs.length + i - xs.length = i by omega]; exact hi)
  rw [← Nat.add_assoc] at this
  exact this
mutual
theorem plainS : ∀ (T : Tr) (a : Nat → Nd) (s : St) (o : Option (Tr × Nd)) (ah : Option Nat) (f : Nat) (b : Nd), atT T b = some (plS s o).1 → hook a ah b → agr a f (adS s b) → satP T a (rwS s ah f) f ∧ a f = bse s.w b
  | T, a, .mk w l ts, o, ah, f, b, h1, h2, h3 => by
    obtain ⟨g1, g2⟩ := own_at h1
    rw [adS] at h3
    have hf : a f = bse w b := h3 0 _ rfl
    refine ⟨?_, hf⟩
    rw [rwS, satP]
    refine ⟨⟨b, h2, hf, ⟨_, by rw [hf]; exact g1, rfl⟩, g2⟩, ?_⟩
    refine plainT T a ts f (f + 1) (bse w b) 0 ?_ hf (agr_r (xs := [bse w b]) h3)
    intro i x hx
    rw [atT_app, show bse w b = bse (St.mk w l ts).w b from rfl, g1, Option.bind_some, Nat.zero_add, at_one]
    show (plTs ts ++ _)[i]? = some x
    rw [List.getElem?_append_left (List.getElem?_eq_some_iff.mp hx).1]
    exact hx
theorem plainL : ∀ (T : Tr) (a : Nat → Nd) (p : List St) (x : Tr × Nd) (ah : Option Nat) (f : Nat) (b : Nd), plL p = some x → atT T b = some x.1 → hook a ah b → agr a f (adL p b) → satP T a (rwL p ah f) f ∧ plc none a (lsL p ah f) = some (b ++ x.2)
  | T, a, [], x, ah, f, b, h0, _, _, _ => by rw [plL] at h0; cases h0
  | T, a, s :: r, x, ah, f, b, h0, h1, h2, h3 => by
    rw [plL] at h0
    have h0' := Option.some.inj h0
    subst h0'
    rw [adL] at h3
    obtain ⟨g1, g2⟩ := plainS T a s (plL r) ah f b h1 h2 (agr_l h3)
    have g3 := agr_r h3
    rw [adS_len] at g3
    rw [rwL, satP_app, rwS_len, lsL, plS_nd]
    cases r with
    | nil =>
      refine ⟨⟨g1, by rw [rwL, satP]; trivial⟩, ?_⟩
      rw [lsL, plL]
      simp only [plc, List.append_nil]
      rw [g2]
    | cons s2 r2 =>
      obtain ⟨k1, _⟩ := own_at h1
      have hy : plL (s2 :: r2) = some (plS s2 (plL r2)) := by rw [plL]
      have := plainL T a (s2 :: r2) (plS s2 (plL r2)) (some f) (f + stS s) (bse s.w b ++ [(s.ts.length : Int)]) hy (by
        rw [atT_app, k1, Option.bind_some, at_one]
        show (plTs s.ts ++ _)[s.ts.length]? = _
        rw [List.getElem?_append_right (by rw [plTs_len]; omega), plTs_len, hy]
        simp) ⟨_, by rw [g2]⟩ g3
      refine ⟨⟨g1, this.1⟩, ?_⟩
      rw [this.2, hy]
      simp
theorem plainT : ∀ (T : Tr) (a : Nat → Nd) (ts : List (List St)) (num f : Nat) (b : Nd) (i0 : Nat), (∀ i x, (plTs ts)[i]? = some x → atT T (b ++ [((i0 + i : Nat) : Int)]) = some x) → a num = b → agr a f (adTs ts b i0) → satP T a (rwT ts num f) f
  | T, a, [], num, f, b, i0, _, _, _ => by rw [rwT, satP]; trivial
  | T, a, p :: r, num, f, b, i0, h1, h2, h3 => by
    rw [adTs] at h3
    have g3 := agr_r h3
    rw [adL_len] at g3
    rw [rwT, satP_app, rwL_len]
    refine ⟨?_, plainT T a r num (f + stL p) b (i0 + 1) (fun i x hx => ?_) h2 g3⟩
    · cases hp : p with
      | nil => rw [rwL, satP]; trivial
      | cons s q =>
        rw [← hp]
        have hx : plL p = some (plS s (plL q)) := by rw [hp, plL]
        refine (plainL T a p (plS s (plL q)) (some num) f (b ++ [(i0 : Int)]) hx ?_ ⟨_, by rw [h2]⟩ (agr_l h3)).1
        have := h1 0 (plS s (plL q)).1 (by rw [plTs, hx]; rfl)
        exact this
    · have := h1 (i + 1) x (by rw [plTs, List.getElem?_cons_succ]; exact hx)
      rw [show i0 + (i + 1) = i0 + 1 + i by omega] at this
      exact this
end
/-! ### each node with a letter of paths is a step's -/
theorem own_sub {s : St} {o : Option (Tr × Nd)} {b m : Nd} {c : Tr} (h : atT (plS s o).1 m = some c) (hc : c.l.val ≠ 3) : ∃ m', b ++ m = bse s.w b ++ m' ∧ atT (ownT s o) m' = some c := by
  rw [plS_own] at h
  cases hw : s.w with
  | false =>
    rw [hw, if_neg (by decide)] at h
    exact ⟨m, by unfold bse; rw [if_neg (by decide)], h⟩
  | true =>
    rw [hw, if_pos rfl] at h
    cases m with
    | nil => rw [atT] at h; cases h; exact absurd rfl hc
    | cons k m =>
      rw [atT] at h
      by_cases hk : 0 ≤ k
      · rw [if_pos hk] at h
        cases hq : (Tr.mk 3 [ownT s o]).ks[k.toNat]? with
        | none => rw [hq] at h; cases h
        | some q =>
          rw [hq, Option.bind_some] at h
          have hk0 : k.toNat = 0 := by
            have := (List.getElem?_eq_some_iff.mp hq).1
            simp [Tr.ks] at this; omega
          rw [hk0] at hq
          simp [Tr.ks] at hq
          subst hq
          have : k = 0 := by omega
          subst this
          exact ⟨m, by unfold bse; simp, h⟩
      · rw [if_neg hk] at h; cases h
mutual
theorem surL : ∀ (p : List St) (x : Tr × Nd) (b m : Nd) (c : Tr), plL p = some x → atT x.1 m = some c → c.l.val ≠ 3 → b ++ m ∈ adL p b
  | [], x, b, m, c, h0, _, _ => by rw [plL] at h0; cases h0
  | .mk w l ts :: r, x, b, m, c, h0, h1, h2 => by
    rw [plL] at h0
    have h0' := Option.some.inj h0
    subst h0'
    obtain ⟨m', e, h3⟩ := own_sub (b := b) h1 h2
    rw [e, adL, adS]
    simp only [St.w, St.ts]
    cases m' with
    | nil => simp
    | cons k m' =>
      rw [atT] at h3
      by_cases hk : 0 ≤ k
      · rw [if_pos hk] at h3
        cases hq : (ownT (.mk w l ts) (plL r)).ks[k.toNat]? with
        | none => rw [hq] at h3; cases h3
        | some q =>
          rw [hq, Option.bind_some] at h3
          have hkk : ((k.toNat : Nat) : Int) = k := by omega
          have hq' : (plTs ts ++ (match plL r with | some x => [x.1] | none => []))[k.toNat]? = some q := hq
          by_cases hlt : k.toNat < ts.length
          · rw [List.getElem?_append_left (by rw [plTs_len]; exact hlt)] at hq'
            have := surT ts (bse w b) 0 k.toNat q m' c hq' h3 h2
            rw [Nat.zero_add, hkk] at this
            simp only [List.cons_append, List.mem_cons, List.mem_append]
            right; left
            rw [show bse w b ++ k :: m' = bse w b ++ [k] ++ m' by simp]
            exact this
          · rw [List.getElem?_append_right (by rw [plTs_len]; omega), plTs_len] at hq'
            cases hy : plL r with
            | none => rw [hy] at hq'; cases hq'
            | some y =>
              rw [hy] at hq'
              have hk0 : k.toNat - ts.length = 0 := by
                have := (List.getElem?_eq_some_iff.mp hq').1
                simp at this; omega
              rw [hk0] at hq'
              simp at hq'
              subst hq'
              have := surL r y (bse w b ++ [(ts.length : Int)]) m' c hy h3 h2
              have hkl : k = (ts.length : Int) := by omega
              simp only [List.cons_append, List.mem_cons, List.mem_append]
              right; right
              rw [show bse w b ++ k :: m' = bse w b ++ [(ts.length : Int)] ++ m' by rw [hkl]; simp]
              exact this
      · rw [if_neg hk] at h3; cases h3
theorem surT : ∀ (ts : List (List St)) (b : Nd) (i0 i : Nat) (z : Tr) (m : Nd) (c : Tr), (plTs ts)[i]? = some z → atT z m = some c → c.l.val ≠ 3 → b ++ [((i0 + i : Nat) : Int)] ++ m ∈ adTs ts b i0
  | [], b, i0, i, z, m, c, h0, _, _ => by rw [plTs] at h0; cases h0
  | p :: r, b, i0, i, z, m, c, h0, h1, h2 => by
    rw [plTs] at h0
    rw [adTs, List.mem_append]
    cases i with
    | zero =>
      left
      cases hp : plL p with
      | none =>
        rw [hp] at h0
        simp at h0
        subst h0
        cases m with
        | nil => rw [atT] at h1; cases h1; exact absurd rfl h2
        | cons k m =>
          rw [atT] at h1
          simp [Tr.ks] at h1
      | some x =>
        rw [hp] at h0
        simp at h0
        subst h0
        exact surL p x (b ++ [(i0 : Int)]) m c hp h1 h2
    | succ i =>
      right
      rw [List.getElem?_cons_succ] at h0
      have := surT r b (i0 + 1) i z m c h0 h1 h2
      rw [show i0 + (i + 1) = i0 + 1 + i by omega]
      exact this
end
/-! ### no two steps at one node -/
mutual
theorem preS : ∀ (s : St) (b v : Nd), v ∈ adS s b → ∃ m, v = bse s.w b ++ m ∧ (m = [] ∨ ∃ (i : Nat) (m' : Nd), m = (i : Int) :: m' ∧ i < s.ts.length)
  | .mk w l ts, b, v, h => by
    rw [adS, List.mem_cons] at h
    rcases h with rfl | h
    · exact ⟨[], by simp [St.w], .inl rfl⟩
    · obtain ⟨i, m, h1, h2, h3⟩ := preT ts (bse w b) 0 v h
      exact ⟨(i : Int) :: m, by rw [h3]; simp [St.w], .inr ⟨i, m, rfl, by simpa [St.ts] using h2⟩⟩
theorem preL : ∀ (p : List St) (b v : Nd), v ∈ adL p b → ∃ m, v = b ++ m
  | [], b, v, h => by rw [adL] at h; cases h
  | s :: r, b, v, h => by
    rw [adL, List.mem_append] at h
    have hb : ∃ q, bse s.w b = b ++ q := by
      unfold bse
      cases s.w
      · exact ⟨[], by simp⟩
      · exact ⟨[0], by simp⟩
    obtain ⟨q, hq⟩ := hb
    rcases h with h | h
    · obtain ⟨m, h1, _⟩ := preS s b v h
      exact ⟨q ++ m, by rw [h1, hq]; simp⟩
    · obtain ⟨m, h1⟩ := preL r _ v h
      exact ⟨q ++ [(s.ts.length : Int)] ++ m, by rw [h1, hq]; simp⟩
theorem preT : ∀ (ts : List (List St)) (b : Nd) (i0 : Nat) (v : Nd), v ∈ adTs ts b i0 → ∃ (i : Nat) (m : Nd), i0 ≤ i ∧ i < i0 + ts.length ∧ v = b ++ (i : Int) :: m
  | [], b, i0, v, h => by rw [adTs] at h; cases h
  | p :: r, b, i0, v, h => by
    rw [adTs, List.mem_append] at h
    rcases h with h | h
    · obtain ⟨m, h1⟩ := preL p _ v h
      exact ⟨i0, m, by omega, by simp, by rw [h1]; simp⟩
    · obtain ⟨i, m, h1, h2, h3⟩ := preT r b (i0 + 1) v h
      exact ⟨i, m, by omega, by simp; omega, h3⟩
end
mutual
theorem nodS : ∀ (s : St) (b : Nd), (adS s b).Nodup
  | .mk w l ts, b => by
    rw [adS, List.nodup_cons]
    refine ⟨fun h => ?_, nodT ts (bse w b) 0⟩
    obtain ⟨i, m, _, _, h3⟩ := preT ts _ 0 _ h
    have := congrArg List.length h3
    simp at this
theorem nodL : ∀ (p : List St) (b : Nd), (adL p b).Nodup
  | [], b => by rw [adL]; exact List.nodup_nil
  | s :: r, b => by
    rw [adL, List.nodup_append]
    refine ⟨nodS s b, nodL r _, fun v h1 v' h2 e => ?_⟩
    subst e
    obtain ⟨m, e1, e2⟩ := preS s b v h1
    obtain ⟨m2, e3⟩ := preL r _ v h2
    rw [e1, List.append_assoc] at e3
    have e4 := List.append_cancel_left e3
    rcases e2 with rfl | ⟨i, m', rfl, hi⟩
    · simp at e4
    · simp at e4
      omega
theorem nodT : ∀ (ts : List (List St)) (b : Nd) (i0 : Nat), (adTs ts b i0).Nodup
  | [], b, i0 => by rw [adTs]; exact List.nodup_nil
  | p :: r, b, i0 => by
    rw [adTs, List.nodup_append]
    refine ⟨nodL p _, nodT r b (i0 + 1), fun v h1 v' h2 e => ?_⟩
    subst e
    obtain ⟨m, e1⟩ := preL p _ v h1
    obtain ⟨i, m2, h3, _, e3⟩ := preT r b (i0 + 1) v h2
    rw [e1, List.append_assoc] at e3
    have e4 := List.append_cancel_left e3
    simp at e4
    omega
end
/-! ### what the plain tree shows -/
section
variable {one : Pa} {x : Tr × Nd} (hx : plL one = some x)
include hx
def adr (one : Pa) (i : Nat) : Nd := (adL one [])[i]?.getD []
theorem adr_agr : agr (adr one) 0 (adL one []) := by
  intro i v hi
  rw [Nat.zero_add]
  unfold adr
  rw [hi]; rfl
theorem one_ne : one ≠ [] := fun e => by subst e; rw [plL] at hx; cases hx
theorem pl_sat : satP x.1 (adr one) (R0 one) 0 ∧ plc none (adr one) (lsL one none 0) = some x.2 := by
  have h := plainL x.1 (adr one) one x none 0 [] hx rfl rfl (adr_agr hx)
  exact ⟨h.1, by have := h.2; simpa using this⟩
theorem pl_row {i : Nat} {r : Row} (h : (R0 one)[i]? = some r) : okP x.1 (adr one) r (adr one i) := by
  have := satP_get _ 0 (pl_sat hx).1 i r h
  rwa [Nat.zero_add] at this
theorem adr_inj {i j : Nat} (hi : i < (R0 one).length) (hj : j < (R0 one).length) (h : adr one i = adr one j) : i = j := by
  rw [R0_len, ← adL_len one []] at hi hj
  unfold adr at h
  rw [List.getElem?_eq_getElem hi, List.getElem?_eq_getElem hj] at h
  simp only [Option.getD_some] at h
  exact (List.getElem_inj (nodL one [])).mp h
theorem adr_sur {v : Nd} {c : Tr} (h : atT x.1 v = some c) (hc : c.l.val ≠ 3) : ∃ i, i < (R0 one).length ∧ adr one i = v := by
  have := surL one x [] v c hx h hc
  rw [List.nil_append] at this
  obtain ⟨i, hi, e⟩ := List.mem_iff_getElem.mp this
  refine ⟨i, by rw [R0_len, ← adL_len one []]; exact hi, ?_⟩
  unfold adr
  rw [List.getElem?_eq_getElem hi, e]; rfl
theorem adr_lab {i : Nat} {c : Tr} (hi : i < (R0 one).length) (h : atT x.1 (adr one i) = some c) : c.l.val ≠ 3 := by
  obtain ⟨h', _, _, ⟨c', h1, h2⟩, _⟩ := pl_row hx (List.getElem?_eq_getElem hi)
  rw [h] at h1
  cases h1
  have := ((R0 one)[i]).2.2.isLt
  omega
theorem pl_finds : fL x.1 one none x.2 := by
  refine fL_sat.mpr ⟨adr one, ?_, (pl_sat hx).2⟩
  rw [sat_get]
  intro i r hr
  rw [Nat.zero_add]
  obtain ⟨h, h1, h2, h3, _⟩ := pl_row hx hr
  refine ⟨⟨?_, ?_⟩, h3⟩
  · obtain ⟨c, hc, _⟩ := h3
    exact ⟨c, hc⟩
  · rw [h2]
    cases hj : r.1 with
    | none =>
      rw [hj] at h1
      have h1' : h = [] := h1
      subst h1'
      cases r.2.1 <;> simp [plc, bse]
    | some j =>
      rw [hj] at h1
      obtain ⟨k, rfl⟩ := h1
      cases r.2.1 with
      | false => exact ⟨k, by simp [bse]⟩
      | true => exact ⟨[k, 0], by simp, by simp [bse]⟩
theorem pl_back (j : Nat) (hj : j < (R0 one).length) : ∀ (i : Nat), i < (R0 one).length → (∃ m, m ≠ [] ∧ adr one i = adr one j ++ m) → cbk (R0 one) i j = true
  | i, hi, ⟨m, hm, e⟩ => by
    have hr := List.getElem?_eq_getElem hi
    obtain ⟨h, h1, h2, h3, h4⟩ := pl_row hx hr
    have hdj : ∀ c, atT x.1 (adr one j) = some c → c.l.val ≠ 3 := fun c hc => adr_lab hx hj hc
    rw [cbk_iff (R0_wfr one)]
    have hah : ahd (R0 one) i = ((R0 one)[i]).1 := by unfold ahd; rw [hr]
    -- h, or h and 0, ends in m
    have key : (∃ m', h = adr one j ++ m') := by
      rw [e] at h2
      unfold bse at h2
      cases hw : ((R0 one)[i]).2.1 with
      | false => rw [hw, if_neg (by decide)] at h2; exact ⟨m, h2.symm⟩
      | true =>
        rw [hw, if_pos rfl] at h2
        have hml : m = m.dropLast ++ [m.getLast hm] := (List.dropLast_concat_getLast hm).symm
        rw [hml, ← List.append_assoc] at h2
        exact ⟨m.dropLast, (List.append_inj_left' h2 rfl).symm⟩
    obtain ⟨m', hm'⟩ := key
    have hm0 : m' ≠ [] := by
      rintro rfl
      rw [List.append_nil] at hm'
      cases hw : ((R0 one)[i]).2.1 with
      | false =>
        rw [hw] at h2
        have h2' : adr one i = h := by rw [h2]; simp [bse]
        rw [h2', hm'] at e
        have := congrArg List.length e
        simp at this
        exact hm this
      | true =>
        obtain ⟨c, hc, hd⟩ := h4 hw
        rw [hm'] at hc
        exact hdj c hc hd
    cases hj1 : ((R0 one)[i]).1 with
    | none =>
      rw [hj1] at h1
      have h1' : h = [] := h1
      rw [h1'] at hm'
      have := congrArg List.length hm'
      simp at this
      exact absurd (List.length_eq_zero_iff.mp (by omega)) hm0
    | some j' =>
      rw [hj1] at h1
      obtain ⟨k, rfl⟩ := h1
      have hlt := R0_wfr one i _ hr j' hj1
      refine ⟨j', by rw [hah, hj1], ?_⟩
      have hml : m' = m'.dropLast ++ [m'.getLast hm0] := (List.dropLast_concat_getLast hm0).symm
      rw [hml, ← List.append_assoc] at hm'
      have e5 := List.append_inj_left' hm' rfl
      by_cases hmd : m'.dropLast = []
      · left
        rw [hmd, List.append_nil] at e5
        exact adr_inj hx (by omega) hj e5
      · right
        exact pl_back j hj j' (by omega) ⟨_, hmd, e5⟩
theorem lead_complete {other : Pa} (hother : other ≠ []) (h : fL x.1 other none x.2) : ∃ row, Lead one other row := by
  obtain ⟨a, hs, hn⟩ := fL_sat.mp h
  rw [sat_get] at hs
  have hsur : ∀ i o, (R0 other)[i]? = some o → ∃ g, g < (R0 one).length ∧ adr one g = a i := by
    intro i o ho
    have := hs i o ho
    rw [Nat.zero_add] at this
    obtain ⟨c, hc, hl⟩ := this.2
    exact adr_sur hx hc (by have := o.2.2.isLt; omega)
  have hg : ∃ g : Nat → Nat, ∀ i, i < (R0 other).length → g i < (R0 one).length ∧ adr one (g i) = a i := by
    refine ⟨fun i => if h : i < (R0 other).length then (hsur i _ (List.getElem?_eq_getElem h)).choose else 0, fun i hi => ?_⟩
    simp only [dif_pos hi]
    exact (hsur i _ (List.getElem?_eq_getElem hi)).choose_spec
  obtain ⟨g, hg⟩ := hg
  obtain ⟨i1, e1, _, k1⟩ := lsL_ne (one_ne hx) none 0
  obtain ⟨i2, e2, _, k2⟩ := lsL_ne hother none 0
  have ee : (ends one other) = (i1, i2) := by unfold ends; rw [e1, e2]; rfl
  rw [Nat.zero_add] at k1 k2
  refine ⟨(List.range (R0 other).length).map g, by simp, ?_⟩
  intro i tg ht
  have hi : i < (R0 other).length := by
    have := (List.getElem?_eq_some_iff.mp ht).1
    simpa using this
  have htg : g i = tg := by
    rw [List.getElem?_map, List.getElem?_range hi] at ht
    simpa using ht
  subst htg
  obtain ⟨g1, g2⟩ := hg i hi
  refine ⟨g1, ?_⟩
  have ho := List.getElem?_eq_getElem hi
  generalize (R0 other)[i] = o at ho
  have hao := R0_wfr other i o ho
  have hgoal : goalOf o (((List.range (R0 other).length).map g).take i) = o.1.map g := by
    rw [goal_map (by simpa using hi) (fun j hj => by have := hao j hj; omega)]
    cases hj : o.1 with
    | none => rfl
    | some j =>
      have := hao j hj
      simp only [Option.map_some]
      rw [List.getElem?_map, List.getElem?_range (by omega)]
      rfl
  unfold okT
  rw [List.length_take, List.length_map, List.length_range, Nat.min_eq_left (by omega), ho]
  simp only [Bool.and_eq_true, Bool.or_eq_true, decide_eq_true_eq, hgoal, ee]
  refine ⟨?_, ?_⟩
  · by_cases hi2 : i = i2
    · right
      subst hi2
      refine adr_inj hx g1 (by rw [R0_len]; exact k1) ?_
      rw [g2]
      have h1 := (pl_sat hx).2
      rw [e1] at h1
      rw [e2] at hn
      simp only [plc, Option.some.injEq] at h1 hn
      rw [hn, h1]
    · exact .inl hi2
  · have hR := List.getElem?_eq_getElem g1
    obtain ⟨h, q1, q2, q3, q4⟩ := pl_row hx hR
    have hso := hs i o ho
    rw [Nat.zero_add, ← g2] at hso
    unfold fitB
    rw [hR]
    simp only [Bool.and_eq_true, decide_eq_true_eq]
    refine ⟨?_, ?_⟩
    · obtain ⟨c, hc, hl⟩ := q3
      obtain ⟨c', hc', hl'⟩ := hso.2
      rw [hc] at hc'
      cases hc'
      exact Fin.ext (by omega)
    · have harr := hso.1.2
      cases hw : o.2.1 with
      | false =>
        rw [hw] at harr
        simp only [Bool.and_eq_true, decide_eq_true_eq, Bool.not_eq_true']
        cases hj : o.1 with
        | none =>
          rw [hj] at harr
          have harr' : adr one (g i) = [] := harr
          rw [harr'] at q2
          unfold bse at q2
          cases hw2 : ((R0 one)[g i]).2.1 with
          | true => rw [hw2, if_pos rfl] at q2; simp at q2
          | false =>
            rw [hw2, if_neg (by decide)] at q2
            subst q2
            refine ⟨?_, rfl⟩
            cases hj2 : ((R0 one)[g i]).1 with
            | none => rfl
            | some j2 =>
              rw [hj2] at q1
              obtain ⟨k, hk⟩ := q1
              simp at hk
        | some j =>
          have hji := hao j hj
          obtain ⟨p1, p2⟩ := hg j (by omega)
          rw [hj] at harr
          obtain ⟨k, hk⟩ := harr
          rw [← p2] at hk
          rw [hk] at q2
          unfold bse at q2
          cases hw2 : ((R0 one)[g i]).2.1 with
          | true =>
            rw [hw2, if_pos rfl] at q2
            have e5 := List.append_inj_left' q2 rfl
            obtain ⟨c, hc, hd⟩ := q4 hw2
            rw [← e5] at hc
            exact absurd hd (adr_lab hx p1 hc)
          | false =>
            rw [hw2, if_neg (by decide)] at q2
            subst q2
            refine ⟨?_, rfl⟩
            cases hj2 : ((R0 one)[g i]).1 with
            | none =>
              rw [hj2] at q1
              have q1' : adr one (g j) ++ [k] = [] := q1
              simp at q1'
            | some j2 =>
              rw [hj2] at q1
              obtain ⟨k2, hk2⟩ := q1
              have e5 := List.append_inj_left' hk2 rfl
              have hlt := R0_wfr one _ _ hR j2 hj2
              simp only [Option.map_some, Option.some.injEq]
              exact (adr_inj hx p1 (by omega) e5).symm
      | true =>
        cases hj : o.1 with
        | none => rfl
        | some j =>
          have hji := hao j hj
          obtain ⟨p1, p2⟩ := hg j (by omega)
          rw [hw, hj] at harr
          obtain ⟨m, hm, hk⟩ := harr
          rw [← p2] at hk
          exact pl_back hx (g j) p1 (g i) g1 ⟨m, hm, hk⟩
end
theorem plL_some {p : Pa} (h : p ≠ []) : ∃ x, plL p = some x := by
  cases p with
  | nil => exact absurd rfl h
  | cons s r => exact ⟨_, by rw [plL]⟩
/-- within: in the plain tree, and so in each tree, from each place -/
theorem within_plain {one other : Pa} {x : Tr × Nd} (hx : plL one = some x) (ho : other ≠ []) : within one other = true ↔ fL x.1 other none x.2 := by
  rw [within_iff]
  constructor
  · rintro ⟨row, hr⟩
    exact lead_sound (one_ne hx) ho hr (pl_finds hx)
  · exact fun h => lead_complete hx ho h
theorem within_sound {one other : Pa} (h1 : one ≠ []) (h2 : other ≠ []) (h : within one other = true) {t : Tr} {u : Option Nd} {n : Nd} (hf : fL t one u n) : fL t other u n := by
  obtain ⟨row, hr⟩ := within_iff.mp h
  exact lead_sound h1 h2 hr hf
theorem within_all {one other : Pa} (h1 : one ≠ []) (h2 : other ≠ []) : within one other = true ↔ ∀ (t : Tr) (n : Nd), fL t one none n → fL t other none n := by
  constructor
  · exact fun h t n hf => within_sound h1 h2 h hf
  · intro h
    obtain ⟨x, hx⟩ := plL_some h1
    exact (within_plain hx h2).mpr (h _ _ (pl_finds hx))
end Tf
namespace Tf
open PySem
/-! Tm17: comes_back, fits, leadings_from, leading, is_within, are_alike. -/
theorem loop_find {A : Type} {t : Tg} {f : Sd → Out} {enc : A → D} {g : A → Option D} (Q : Sd → Prop) : ∀ (xs : List A) (s : Sd),
    (∀ x ∈ xs, ∀ s, Q s → ∃ s1, bindT t (enc x) s = some s1 ∧ (∀ d, g x = some d → f s1 = .rt d) ∧ (g x = none → ∃ s2, f s1 = .nx s2 ∧ Q s2)) → Q s →
    (∀ d, xs.findSome? g = some d → loopFor t f (xs.map enc) s = .rt d) ∧ (xs.findSome? g = none → ∃ s', loopFor t f (xs.map enc) s = .nx s' ∧ Q s')
  | [], s, _, hQ => ⟨(fun d h => by cases h), fun _ => ⟨s, rfl, hQ⟩⟩
  | x :: xs, s, step, hQ => by
    obtain ⟨s1, e1, h1, h2⟩ := step x (by simp) s hQ
    rw [List.findSome?_cons, List.map_cons]
    unfold loopFor
    rw [e1]
    cases hg : g x with
    | some d =>
      have e2 := h1 d hg
      refine ⟨fun d' h => ?_, fun h => by cases h⟩
      cases h
      show (f s1).then _ = _
      rw [e2]; rfl
    | none =>
      obtain ⟨s2, e2, hQ2⟩ := h2 hg
      have ih := loop_find Q xs s2 (fun y hy => step y (by simp [hy])) hQ2
      show (∀ d, _ → (f s1).then _ = _) ∧ (_ → ∃ s', (f s1).then _ = _ ∧ _)
      rw [e2]
      exact ih
theorem rng_range (n : Nat) (h : n ≤ 1000) : rng 0 (n : Int) = .ok ((List.range n).map fun i => .int ((i : Nat) : Int)) := by
  rw [rng0 (by omega) (by omega)]
  simp only [Int.toNat_natCast]
  rw [rangeD_eq]
  congr 1
  refine List.map_congr_left fun i _ => ?_
  rw [Int.zero_add]
def encRs (R : List Row) : D := .tuple (R.map encR)
def encG (row : List Nat) : D := .tuple (row.map fun i => .int ((i : Nat) : Int))
def encOr : Option (List Nat) → D
  | none => .none
  | some row => encG row
theorem idx_R {R : List Row} {i : Nat} {r : Row} (h : R[i]? = some r) : idxD (encRs R) (.int (i : Int)) = .ok (encR r) := by
  unfold encRs
  refine idx_nat ?_
  rw [List.getElem?_map, h]; rfl
theorem idx_R0 (r : Row) : idxD (encR r) (.int 0) = .ok (encA r.1) := rfl
theorem idx_R1 (r : Row) : idxD (encR r) (.int 1) = .ok (.str (wayS r.2.1)) := rfl
theorem idx_R2 (r : Row) : idxD (encR r) (.int 2) = .ok (.str (letS r.2.2)) := rfl
theorem let3_eq : ∀ a b : Fin 3, (letS a == letS b) = decide (a = b) := by decide +kernel
theorem cmp_encA (a b : Option Nat) : cmpD .Eq (encA a) (encA b) = .ok (decide (a = b)) := by
  cases a with
  | none =>
    cases b with
    | none => rfl
    | some b => rw [cmpD, if_pos (by simp [near, encA, PyData.depth])]; simp [encA, PyData.eqv]
  | some a =>
    cases b with
    | none => rw [cmpD, if_pos (by simp [near, encA, PyData.depth])]; simp [encA, PyData.eqv]
    | some b =>
      rw [encA, encA, c_eqi]
      congr 1
      rw [decide_eq_decide, Option.some.injEq]
      omega
theorem cmp_Eq (a b : D) : cmpD .Eq a b = if near a b = true then .ok (PyData.eqv a b) else .fail := by rw [cmpD]
theorem cmp_Ne (a b : D) : cmpD .NotEq a b = if near a b = true then .ok (!PyData.eqv a b) else .fail := by rw [cmpD]
theorem cmp_encAN (a b : Option Nat) : cmpD .NotEq (encA a) (encA b) = .ok (!decide (a = b)) := by
  have h := cmp_encA a b
  rw [cmp_Eq] at h
  rw [cmp_Ne]
  split at h
  · rename_i hn
    rw [if_pos hn]
    have := R.ok.inj h
    rw [this]
  · cases h
theorem is_encA (a : Option Nat) : cmpD .Is (encA a) .none = .ok a.isNone := by cases a <;> rfl
theorem isN_encA (a : Option Nat) : cmpD .IsNot (encA a) .none = .ok (!a.isNone) := by cases a <;> rfl
theorem ahd_some {R : List Row} {i : Nat} {r : Row} (h : R[i]? = some r) : ahd R i = r.1 := by unfold ahd; rw [h]
theorem back_loop (C : EvC) {R : List Row} (hw : wfr R 0) (g : Nat) (a1 : D) : ∀ (k : Nat) (here : Option Nat) (n : Nat), (∀ h, here = some h → h < k) → k ≤ R.length → k < n →
    ∃ fin, loopWhile (fun s' => (ev C (.and (.cmp .IsNot (.var 3) (.con .none)) (.cmp .NotEq (.var 3) (.var 2))) s').bind truth) (fun s' => evSs C b_comes_back_1 s') n [some (.sh (encRs R)), some (.sh a1), some (.sh (.int (g : Int))), some (.sh (encA here))] = .nx [some (.sh (encRs R)), some (.sh a1), some (.sh (.int (g : Int))), some (.sh (encA fin))] ∧ decide (fin = some g) = bkF R k here g
  | k, here, 0, _, _, hn => by omega
  | k, none, n + 1, _, _, _ => by
    refine ⟨none, ?_, by rw [bkF_none]; rfl⟩
    unfold loopWhile
    rw [and_f (by simp [isN_encA])]
    rfl
  | k, some h, n + 1, hh, hk, hn => by
    have hlt := hh h rfl
    have hi1 : ev C (.cmp .IsNot (.var 3) (.con .none)) [some (.sh (encRs R)), some (.sh a1), some (.sh (.int (g : Int))), some (.sh (encA (some h)))] = .ok (.bool true) := by simp [isN_encA]
    have hi2 : ev C (.cmp .NotEq (.var 3) (.var 2)) [some (.sh (encRs R)), some (.sh a1), some (.sh (.int (g : Int))), some (.sh (encA (some h)))] = .ok (.bool (!decide (h = g))) := by
      have := cmp_encAN (some h) (some g)
      simp only [Option.some.injEq] at this
      simp only [e_cmp, e_var, List.getElem?_cons_succ, List.getElem?_cons_zero, Tf.R.bind_ok]
      rw [show (PyData.int (g : Int)) = encA (some g) from rfl, this]
      rfl
    have hR := List.getElem?_eq_getElem (show h < R.length by omega)
    by_cases hg : h = g
    · refine ⟨some h, ?_, ?_⟩
      · unfold loopWhile
        rw [and_t hi1, hi2]
        simp [hg]
      · rw [bkF_step hw k h g (by omega)]; simp [hg]
    · have hb : evSs C b_comes_back_1 [some (.sh (encRs R)), some (.sh a1), some (.sh (.int (g : Int))), some (.sh (encA (some h)))] = .nx [some (.sh (encRs R)), some (.sh a1), some (.sh (.int (g : Int))), some (.sh (encA (ahd R h)))] := by
        rw [b_comes_back_1]
        have e1 : idxD (encRs R) (encA (some h)) = _ := idx_R hR
        have e2 := idx_R0 R[h]
        rw [← ahd_some hR] at e2
        simp [e1, e2]
      obtain ⟨fin, f1, f2⟩ := back_loop C hw g a1 h (ahd R h) n (fun j hj => ahd_lt hw hj) (by omega) (by omega)
      refine ⟨fin, ?_, ?_⟩
      · unfold loopWhile
        rw [and_t hi1, hi2]
        have hgd : decide (h = g) = false := by simp [hg]
        simp only [Tf.R.bind_ok, t_bool, Tf.R.out_ok, hgd, Bool.not_false]
        rw [hb]
        exact f1
      · rw [f2, bkF_step hw k h g (by omega)]
        simp [hg]
theorem r_comes_back {N : Nat} {R : List Row} (hw : wfr R 0) (hl : R.length ≤ 900) {i g : Nat} (hi : i < R.length) : rn (N + 1) 40 [encRs R, .int (i : Int), .int (g : Int)] = .ok (.bool (cbk R i g)) := by
  have hR := List.getElem?_eq_getElem hi
  obtain ⟨fin, f1, f2⟩ := back_loop (Cn N) hw g (.int (i : Int)) i (ahd R i) 1000 (fun j hj => ahd_lt hw hj) (by omega) (by omega)
  rw [rn_comes_back, b_comes_back]
  have e1 := idx_R hR
  have e2 := idx_R0 R[i]
  rw [← ahd_some hR] at e2
  refine res_of (ss_nx (set_ok (d := encA (ahd R i)) (by simp [e1, e2]))) ?_
  refine res_of (ss_nx (whl_ok.trans f1)) ?_
  refine res_of (ss_rt (ret_ok (d := .bool (cbk R i g)) ?_)) rfl
  have := cmp_encA fin (some g)
  rw [f2] at this
  have this' : cmpD .Eq (encA fin) (.int (g : Int)) = .ok (cbk R i g) := this
  simp [this']
theorem idx_row {row : List Nat} {j x : Nat} (h : row[j]? = some x) : idxD (encG row) (.int (j : Int)) = .ok (.int (x : Int)) := by
  unfold encG
  refine idx_nat ?_
  rw [List.getElem?_map, h]; rfl
theorem r_fits {N : Nat} {R O : List Row} (hw : wfr R 0) (hl : R.length ≤ 900) {row : List Nat} {num tg : Nat} {o : Row} (ho : O[num]? = some o) (hj : ∀ j, o.1 = some j → j < row.length) (ht : tg < R.length) :
    rn (N + 2) 41 [encRs R, encRs O, encG row, .int (num : Int), .int (tg : Int)] = .ok (.bool (fitB R o (goalOf o row) tg)) := by
  have hR := List.getElem?_eq_getElem ht
  have e1 := idx_R ho
  have e2 := idx_R hR
  have e3 := idx_R0 R[tg]
  have e4 := idx_R1 R[tg]
  have e5 := idx_R2 R[tg]
  have e6 : fitB R o (goalOf o row) tg = (decide (R[tg].2.2 = o.2.2) && (match o.2.1 with
    | true => (match goalOf o row with
      | none => true
      | some g => cbk R tg g)
    | false => decide (R[tg].1 = goalOf o row) && !R[tg].2.1)) := by unfold fitB; rw [hR] <;> rfl
  rw [e6]
  have hgo : ev (Cn (N + 1)) (.ite (.cmp .Is (.var 6) (.con .none)) (.con .none) (.idx (.var 2) (.var 6))) [some (.sh (encRs R)), some (.sh (encRs O)), some (.sh (encG row)), some (.sh (.int (num : Int))), some (.sh (.int (tg : Int))), none, some (.sh (encA o.1)), some (.sh (.str (wayS o.2.1))), some (.sh (.str (letS o.2.2)))] = .ok (encA (goalOf o row)) := by
    unfold goalOf
    cases ha : o.1 with
    | none => simp [is_encA]; rfl
    | some j =>
      have hjl := hj j ha
      have hr := List.getElem?_eq_getElem hjl
      have := idx_row hr
      rw [Option.bind_some, hr]
      simp [is_encA]
      exact this
  generalize goalOf o row = goal at hgo
  rw [rn_fits, b_fits]
  refine res_of (ss_nx (s' := [some (.sh (encRs R)), some (.sh (encRs O)), some (.sh (encG row)), some (.sh (.int (num : Int))), some (.sh (.int (tg : Int))), none, some (.sh (encA o.1)), some (.sh (.str (wayS o.2.1))), some (.sh (.str (letS o.2.2)))]) (by simp [e1, encR])) ?_
  have hc : ∀ a5, ev (Cn (N + 1)) (.cmp .NotEq (.idx (.idx (.var 0) (.var 4)) (.con (.int 2))) (.var 8)) [some (.sh (encRs R)), some (.sh (encRs O)), some (.sh (encG row)), some (.sh (.int (num : Int))), some (.sh (.int (tg : Int))), a5, some (.sh (encA o.1)), some (.sh (.str (wayS o.2.1))), some (.sh (.str (letS o.2.2)))] = .ok (.bool (!decide (R[tg].2.2 = o.2.2))) := fun a5 => by
    simp [e2, e5, cmp_strN, let3_eq]
  cases hd : decide (R[tg].2.2 = o.2.2) with
  | false =>
    rw [hd] at hc
    refine res_of (ss_rt ((iff_t (hc _) rfl).trans (ss_rt (ret_ok (d := .bool false) (by simp))))) ?_
    rfl
  | true =>
    rw [hd] at hc
    refine res_of (ss_nx ((iff_f (hc _) rfl).trans (s_nil' _ _))) ?_
    refine res_of (ss_nx (set_ok hgo)) ?_
    cases hw2 : o.2.1 with
    | false =>
      refine res_of (ss_rt ((iff_t (d := .bool true) (by simp [cmp_str, way_in]) rfl).trans (ss_rt (ret_ok (d := .bool (decide (R[tg].1 = goal) && !R[tg].2.1)) ?_)))) ?_
      · refine ev_and (p := decide (R[tg].1 = goal)) (q := !R[tg].2.1) ?_ fun _ => ?_
        · simp [e2, e3, cmp_encA]
        · simp [e2, e4, cmp_str, way_in]
      · simp
    | true =>
      refine res_of (ss_nx ((iff_f (d := .bool false) (by simp [cmp_str, way_in]) rfl).trans (s_nil' _ _))) ?_
      refine res_of (ss_rt (ret_ok (d := .bool (goal.elim true fun g => cbk R tg g)) ?_)) (by cases goal <;> simp)
      cases goal with
      | none => exact or_t (by simp [is_encA])
      | some g =>
        rw [or_f (by simp [is_encA])]
        have e7 := r_comes_back (N := N) hw hl (i := tg) (g := g) ht
        have e7' : rn (N + 1) 40 [encRs R, .int (tg : Int), encA (some g)] = _ := e7
        simp [e7']
theorem encG_app (row : List Nat) (tg : Nat) (h : row.length + 1 ≤ lim) : binD .Add (encG row) (.tuple [.int (tg : Int)]) = .ok (encG (row ++ [tg])) := by
  unfold encG
  rw [b_tup _ _ (by simpa using h)]; simp
theorem isN_encOr (o : Option (List Nat)) : cmpD .IsNot (encOr o) .none = .ok o.isSome := by cases o <;> rfl
theorem findSome_map {A B C : Type} (f : A → Option B) (h : B → C) (xs : List A) : (xs.findSome? fun x => (f x).map h) = (xs.findSome? f).map h := by
  induction xs with
  | nil => rfl
  | cons x xs ih =>
    rw [List.findSome?_cons, List.findSome?_cons]
    cases f x with
    | none => exact ih
    | some b => rfl
theorem r_leadings_from {R O : List Row} (hw : wfr R 0) (hwO : wfr O 0) (hl : R.length ≤ 900) (hlO : O.length ≤ 900) (e : Nat × Nat) : ∀ (n : Nat) (row : List Nat) (N : Nat), row.length + n = O.length → n + 3 < N →
    rn N 42 [encRs R, encRs O, encG row, .tuple [.int (e.1 : Int), .int (e.2 : Int)]] = .ok (encOr (srch R O e n row))
  | n, row, 0, _, h => by omega
  | 0, row, N + 1, hn, h => by
    rw [rn_leadings_from, b_leadings_from, srch]
    refine res_of (ss_nx (set_ok (d := .int (row.length : Int)) (by simp [encG]))) ?_
    refine res_of (ss_rt ((iff_t (d := .bool true) ?_ rfl).trans (ss_rt (ret_ok (d := encG row) (by simp))))) rfl
    simp [encRs]
    omega
  | n + 1, row, N + 1, hn, h => by
    have hlim : lim = 1000000 := rfl
    have ho := List.getElem?_eq_getElem (show row.length < O.length by omega)
    generalize O[row.length] = o at ho
    have hjo := hwO row.length o ho
    obtain ⟨N', rfl⟩ : ∃ n', N = n' + 2 := ⟨N - 2, by omega⟩
    have hf := fun tg (ht : tg < R.length) => r_fits (N := N') (row := row) hw hl ho (fun j hj => by have := hjo j hj; omega) ht
    have key := loop_find (t := .name 5) (f := fun s' => evSs (Cn (N' + 2)) b_leadings_from_1 s') (enc := fun tg : Nat => .int (tg : Int)) (g := fun tg => (if okT R O e row tg then srch R O e n (row ++ [tg]) else none).map encG)
      (fun s => ∃ a5 a6, s = [some (.sh (encRs R)), some (.sh (encRs O)), some (.sh (encG row)), some (.sh (.tuple [.int (e.1 : Int), .int (e.2 : Int)])), some (.sh (.int (row.length : Int))), a5, a6]) (List.range R.length) [some (.sh (encRs R)), some (.sh (encRs O)), some (.sh (encG row)), some (.sh (.tuple [.int (e.1 : Int), .int (e.2 : Int)])), some (.sh (.int (row.length : Int))), none, none]
      (by
        rintro tg htg s ⟨a5, a6, rfl⟩
        rw [List.mem_range] at htg
        refine ⟨_, b_name _ _ _, ?_⟩
        simp only [List.set_cons_succ, List.set_cons_zero]
        have hok : okT R O e row tg = ((decide (row.length ≠ e.2) || decide (tg = e.1)) && fitB R o (goalOf o row) tg) := by unfold okT; rw [ho]
        have hc : ev (Cn (N' + 2)) (.and (.or (.cmp .NotEq (.var 4) (.idx (.var 3) (.con (.int 1)))) (.cmp .Eq (.var 5) (.idx (.var 3) (.con (.int 0))))) (.call 41 (.cons (.var 0) (.cons (.var 1) (.cons (.var 2) (.cons (.var 4) (.cons (.var 5) .nil))))))) [some (.sh (encRs R)), some (.sh (encRs O)), some (.sh (encG row)), some (.sh (.tuple [.int (e.1 : Int), .int (e.2 : Int)])), some (.sh (.int (row.length : Int))), some (.sh (.int (tg : Int))), a6] = .ok (.bool (okT R O e row tg)) := by
          rw [hok]
          refine ev_and (ev_or (p := decide (row.length ≠ e.2)) (q := decide (tg = e.1)) ?_ fun _ => ?_) fun _ => ?_
          · have : idxD (.tuple [.int (e.1 : Int), .int (e.2 : Int)]) (.int 1) = .ok (.int (e.2 : Int)) := rfl
            simp [this]
            omega
          · have : idxD (.tuple [.int (e.1 : Int), .int (e.2 : Int)]) (.int 0) = .ok (.int (e.1 : Int)) := rfl
            simp [this]
            omega
          · simp [hf tg htg]
        cases hv : okT R O e row tg with
        | false =>
          rw [hv] at hc
          refine ⟨fun d hd => by simp at hd, fun _ => ⟨[some (.sh (encRs R)), some (.sh (encRs O)), some (.sh (encG row)), some (.sh (.tuple [.int (e.1 : Int), .int (e.2 : Int)])), some (.sh (.int (row.length : Int))), some (.sh (.int (tg : Int))), a6], ?_, ⟨_, _, rfl⟩⟩⟩
          rw [b_leadings_from_1]
          exact (ss_nx ((iff_f hc rfl).trans (s_nil' _ _))).trans (s_nil' _ _)
        | true =>
          rw [hv] at hc
          have ih := r_leadings_from hw hwO hl hlO e n (row ++ [tg]) (N' + 2) (by simp; omega) (by omega)
          have e8 := encG_app row tg (by omega)
          simp only [if_true]
          have hset : ev (Cn (N' + 2)) (.call 42 (.cons (.var 0) (.cons (.var 1) (.cons (.bin .Add (.var 2) (.tup (.cons (.var 5) .nil))) (.cons (.var 3) .nil))))) [some (.sh (encRs R)), some (.sh (encRs O)), some (.sh (encG row)), some (.sh (.tuple [.int (e.1 : Int), .int (e.2 : Int)])), some (.sh (.int (row.length : Int))), some (.sh (.int (tg : Int))), a6] = .ok (encOr (srch R O e n (row ++ [tg]))) := by
            simp [e8, ih]
          cases hs : srch R O e n (row ++ [tg]) with
          | none =>
            rw [hs] at hset
            refine ⟨fun d hd => by simp at hd, fun _ => ⟨[some (.sh (encRs R)), some (.sh (encRs O)), some (.sh (encG row)), some (.sh (.tuple [.int (e.1 : Int), .int (e.2 : Int)])), some (.sh (.int (row.length : Int))), some (.sh (.int (tg : Int))), some (.sh (encOr none))], ?_, ⟨_, _, rfl⟩⟩⟩
            rw [b_leadings_from_1]
            refine (ss_nx ((iff_t hc rfl).trans ((ss_nx (set_ok hset)).trans ((ss_nx ((iff_f (d := .bool false) (by simp [encOr, cmpD]) rfl).trans (s_nil' _ _))).trans (s_nil' _ _))))).trans (s_nil' _ _)
          | some row' =>
            rw [hs] at hset
            refine ⟨fun d hd => ?_, fun hd => by simp at hd⟩
            simp at hd
            subst hd
            rw [b_leadings_from_1]
            refine ss_rt ((iff_t hc rfl).trans ((ss_nx (set_ok hset)).trans (ss_rt ((iff_t (d := .bool true) ?_ rfl).trans (ss_rt (ret_ok ?_))))))
            · simp [encOr, encG, cmpD]
            · simp [encOr])
      ⟨_, _, rfl⟩
    rw [findSome_map] at key
    rw [rn_leadings_from, b_leadings_from, srch]
    refine res_of (ss_nx (set_ok (d := .int (row.length : Int)) (by simp [encG]))) ?_
    refine res_of (ss_nx ((iff_f (d := .bool false) ?_ rfl).trans (s_nil' _ _))) ?_
    · simp [encRs]
      omega
    have hI : evI (Cn (N' + 2)) (.rng1 (.bi .len (.var 0))) [some (.sh (encRs R)), some (.sh (encRs O)), some (.sh (encG row)), some (.sh (.tuple [.int (e.1 : Int), .int (e.2 : Int)])), some (.sh (.int (row.length : Int))), none, none] = .ok ((List.range R.length).map fun tg => .int ((tg : Nat) : Int)) :=
      rng1_ok (i := (R.length : Int)) (by simp [encRs]) (rng_range _ (by omega))
    cases hq : (List.range R.length).findSome? fun tg => if okT R O e row tg then srch R O e n (row ++ [tg]) else none with
    | some row' =>
      have := key.1 (encG row') (by rw [hq]; rfl)
      exact res_of (ss_rt ((for_ok hI).trans this)) rfl
    | none =>
      obtain ⟨s', x1, a5, a6, rfl⟩ := key.2 (by rw [hq]; rfl)
      refine res_of (ss_nx ((for_ok hI).trans x1)) ?_
      refine res_of (ss_rt (ret_ok (d := .none) (by simp))) rfl
theorem r_last_number {N : Nat} {p : Pa} (hp : p ≠ []) (h : stL p < N) (hb : stL p ≤ 900) : rn (N + 1) 39 [encP p] = .ok (.int (((lsL p none 0).getD 0 : Nat) : Int)) := by
  have e := r_rows_of N p .none 0 h (by omega)
  have e1 := lsD_enc p none 0
  obtain ⟨i, hi, _⟩ := lsL_ne hp none 0
  rw [hi] at e1
  rw [show (PyData.none) = encA none from rfl, e1] at e
  have e3 : ∀ xs y, idxD (.tuple [xs, y]) (.int 1) = .ok y := fun _ _ => rfl
  have e' : rn N 19 [encP p, .none, .int 0] = .ok (.tuple [.list (rowsL p (encA none) 0), encA (some i)]) := e
  rw [rn_last_number, b_last_number, hi]
  simp [e', e3]
  rfl
theorem r_numbered' {N : Nat} {p : Pa} (h : stL p < N) (hb : stL p ≤ 900) : rn (N + 1) 20 [encP p] = .ok (encRs (R0 p)) := by
  rw [r_numbered N p h (by omega), show (PyData.none) = encA none from rfl, rowsL_enc]
  rfl
theorem r_leading {N : Nat} {one other : Pa} (h1 : one ≠ []) (h2 : other ≠ []) (b1 : stL one ≤ 900) (b2 : stL other ≤ 900) (n1 : stL one + 5 < N) (n2 : stL other + 5 < N) : rn N 43 [encP one, encP other] = .ok (encOr (leadS one other)) := by
  obtain ⟨N', rfl⟩ : ∃ n', N = n' + 2 := ⟨N - 2, by omega⟩
  have e1 := r_numbered' (N := N') (p := one) (by omega) b1
  have e2 := r_numbered' (N := N') (p := other) (by omega) b2
  have e3 := r_last_number (N := N') h1 (by omega) b1
  have e4 := r_last_number (N := N') h2 (by omega) b2
  have e5 := r_leadings_from (R0_wfr one) (R0_wfr other) (by rw [R0_len]; omega) (by rw [R0_len]; omega) (ends one other) (R0 other).length [] (N' + 1) (by simp) (by rw [R0_len]; omega)
  have e5' : rn (N' + 1) 42 [encRs (R0 one), encRs (R0 other), .tuple [], .tuple [.int (((lsL one none 0).getD 0 : Nat) : Int), .int (((lsL other none 0).getD 0 : Nat) : Int)]] = _ := e5
  rw [rn_leading, b_leading]
  simp [e1, e2, e3, e4, e5']
  rfl
theorem r_is_within {N : Nat} {one other : Pa} (h1 : one ≠ []) (h2 : other ≠ []) (b1 : stL one ≤ 900) (b2 : stL other ≤ 900) (n1 : stL one + 6 < N) (n2 : stL other + 6 < N) : rn N 45 [encP one, encP other] = .ok (.bool (within one other)) := by
  obtain ⟨N', rfl⟩ : ∃ n', N = n' + 1 := ⟨N - 1, by omega⟩
  have e1 := r_leading (N := N') h1 h2 b1 b2 (by omega) (by omega)
  rw [rn_is_within, b_is_within]
  simp [e1, isN_encOr, within]
def alikeB (one other : Pa) : Bool := within one other && within other one
theorem r_are_alike {N : Nat} {one other : Pa} (h1 : one ≠ []) (h2 : other ≠ []) (b1 : stL one ≤ 900) (b2 : stL other ≤ 900) (n1 : stL one + 7 < N) (n2 : stL other + 7 < N) : rn N 61 [encP one, encP other] = .ok (.bool (alikeB one other)) := by
  obtain ⟨N', rfl⟩ : ∃ n', N = n' + 1 := ⟨N - 1, by omega⟩
  have e1 := r_is_within (N := N') h1 h2 b1 b2 (by omega) (by omega)
  have e2 := r_is_within (N := N') h2 h1 b2 b1 (by omega) (by omega)
  rw [rn_are_alike, b_are_alike]
  refine res_of (ss_rt (ret_ok (d := .bool (alikeB one other)) ?_)) rfl
  exact ev_and (by simp [e1]) fun _ => by simp [e2]
end Tf
namespace Tf
open PySem
/-! Tm18: equality of data; paths put together; near paths. -/
mutual
def tame : D → Bool
  | .none => true
  | .int _ => true
  | .str _ => true
  | .list xs => tameAll xs
  | .tuple xs => tameAll xs
  | .bool _ => false
  | .dict _ => false
def tameAll : List D → Bool
  | [] => true
  | x :: r => tame x && tameAll r
end
mutual
theorem eqv_tame : ∀ a b : D, tame a = true → tame b = true → (PyData.eqv a b = true ↔ a = b)
  | .none, b, _, _ => by cases b <;> simp [PyData.eqv]
  | .int i, b, _, hb => by
    cases b with
    | bool _ => rw [tame] at hb; cases hb
    | _ => simp [PyData.eqv]
  | .str x, b, _, _ => by cases b <;> simp [PyData.eqv]
  | .list xs, b, ha, _ => by
    cases b with
    | list ys =>
      rename_i hb
      rw [tame] at ha hb
      simp only [PyData.eqv]
      rw [eqvAll_tame xs ys ha hb]; simp
    | _ => simp [PyData.eqv]
  | .tuple xs, b, ha, _ => by
    cases b with
    | tuple ys =>
      rename_i hb
      rw [tame] at ha hb
      simp only [PyData.eqv]
      rw [eqvAll_tame xs ys ha hb]; simp
    | _ => simp [PyData.eqv]
  | .bool _, _, ha, _ => by rw [tame] at ha; cases ha
  | .dict _, _, ha, _ => by rw [tame] at ha; cases ha
theorem eqvAll_tame : ∀ xs ys : List D, tameAll xs = true → tameAll ys = true → (PyData.eqvAll xs ys = true ↔ xs = ys)
  | [], [], _, _ => by simp [PyData.eqvAll]
  | [], _ :: _, _, _ => by simp [PyData.eqvAll]
  | _ :: _, [], _, _ => by simp [PyData.eqvAll]
  | x :: xs, y :: ys, ha, hb => by
    rw [tameAll, Bool.and_eq_true] at ha hb
    rw [PyData.eqvAll, Bool.and_eq_true, eqv_tame x y ha.1 hb.1, eqvAll_tame xs ys ha.2 hb.2]
    simp
end
theorem tameAll_iff (xs : List D) : tameAll xs = true ↔ ∀ x ∈ xs, tame x = true := by
  induction xs with
  | nil => rw [tameAll]; simp
  | cons x r ih => rw [tameAll, Bool.and_eq_true, ih]; simp
theorem tame_map {A : Type} {enc : A → D} {xs : List A} (h : ∀ x ∈ xs, tame (enc x) = true) : tameAll (xs.map enc) = true := by
  rw [tameAll_iff]
  intro x hx
  obtain ⟨a, ha, rfl⟩ := List.mem_map.mp hx
  exact h a ha
theorem tame_tup {A : Type} {enc : A → D} {xs : List A} (h : ∀ x ∈ xs, tame (enc x) = true) : tame (.tuple (xs.map enc)) = true := by rw [tame]; exact tame_map h
theorem tame_I (n : Nd) : tame (encI n) = true := tame_tup fun _ _ => by rw [tame]
theorem tame_W (r : List Nd) : tame (encW r) = true := tame_tup fun n _ => tame_I n
mutual
theorem tame_S : ∀ s : St, tame (encS s) = true
  | .mk w l ts => by
    rw [encS, tame, tameAll, tameAll, tameAll, tameAll, tame, tame, tame, tame_Ps ts]; rfl
theorem tame_L : ∀ p : List St, tameAll (encL p) = true
  | [] => by rw [encL, tameAll]
  | s :: r => by rw [encL, tameAll, tame_S s, tame_L r]; rfl
theorem tame_Ps : ∀ p : List (List St), tameAll (encPs p) = true
  | [] => by rw [encPs, tameAll]
  | s :: r => by rw [encPs, tameAll, tame, tame_L s, tame_Ps r]; rfl
end
theorem tame_P (p : Pa) : tame (encP p) = true := by unfold encP; rw [tame]; exact tame_L p
mutual
theorem tame_T : ∀ t : Tr, tame (encT t) = true
  | .mk l ks => by rw [encT, tame, tameAll, tameAll, tameAll, tame, tame, tame_Ts ks]; rfl
theorem tame_Ts : ∀ ks : List Tr, tameAll (encTs ks) = true
  | [] => by rw [encTs, tameAll]
  | s :: r => by rw [encTs, tameAll, tame_T s, tame_Ts r]; rfl
end
theorem wayS_inj {a b : Bool} (h : wayS a = wayS b) : a = b := by
  cases a <;> cases b <;> first | rfl | exact absurd h (by decide +kernel)
theorem letS_inj {a b : Fin 3} (h : letS a = letS b) : a = b := by
  have := let3_eq a b
  rw [h] at this
  have h2 : (letS b == letS b) = true := by simp
  rw [h2] at this
  exact of_decide_eq_true this.symm
theorem letT_inj {a b : Fin 4} (h : letT a = letT b) : a = b := by
  have h0 : ∀ a b : Fin 4, (letT a == letT b) = decide (a = b) := by decide +kernel
  have := h0 a b
  rw [h] at this
  have h2 : (letT b == letT b) = true := by simp
  rw [h2] at this
  exact of_decide_eq_true this.symm
mutual
theorem encS_inj : ∀ a b : St, encS a = encS b → a = b
  | .mk w l ts, .mk w' l' ts', h => by
    rw [encS, encS] at h
    injection h with h
    injection h with h1 h
    injection h with h2 h
    injection h with h3 h
    injection h1 with h1
    injection h2 with h2
    injection h3 with h3
    rw [wayS_inj h1, letS_inj h2, encPs_inj ts ts' h3]
theorem encL_inj : ∀ a b : List St, encL a = encL b → a = b
  | [], [], _ => rfl
  | [], _ :: _, h => by rw [encL, encL] at h; cases h
  | _ :: _, [], h => by rw [encL, encL] at h; cases h
  | a :: r, b :: q, h => by
    rw [encL, encL] at h
    injection h with h1 h2
    rw [encS_inj a b h1, encL_inj r q h2]
theorem encPs_inj : ∀ a b : List (List St), encPs a = encPs b → a = b
  | [], [], _ => rfl
  | [], _ :: _, h => by rw [encPs, encPs] at h; cases h
  | _ :: _, [], h => by rw [encPs, encPs] at h; cases h
  | a :: r, b :: q, h => by
    rw [encPs, encPs] at h
    injection h with h1 h2
    injection h1 with h1
    rw [encL_inj a b h1, encPs_inj r q h2]
end
theorem encP_inj {a b : Pa} (h : encP a = encP b) : a = b := by
  unfold encP at h
  injection h with h
  exact encL_inj a b h
mutual
theorem encT_inj : ∀ a b : Tr, encT a = encT b → a = b
  | .mk l ks, .mk l' ks', h => by
    rw [encT, encT] at h
    injection h with h
    injection h with h1 h
    injection h with h2 h
    injection h1 with h1
    injection h2 with h2
    rw [letT_inj h1, encTs_inj ks ks' h2]
theorem encTs_inj : ∀ a b : List Tr, encTs a = encTs b → a = b
  | [], [], _ => rfl
  | [], _ :: _, h => by rw [encTs, encTs] at h; cases h
  | _ :: _, [], h => by rw [encTs, encTs] at h; cases h
  | a :: r, b :: q, h => by
    rw [encTs, encTs] at h
    injection h with h1 h2
    rw [encT_inj a b h1, encTs_inj r q h2]
end
theorem map_inj {A B : Type} {f : A → B} (h : ∀ a b, f a = f b → a = b) : ∀ xs ys : List A, xs.map f = ys.map f → xs = ys
  | [], [], _ => rfl
  | [], _ :: _, e => by cases e
  | _ :: _, [], e => by cases e
  | x :: xs, y :: ys, e => by
    simp only [List.map_cons, List.cons.injEq] at e
    rw [h x y e.1, map_inj h xs ys e.2]
theorem encI_inj {a b : Nd} (h : encI a = encI b) : a = b := by
  unfold encI at h
  injection h with h
  exact map_inj (fun a b h => by injection h) a b h
theorem eqv_I (a b : Nd) : PyData.eqv (encI a) (encI b) = decide (a = b) := by
  rw [Bool.eq_iff_iff, eqv_tame _ _ (tame_I a) (tame_I b), decide_eq_true_eq]
  exact ⟨encI_inj, fun h => by rw [h]⟩
theorem in_I (n : Nd) (ns : List Nd) : inD (encI n) (ns.map encI) = decide (n ∈ ns) := by
  unfold inD
  rw [Bool.eq_iff_iff, List.any_map, List.any_eq_true, decide_eq_true_eq]
  constructor
  · rintro ⟨x, hx, h⟩
    simp only [Function.comp_apply, eqv_I, decide_eq_true_eq] at h
    rw [← h]; exact hx
  · intro h
    exact ⟨n, h, by simp [eqv_I]⟩
theorem cmp_In (n : Nd) (ns : List Nd) : cmpD .In (encI n) (.tuple (ns.map encI)) = .ok (decide (n ∈ ns)) := by
  have := depth_encI n
  show (if (encI n).depth ≤ 190 then _ else _) = _
  rw [if_pos (by omega), in_I]
theorem cmp_NotIn (n : Nd) (ns : List Nd) : cmpD .NotIn (encI n) (.tuple (ns.map encI)) = .ok (!decide (n ∈ ns)) := by
  have := depth_encI n
  show (if (encI n).depth ≤ 190 then _ else _) = _
  rw [if_pos (by omega), in_I]
theorem cmp_same {a : D} (h : a.depth ≤ 190) (ht : tame a = true) : cmpD .Eq a a = .ok true ∧ cmpD .NotEq a a = .ok false := by
  have hn : near a a = true := by simp [near]; exact h
  have he : PyData.eqv a a = true := (eqv_tame a a ht ht).mpr rfl
  rw [cmp_Eq, cmp_Ne, if_pos hn, if_pos hn, he]
  exact ⟨rfl, rfl⟩
theorem cmp_tame {a b : D} (h : min a.depth b.depth ≤ 190) (ha : tame a = true) (hb : tame b = true) : ∃ t, cmpD .Eq a b = .ok t ∧ cmpD .NotEq a b = .ok (!t) ∧ (t = true ↔ a = b) := by
  have hn : near a b = true := by simp only [near, decide_eq_true_eq]; exact h
  refine ⟨PyData.eqv a b, ?_, ?_, eqv_tame a b ha hb⟩
  · rw [cmp_Eq, if_pos hn]
  · rw [cmp_Ne, if_pos hn]
/-! ### how deep -/
theorem depth_P : ∀ (j : Nat) (p : Pa), stL p ≤ j → (encP p).depth ≤ 3 * j + 1
  | 0, p, h => by
    have := len_le_st p
    have : p = [] := List.length_eq_zero_iff.mp (by omega)
    subst this
    rw [encP_eq]; simp [PyData.depth, PyData.depthAll]
  | j + 1, p, h => by
    rw [encP_eq]
    have : PyData.depthAll (p.map encS) ≤ 3 * j + 3 := depthAll_le _ fun x hx => by
      obtain ⟨s, hs, rfl⟩ := List.mem_map.mp hx
      cases s with
      | mk w l ts =>
        rw [encS_eq]
        have h1 : PyData.depthAll (ts.map encP) ≤ 3 * j + 1 := depthAll_le _ fun y hy => by
          obtain ⟨q, hq, rfl⟩ := List.mem_map.mp hy
          have := st_in (s := .mk w l ts) hs hq
          exact depth_P j q (by omega)
        simp only [PyData.depth, PyData.depthAll]; omega
    simp only [PyData.depth]; omega
theorem depth_T : ∀ (j : Nat) (t : Tr), szT t ≤ j → (encT t).depth ≤ 2 * j + 1
  | 0, t, h => by have := sz_pos t; omega
  | j + 1, t, h => by
    cases t with
    | mk l ks =>
      rw [encT_eq]
      have h1 : PyData.depthAll (ks.map encT) ≤ 2 * j + 1 := depthAll_le _ fun y hy => by
        obtain ⟨q, hq, rfl⟩ := List.mem_map.mp hy
        have := sz_mem (t := .mk l ks) hq
        exact depth_T j q (by omega)
      simp only [PyData.depth, PyData.depthAll]; omega
/-! ### alike -/
mutual
theorem alike_S : ∀ a b : St, PySem.W.alike (encS a) (encS b) = true
  | .mk w l ts, .mk w' l' ts' => by
    rw [encS, encS, PySem.W.alike, PySem.W.alikeAll, PySem.W.alikeAll, PySem.W.alikeAll, PySem.W.alikeAll, PySem.W.alike, PySem.W.alike, PySem.W.alike, alike_Ps ts ts']; rfl
theorem alike_L : ∀ a b : List St, PySem.W.alikeAll (encL a) (encL b) = true
  | [], b => by rw [encL]; simp [PySem.W.alikeAll]
  | _ :: _, [] => by rw [encL, encL]; simp [PySem.W.alikeAll]
  | a :: r, b :: q => by rw [encL, encL, PySem.W.alikeAll, alike_S a b, alike_L r q]; rfl
theorem alike_Ps : ∀ a b : List (List St), PySem.W.alikeAll (encPs a) (encPs b) = true
  | [], b => by rw [encPs]; simp [PySem.W.alikeAll]
  | _ :: _, [] => by rw [encPs, encPs]; simp [PySem.W.alikeAll]
  | a :: r, b :: q => by rw [encPs, encPs, PySem.W.alikeAll, PySem.W.alike, alike_L a b, alike_Ps r q]; rfl
end
theorem alike_P (a b : Pa) : PySem.W.alike (encP a) (encP b) = true := by
  unfold encP; rw [PySem.W.alike]; exact alike_L a b
mutual
theorem alike_T : ∀ a b : Tr, PySem.W.alike (encT a) (encT b) = true
  | .mk l ts, .mk l' ts' => by
    rw [encT, encT, PySem.W.alike, PySem.W.alikeAll, PySem.W.alikeAll, PySem.W.alikeAll, PySem.W.alike, PySem.W.alike, alike_Ts ts ts']; rfl
theorem alike_Ts : ∀ a b : List Tr, PySem.W.alikeAll (encTs a) (encTs b) = true
  | [], b => by rw [encTs]; simp [PySem.W.alikeAll]
  | _ :: _, [] => by rw [encTs, encTs]; simp [PySem.W.alikeAll]
  | a :: r, b :: q => by rw [encTs, encTs, PySem.W.alikeAll, alike_T a b, alike_Ts r q]; rfl
end
/-! ### with_test, behind, turned_in -/
def leP (a b : Pa) : Bool := leD (encP a) (encP b)
def sortP (ts : List Pa) : List Pa := ts.mergeSort leP
theorem srt_P (ts : List Pa) (h : ∀ q ∈ ts, stL q ≤ 40) (hl : ts.length ≤ 1000) : srtD (ts.map encP) = .ok ((sortP ts).map encP) := by
  have hlim : lim = 1000000 := rfl
  rw [srt_enc encP alike_P ts (fun q hq => by have := depth_P 40 q (h q hq); omega) (fun _ _ => rfl) (by omega)]
  congr 1
  exact (List.map_mergeSort (r := leP) (s := leD) (f := encP) (fun a _ b _ => rfl)).symm
def wtS (s : St) (q : Pa) : St := .mk s.w s.l (sortP (s.ts ++ [q]))
def wtP (p q : Pa) : Pa := match p.getLast? with
  | some s => p.dropLast ++ [wtS s q]
  | none => []
theorem wtP_app (r : Pa) (s : St) (q : Pa) : wtP (r ++ [s]) q = r ++ [wtS s q] := by simp [wtP]
theorem idx_last (xs : List D) (x : D) : idxD (.tuple (xs ++ [x])) (.int (-1)) = .ok x := by
  show (match L2.atI (xs ++ [x]) (-1) with | some d => R.ok d | none => .fail) = _
  rw [L2.atI_last]
theorem pa_last {p : Pa} (h : p ≠ []) : ∃ r s, p = r ++ [s] := ⟨p.dropLast, p.getLast h, (List.dropLast_concat_getLast h).symm⟩
theorem r_with_test {N : Nat} {p q : Pa} (hp : p ≠ []) (b1 : stL p ≤ 40) (b2 : stL q ≤ 40) (hw : wgL p = true) : rn (N + 1) 75 [encP p, encP q] = .ok (encP (wtP p q)) := by
  have hlim : lim = 1000000 := rfl
  obtain ⟨r, s, rfl⟩ := pa_last hp
  have hs : s ∈ r ++ [s] := by simp
  have hts := ts_len hs hw
  have hrl := len_le_st (r ++ [s])
  rw [List.length_append] at hrl
  have e1 : idxD (encP (r ++ [s])) (.int (-1)) = .ok (encS s) := by
    rw [encP_eq, List.map_append]
    exact idx_last _ _
  have e2 : slcD none (some (-1)) (encP (r ++ [s])) = .ok (.tuple (r.map encS)) := by
    rw [encP_eq, slcT, cut_front, List.map_append, List.map_singleton, List.dropLast_concat]
  have e3 := srt_P (s.ts ++ [q]) (fun x hx => by
    rcases List.mem_append.mp hx with h | h
    · have := st_in hs h; omega
    · simp at h; subst h; exact b2) (by simp; omega)
  have e4 := b_tup (s.ts.map encP) [encP q] (by simp; omega)
  rw [← List.map_singleton (f := encP), ← List.map_append] at e4
  rw [wtP_app]
  rw [rn_with_test, b_with_test]
  cases s with
  | mk w l ts =>
    simp only [St.ts] at e3 e4
    refine res_of (ss_nx (s' := [some (.sh (encP (r ++ [.mk w l ts]))), some (.sh (encP q)), some (.sh (.str (wayS w))), some (.sh (.str (letS l))), some (.sh (.tuple (ts.map encP)))]) ?_) ?_
    · simp [negD, e1, encS_eq]
    · refine res_of (ss_rt (ret_ok (d := encP (r ++ [wtS (.mk w l ts) q])) ?_)) rfl
      have e5 := b_tup (r.map encS) [encS (wtS (.mk w l ts) q)] (by simp at hrl ⊢; omega)
      simp only [List.map_cons, List.map_nil] at e4
      simp only [e_bin, e_slc, e_var, List.getElem?_cons_zero, List.getElem?_cons_succ, R.bind_ok, eo_no, eo_yes, e_neg, e_con, negD, i_of, e2, e_tup, es_cons', es_nil', e_bi, e_lst, el_srt, e4, sq_tup, e3, bi_tup]
      rw [show (PyData.tuple [.str (wayS w), .str (letS l), .tuple ((sortP (ts ++ [q])).map encP)]) = encS (wtS (.mk w l ts) q) by rw [wtS, encS_eq]; rfl, e5, encP_eq]
      simp
theorem r_behind {N : Nat} {p q : Pa} (b1 : stL p ≤ 1000) (b2 : stL q ≤ 1000) : rn (N + 1) 74 [encP p, encP q] = .ok (encP (p ++ q)) := by
  have hlim : lim = 1000000 := rfl
  have h1 := len_le_st p
  have h2 := len_le_st q
  have e4 := b_tup (p.map encS) (q.map encS) (by simp; omega)
  rw [← List.map_append, ← encP_eq, ← encP_eq, ← encP_eq] at e4
  rw [rn_behind, b_behind]
  simp [e4]
mutual
def tiS : St → St
  | .mk _ l ts => .mk true l (tiPs ts)
def tiL : List St → List St
  | [] => []
  | s :: r => tiS s :: tiL r
def tiPs : List (List St) → List (List St)
  | [] => []
  | p :: r => tiL p :: tiPs r
end
theorem tiL_eq (p : Pa) : tiL p = p.map tiS := by
  induction p with
  | nil => rw [tiL]; rfl
  | cons s r ih => rw [tiL, ih]; rfl
theorem tiPs_eq (p : List Pa) : tiPs p = p.map tiL := by
  induction p with
  | nil => rw [tiPs]; rfl
  | cons s r ih => rw [tiPs, ih]; rfl
mutual
theorem ti_stS : ∀ s : St, stS (tiS s) = stS s
  | .mk w l ts => by rw [tiS, stS, stS, ti_stPs ts]
theorem ti_stL : ∀ p : List St, stL (tiL p) = stL p
  | [] => by rw [tiL]
  | s :: r => by rw [tiL, stL, stL, ti_stS s, ti_stL r]
theorem ti_stPs : ∀ p : List (List St), stPs (tiPs p) = stPs p
  | [] => by rw [tiPs]
  | s :: r => by rw [tiPs, stPs, stPs, ti_stL s, ti_stPs r]
end
theorem r_turned_in : ∀ (N : Nat) (p : Pa), wgL p = true → stL p ≤ 900 → stL p < N → rn N 76 [encP p] = .ok (encP (tiL p))
  | 0, p, _, _, h => by omega
  | N + 1, p, hw, hb, hN => by
    have hlim : lim = 1000000 := rfl
    have hl := len_le_st p
    rw [rn_turned_in, b_turned_in]
    refine res_of (ss_rt (ret_ok (d := encP (tiL p)) ?_)) rfl
    rw [e_bi, e_lst, comp_map (xs := p) (enc := encS) (g := fun s => encS (tiS s))]
    · rw [R.bind_ok, R.bind_ok, bi_tup, encP_eq, tiL_eq, List.map_map]; rfl
    · simp [encP_eq]
    · omega
    · intro s hs
      cases s with
      | mk w l ts =>
        have hts := ts_len hs hw
        simp only [St.ts] at hts
        refine ⟨[some (.sh (encP p)), some (.sh (.str (wayS w))), some (.sh (.str (letS l))), some (.sh (.tuple (ts.map encP))), none], by simp [encS_eq], ?_⟩
        have hc : evL (Cn N) (.comp (.name 4) (.seq (.var 3)) .no (.call 76 (.cons (.var 4) .nil))) [some (.sh (encP p)), some (.sh (.str (wayS w))), some (.sh (.str (letS l))), some (.sh (.tuple (ts.map encP))), none] = .ok (ts.map fun q => encP (tiL q)) := by
          refine comp_map (enc := encP) (by simp) (by omega) fun q hq => ?_
          have h1 := st_in (s := .mk w l ts) hs hq
          obtain ⟨_, _, k3⟩ := wgP_inv (wg_mem (s := .mk w l ts) hw hs hq)
          have := r_turned_in N q k3 (by omega) (by omega)
          exact ⟨_, b_name _ _ _, by simp [this]⟩
        rw [tiS, tiPs_eq, encS_eq, List.map_map]
        simp only [e_tup, es_cons', es_nil', e_con, e_var, List.getElem?_cons_zero, List.getElem?_cons_succ, R.bind_ok, e_bi, e_lst, hc, bi_tup]
        rfl
end Tf
namespace Tf
open PySem
/-! Tm19: near paths. -/
theorem stL_cat (p q : Pa) : stL (p ++ q) = stL p + stL q := by rw [stL_eq, stL_eq, stL_eq]; simp
theorem wfL_cat (p q : Pa) : wfL (p ++ q) = (wfL p && wfL q) := by rw [wfL_eq, wfL_eq, wfL_eq]; simp
theorem stPs_cat (p q : List Pa) : stPs (p ++ q) = stPs p + stPs q := by rw [stPs_eq, stPs_eq, stPs_eq]; simp
theorem wfPs_cat (p q : List Pa) : wfPs (p ++ q) = (wfPs p && wfPs q) := by rw [wfPs_eq, wfPs_eq, wfPs_eq]; simp
def repl (p : Pa) (i : Nat) (s : St) : Pa := p.take i ++ [s] ++ p.drop (i + 1)
theorem split_at {p : Pa} {i : Nat} {s : St} (h : p[i]? = some s) : p = p.take i ++ [s] ++ p.drop (i + 1) := by
  obtain ⟨hi, rfl⟩ := List.getElem?_eq_some_iff.mp h
  simp
theorem repl_st {p : Pa} {i : Nat} {s s' : St} (h : p[i]? = some s) : stL (repl p i s') + stS s = stL p + stS s' := by
  have h1 := congrArg stL (split_at h)
  have e1 : ∀ s : St, stL [s] = stS s := fun s => by rw [stL, stL]; rfl
  unfold repl
  rw [stL_cat, stL_cat, e1] at h1 ⊢
  omega
theorem repl_len {p : Pa} {i : Nat} {s s' : St} (h : p[i]? = some s) : (repl p i s').length = p.length := by
  have h1 := congrArg List.length (split_at h)
  unfold repl
  simp only [List.length_append, List.length_singleton] at h1 ⊢
  omega
theorem repl_wf {p : Pa} {i : Nat} {s s' : St} (h : p[i]? = some s) (hw : wfP p = true) (hs : wfS s' = true) : wfP (repl p i s') = true := by
  obtain ⟨w1, w2, w3⟩ := wfP_inv hw
  have hl := repl_len (s' := s') h
  rw [split_at h, wfL_cat, wfL_cat, Bool.and_eq_true, Bool.and_eq_true] at w3
  have : wfL (repl p i s') = true := by
    unfold repl
    rw [wfL_cat, wfL_cat, w3.1.1, w3.2, wfL, hs, wfL]; rfl
  unfold wfP
  rw [this, hl]
  simp [w1, w2]
theorem wfP_of {p : Pa} (h1 : 1 ≤ p.length) (h2 : p.length ≤ 3) (h3 : wfL p = true) : wfP p = true := by unfold wfP; simp [h1, h2, h3]
theorem wfS_of {w : Bool} {l : Fin 3} {ts : List Pa} (h1 : ts.length ≤ 2) (h2 : ts.all wfP = true) : wfS (.mk w l ts) = true := by
  rw [wfS_eq]; simp only [St.ts]; rw [h2]; simp [h1]
theorem wfL_get {p : Pa} {i : Nat} {s : St} (h : p[i]? = some s) (hw : wfL p = true) : s.ts.length ≤ 2 ∧ s.ts.all wfP = true := mem_wfL hw (List.mem_of_getElem? h)
/-- a path of no more steps -/
theorem r_short_near {N : Nat} {p : Pa} {c : Int} (hw : wfP p = true) (hb : stL p ≤ 100) : ∃ q, rn (N + 2) 50 [encP p, .int c] = .ok (encP q) ∧ wfP q = true ∧ stL q ≤ stL p := by
  have hlim : lim = 1000000 := rfl
  obtain ⟨w1, w2, w3⟩ := wfP_inv hw
  have e1 := r_mix N c 9829 2 (by omega) (by omega) (by omega)
  rw [rn_law_short_near, b_law_short_near]
  by_cases h0 : mix c 9829 2 = 0
  · match p, w1, w2, w3 with
    | .mk w l ts :: r, w1, w2, w3 =>
      refine ⟨.mk true l ts :: r, ?_, ?_, ?_⟩
      · refine res_of (ss_rt ((iff_t (d := .bool true) (by simp [e1, h0]) rfl).trans (ss_rt (ret_ok (d := encP (.mk true l ts :: r)) ?_)))) rfl
        have e2 : idxD (encP (.mk w l ts :: r)) (.int 0) = .ok (encS (.mk w l ts)) := by rw [encP_cons, idx0]
        have e3 : slcD (some 1) none (encP (.mk w l ts :: r)) = .ok (.tuple (r.map encS)) := by
          rw [encP_eq, slcT, show (1 : Int) = ((1 : Nat) : Int) from rfl, cut_drop]; rfl
        have e4 : slcD (some 1) none (encS (.mk w l ts)) = .ok (.tuple [.str (letS l), .tuple (ts.map encP)]) := by
          rw [encS_eq, slcT, show (1 : Int) = ((1 : Nat) : Int) from rfl, cut_drop]; rfl
        have e5 := b_tup [.str "deep"] [.str (letS l), .tuple (ts.map encP)] (by simp; omega)
        have e6 := b_tup [encS (.mk true l ts)] (r.map encS) (by simp at w2 ⊢; omega)
        have e7 : (PyData.tuple ([.str "deep"] ++ [.str (letS l), .tuple (ts.map encP)])) = encS (.mk true l ts) := by rw [encS_eq]; rfl
        simp only [e_bin, e_tup, es_cons', es_nil', e_con, R.bind_ok, e_slc, e_idx, e_var, List.getElem?_cons_zero, e2, eo_yes, i_of, eo_no, e4, e5, e3, e7, e6]
        rw [encP_cons]; rfl
      · rw [wfL, Bool.and_eq_true] at w3
        refine wfP_of (by simp) (by simpa using w2) ?_
        rw [wfL, w3.2, Bool.and_true]
        have := w3.1
        rw [wfS] at this ⊢
        exact this
      · rw [stL, stL, stS, stS]; omega
  · refine ⟨if 1 < p.length then p.dropLast else p, ?_, ?_, ?_⟩
    · refine res_of (ss_nx ((iff_f (d := .bool false) (by simp [e1, h0]) rfl).trans (s_nil' _ _))) ?_
      refine res_of (ss_rt (ret_ok (d := encP (if 1 < p.length then p.dropLast else p)) ?_)) rfl
      have e3 : slcD none (some (-1)) (encP p) = .ok (encP p.dropLast) := by
        rw [encP_eq, slcT, cut_front, encP_eq, List.map_dropLast]
      have e4 : biD .len (encP p) = .ok (.int p.length) := by rw [encP_eq]; simp
      by_cases h1 : 1 < p.length
      · have h1' : (1 : Int) < (p.length : Int) := by omega
        rw [if_pos h1]
        simp [e4, h1', negD, e3]
      · have h1' : ¬ (1 : Int) < (p.length : Int) := by omega
        rw [if_neg h1]
        simp [e4, h1']
    · by_cases h1 : 1 < p.length
      · rw [if_pos h1]
        refine wfP_of (by simp; omega) (by simp; omega) ?_
        rw [wfL_eq, List.all_eq_true] at w3 ⊢
        exact fun s hs => w3 s (List.dropLast_subset p hs)
      · rw [if_neg h1]; exact hw
    · by_cases h1 : 1 < p.length
      · rw [if_pos h1]
        have hne : p ≠ [] := fun e => by subst e; simp at h1
        have := congrArg stL (List.dropLast_concat_getLast hne)
        rw [stL_cat] at this
        omega
      · rw [if_neg h1]; exact Nat.le_refl _
theorem ev_repl {C : EvC} {s : Sd} {p : Pa} {i : Nat} {e : E} {st : St} (h0 : s[0]? = some (some (.sh (encP p)))) (h3 : s[3]? = some (some (.sh (.int (i : Int))))) (hl : p.length ≤ 1000) (he : ev C e s = .ok (encS st)) :
    ev C (.bin .Add (.bin .Add (.slc (.var 0) .no (.yes (.var 3))) (.tup (.cons e .nil))) (.slc (.var 0) (.yes (.bin .Add (.var 3) (.con (.int 1)))) .no)) s = .ok (encP (repl p i st)) := by
  have hlim : lim = 1000000 := rfl
  have e1 : slcD none (some (i : Int)) (encP p) = .ok (.tuple ((p.take i).map encS)) := by
    rw [encP_eq, slcT, cut_take, List.map_take]
  have e2 : slcD (some ((i : Int) + 1)) none (encP p) = .ok (.tuple ((p.drop (i + 1)).map encS)) := by
    rw [encP_eq, slcT, show (i : Int) + 1 = ((i + 1 : Nat) : Int) by omega, cut_drop, List.map_drop]
  have e3 := b_tup ((p.take i).map encS) [encS st] (by simp; omega)
  have e4 := b_tup ((p.take i).map encS ++ [encS st]) ((p.drop (i + 1)).map encS) (by simp; omega)
  simp only [e_bin, e_slc, e_var, h0, h3, R.bind_ok, eo_no, eo_yes, i_of, e1, e_tup, es_cons', he, es_nil', e3, e_con, b_add, e2, e4]
  congr 1
  rw [encP_eq]
  unfold repl
  simp
theorem ex_res {o o' : Out} {P : Pa → Prop} (h : o = o') (h2 : ∃ q, o'.res = .ok (encP q) ∧ P q) : ∃ q, o.res = .ok (encP q) ∧ P q := by rw [h]; exact h2
theorem in45 (i : Int) : cmpD .In (.int i) (.tuple [.int 4, .int 5]) = .ok (decide (i = 4 ∨ i = 5)) := by
  have : inD (.int i) [.int 4, .int 5] = decide (i = 4 ∨ i = 5) := by
    simp [inD, eqv_int]
    rw [Bool.eq_iff_iff]
    simp
    omega
  show (if (PyData.int i).depth ≤ 190 then R.ok (inD (.int i) [.int 4, .int 5]) else .fail) = _
  rw [if_pos (by simp [PyData.depth]), this]
theorem tame_tupP (ts : List Pa) : tame (.tuple (ts.map encP)) = true := tame_tup fun p _ => tame_P p
theorem depth_tupP {ts : List Pa} {j : Nat} (h : ∀ q ∈ ts, stL q ≤ j) : (PyData.tuple (ts.map encP)).depth ≤ 3 * j + 2 := by
  have h1 : PyData.depthAll (ts.map encP) ≤ 3 * j + 1 := depthAll_le _ fun y hy => by
    obtain ⟨q, hq, rfl⟩ := List.mem_map.mp hy
    exact depth_P j q (h q hq)
  simp only [PyData.depth]; omega
theorem r_near {N : Nat} {p : Pa} {c : Int} (hw : wfP p = true) (hb : stL p ≤ 7) (hN : 12 < N) : ∃ q, rn N 49 [encP p, .int c] = .ok (encP q) ∧ wfP q = true ∧ stL q ≤ 7 := by
  have hlim : lim = 1000000 := rfl
  obtain ⟨w1, w2, w3⟩ := wfP_inv hw
  obtain ⟨N', rfl⟩ : ∃ n', N = n' + 3 := ⟨N - 3, by omega⟩
  have e1 := r_mix (N' + 1) c 9871 7 (by omega) (by omega) (by omega)
  have e2 := r_mix (N' + 1) c 9859 p.length (by omega) (by omega) (by omega)
  have m1 := mix_lo c 9859 p.length (by omega)
  have m2 := mix_hi c 9859 p.length (by omega)
  generalize mix c 9871 7 = wy at e1
  obtain ⟨i, hi⟩ : ∃ i : Nat, mix c 9859 p.length = (i : Int) := ⟨(mix c 9859 p.length).toNat, by omega⟩
  rw [hi] at e2 m1 m2
  have hil : i < p.length := by omega
  have hg := List.getElem?_eq_getElem hil
  generalize p[i] = s at hg
  cases s with
  | mk w l ts =>
  obtain ⟨t1, t2⟩ := wfL_get hg w3
  simp only [St.ts] at t1 t2
  have hsp : St.mk w l ts ∈ p := List.mem_of_getElem? hg
  have hst : ∀ q ∈ ts, stL q < stL p := fun q hq => st_in (s := .mk w l ts) hsp hq
  have hss : stS (.mk w l ts) = 1 + stPs ts := by rw [stS]
  have elen : biD .len (encP p) = .ok (.int p.length) := by rw [encP_eq]; simp
  have eidx : idxD (encP p) (.int (i : Int)) = .ok (encS (.mk w l ts)) := by
    rw [encP_eq]
    refine idx_nat ?_
    rw [List.getElem?_map, hg]; rfl
  rw [rn_law_near, b_law_near]
  have sz : ∀ ts' : List Pa, stPs ts' + stL p ≤ 7 + stPs ts → ∀ w' l', stL (repl p i (.mk w' l' ts')) ≤ 7 := by
    intro ts' h w' l'
    have := repl_st (s' := .mk w' l' ts') hg
    rw [hss, stS] at this
    omega
  have wfr' : ∀ ts' : List Pa, ts'.length ≤ 2 → ts'.all wfP = true → ∀ w' l', wfP (repl p i (.mk w' l' ts')) = true := fun ts' h1 h2 w' l' => repl_wf hg hw (wfS_of h1 h2)
  refine ex_res (ss_nx (set_ok (d := .int wy) (by simp [e1]))) ?_
  refine ex_res (ss_nx (set_ok (d := .int (i : Int)) (by simp [elen, e2]))) ?_
  refine ex_res (ss_nx (s' := [some (.sh (encP p)), some (.sh (.int c)), some (.sh (.int wy)), some (.sh (.int (i : Int))), none, some (.sh (.str (wayS w))), some (.sh (.str (letS l))), some (.sh (.tuple (ts.map encP)))]) (by simp [eidx, encS_eq])) ?_
  by_cases h0 : wy = 0
  · refine ⟨repl p i (.mk true l ts), ?_, wfr' ts t1 t2 true l, sz ts (by omega) true l⟩
    refine res_of (ss_rt ((iff_t (d := .bool true) (by simp [h0]) rfl).trans (ss_rt (ret_ok (ev_repl rfl rfl (by omega) ?_))))) rfl
    simp [encS_eq, wayS]
  refine ex_res (ss_nx ((iff_f (d := .bool false) (by simp [h0]) rfl).trans (s_nil' _ _))) ?_
  by_cases h1 : wy = 1
  · have e3 : slcD none (some (-1)) (.tuple (ts.map encP)) = .ok (.tuple (ts.dropLast.map encP)) := by
      rw [slcT, cut_front, List.map_dropLast]
    refine ⟨repl p i (.mk w l ts.dropLast), ?_, wfr' _ (by simp; omega) ?_ w l, sz _ ?_ w l⟩
    · refine res_of (ss_rt ((iff_t (d := .bool true) (by simp [h1]) rfl).trans (ss_rt (ret_ok (ev_repl rfl rfl (by omega) ?_))))) rfl
      simp [encS_eq, negD, e3]
    · rw [List.all_eq_true] at t2 ⊢
      exact fun q hq => t2 q (List.dropLast_subset ts hq)
    · cases hts : ts with
      | nil => simp; omega
      | cons a b =>
        have hne : ts ≠ [] := by rw [hts]; simp
        have := congrArg stPs (List.dropLast_concat_getLast hne)
        rw [stPs_cat] at this
        rw [← hts]
        omega
  refine ex_res (ss_nx ((iff_f (d := .bool false) (by simp [h1]) rfl).trans (s_nil' _ _))) ?_
  by_cases h2 : wy = 2 ∧ 1 < p.length
  · obtain ⟨h2, h3⟩ := h2
    have h3' : (1 : Int) < (p.length : Int) := by omega
    have hsp2 := split_at hg
    have hl2 := congrArg List.length hsp2
    have hs2 := congrArg stL hsp2
    have hw2 := w3
    rw [hsp2, wfL_cat, wfL_cat, Bool.and_eq_true, Bool.and_eq_true] at hw2
    rw [stL_cat, stL_cat] at hs2
    simp only [List.length_append, List.length_singleton] at hl2
    refine ⟨p.take i ++ p.drop (i + 1), ?_, wfP_of ?_ ?_ ?_, ?_⟩
    · refine res_of (ss_rt ((iff_t (d := .bool true) ?_ rfl).trans (ss_rt (ret_ok (d := encP (p.take i ++ p.drop (i + 1))) ?_)))) rfl
      · rw [and_t (by simp [h2])]
        simp [elen, h3']
      · have q1 : slcD none (some (i : Int)) (encP p) = .ok (.tuple ((p.take i).map encS)) := by
          rw [encP_eq, slcT, cut_take, List.map_take]
        have q2 : slcD (some ((i : Int) + 1)) none (encP p) = .ok (.tuple ((p.drop (i + 1)).map encS)) := by
          rw [encP_eq, slcT, show (i : Int) + 1 = ((i + 1 : Nat) : Int) by omega, cut_drop, List.map_drop]
        have q4 := b_tup ((p.take i).map encS) ((p.drop (i + 1)).map encS) (by simp; omega)
        simp only [e_bin, e_slc, e_var, List.getElem?_cons_zero, List.getElem?_cons_succ, R.bind_ok, eo_no, eo_yes, i_of, q1, e_con, b_add, q2, q4]
        rw [encP_eq, List.map_append]
    · rw [List.length_append]; omega
    · rw [List.length_append]; omega
    · rw [wfL_cat, hw2.1.1, hw2.2]; rfl
    · rw [stL_cat]; omega
  refine ex_res (ss_nx ((iff_f (d := .bool false) ?_ rfl).trans (s_nil' _ _))) ?_
  · by_cases h2' : wy = 2
    · have h3 : ¬ (1 : Int) < (p.length : Int) := by have : ¬ 1 < p.length := fun z => h2 ⟨h2', z⟩; omega
      rw [and_t (by simp [h2'])]
      simp [elen, h3]
    · exact and_f (by simp [h2'])
  by_cases h3 : wy = 3
  · refine ⟨repl p i (.mk w l ts.reverse), ?_, wfr' _ (by simp; omega) (by rw [List.all_reverse]; exact t2) w l, sz _ (by rw [stPs_eq, stPs_eq, List.map_reverse, List.sum_reverse]; omega) w l⟩
    refine res_of (ss_rt ((iff_t (d := .bool true) (by simp [h3]) rfl).trans (ss_rt (ret_ok (ev_repl rfl rfl (by omega) ?_))))) rfl
    simp [encS_eq, revD]
  refine ex_res (ss_nx ((iff_f (d := .bool false) (by simp [h3]) rfl).trans (s_nil' _ _))) ?_
  refine ex_res (ss_nx (set_ok (d := .tuple (ts.map encP)) (by simp))) ?_
  simp only [List.set_cons_succ, List.set_cons_zero]
  have tst : ∀ q ∈ ts, wfP q = true := List.all_eq_true.mp t2
  have nilT : ∀ xs : List Pa, cmpD .NotEq (.tuple (xs.map encP)) (.tuple []) = .ok (!xs.isEmpty) := fun xs => by rw [c_neNil]; simp
  have idT : ∀ (x : Pa) (xs : List Pa), idxD (.tuple ((x :: xs).map encP)) (.int 0) = .ok (encP x) := fun x xs => by rw [List.map_cons, idx0]
  -- the last two statements
  have fin : ∀ ts' : List Pa, ts'.length ≤ 2 → ts'.all wfP = true → stPs ts' + stL p ≤ 7 + stPs ts → ∃ q, (evSs (Cn (N' + 2)) (.cons (.iff (.and (.cmp .In (.var 2) (.tup (.cons (.con (.int 4)) (.cons (.con (.int 5)) .nil)))) (.cmp .NotEq (.var 4) (.var 7))) (.cons (.ret (.bin .Add (.bin .Add (.slc (.var 0) .no (.yes (.var 3))) (.tup (.cons (.tup (.cons (.var 5) (.cons (.var 6) (.cons (.var 4) .nil)))) .nil))) (.slc (.var 0) (.yes (.bin .Add (.var 3) (.con (.int 1)))) .no))) .nil) .nil) (.cons (.ret (.call 8 (.cons (.bin .Add (.var 1) (.con (.int 1))) (.cons (.con (.int 7)) .nil)))) .nil)) [some (.sh (encP p)), some (.sh (.int c)), some (.sh (.int wy)), some (.sh (.int (i : Int))), some (.sh (.tuple (ts'.map encP))), some (.sh (.str (wayS w))), some (.sh (.str (letS l))), some (.sh (.tuple (ts.map encP)))]).res = .ok (encP q) ∧ wfP q = true ∧ stL q ≤ 7 := by
    intro ts' g1 g2 g3
    have hd : (PyData.tuple (ts.map encP)).depth ≤ 190 := by
      have := depth_tupP (ts := ts) (j := 7) fun q hq => by have := hst q hq; omega
      omega
    obtain ⟨t, _, c2, c3⟩ := cmp_tame (a := .tuple (ts'.map encP)) (b := .tuple (ts.map encP)) (by omega) (tame_tupP _) (tame_tupP _)
    by_cases hh : (wy = 4 ∨ wy = 5) ∧ t = false
    · refine ⟨repl p i (.mk w l ts'), ?_, wfr' ts' g1 g2 w l, sz ts' g3 w l⟩
      refine res_of (ss_rt ((iff_t (d := .bool true) ?_ rfl).trans (ss_rt (ret_ok (ev_repl rfl rfl (by omega) ?_))))) rfl
      · rw [and_t (by simp [in45, hh.1])]
        simp [c2, hh.2]
      · simp [encS_eq]
    · obtain ⟨q, k1, k2, k3⟩ := r_path (N' + 2) (c + 1) 7 (by omega) (by omega) (by omega)
      refine ⟨q, ?_, k2, by omega⟩
      refine res_of (ss_nx ((iff_f (d := .bool false) ?_ rfl).trans (s_nil' _ _))) ?_
      · by_cases hh2 : wy = 4 ∨ wy = 5
        · have : t = true := by cases t with | true => rfl | false => exact absurd ⟨hh2, rfl⟩ hh
          rw [and_t (by simp [in45, hh2])]
          simp [c2, this]
        · exact and_f (by simp [in45, hh2])
      · refine res_of (ss_rt (ret_ok (d := encP q) (by simp [k1]))) rfl
  by_cases h4 : wy = 4 ∧ ts ≠ []
  · obtain ⟨h4, h4'⟩ := h4
    match ts, h4', tst, t1, t2, hst, fin with
    | t0 :: tr, _, tst, t1, t2, hst, fin =>
      have ht0 := hst t0 (by simp)
      obtain ⟨q0, k1, k2, k3⟩ := r_short_near (N := N') (p := t0) (c := c + 1) (tst t0 (by simp)) (by omega)
      refine ex_res (ss_nx (s' := [some (.sh (encP p)), some (.sh (.int c)), some (.sh (.int wy)), some (.sh (.int (i : Int))), some (.sh (.tuple ((q0 :: tr).map encP))), some (.sh (.str (wayS w))), some (.sh (.str (letS l))), some (.sh (.tuple ((t0 :: tr).map encP)))]) ?_) ?_
      · refine (iff_t (d := .bool true) ?_ rfl).trans ((ss_nx (set_ok (d := .tuple ((q0 :: tr).map encP)) ?_)).trans (s_nil' _ _))
        · rw [and_t (by simp [h4])]
          have := nilT (t0 :: tr)
          simp only [e_cmp, e_var, List.getElem?_cons_zero, List.getElem?_cons_succ, R.bind_ok, e_tup, es_nil', this]
          rfl
        · have e3 : slcD (some 1) none (.tuple ((t0 :: tr).map encP)) = .ok (.tuple (tr.map encP)) := by
            rw [slcT, show (1 : Int) = ((1 : Nat) : Int) from rfl, cut_drop]; rfl
          have e4 := b_tup [encP q0] (tr.map encP) (by simp at t1 ⊢; omega)
          simp only [e_bin, e_tup, es_cons', es_nil', e_call, e_idx, e_var, List.getElem?_cons_zero, List.getElem?_cons_succ, R.bind_ok, e_con, idT, b_add, k1, e_slc, eo_yes, eo_no, i_of, e3, e4]
          rfl
      refine ex_res (ss_nx ((iff_f (d := .bool false) (and_f (by simp [h4])) rfl).trans (s_nil' _ _))) ?_
      refine fin (q0 :: tr) (by simpa using t1) ?_ ?_
      · rw [List.all_cons, Bool.and_eq_true] at t2 ⊢
        exact ⟨k2, t2.2⟩
      · rw [stPs, stPs]; omega
  refine ex_res (ss_nx ((iff_f (d := .bool false) ?_ rfl).trans (s_nil' _ _))) ?_
  · by_cases h4' : wy = 4
    · have : ts = [] := Classical.byContradiction fun z => h4 ⟨h4', z⟩
      rw [and_t (by simp [h4'])]
      have hn := nilT ts
      rw [this] at hn ⊢
      simp only [e_cmp, e_var, List.getElem?_cons_zero, List.getElem?_cons_succ, R.bind_ok, e_tup, es_nil', hn]
      rfl
    · exact and_f (by simp [h4'])
  have sp := r_steps (N' + 2) p (by omega) w3 (by omega)
  by_cases h5 : wy = 5 ∧ ∃ t0, ts = [t0] ∧ stL p + stL t0 < 8
  · obtain ⟨h5, t0, rfl, h6⟩ := h5
    obtain ⟨z1, z2, z3⟩ := wfP_inv (tst t0 (by simp))
    have st0 := r_steps (N' + 2) t0 (by omega) z3 (by omega)
    obtain ⟨q0, k1, k2, k3⟩ := r_short_near (N := N') (p := t0) (c := c + 1) (tst t0 (by simp)) (by omega)
    refine ex_res (ss_nx (s' := [some (.sh (encP p)), some (.sh (.int c)), some (.sh (.int wy)), some (.sh (.int (i : Int))), some (.sh (.tuple ([t0, q0].map encP))), some (.sh (.str (wayS w))), some (.sh (.str (letS l))), some (.sh (.tuple ([t0].map encP)))]) ?_) ?_
    · refine (iff_t (d := .bool true) ?_ rfl).trans ((ss_nx (set_ok (d := .tuple ([t0, q0].map encP)) ?_)).trans (s_nil' _ _))
      · rw [and_t (by simp [h5]), and_t (by simp)]
        have h6' : (stL p : Int) + (stL t0 : Int) < 8 := by omega
        have := idT t0 []
        simp only [e_cmp, e_bin, e_call, es_cons', es_nil', e_var, List.getElem?_cons_zero, List.getElem?_cons_succ, R.bind_ok, sp, e_idx, e_con, this, st0, b_add, c_lt, h6', decide_true]
      · have := idT t0 []
        have e4 := b_tup [encP t0] [encP q0] (by simp; omega)
        simp only [e_bin, e_tup, es_cons', es_nil', e_call, e_idx, e_var, List.getElem?_cons_zero, List.getElem?_cons_succ, R.bind_ok, e_con, this, b_add, k1]
        exact e4
    refine fin [t0, q0] (by simp) ?_ ?_
    · simp only [List.all_cons, List.all_nil, Bool.and_true, Bool.and_eq_true]
      exact ⟨tst t0 (by simp), k2⟩
    · rw [stPs, stPs, stPs, stPs]; omega
  refine ex_res (ss_nx ((iff_f (d := .bool false) ?_ rfl).trans (s_nil' _ _))) ?_
  · by_cases h5' : wy = 5
    · rw [and_t (by simp [h5'])]
      match ts, t1, tst, h5, hst with
      | [], _, _, _, _ => exact and_f (by simp)
      | [t0], _, tst, h5, hst =>
        obtain ⟨z1, z2, z3⟩ := wfP_inv (tst t0 (by simp))
        have ht0 := hst t0 (by simp)
        have st0 := r_steps (N' + 2) t0 (by omega) z3 (by omega)
        rw [and_t (by simp)]
        have h6 : ¬ stL p + stL t0 < 8 := fun z => h5 ⟨h5', t0, rfl, z⟩
        have h6' : ¬ (stL p : Int) + (stL t0 : Int) < 8 := by omega
        have := idT t0 []
        simp only [e_cmp, e_bin, e_call, es_cons', es_nil', e_var, List.getElem?_cons_zero, List.getElem?_cons_succ, R.bind_ok, sp, e_idx, e_con, this, st0, b_add, c_lt, h6', decide_false]
      | _ :: _ :: _, _, _, _, _ => exact and_f (by simp; omega)
    · exact and_f (by simp [h5'])
  exact fin ts t1 t2 (by omega)
end Tf
namespace Tf
open PySem
/-! Tm20: what paths that are put together find. -/
theorem sortP_perm (ts : List Pa) : (sortP ts).Perm ts := List.mergeSort_perm _ _
theorem fS_wt (t : Tr) (s : St) (q : Pa) (v : Nd) : fS t (wtS s q) v ↔ fS t s v ∧ ∃ m, fL t q (some v) m := by
  rw [fS_iff, fS_iff]
  unfold wtS
  simp only [St.l, St.ts]
  have hm : ∀ p, p ∈ sortP (s.ts ++ [q]) ↔ p ∈ s.ts ∨ p = q := fun p => by
    rw [(sortP_perm _).mem_iff]; simp
  constructor
  · rintro ⟨h1, h2⟩
    exact ⟨⟨h1, fun p hp => h2 p ((hm p).mpr (.inl hp))⟩, h2 q ((hm q).mpr (.inr rfl))⟩
  · rintro ⟨⟨h1, h2⟩, h3⟩
    refine ⟨h1, fun p hp => ?_⟩
    rcases (hm p).mp hp with h | rfl
    · exact h2 p h
    · exact h3
theorem fL_one (t : Tr) (s : St) (u : Option Nd) (n : Nd) : fL t [s] u n ↔ arrow t s.w u n ∧ fS t s n := by
  rw [fL_cons]
  constructor
  · rintro ⟨v, h1, h2, h3⟩
    rw [fL_nil] at h3
    cases h3
    exact ⟨h1, h2⟩
  · rintro ⟨h1, h2⟩
    exact ⟨n, h1, h2, by rw [fL_nil]⟩
theorem fL_snoc (t : Tr) (r : Pa) (s : St) (u : Option Nd) (n : Nd) : fL t (r ++ [s]) u n ↔ ∃ v, (r = [] ∧ v = u ∨ r ≠ [] ∧ ∃ x, v = some x ∧ fL t r u x) ∧ arrow t s.w v n ∧ fS t s n := by
  cases r with
  | nil =>
    rw [List.nil_append, fL_one]
    constructor
    · exact fun h => ⟨u, .inl ⟨rfl, rfl⟩, h⟩
    · rintro ⟨v, ⟨_, rfl⟩ | ⟨h, _⟩, h2⟩
      · exact h2
      · exact absurd rfl h
  | cons a r =>
    rw [fL_app t [s] n (a :: r) u (by simp)]
    constructor
    · rintro ⟨x, h1, h2⟩
      exact ⟨some x, .inr ⟨by simp, x, rfl, h1⟩, (fL_one _ _ _ _).mp h2⟩
    · rintro ⟨v, ⟨h, _⟩ | ⟨_, x, rfl, h1⟩, h2⟩
      · cases h
      · exact ⟨x, h1, (fL_one _ _ _ _).mpr h2⟩
theorem fL_wt {t : Tr} {p q : Pa} (hp : p ≠ []) (u : Option Nd) (n : Nd) : fL t (wtP p q) u n ↔ fL t p u n ∧ ∃ m, fL t q (some n) m := by
  obtain ⟨r, s, rfl⟩ := pa_last hp
  rw [wtP_app, fL_snoc, fL_snoc]
  constructor
  · rintro ⟨v, h1, h2, h3⟩
    rw [fS_wt] at h3
    exact ⟨⟨v, h1, h2, h3.1⟩, h3.2⟩
  · rintro ⟨⟨v, h1, h2, h3⟩, h4⟩
    exact ⟨v, h1, h2, (fS_wt _ _ _ _).mpr ⟨h3, h4⟩⟩
theorem wtP_ne {p q : Pa} (hp : p ≠ []) : wtP p q ≠ [] := by
  obtain ⟨r, s, rfl⟩ := pa_last hp
  rw [wtP_app]; simp
theorem wtP_st {p q : Pa} (hp : p ≠ []) : stL (wtP p q) = stL p + stL q := by
  obtain ⟨r, s, rfl⟩ := pa_last hp
  rw [wtP_app, stL_app, stL_app, wtS, stS, stS_eq, stPs_eq]
  have := ((sortP_perm (s.ts ++ [q])).map stL).sum_nat
  rw [this]; simp; omega
theorem wtP_wg {p q : Pa} (hp : wgP p = true) (hq : wgP q = true) : wgP (wtP p q) = true := by
  obtain ⟨h1, h2, h3⟩ := wgP_inv hp
  have hne : p ≠ [] := fun e => by subst e; simp at h1
  obtain ⟨r, s, rfl⟩ := pa_last hne
  rw [wgL_eq, List.all_append, Bool.and_eq_true] at h3
  rw [wtP_app]
  unfold wgP
  rw [wgL_eq, List.all_append, h3.1]
  simp only [List.length_append, List.length_singleton] at h1 h2 ⊢
  have : wgS (wtS s q) = true := by
    rw [wgS_eq, wtS]
    simp only [St.ts]
    rw [List.all_eq_true]
    intro x hx
    rw [(sortP_perm _).mem_iff, List.mem_append, List.mem_singleton] at hx
    have h4 := h3.2
    rw [List.all_cons, Bool.and_eq_true, wgS_eq, List.all_eq_true] at h4
    rcases hx with hx | rfl
    · exact h4.1 x hx
    · exact hq
  simp [this]
  omega
theorem wg_cat {p q : Pa} (hp : wgP p = true) (hq : wgP q = true) (h : p.length + q.length ≤ 6) : wgP (p ++ q) = true := by
  obtain ⟨h1, h2, h3⟩ := wgP_inv hp
  obtain ⟨k1, k2, k3⟩ := wgP_inv hq
  unfold wgP
  rw [wgL_eq, List.all_append, ← wgL_eq, ← wgL_eq, h3, k3]
  simp
  omega
mutual
theorem ti_wgS : ∀ s : St, wgS (tiS s) = wgS s
  | .mk w l ts => by rw [tiS, wgS, wgS, ti_wgPs ts]
theorem ti_wgL : ∀ p : List St, wgL (tiL p) = wgL p
  | [] => by rw [tiL]
  | s :: r => by rw [tiL, wgL, wgL, ti_wgS s, ti_wgL r]
theorem ti_wgPs : ∀ p : List (List St), wgPs (tiPs p) = wgPs p
  | [] => by rw [tiPs]
  | s :: r => by rw [tiPs, wgPs, wgPs, ti_wgL s, ti_wgPs r, tiL_eq, List.length_map]
end
theorem ti_wgP (p : Pa) : wgP (tiL p) = wgP p := by
  unfold wgP
  rw [ti_wgL, tiL_eq, List.length_map]
theorem ti_ne {p : Pa} (h : p ≠ []) : tiL p ≠ [] := by rw [tiL_eq]; simpa using h
mutual
theorem ti_fS : ∀ (t : Tr) (s : St) (v : Nd), fS t s v → fS t (tiS s) v
  | t, .mk w l ts, v, h => by
    rw [fS] at h
    rw [tiS, fS]
    exact ⟨h.1, ti_fTs t ts v h.2⟩
theorem ti_fL : ∀ (t : Tr) (p : List St) (u : Option Nd) (n : Nd), fL t p u n → fL t (tiL p) u n
  | t, [], u, n, h => by rw [tiL]; exact h
  | t, s :: r, u, n, h => by
    rw [fL_cons] at h
    obtain ⟨v, h1, h2, h3⟩ := h
    rw [tiL, fL_cons]
    refine ⟨v, ?_, ti_fS t s v h2, ti_fL t r (some v) n h3⟩
    have : (tiS s).w = true := by cases s; rw [tiS]; rfl
    rw [this]
    exact arrow_deep h1
theorem ti_fTs : ∀ (t : Tr) (ts : List (List St)) (v : Nd), fTs t ts v → fTs t (tiPs ts) v
  | t, [], v, _ => by rw [tiPs, fTs]; trivial
  | t, p :: r, v, h => by
    rw [fTs] at h
    obtain ⟨⟨n, h1⟩, h2⟩ := h
    rw [tiPs, fTs]
    exact ⟨⟨n, ti_fL t p (some v) n h1⟩, ti_fTs t r v h2⟩
end
theorem alike_all {p q : Pa} (h1 : p ≠ []) (h2 : q ≠ []) : alikeB p q = true ↔ ∀ (t : Tr) (n : Nd), fL t p none n ↔ fL t q none n := by
  unfold alikeB
  rw [Bool.and_eq_true, within_all h1 h2, within_all h2 h1]
  exact ⟨fun h t n => ⟨h.1 t n, h.2 t n⟩, fun h => ⟨fun t n => (h t n).mp, fun t n => (h t n).mpr⟩⟩
theorem c_eqNil (xs : List D) : cmpD .Eq (.tuple xs) (.tuple []) = .ok xs.isEmpty := by
  have hn : near (.tuple xs) (.tuple []) = true := by simp [near, PyData.depth, PyData.depthAll]
  rw [cmp_Eq, if_pos hn]
  cases xs <;> simp [PyData.eqv, PyData.eqvAll]
theorem iffF {C : EvC} {c : E} {a r : Ss} {s : Sd} (h : ev C c s = .ok (.bool false)) : evSs C (.cons (.iff c a .nil) r) s = evSs C r s := ss_nx ((iff_f h rfl).trans (s_nil' _ _))
theorem not_ok {C : EvC} {e : E} {s : Sd} {b : Bool} (h : ev C e s = .ok (.bool b)) : ev C (.not e) s = .ok (.bool (!b)) := by rw [e_not, h]; rfl
/-- [node for node in finds if cond] != [] where no node fits -/
theorem comp_no {C : EvC} {s : Sd} {i : Nat} {it c : E} {ns : List Nd} {p : Nd → Bool} (hi : i < s.length) (hI : ev C it s = .ok (.tuple (ns.map encI)) ∨ ev C it s = .ok (.list (ns.map encI))) (hl : ns.length ≤ lim)
    (hc : ∀ n ∈ ns, ev C c ((wipeD s [i]).set i (some (.sh (encI n)))) = .ok (.bool (p n))) (hp : ∀ n ∈ ns, p n = false) :
    ev C (.cmp .NotEq (.lst (.comp (.name i) (.seq it) (.yes c) (.var i))) (.lst (.disp .nil))) s = .ok (.bool false) := by
  have h1 : evL C (.comp (.name i) (.seq it) (.yes c) (.var i)) s = .ok ((ns.filter p).map encI) := by
    refine comp_filter (enc := encI) ?_ hl fun n hn => ⟨_, b_name _ _ _, ⟨_, hc n hn, rfl⟩, fun h => ?_⟩
    · rcases hI with h | h <;> rw [ei_seq, h] <;> rfl
    · rw [hp n hn] at h; cases h
  have h2 : ns.filter p = [] := by
    rw [List.filter_eq_nil_iff]
    intro n hn
    rw [hp n hn]; simp
  rw [e_cmp, e_lst, h1, h2, R.bind_ok, R.bind_ok, e_lst, el_disp, es_nil', R.bind_ok, R.bind_ok]
  rfl
theorem fnd_len (p : Pa) (t : Tr) (hp : p ≠ []) : (fnd p t).length ≤ szT t := by
  rw [← nodesT_len]
  refine nodup_len _ _ (fndL_nodup _ _) fun n hn => ?_
  exact (nodes_mem t n).mpr (fL_at p none n hp ((fnd_mem hp n).mp hn))
theorem filter_fnd {one two : Pa} {t : Tr} (h1 : one ≠ []) (h2 : two ≠ []) (h : ∀ n, fL t two none n → fL t one none n) : (fnd one t).filter (fun n => decide (n ∈ fnd two t)) = fnd two t := by
  refine sorted_unique _ _ ?_ (fndL_nodup _ _) ?_ (fndL_sorted _ _) fun n => ?_
  · exact (fndL_nodup _ _).sublist List.filter_sublist
  · exact (fndL_sorted _ _).sublist List.filter_sublist
  · rw [List.mem_filter, decide_eq_true_eq, fnd_mem h1, fnd_mem h2]
    exact ⟨fun h => h.2, fun h' => ⟨h n h', h'⟩⟩
end Tf
namespace Tf
open PySem
/-! Tm21: trees that change: with_kids, put, cut, come, called_then, gone. -/
def wkT : Tr → Nd → List Tr → Tr
  | t, [], ks => .mk t.l ks
  | t, k :: r, ks => match t.ks[k.toNat]? with
    | some c => .mk t.l (t.ks.take k.toNat ++ [wkT c r ks] ++ t.ks.drop (k.toNat + 1))
    | none => t
theorem at_cons {t c : Tr} {k : Int} {r : Nd} (h : atT t (k :: r) = some c) : 0 ≤ k ∧ ∃ d, t.ks[k.toNat]? = some d ∧ atT d r = some c := by
  rw [atT] at h
  by_cases hk : 0 ≤ k
  · rw [if_pos hk] at h
    cases hd : t.ks[k.toNat]? with
    | none => rw [hd] at h; cases h
    | some d => rw [hd] at h; exact ⟨hk, d, rfl, h⟩
  · rw [if_neg hk] at h; cases h
theorem wkT_cons {t d : Tr} {k : Int} {r : Nd} (h : t.ks[k.toNat]? = some d) (ks : List Tr) : wkT t (k :: r) ks = .mk t.l (t.ks.take k.toNat ++ [wkT d r ks] ++ t.ks.drop (k.toNat + 1)) := by
  rw [wkT, h]
theorem wkT_l (t : Tr) (n : Nd) (ks : List Tr) : (wkT t n ks).l = t.l := by
  cases n with
  | nil => rw [wkT]; rfl
  | cons k r =>
    rw [wkT]
    cases t.ks[k.toNat]? <;> rfl
theorem mid_get {A : Type} (xs : List A) (i j : Nat) (y : A) (h : i < xs.length) : (xs.take i ++ [y] ++ xs.drop (i + 1))[j]? = if j = i then some y else xs[j]? := by
  by_cases h1 : j < i
  · rw [if_neg (by omega), List.append_assoc, List.getElem?_append_left (by simp; omega), List.getElem?_take_of_lt h1]
  · by_cases h2 : j = i
    · rw [if_pos h2, h2, List.append_assoc, List.getElem?_append_right (by simp; omega)]
      have : i - (List.take i xs).length = 0 := by simp; omega
      rw [this]; rfl
    · rw [if_neg h2, List.getElem?_append_right (by simp; omega), List.getElem?_drop]
      congr 1
      simp; omega
theorem ks_wk {t d : Tr} {k : Int} {r : Nd} (h : t.ks[k.toNat]? = some d) (ks : List Tr) (j : Nat) : (wkT t (k :: r) ks).ks[j]? = if j = k.toNat then some (wkT d r ks) else t.ks[j]? := by
  rw [wkT_cons h]
  exact mid_get _ _ _ _ (List.getElem?_eq_some_iff.mp h).1
theorem at_wk : ∀ (n m : Nd) (t c : Tr) (ks : List Tr), atT t n = some c → atT (wkT t n ks) (n ++ m) = atT (.mk c.l ks) m
  | [], m, t, c, ks, h => by rw [atT] at h; cases h; rw [wkT]; rfl
  | k :: r, m, t, c, ks, h => by
    obtain ⟨hk, d, hd, h⟩ := at_cons h
    rw [List.cons_append, atT, if_pos hk, ks_wk hd, if_pos rfl, Option.bind_some]
    exact at_wk r m d c ks h
theorem wk_id : ∀ (n : Nd) (t c : Tr), atT t n = some c → wkT t n c.ks = t
  | [], t, c, h => by rw [atT] at h; cases h; rw [wkT]; cases t; rfl
  | k :: r, t, c, h => by
    obtain ⟨hk, d, hd, h⟩ := at_cons h
    rw [wkT_cons hd, wk_id r d c h]
    have : t.ks.take k.toNat ++ [d] ++ t.ks.drop (k.toNat + 1) = t.ks := by
      obtain ⟨hi, rfl⟩ := List.getElem?_eq_some_iff.mp hd
      simp
    rw [this]; cases t; rfl
theorem wk_wk : ∀ (n : Nd) (t c : Tr) (a b : List Tr), atT t n = some c → wkT (wkT t n a) n b = wkT t n b
  | [], t, c, a, b, h => by rw [wkT, wkT, wkT]; rfl
  | k :: r, t, c, a, b, h => by
    obtain ⟨hk, d, hd, h⟩ := at_cons h
    have h1 := ks_wk (r := r) hd a k.toNat
    rw [if_pos rfl] at h1
    have hks : (wkT t (k :: r) a).ks = t.ks.take k.toNat ++ [wkT d r a] ++ t.ks.drop (k.toNat + 1) := by rw [wkT_cons hd]; rfl
    rw [wkT_cons h1, wk_wk r d c a b h, wkT_l, wkT_cons hd b, hks]
    have hi := (List.getElem?_eq_some_iff.mp hd).1
    congr 1
    congr 1
    · congr 1
      rw [List.append_assoc, List.take_append_of_le_length (by simp; omega), List.take_take, Nat.min_self]
    · rw [List.drop_append_of_le_length (by simp; omega)]
      rw [List.drop_of_length_le (by simp; omega)]; rfl
/-- nodes that do not lie below n keep their letters -/
theorem at_other : ∀ (n : Nd) (v : Nd) (t c : Tr) (ks : List Tr), atT t n = some c → (∀ m, m ≠ [] → v ≠ n ++ m) → (atT (wkT t n ks) v).map Tr.l = (atT t v).map Tr.l
  | [], v, t, c, ks, h, hv => by
    have : v = [] := Classical.byContradiction fun z => hv v z rfl
    subst this
    rw [atT, atT, wkT]; rfl
  | k :: r, [], t, c, ks, h, hv => by
    rw [atT, atT, Option.map_some, Option.map_some, wkT_l]
  | k :: r, j :: v, t, c, ks, h, hv => by
    obtain ⟨hk, d, hd, h'⟩ := at_cons h
    rw [atT, atT]
    by_cases hj : 0 ≤ j
    · rw [if_pos hj, if_pos hj, ks_wk hd]
      by_cases hjk : j.toNat = k.toNat
      · rw [if_pos hjk, hjk, hd, Option.bind_some, Option.bind_some]
        have : j = k := by omega
        subst this
        exact at_other r v d c ks h' fun m hm e => hv m hm (by rw [e]; rfl)
      · rw [if_neg hjk]
    · rw [if_neg hj, if_neg hj]
theorem szTs_cat (a b : List Tr) : szTs (a ++ b) = szTs a + szTs b := by rw [szTs_eq, szTs_eq, szTs_eq]; simp
theorem sz_mk (t : Tr) : szT t = 1 + szTs t.ks := by cases t; rw [szT]; rfl
theorem wk_sz : ∀ (n : Nd) (t c : Tr) (ks : List Tr), atT t n = some c → szT (wkT t n ks) + szTs c.ks = szT t + szTs ks
  | [], t, c, ks, h => by rw [atT] at h; cases h; rw [wkT, szT, sz_mk t]; omega
  | k :: r, t, c, ks, h => by
    obtain ⟨hk, d, hd, h⟩ := at_cons h
    have ih := wk_sz r d c ks h
    rw [wkT_cons hd, szT, szTs_cat, szTs_cat, sz_mk t]
    have h1 : szTs t.ks = szTs (t.ks.take k.toNat) + szT d + szTs (t.ks.drop (k.toNat + 1)) := by
      have e : t.ks = t.ks.take k.toNat ++ [d] ++ t.ks.drop (k.toNat + 1) := by
        obtain ⟨hi, rfl⟩ := List.getElem?_eq_some_iff.mp hd
        simp
      have := congrArg szTs e
      rw [szTs_cat, szTs_cat, szTs, szTs] at this
      omega
    rw [szTs, szTs]
    omega
/-! ### a node more -/
def putT (t : Tr) (n : Nd) (c kid : Tr) : Tr := wkT t n (c.ks ++ [kid])
def Ext (t t' : Tr) : Prop := ∀ v c, atT t v = some c → ∃ c', atT t' v = some c' ∧ c'.l = c.l
theorem ext_arrow {t t' : Tr} (h : Ext t t') {w : Bool} {u : Option Nd} {v : Nd} (ha : arrow t w u v) : arrow t' w u v := by
  obtain ⟨⟨c, hc⟩, h2⟩ := ha
  obtain ⟨c', hc', _⟩ := h v c hc
  exact ⟨⟨c', hc'⟩, h2⟩
theorem ext_lab {t t' : Tr} (h : Ext t t') {v : Nd} {l : Fin 3} (ha : labOk t v l) : labOk t' v l := by
  obtain ⟨c, hc, hl⟩ := ha
  obtain ⟨c', hc', e⟩ := h v c hc
  exact ⟨c', hc', by rw [e]; exact hl⟩
mutual
theorem ext_fS : ∀ {t t' : Tr} (h : Ext t t') (s : St) (v : Nd), fS t s v → fS t' s v
  | t, t', h, .mk w l ts, v, hf => by
    rw [fS] at hf ⊢
    exact ⟨ext_lab h hf.1, ext_fTs h ts v hf.2⟩
theorem ext_fL : ∀ {t t' : Tr} (h : Ext t t') (p : List St) (u : Option Nd) (n : Nd), fL t p u n → fL t' p u n
  | t, t', h, [], u, n, hf => by rw [fL_nil] at hf ⊢; exact hf
  | t, t', h, s :: r, u, n, hf => by
    rw [fL_cons] at hf ⊢
    obtain ⟨v, h1, h2, h3⟩ := hf
    exact ⟨v, ext_arrow h h1, ext_fS h s v h2, ext_fL h r (some v) n h3⟩
theorem ext_fTs : ∀ {t t' : Tr} (h : Ext t t') (ts : List (List St)) (v : Nd), fTs t ts v → fTs t' ts v
  | t, t', h, [], v, _ => by rw [fTs]; trivial
  | t, t', h, p :: r, v, hf => by
    rw [fTs] at hf ⊢
    obtain ⟨⟨n, h1⟩, h2⟩ := hf
    exact ⟨⟨n, ext_fL h p (some v) n h1⟩, ext_fTs h r v h2⟩
end
theorem map_l {o : Option Tr} {c : Tr} {o' : Option Tr} (h : o.map Tr.l = o'.map Tr.l) (h2 : o' = some c) : ∃ c', o = some c' ∧ c'.l = c.l := by
  rw [h2] at h
  cases o with
  | none => cases h
  | some c' => exact ⟨c', rfl, by simpa using h⟩
theorem put_ext {t c kid : Tr} {n : Nd} (h : atT t n = some c) : Ext t (putT t n c kid) := by
  intro v d hv
  unfold putT
  by_cases hm : ∃ m, m ≠ [] ∧ v = n ++ m
  · obtain ⟨m, hm, rfl⟩ := hm
    rw [at_wk n m t c _ h]
    rw [atT_app, h, Option.bind_some] at hv
    match m, hm with
    | k :: r, _ =>
      obtain ⟨hk, e, he, hr⟩ := at_cons hv
      refine ⟨d, ?_, rfl⟩
      rw [atT, if_pos hk, show (Tr.mk c.l (c.ks ++ [kid])).ks = c.ks ++ [kid] from rfl]
      rw [List.getElem?_append_left (List.getElem?_eq_some_iff.mp he).1, he, Option.bind_some]; exact hr
  · exact map_l (at_other n v t c _ h fun m hm' e => hm ⟨m, hm', e⟩) hv
/-- the new node's place -/
def plcN (n : Nd) (c : Tr) : Nd := n ++ [(c.ks.length : Int)]
theorem put_at {t c kid : Tr} {n : Nd} (h : atT t n = some c) (m : Nd) : atT (putT t n c kid) (plcN n c ++ m) = atT kid m := by
  unfold putT plcN
  rw [List.append_assoc, at_wk n _ t c _ h, List.singleton_append, atT, if_pos (by omega), show (Tr.mk c.l (c.ks ++ [kid])).ks = c.ks ++ [kid] from rfl]
  rw [Int.toNat_natCast, List.getElem?_append_right (by omega)]
  simp
theorem put_not {t c : Tr} {n : Nd} (h : atT t n = some c) (m : Nd) : atT t (plcN n c ++ m) = none := by
  unfold plcN
  rw [List.append_assoc, atT_app, h, Option.bind_some, List.singleton_append, atT, if_pos (by omega)]
  simp
theorem put_new {t c kid : Tr} {n : Nd} (h : atT t n = some c) {v : Nd} {d : Tr} (hv : atT (putT t n c kid) v = some d) : (∃ e, atT t v = some e) ∨ ∃ m, v = plcN n c ++ m := by
  unfold putT at hv
  by_cases hm : ∃ m, m ≠ [] ∧ v = n ++ m
  · obtain ⟨m, hm, rfl⟩ := hm
    rw [at_wk n m t c _ h] at hv
    match m, hm with
    | k :: r, _ =>
      obtain ⟨hk, e, he, hr⟩ := at_cons hv
      rw [show (Tr.mk c.l (c.ks ++ [kid])).ks = c.ks ++ [kid] from rfl] at he
      by_cases hl : k.toNat < c.ks.length
      · left
        rw [List.getElem?_append_left hl] at he
        rw [atT_app, h, Option.bind_some, atT, if_pos hk, he, Option.bind_some]
        exact ⟨d, hr⟩
      · right
        have := (List.getElem?_eq_some_iff.mp he).1
        simp at this
        refine ⟨r, ?_⟩
        unfold plcN
        have : k = (c.ks.length : Int) := by omega
        rw [this]; simp
  · left
    have h1 := at_other n v t c (c.ks ++ [kid]) h fun m hm' e => hm ⟨m, hm', e⟩
    obtain ⟨c', hc', _⟩ := map_l h1.symm hv
    exact ⟨c', hc'⟩
theorem fnd_put {t c kid : Tr} {n : Nd} (h : atT t n = some c) {p : Pa} (hp : p ≠ []) (v : Nd) (hv : v ∈ fnd p t) : v ∈ fnd p (putT t n c kid) := by
  rw [fnd_mem hp] at hv ⊢
  exact ext_fL (put_ext h) p none v hv
theorem put_sz {t c kid : Tr} {n : Nd} (h : atT t n = some c) : szT (putT t n c kid) = szT t + szT kid := by
  have := wk_sz n t c (c.ks ++ [kid]) h
  rw [szTs_cat, szTs, szTs] at this
  unfold putT
  omega
def cutT (t : Tr) (n : Nd) (c : Tr) (k : Nat) : Tr := wkT t n (c.ks.take k ++ c.ks.drop (k + 1))
theorem cut_put {t c kid : Tr} {n : Nd} (h : atT t n = some c) : cutT (putT t n c kid) n (.mk c.l (c.ks ++ [kid])) c.ks.length = t := by
  unfold cutT putT
  rw [wk_wk n t c _ _ h, show (Tr.mk c.l (c.ks ++ [kid])).ks = c.ks ++ [kid] from rfl]
  rw [List.take_append_of_le_length (by omega), List.take_of_length_le (by omega), List.drop_of_length_le (by simp), List.append_nil]
  exact wk_id n t c h
/-! ### evaluated -/
theorem tup_I (n : Nd) : encI n = .tuple (n.map .int) := rfl
theorem idx_I {n : Nd} {i : Nat} {x : Int} (h : n[i]? = some x) : idxD (encI n) (.int (i : Int)) = .ok (.int x) := by
  rw [tup_I]
  refine idx_nat ?_
  rw [List.getElem?_map, h]; rfl
theorem idx_I0 (k : Int) (r : Nd) : idxD (encI (k :: r)) (.int 0) = .ok (.int k) := idx_I (i := 0) rfl
theorem idx_Il (n : Nd) (k : Int) : idxD (encI (n ++ [k])) (.int (-1)) = .ok (.int k) := by
  rw [tup_I, List.map_append]; exact idx_last _ _
theorem slc_I1 (k : Int) (r : Nd) : slcD (some 1) none (encI (k :: r)) = .ok (encI r) := by
  rw [tup_I, slcT, show (1 : Int) = ((1 : Nat) : Int) from rfl, cut_drop]; rfl
theorem slc_Il (n : Nd) (k : Int) : slcD none (some (-1)) (encI (n ++ [k])) = .ok (encI n) := by
  rw [tup_I, slcT, cut_front, List.map_append, List.map_singleton, List.dropLast_concat]; rfl
theorem slc_It (n : Nd) (i : Nat) : slcD none (some (i : Int)) (encI n) = .ok (encI (n.take i)) := by
  rw [tup_I, slcT, cut_take, ← List.map_take]; rfl
theorem slc_Id (n : Nd) (i : Nat) : slcD (some (i : Int)) none (encI n) = .ok (encI (n.drop i)) := by
  rw [tup_I, slcT, cut_drop, ← List.map_drop]; rfl
theorem eq_nil_I (n : Nd) : cmpD .Eq (encI n) (.tuple []) = .ok n.isEmpty := by rw [tup_I, c_eqNil]; simp
theorem cmp_I (a b : Nd) : cmpD .Eq (encI a) (encI b) = .ok (decide (a = b)) := by
  have h1 := depth_encI a
  rw [cmp_Eq, if_pos (by simp only [near, decide_eq_true_eq]; omega), eqv_I]
theorem cmp_IN (a b : Nd) : cmpD .NotEq (encI a) (encI b) = .ok (!decide (a = b)) := by
  have h1 := depth_encI a
  rw [cmp_Ne, if_pos (by simp only [near, decide_eq_true_eq]; omega), eqv_I]
theorem idx_T {ks : List Tr} {i : Nat} {d : Tr} (h : ks[i]? = some d) : idxD (.tuple (ks.map encT)) (.int (i : Int)) = .ok (encT d) := by
  refine idx_nat ?_
  rw [List.getElem?_map, h]; rfl
theorem slc_Tt (ks : List Tr) (i : Nat) : slcD none (some (i : Int)) (.tuple (ks.map encT)) = .ok (.tuple ((ks.take i).map encT)) := by rw [slcT, cut_take, List.map_take]
theorem slc_Td (ks : List Tr) (i : Nat) : slcD (some (i : Int)) none (.tuple (ks.map encT)) = .ok (.tuple ((ks.drop i).map encT)) := by rw [slcT, cut_drop, List.map_drop]
theorem add_T (a b : List Tr) (h : a.length + b.length ≤ lim) : binD .Add (.tuple (a.map encT)) (.tuple (b.map encT)) = .ok (.tuple ((a ++ b).map encT)) := by
  rw [b_tup _ _ (by simpa using h), List.map_append]
theorem add_T1 (a : List Tr) (x : Tr) (h : a.length + 1 ≤ lim) : binD .Add (.tuple (a.map encT)) (.tuple [encT x]) = .ok (.tuple ((a ++ [x]).map encT)) := add_T a [x] h
theorem r_with_kids : ∀ (n : Nd) (N : Nat) (t c : Tr) (ks : List Tr), atT t n = some c → szT t ≤ 1000 → n.length < N → rn N 83 [encT t, encI n, .tuple (ks.map encT)] = .ok (encT (wkT t n ks))
  | n, 0, _, _, _, _, _, h => by omega
  | [], N + 1, t, c, ks, h, hb, hN => by
    rw [rn_with_kids, b_with_kids]
    refine res_of (ss_rt ((iff_t (d := .bool true) (by simp [eq_nil_I]) rfl).trans (ss_rt (ret_ok (d := encT (wkT t [] ks)) ?_)))) rfl
    rw [wkT, encT_eq]
    simp [encT_let]
  | k :: r, N + 1, t, c, ks, h, hb, hN => by
    have hlim : lim = 1000000 := rfl
    obtain ⟨hk, d, hd, h⟩ := at_cons h
    have hkk : ((k.toNat : Nat) : Int) = k := by omega
    have e1 := idx_T hd
    rw [hkk] at e1
    have hsd := sz_get hd
    have ih := r_with_kids r N d c ks h (by omega) (by simp at hN; omega)
    have e2 := idx_I0 k r
    have e3 := slc_I1 k r
    have e4 := slc_Tt t.ks k.toNat
    have e5 := slc_Td t.ks (k.toNat + 1)
    have hl := ks_len t
    have e6 := add_T1 (t.ks.take k.toNat) (wkT d r ks) (by simp; omega)
    have e7 := add_T (t.ks.take k.toNat ++ [wkT d r ks]) (t.ks.drop (k.toNat + 1)) (by simp; omega)
    rw [hkk] at e4
    rw [show ((k.toNat + 1 : Nat) : Int) = k + 1 by omega] at e5
    rw [rn_with_kids, b_with_kids]
    refine res_of (ss_nx ((iff_f (d := .bool false) (by simp [eq_nil_I]) rfl).trans (s_nil' _ _))) ?_
    refine res_of (ss_nx (set_ok (d := .int k) (by simp [e2]))) ?_
    refine res_of (ss_nx (set_ok (d := encT (wkT d r ks)) (by simp [encT_kids, e1, e3, ih]))) ?_
    refine res_of (ss_rt (ret_ok (d := encT (wkT t (k :: r) ks)) ?_)) rfl
    rw [wkT_cons hd, encT_eq]
    simp only [List.set_cons_succ, List.set_cons_zero, e_tup, es_cons', es_nil', e_idx, e_var, List.getElem?_cons_zero, List.getElem?_cons_succ, R.bind_ok, e_con, encT_let, e_bin, e_slc, encT_kids, eo_no, eo_yes, i_of, e4, e6, b_add, e5, e7]
theorem r_put {N : Nat} {t c kid : Tr} {n : Nd} (h : atT t n = some c) (hb : szT t ≤ 900) (hN : szT t + 1 < N) : rn N 84 [encT t, encI n, encT kid] = .ok (encT (putT t n c kid)) := by
  have hlim : lim = 1000000 := rfl
  obtain ⟨N', rfl⟩ : ∃ n', N = n' + 2 := ⟨N - 2, by omega⟩
  have h1 := at_len n t c h
  have h2 := ks_len c
  have e1 : rn (N' + 1) 4 [encT t, encI n] = _ := r_tree_at' h
  have e2 := add_T1 c.ks kid (by omega)
  have e3 := r_with_kids n (N' + 1) t c (c.ks ++ [kid]) h (by omega) (by omega)
  rw [rn_put, b_put]
  refine res_of (ss_rt (ret_ok (d := encT (putT t n c kid)) ?_)) rfl
  simp only [e_call, es_cons', es_nil', e_var, List.getElem?_cons_zero, List.getElem?_cons_succ, R.bind_ok, e_bin, e_idx, e1, e_con, encT_kids, e_tup, e2, e3]
  rfl
theorem r_cut {N : Nat} {t c d : Tr} {n : Nd} {k : Nat} (h : atT t n = some c) (hd : c.ks[k]? = some d) (hb : szT t ≤ 900) (hN : szT t + 1 < N) : rn N 85 [encT t, encI (n ++ [(k : Int)])] = .ok (encT (cutT t n c k)) := by
  have hlim : lim = 1000000 := rfl
  obtain ⟨N', rfl⟩ : ∃ n', N = n' + 2 := ⟨N - 2, by omega⟩
  have h1 := at_len n t c h
  have h2 := ks_len c
  have e1 : rn (N' + 1) 4 [encT t, encI n] = _ := r_tree_at' h
  have hat : atT t (n ++ [(k : Int)]) = some d := by rw [atT_app, h, Option.bind_some, at_one, hd]
  have e2 : rn (N' + 1) 4 [encT t, encI (n ++ [(k : Int)])] = _ := r_tree_at' hat
  have e3 := slc_Il n (k : Int)
  have e4 := idx_Il n (k : Int)
  have e5 := slc_Tt c.ks k
  have e6 := slc_Td c.ks (k + 1)
  rw [show ((k + 1 : Nat) : Int) = (k : Int) + 1 by omega] at e6
  have e7 := add_T (c.ks.take k) (c.ks.drop (k + 1)) (by simp; omega)
  have e8 := r_with_kids n (N' + 1) t c (c.ks.take k ++ c.ks.drop (k + 1)) h (by omega) (by omega)
  have e9 := eq_nil_I (n ++ [(k : Int)])
  have e10 : (n ++ [(k : Int)]).isEmpty = false := by simp
  rw [e10] at e9
  rw [rn_cut, b_cut]
  refine res_of (ss_nx (s' := [some (.sh (encT t)), some (.sh (encI (n ++ [(k : Int)]))), none]) (by simp [e2])) ?_
  refine res_of (ss_nx ((iff_f (d := .bool false) (by simp [e9]) rfl).trans (s_nil' _ _))) ?_
  refine res_of (ss_nx (set_ok (d := .tuple (c.ks.map encT)) (by simp [negD, e3, e1, encT_kids]))) ?_
  refine res_of (ss_rt (ret_ok (d := encT (cutT t n c k)) ?_)) rfl
  simp only [List.set_cons_succ, List.set_cons_zero, e_call, es_cons', es_nil', e_var, List.getElem?_cons_zero, List.getElem?_cons_succ, R.bind_ok, e_slc, eo_no, eo_yes, e_neg, e_con, negD, i_of, e3, e_bin, e_idx, e4, e5, b_add, e6, e7, e8]
  rfl
def comeL (p : Pa) (t t' : Tr) : List Nd := (fnd p t').filter fun v => !decide (v ∈ fnd p t)
theorem r_come {N : Nat} {p : Pa} {t c kid : Tr} {n : Nd} (h : atT t n = some c) (hw : wgP p = true) (hst : stL p ≤ 100) (hb : szT t + szT kid ≤ 31) (hN : 2 * stL p + szT t + szT kid + 6 < N) : rn N 86 [encP p, encT t, encI n, encT kid] = .ok (.tuple ((comeL p t (putT t n c kid)).map encI)) := by
  have hlim : lim = 1000000 := rfl
  obtain ⟨N', rfl⟩ : ∃ n', N = n' + 1 := ⟨N - 1, by omega⟩
  have hs := put_sz (kid := kid) h
  have hp : p ≠ [] := fun e => by subst e; have := (wgP_inv hw).1; simp at this
  have e1 := r_finds (N := N') (t := t) hw (by omega) hst (by omega)
  have e2 := r_put (N := N') (kid := kid) h (by omega) (by omega)
  have e3 := r_finds (N := N') (t := putT t n c kid) hw (by omega) hst (by omega)
  rw [rn_come, b_come]
  refine res_of (ss_nx (set_ok (d := .tuple ((fnd p t).map encI)) (by simp [e1]))) ?_
  refine res_of (ss_rt (ret_ok (d := .tuple ((comeL p t (putT t n c kid)).map encI)) ?_)) rfl
  rw [e_bi, e_lst, comp_filter (xs := fnd p (putT t n c kid)) (enc := encI) (p := fun v => !decide (v ∈ fnd p t)) (g := encI)]
  · rfl
  · simp [e2, e3]
  · have := fnd_len p (putT t n c kid) hp; omega
  · intro v _
    exact ⟨_, b_name _ _ _, ⟨_, by simp [cmp_NotIn]; rfl, by simp⟩, fun _ => by simp⟩
/-- what a node is called when n ++ [k] is cut -/
def ctN (one n : Nd) (k : Int) : Option Nd := if one.take n.length = n then (match one[n.length]? with
    | none => some one
    | some x => if x < k then some one else if x = k then none else some (n ++ [x - 1] ++ one.drop (n.length + 1)))
  else some one
theorem r_called_then {N : Nat} {one n : Nd} {k : Int} (h1 : one.length ≤ 1000) (h2 : n.length ≤ 1000) : rn (N + 1) 87 [encI one, encI (n ++ [k])] = .ok (encO (ctN one n k)) := by
  have hlim : lim = 1000000 := rfl
  have e1 : biD .len (encI (n ++ [k])) = .ok (.int ((n.length + 1 : Nat) : Int)) := by rw [tup_I]; simp
  have e2 : biD .len (encI one) = .ok (.int (one.length : Int)) := by rw [tup_I]; simp
  have e3 := slc_It one n.length
  have e4 := slc_Il n k
  have e5 := idx_Il n k
  have e6 := cmp_IN (one.take n.length) n
  have esub : ((n.length + 1 : Nat) : Int) - 1 = (n.length : Int) := by omega
  rw [rn_called_then, b_called_then]
  refine res_of (ss_nx (set_ok (d := .int ((n.length + 1 : Nat) : Int)) (by simp [e1]))) ?_
  simp only [List.set_cons_succ, List.set_cons_zero]
  have c1 : ev (Cn N) (.cmp .NotEq (.slc (.var 0) .no (.yes (.bin .Sub (.var 2) (.con (.int 1))))) (.slc (.var 1) .no (.yes (.neg (.con (.int 1)))))) [some (.sh (encI one)), some (.sh (encI (n ++ [k]))), some (.sh (.int ((n.length + 1 : Nat) : Int)))] = .ok (.bool (!decide (one.take n.length = n))) := by
    simp only [e_cmp, e_slc, e_var, List.getElem?_cons_zero, List.getElem?_cons_succ, R.bind_ok, eo_no, eo_yes, e_bin, e_con, b_sub, i_of, esub, e3, e_neg, negD, e4, e6]
  have c2 : ev (Cn N) (.cmp .Lt (.bi .len (.var 0)) (.var 2)) [some (.sh (encI one)), some (.sh (encI (n ++ [k]))), some (.sh (.int ((n.length + 1 : Nat) : Int)))] = .ok (.bool (decide ((one.length : Int) < ((n.length + 1 : Nat) : Int)))) := by
    simp only [e_cmp, e_bi, e_var, List.getElem?_cons_zero, List.getElem?_cons_succ, R.bind_ok, e2, c_lt]
  unfold ctN
  by_cases ht : one.take n.length = n
  · rw [if_pos ht]
    rw [ht] at c1
    simp only [decide_true, Bool.not_true] at c1
    cases hx : one[n.length]? with
    | none =>
      have hle : one.length ≤ n.length := List.getElem?_eq_none_iff.mp hx
      have hlt : ((one.length : Int) < ((n.length + 1 : Nat) : Int)) := by omega
      simp only [hlt, decide_true] at c2
      refine res_of (ss_rt ((iff_t (d := .bool true) ?_ rfl).trans (ss_rt (ret_ok (d := encI one) (by simp))))) rfl
      rw [or_f c1, or_t c2]
    | some x =>
      have hlt' := (List.getElem?_eq_some_iff.mp hx).1
      have hlt : ¬ ((one.length : Int) < ((n.length + 1 : Nat) : Int)) := by omega
      simp only [hlt, decide_false] at c2
      have e7 := idx_I hx
      have c3 : ev (Cn N) (.cmp .Lt (.idx (.var 0) (.bin .Sub (.var 2) (.con (.int 1)))) (.idx (.var 1) (.neg (.con (.int 1))))) [some (.sh (encI one)), some (.sh (encI (n ++ [k]))), some (.sh (.int ((n.length + 1 : Nat) : Int)))] = .ok (.bool (decide (x < k))) := by
        simp only [e_cmp, e_idx, e_var, List.getElem?_cons_zero, List.getElem?_cons_succ, R.bind_ok, e_bin, e_con, b_sub, esub, e7, e_neg, negD, e5, c_lt]
      have c4 : ev (Cn N) (.cmp .Eq (.idx (.var 0) (.bin .Sub (.var 2) (.con (.int 1)))) (.idx (.var 1) (.neg (.con (.int 1))))) [some (.sh (encI one)), some (.sh (encI (n ++ [k]))), some (.sh (.int ((n.length + 1 : Nat) : Int)))] = .ok (.bool (decide (x = k))) := by
        simp only [e_cmp, e_idx, e_var, List.getElem?_cons_zero, List.getElem?_cons_succ, R.bind_ok, e_bin, e_con, b_sub, esub, e7, e_neg, negD, e5, c_eqi]
      by_cases hxk : x < k
      · simp only [hxk, decide_true] at c3
        simp only [if_pos hxk]
        refine res_of (ss_rt ((iff_t (d := .bool true) ?_ rfl).trans (ss_rt (ret_ok (d := encI one) (by simp))))) rfl
        rw [or_f c1, or_f c2, c3]
      · simp only [hxk, decide_false] at c3
        simp only [if_neg hxk]
        refine res_of (ss_nx ((iff_f (d := .bool false) (by rw [or_f c1, or_f c2, c3]) rfl).trans (s_nil' _ _))) ?_
        by_cases hxe : x = k
        · simp only [hxe, decide_true] at c4
          simp only [if_pos hxe]
          exact res_of (ss_rt ((iff_t c4 rfl).trans (ss_rt (ret_ok (d := .none) (by simp))))) rfl
        · simp only [hxe, decide_false] at c4
          simp only [if_neg hxe]
          refine res_of (ss_nx ((iff_f c4 rfl).trans (s_nil' _ _))) ?_
          refine res_of (ss_rt (ret_ok (d := encI (n ++ [x - 1] ++ one.drop (n.length + 1))) ?_)) rfl
          have e8 := slc_Id one (n.length + 1)
          have e9 := encI_app1 n (x - 1) (by omega)
          have e10 := encI_app (n ++ [x - 1]) (one.drop (n.length + 1)) (by simp; omega)
          rw [ht] at e3
          simp only [e_bin, e_slc, e_var, List.getElem?_cons_zero, List.getElem?_cons_succ, R.bind_ok, eo_no, eo_yes, e_con, b_sub, i_of, esub, e3, e_tup, es_cons', es_nil', e_idx, e7, e9, e8, e10]
  · rw [if_neg ht]
    simp only [ht, decide_false, Bool.not_false] at c1
    exact res_of (ss_rt ((iff_t (or_t c1) rfl).trans (ss_rt (ret_ok (d := encI one) (by simp))))) rfl
def goneB (later : List Nd) (n : Nd) (k : Int) (one : Nd) : Bool := match ctN one n k with
  | none => true
  | some v => !decide (v ∈ later)
theorem notIn_O (o : Option Nd) (ns : List Nd) : cmpD .NotIn (encO o) (.tuple (ns.map encI)) = .ok (match o with | none => true | some v => !decide (v ∈ ns)) := by
  cases o with
  | none =>
    have h : inD .none (ns.map encI) = false := by
      unfold inD
      rw [List.any_map, List.any_eq_false]
      intro x _
      simp [encI, PyData.eqv]
    show (if (PyData.none).depth ≤ 190 then R.ok (!inD .none (ns.map encI)) else .fail) = _
    rw [if_pos (by simp [PyData.depth]), h]; rfl
  | some v => exact cmp_NotIn v ns
theorem r_gone {N : Nat} {p : Pa} {t c d : Tr} {n : Nd} {k : Nat} (h : atT t n = some c) (hd : c.ks[k]? = some d) (hw : wgP p = true) (hst : stL p ≤ 100) (hb : szT t ≤ 31) (hN : 2 * stL p + szT t + 6 < N) (hz : szT (cutT t n c k) ≤ szT t) :
    rn N 88 [encP p, encT t, encI (n ++ [(k : Int)])] = .ok (.tuple (((fnd p t).filter (goneB (fnd p (cutT t n c k)) n k)).map encI)) := by
  have hlim : lim = 1000000 := rfl
  obtain ⟨N', rfl⟩ : ∃ n', N = n' + 2 := ⟨N - 2, by omega⟩
  have hp : p ≠ [] := fun e => by subst e; have := (wgP_inv hw).1; simp at this
  have e1 := r_cut (N := N' + 1) h hd (by omega) (by omega)
  have e2 := r_finds (N := N' + 1) (t := cutT t n c k) hw (by omega) hst (by omega)
  have e3 := r_finds (N := N' + 1) (t := t) hw (by omega) hst (by omega)
  have h1 := at_len n t c h
  rw [rn_gone, b_gone]
  refine res_of (ss_nx (set_ok (d := .tuple ((fnd p (cutT t n c k)).map encI)) (by simp [e1, e2]))) ?_
  refine res_of (ss_rt (ret_ok (d := .tuple (((fnd p t).filter (goneB (fnd p (cutT t n c k)) n k)).map encI)) ?_)) rfl
  rw [e_bi, e_lst, comp_filter (xs := fnd p t) (enc := encI) (p := goneB (fnd p (cutT t n c k)) n k) (g := encI)]
  · rfl
  · simp [e3]
  · have := fnd_len p t hp; omega
  · intro v hv
    obtain ⟨c', hc'⟩ := fL_at p none v hp ((fnd_mem hp v).mp hv)
    have hvl := at_len v t c' hc'
    have e4 := r_called_then (N := N') (one := v) (n := n) (k := (k : Int)) (by omega) (by omega)
    refine ⟨_, b_name _ _ _, ⟨.bool (goneB (fnd p (cutT t n c k)) n k v), ?_, rfl⟩, fun _ => by simp⟩
    have e5 := notIn_O (ctN v n k) (fnd p (cutT t n c k))
    simp [e4, e5]
    rfl
end Tf
namespace Tf
open PySem
/-! Tm22: finds when a last kid comes, or goes; the last node. -/
theorem ctN_id {t c e : Tr} {n v : Nd} (h : atT t n = some c) (hv : atT t v = some e) : ctN v n (c.ks.length : Int) = some v := by
  unfold ctN
  by_cases ht : v.take n.length = n
  · rw [if_pos ht]
    cases hx : v[n.length]? with
    | none => rfl
    | some x =>
      have hlt := (List.getElem?_eq_some_iff.mp hx).1
      have hsp : v = n ++ x :: v.drop (n.length + 1) := by
        have h1 := List.take_append_drop n.length v
        rw [ht] at h1
        have h2 : v.drop n.length = x :: v.drop (n.length + 1) := by
          rw [List.drop_eq_getElem_cons hlt]
          congr 1
          have := List.getElem?_eq_getElem hlt
          rw [hx] at this
          exact (Option.some.inj this).symm
        rw [h2] at h1
        exact h1.symm
      rw [hsp, atT_app, h, Option.bind_some] at hv
      obtain ⟨hk, d, hd, _⟩ := at_cons hv
      have := (List.getElem?_eq_some_iff.mp hd).1
      simp only
      rw [if_pos (by omega)]
  · rw [if_neg ht]
theorem ctN_under (n m : Nd) (k : Int) : ctN (n ++ [k] ++ m) n k = none := by
  unfold ctN
  have h1 : (n ++ [k] ++ m).take n.length = n := by simp
  have h2 : (n ++ [k] ++ m)[n.length]? = some k := by simp
  rw [if_pos h1, h2]
  simp
theorem gone_put {t c kid : Tr} {n : Nd} (h : atT t n = some c) {p : Pa} (hp : p ≠ []) : (fnd p (putT t n c kid)).filter (goneB (fnd p t) n (c.ks.length : Int)) = comeL p t (putT t n c kid) := by
  unfold comeL
  refine List.filter_congr fun v hv => ?_
  obtain ⟨d, hd⟩ := fL_at p none v hp ((fnd_mem hp v).mp hv)
  unfold goneB
  rcases put_new h hd with ⟨e, he⟩ | ⟨m, rfl⟩
  · rw [ctN_id h he]
  · unfold plcN
    rw [ctN_under]
    have : ¬ (n ++ [(c.ks.length : Int)] ++ m) ∈ fnd p t := fun z => by
      obtain ⟨e, he⟩ := fL_at p none _ hp ((fnd_mem hp _).mp z)
      have := put_not h m
      unfold plcN at this
      rw [this] at he
      cases he
    simp only [this, decide_false, Bool.not_false]
theorem filter_len {A : Type} (q : A → Bool) (xs : List A) : (xs.filter q).length + (xs.filter fun x => !q x).length = xs.length := by
  induction xs with
  | nil => rfl
  | cons x r ih =>
    rw [List.filter_cons, List.filter_cons]
    cases q x <;> simp <;> omega
theorem fnd_put_filter {t c kid : Tr} {n : Nd} (h : atT t n = some c) {p : Pa} (hp : p ≠ []) : (fnd p (putT t n c kid)).filter (fun v => decide (v ∈ fnd p t)) = fnd p t := by
  refine sorted_unique _ _ ?_ (fndL_nodup _ _) ?_ (fndL_sorted _ _) fun v => ?_
  · exact (fndL_nodup _ _).sublist List.filter_sublist
  · exact (fndL_sorted _ _).sublist List.filter_sublist
  · rw [List.mem_filter, decide_eq_true_eq]
    exact ⟨fun z => z.2, fun z => ⟨fnd_put h hp v z, z⟩⟩
theorem come_len {t c kid : Tr} {n : Nd} (h : atT t n = some c) {p : Pa} (hp : p ≠ []) : (fnd p t).length + (comeL p t (putT t n c kid)).length = (fnd p (putT t n c kid)).length := by
  have h1 := filter_len (fun v => decide (v ∈ fnd p t)) (fnd p (putT t n c kid))
  rw [fnd_put_filter h hp] at h1
  exact h1
theorem come_sort {t c kid : Tr} {n : Nd} (h : atT t n = some c) {p : Pa} (hp : p ≠ []) : (fnd p t ++ comeL p t (putT t n c kid)).mergeSort leI = fnd p (putT t n c kid) := by
  refine sorted_unique _ _ ?_ (fndL_nodup _ _) (sortI _) (fndL_sorted _ _) fun v => ?_
  · rw [(List.mergeSort_perm _ _).nodup_iff, List.nodup_append]
    refine ⟨fndL_nodup _ _, (fndL_nodup _ _).sublist List.filter_sublist, fun a ha b hb e => ?_⟩
    subst e
    unfold comeL at hb
    rw [List.mem_filter] at hb
    simp [ha] at hb
  · rw [List.mem_mergeSort, List.mem_append]
    unfold comeL
    rw [List.mem_filter]
    constructor
    · rintro (z | z)
      · exact fnd_put h hp v z
      · exact z.1
    · intro z
      by_cases hv : v ∈ fnd p t
      · exact .inl hv
      · exact .inr ⟨z, by simp [hv]⟩
theorem srt_I (ns : List Nd) (hl : ns.length ≤ lim) : srtD (ns.map encI) = .ok ((ns.mergeSort leI).map encI) := by
  rw [srt_enc encI alike_encI ns (fun x _ => by have := depth_encI x; omega) (fun _ _ => rfl) hl]
  congr 1
  exact (List.map_mergeSort (r := leI) (s := leD) (f := encI) (fun a _ b _ => (leD_encI a b).symm)).symm
theorem nodesK_app : ∀ (a b : List Tr) (i : Nat), nodesK i (a ++ b) = nodesK i a ++ nodesK (i + a.length) b
  | [], b, i => by simp [nodesK]
  | t :: r, b, i => by
    rw [List.cons_append, nodesK, nodesK, nodesK_app r b (i + 1), List.length_cons, List.append_assoc, show i + 1 + r.length = i + (r.length + 1) by omega]
theorem last_node : ∀ (m : Nat) (t : Tr), szT t ≤ m → 2 ≤ szT t → ∃ ys n c ks d, nodesT t = ys ++ [n ++ [((ks.length : Nat) : Int)]] ∧ atT t n = some c ∧ c.ks = ks ++ [d]
  | 0, t, h, h2 => by omega
  | m + 1, t, h, h2 => by
    have hne : t.ks ≠ [] := fun e => by rw [sz_mk, e, szTs] at h2; omega
    have hsp := (List.dropLast_concat_getLast hne).symm
    generalize t.ks.dropLast = ks at hsp
    generalize t.ks.getLast hne = d at hsp
    have hd : szT d < szT t := sz_mem (by rw [hsp]; simp)
    have hn : nodesT t = ([] :: nodesK 0 ks) ++ (nodesT d).map fun v => ((ks.length : Nat) : Int) :: v := by
      rw [nodesT_eq, hsp, nodesK_app, nodesK, nodesK, List.append_nil, Nat.zero_add]; rfl
    have hat : t.ks[ks.length]? = some d := by rw [hsp]; simp
    by_cases hd1 : szT d = 1
    · have : d.ks = [] := by
        have := ks_len d
        exact List.length_eq_zero_iff.mp (by omega)
      have hnd : nodesT d = [[]] := by rw [nodesT_eq, this, nodesK]
      rw [hnd] at hn
      exact ⟨_, [], t, ks, d, hn, rfl, hsp⟩
    · have := sz_pos d
      obtain ⟨ys, n, c, ks', d', e1, e2, e3⟩ := last_node m d (by omega) (by omega)
      refine ⟨([] :: nodesK 0 ks) ++ ys.map fun v => ((ks.length : Nat) : Int) :: v, ((ks.length : Nat) : Int) :: n, c, ks', d', ?_, ?_, e3⟩
      · rw [hn, e1, List.map_append]
        simp
      · rw [atT, if_pos (by omega), Int.toNat_natCast, hat, Option.bind_some]
        exact e2
/-- a tree is the tree without its last kid's node, with that put again -/
theorem unput {t c d : Tr} {n : Nd} {ks : List Tr} (h : atT t n = some c) (hk : c.ks = ks ++ [d]) : atT (cutT t n c ks.length) n = some (.mk c.l ks) ∧ putT (cutT t n c ks.length) n (.mk c.l ks) d = t := by
  have he : c.ks.take ks.length ++ c.ks.drop (ks.length + 1) = ks := by
    rw [hk, List.take_append_of_le_length (by omega), List.take_of_length_le (by omega), List.drop_of_length_le (by simp), List.append_nil]
  unfold cutT putT
  rw [he]
  have h1 := at_wk n [] t c ks h
  rw [List.append_nil] at h1
  refine ⟨h1, ?_⟩
  rw [show (Tr.mk c.l ks).ks ++ [d] = c.ks from hk.symm, wk_wk n t c _ _ h]
  exact wk_id n t c h
end Tf
namespace Tf
open PySem
/-! Tm23: grown, plain_tree, parting. -/
theorem loop_app {t : Tg} {f : Sd → Out} : ∀ (xs ys : List D) (s : Sd), loopFor t f (xs ++ ys) s = (loopFor t f xs s).then (loopFor t f ys)
  | [], ys, s => rfl
  | x :: xs, ys, s => by
    rw [List.cons_append]
    unfold loopFor
    cases bindT t x s with
    | none => rfl
    | some s1 =>
      simp only
      cases f s1 with
      | nx s2 => exact loop_app xs ys s2
      | rt d => rfl
      | exc c => rfl
      | fail => rfl
theorem loop_app_ok {t : Tg} {f : Sd → Out} {xs ys : List D} {s s1 : Sd} {o : Out} (h1 : loopFor t f xs s = .nx s1) (h2 : loopFor t f ys s1 = o) : loopFor t f (xs ++ ys) s = o := by
  rw [loop_app, h1]; exact h2
def encE (p : Nat × Row) : D := .tuple [.int (p.1 : Int), encR p.2]
theorem letT_l4 : ∀ l : Fin 3, letT (l4 l) = letS l := by decide +kernel
/-- the state of grown's loop -/
def gst (R : List Row) (f g : Nat) (kids : List Tr) (way : Option Nd) (a5 a6 a7 a8 : Option Sl) : Sd := [some (.sh (encRs R)), some (.sh (.int (f : Int))), some (.sh (.int (g : Int))), some (.ow (kids.map encT)), some (.sh (encO way)), a5, a6, a7, a8]
theorem grow_skip (C : EvC) (R : List Row) (f g : Nat) (kids : List Tr) (way : Option Nd) : ∀ (xs : List Row) (i : Nat) (a5 a6 a7 a8 : Option Sl), (∀ r ∈ xs, r.1 ≠ some f) → ∃ b5 b6, loopFor (.tup (.cons (.name 5) (.cons (.name 6) .nil))) (fun s' => evSs C b_grown_1 s') ((en i xs).map encE) (gst R f g kids way a5 a6 a7 a8) = .nx (gst R f g kids way b5 b6 a7 a8)
  | [], i, a5, a6, a7, a8, _ => ⟨a5, a6, rfl⟩
  | r :: xs, i, a5, a6, a7, a8, h => by
    obtain ⟨b5, b6, ih⟩ := grow_skip C R f g kids way xs (i + 1) (some (.sh (.int (i : Int)))) (some (.sh (encR r))) a7 a8 fun r hr => h r (by simp [hr])
    refine ⟨b5, b6, ?_⟩
    rw [en, List.map_cons]
    unfold loopFor
    rw [show bindT (.tup (.cons (.name 5) (.cons (.name 6) .nil))) (encE (i, r)) (gst R f g kids way a5 a6 a7 a8) = some (gst R f g kids way (some (.sh (.int (i : Int)))) (some (.sh (encR r))) a7 a8) from bind_pair _ _ _ _ _]
    have hb : evSs C b_grown_1 (gst R f g kids way (some (.sh (.int (i : Int)))) (some (.sh (encR r))) a7 a8) = .nx (gst R f g kids way (some (.sh (.int (i : Int)))) (some (.sh (encR r))) a7 a8) := by
      rw [b_grown_1]
      refine (ss_nx ((iff_f (d := .bool false) ?_ rfl).trans (s_nil' _ _))).trans (s_nil' _ _)
      have h1 := idx_R0 r
      have h2 := cmp_encA r.1 (some f)
      have h3 : decide (r.1 = some f) = false := by simp [h r (by simp)]
      rw [h3] at h2
      have h2' : cmpD .Eq (encA r.1) (.int (f : Int)) = .ok false := h2
      simp [gst, h1, h2']
    show (evSs C b_grown_1 _).then _ = _
    rw [hb]
    exact ih
def dpT (w : Bool) (t : Tr) : Tr := if w then .mk 3 [t] else t
def dpW (w : Bool) (o : Option Nd) : Option Nd := if w then o.map fun n => 0 :: n else o
def newW (k : Nat) (o way : Option Nd) : Option Nd := match o with
  | some pt => some ((k : Int) :: pt)
  | none => way
theorem is_encO (o : Option Nd) : cmpD .Is (encO o) .none = .ok o.isNone := by cases o <;> rfl
theorem isN_encO (o : Option Nd) : cmpD .IsNot (encO o) .none = .ok o.isSome := by cases o <;> rfl
theorem encT_d (t : Tr) : PyData.tuple [.str "d", .tuple [encT t]] = encT (.mk 3 [t]) := by rw [encT_eq]; rfl
theorem grow_step (C : EvC) (R : List Row) (f g i : Nat) (kids : List Tr) (way : Option Nd) (w : Bool) (l : Fin 3) (t : Tr) (W : Option Nd) (a7 a8 : Option Sl) (hk : kids.length < 1000) (hW : ∀ n, W = some n → n.length < 1000)
    (hc : C.call 51 [encRs R, .int (i : Int), .int (g : Int)] = .ok (.tuple [encT t, encO W])) :
    ∃ b7 b8, evSs C b_grown_1 (gst R f g kids way (some (.sh (.int (i : Int)))) (some (.sh (encR (some f, w, l)))) a7 a8) = .nx (gst R f g (kids ++ [dpT w t]) (newW kids.length (dpW w W) way) (some (.sh (.int (i : Int)))) (some (.sh (encR (some f, w, l)))) b7 b8) := by
  have hlim : lim = 1000000 := rfl
  refine ⟨some (.sh (encT (dpT w t))), some (.sh (encO (dpW w W))), ?_⟩
  rw [b_grown_1]
  have h1 := idx_R0 (some f, w, l)
  have h1' := idx_R1 (some f, w, l)
  have h2 := cmp_encA (some f) (some f)
  simp only [decide_true] at h2
  have h2' : cmpD .Eq (encA (some f)) (.int (f : Int)) = .ok true := h2
  refine (ss_nx ((iff_t (d := .bool true) (by simp [gst, h1, h2']) rfl).trans ?_)).trans (s_nil' _ _)
  refine (ss_nx (s' := gst R f g kids way (some (.sh (.int (i : Int)))) (some (.sh (encR (some f, w, l)))) (some (.sh (encT t))) (some (.sh (encO W)))) (by simp [gst, hc])).trans ?_
  refine (ss_nx (s' := gst R f g kids way (some (.sh (.int (i : Int)))) (some (.sh (encR (some f, w, l)))) (some (.sh (encT (dpT w t)))) (some (.sh (encO (dpW w W))))) ?_).trans ?_
  · cases w with
    | false =>
      exact (iff_f (d := .bool false) (by simp [gst, h1', cmp_str, way_deep]) rfl).trans (s_nil' _ _)
    | true =>
      refine (iff_t (d := .bool true) (by simp [gst, h1', cmp_str, way_deep]) rfl).trans ((ss_nx ?_).trans (s_nil' _ _))
      have hx : ev C (.ite (.cmp .Is (.var 8) (.con .none)) (.con .none) (.bin .Add (.tup (.cons (.con (.int 0)) .nil)) (.var 8))) (gst R f g kids way (some (.sh (.int (i : Int)))) (some (.sh (encR (some f, true, l)))) (some (.sh (encT t))) (some (.sh (encO W)))) = .ok (encO (dpW true W)) := by
        cases W with
        | none => exact (by simp [gst, is_encO, dpW]; rfl)
        | some n =>
          have := encI_app [0] n (by have := hW n rfl; simp; omega)
          have this' : binD .Add (.tuple [.int 0]) (encO (some n)) = .ok (encI (0 :: n)) := this
          simp [gst, is_encO, dpW, this']
          rfl
      rw [s_par']
      simp only [e_tup, es_cons', es_nil', e_con, Tf.R.bind_ok]
      rw [hx]
      simp [gst, encT_d, dpT]
  have hrest : evSs C (.cons (.app 3 (.var 7)) .nil) (gst R f g kids (newW kids.length (dpW w W) way) (some (.sh (.int (i : Int)))) (some (.sh (encR (some f, w, l)))) (some (.sh (encT (dpT w t)))) (some (.sh (encO (dpW w W))))) = .nx (gst R f g (kids ++ [dpT w t]) (newW kids.length (dpW w W) way) (some (.sh (.int (i : Int)))) (some (.sh (encR (some f, w, l)))) (some (.sh (encT (dpT w t)))) (some (.sh (encO (dpW w W))))) := by
    have : kids.length < lim := by omega
    simp [gst, this]
  cases hq : dpW w W with
  | none =>
    rw [hq] at hrest
    refine (ss_nx ((iff_f (d := .bool false) (by simp [gst, isN_encO]) rfl).trans (s_nil' _ _))).trans ?_
    exact hrest
  | some n =>
    rw [hq] at hrest
    have hnl : n.length ≤ 1000 := by
      cases w with
      | false =>
        simp [dpW] at hq
        have := hW n hq
        omega
      | true =>
        cases W with
        | none => simp [dpW] at hq
        | some m =>
          simp [dpW] at hq
          have := hW m rfl
          rw [← hq]; simp; omega
    have h5 := encI_app [(kids.length : Int)] n (by simp; omega)
    have h5' : binD .Add (.tuple [.int (kids.length : Int)]) (encO (some n)) = .ok (encI ((kids.length : Int) :: n)) := h5
    refine (ss_nx (s' := gst R f g kids (some ((kids.length : Int) :: n)) (some (.sh (.int (i : Int)))) (some (.sh (encR (some f, w, l)))) (some (.sh (encT (dpT w t)))) (some (.sh (encO (some n))))) ?_).trans hrest
    refine (iff_t (d := .bool true) (by simp [gst, isN_encO]) rfl).trans ((ss_nx (set_ok (d := encI ((kids.length : Int) :: n)) ?_)).trans (s_nil' _ _))
    simp [gst, h5']
/-! ### where a path stands among the rows -/
mutual
theorem low_S : ∀ (s : St) (j f : Nat), j ≤ f → ∀ r ∈ rwS s (some j) f, ∀ i, r.1 = some i → j ≤ i
  | .mk w l ts, j, f, h, r, hr, i, hi => by
    rw [rwS, List.mem_cons] at hr
    rcases hr with rfl | hr
    · cases hi; omega
    · have := low_T ts f (f + 1) (by omega) r hr i hi; omega
theorem low_L : ∀ (p : List St) (j f : Nat), j ≤ f → ∀ r ∈ rwL p (some j) f, ∀ i, r.1 = some i → j ≤ i
  | [], j, f, h, r, hr, i, hi => by rw [rwL] at hr; cases hr
  | s :: q, j, f, h, r, hr, i, hi => by
    rw [rwL, List.mem_append] at hr
    rcases hr with hr | hr
    · exact low_S s j f h r hr i hi
    · have := low_L q f (f + stS s) (by omega) r hr i hi; omega
theorem low_T : ∀ (ts : List (List St)) (j f : Nat), j ≤ f → ∀ r ∈ rwT ts j f, ∀ i, r.1 = some i → j ≤ i
  | [], j, f, h, r, hr, i, hi => by rw [rwT] at hr; cases hr
  | p :: q, j, f, h, r, hr, i, hi => by
    rw [rwT, List.mem_append] at hr
    rcases hr with hr | hr
    · exact low_L p j f h r hr i hi
    · exact low_T q j (f + stL p) (by omega) r hr i hi
end
mutual
theorem low2_S : ∀ (s : St) (j f : Nat), ∀ r ∈ rwS s (some j) f, ∀ i, r.1 = some i → i = j ∨ f ≤ i
  | .mk w l ts, j, f, r, hr, i, hi => by
    rw [rwS, List.mem_cons] at hr
    rcases hr with rfl | hr
    · cases hi; exact .inl rfl
    · have := low_T ts f (f + 1) (by omega) r hr i hi; exact .inr (by omega)
theorem low2_L : ∀ (p : List St) (j f : Nat), ∀ r ∈ rwL p (some j) f, ∀ i, r.1 = some i → i = j ∨ f ≤ i
  | [], j, f, r, hr, i, hi => by rw [rwL] at hr; cases hr
  | s :: q, j, f, r, hr, i, hi => by
    rw [rwL, List.mem_append] at hr
    rcases hr with hr | hr
    · exact low2_S s j f r hr i hi
    · have := low_L q f (f + stS s) (by omega) r hr i hi; exact .inr (by omega)
theorem low2_T : ∀ (ts : List (List St)) (j f : Nat), ∀ r ∈ rwT ts j f, ∀ i, r.1 = some i → i = j ∨ f ≤ i
  | [], j, f, r, hr, i, hi => by rw [rwT] at hr; cases hr
  | p :: q, j, f, r, hr, i, hi => by
    rw [rwT, List.mem_append] at hr
    rcases hr with hr | hr
    · exact low2_L p j f r hr i hi
    · have := low2_T q j (f + stL p) r hr i hi; omega
end
theorem rwT_app (a b : List Pa) (n : Nat) : ∀ f, rwT (a ++ b) n f = rwT a n f ++ rwT b n (f + stPs a) := by
  induction a with
  | nil => intro f; simp [rwT, stPs]
  | cons p r ih =>
    intro f
    rw [List.cons_append, rwT, rwT, ih, stPs, List.append_assoc, show f + stL p + stPs r = f + (stL p + stPs r) by omega]
def Occ (R : List Row) (q : Pa) (ah : Option Nat) (f : Nat) : Prop :=
  ∃ A B, R = A ++ rwL q ah f ++ B ∧ A.length = f ∧ (∀ r ∈ A, ∀ j, r.1 = some j → j < f) ∧ (∀ r ∈ B, ∀ j, r.1 = some j → ¬ (f ≤ j ∧ j < f + stL q)) ∧ ∀ j, ah = some j → j < f
theorem mem_wfr {rs : List Row} {f : Nat} (h : wfr rs f) {r : Row} (hr : r ∈ rs) {j : Nat} (hj : r.1 = some j) : j < f + rs.length := by
  obtain ⟨i, hi, rfl⟩ := List.mem_iff_getElem.mp hr
  have := h i _ (List.getElem?_eq_getElem hi) j hj
  omega
theorem occ_rest {R : List Row} {s : St} {r : Pa} {ah : Option Nat} {f : Nat} (h : Occ R (s :: r) ah f) : Occ R r (some f) (f + stS s) := by
  obtain ⟨A, B, h1, h2, h3, h4, h5⟩ := h
  have hs := one_le_stS s
  refine ⟨A ++ rwS s ah f, B, by rw [h1, rwL]; simp, by rw [List.length_append, rwS_len, h2], ?_, ?_, fun j hj => by cases hj; omega⟩
  · intro x hx j hj
    rcases List.mem_append.mp hx with hx | hx
    · have := h3 x hx j hj; omega
    · have := mem_wfr (wfr_S s ah f h5) hx hj
      rw [rwS_len] at this
      exact this
  · intro x hx j hj hc
    refine h4 x hx j hj ?_
    rw [stL_cons]; omega
theorem occ_test {R : List Row} {w : Bool} {l : Fin 3} {a b : List Pa} {p r : Pa} {ah : Option Nat} {f : Nat} (h : Occ R (.mk w l (a ++ p :: b) :: r) ah f) : Occ R p (some f) (f + 1 + stPs a) := by
  obtain ⟨A, B, h1, h2, h3, h4, h5⟩ := h
  have hst : stS (.mk w l (a ++ p :: b)) = 1 + (stPs a + (stL p + stPs b)) := by rw [stS, stPs_cat, stPs]
  refine ⟨A ++ (ah, w, l) :: rwT a f (f + 1), rwT b f (f + 1 + stPs a + stL p) ++ rwL r (some f) (f + stS (.mk w l (a ++ p :: b))) ++ B, ?_, ?_, ?_, ?_, fun j hj => by cases hj; omega⟩
  · rw [h1, rwL, rwS, rwT_app, rwT]; simp
  · simp [rwT_len, h2]; omega
  · intro x hx j hj
    rcases List.mem_append.mp hx with hx | hx
    · have := h3 x hx j hj; omega
    · rcases List.mem_cons.mp hx with rfl | hx
      · have := h5 j hj; omega
      · have := mem_wfr (wfr_T a f (f + 1) (by omega)) hx hj
        rw [rwT_len] at this
        exact this
  · intro x hx j hj hc
    rcases List.mem_append.mp hx with hx | hx
    · rcases List.mem_append.mp hx with hx | hx
      · have := low2_T b f _ x hx j hj; omega
      · have := low2_L r f _ x hx j hj; rw [hst] at this; omega
    · refine h4 x hx j hj ?_
      rw [stL_cons, hst]; omega
theorem occ_get {R : List Row} {s : St} {r : Pa} {ah : Option Nat} {f : Nat} (h : Occ R (s :: r) ah f) : R[f]? = some (ah, s.w, s.l) := by
  obtain ⟨A, B, h1, h2, _⟩ := h
  cases s with
  | mk w l ts =>
    rw [h1, rwL, rwS, List.append_assoc, List.getElem?_append_right (by omega), h2]
    simp [St.w, St.l]
/-! ### grown -/
def ownN (s : St) (o : Option (Tr × Nd)) : Nd := match o with
  | some x => (s.ts.length : Int) :: x.2
  | none => []
theorem plS_1 (s : St) (o : Option (Tr × Nd)) : (plS s o).1 = dpT s.w (ownT s o) := plS_own s o
theorem plS_2 (s : St) (o : Option (Tr × Nd)) : (plS s o).2 = if s.w then 0 :: ownN s o else ownN s o := by
  have := plS_nd s o []
  rw [List.nil_append] at this
  rw [this]
  unfold bse ownN
  cases s.w <;> cases o <;> rfl
theorem ownN_len : ∀ (p : Pa) (s : St) (r : Pa), p = s :: r → (ownN s (plL r)).length ≤ 2 * r.length
  | [], s, r, h => by cases h
  | [_], s, r, h => by cases h; rw [plL]; simp [ownN]
  | _ :: s2 :: r2, s, r, h => by
    cases h
    have ih := ownN_len (s2 :: r2) s2 r2 rfl
    rw [plL]
    show ((_ : Int) :: (plS s2 (plL r2)).2).length ≤ _
    rw [List.length_cons, plS_2]
    split <;> simp <;> omega
/-- where the goal lies -/
inductive Gl : Pa → Option Nat → Nat → Nat → Option Nd → Prop
  | out {q ah f g} : (g < f ∨ f + stL q ≤ g) → Gl q ah f g none
  | end {s r ah f g} : lsL (s :: r) ah f = some g → Gl (s :: r) ah f g (some (ownN s (plL r)))
theorem r_grown (R : List Row) (g : Nat) (hR : R.length ≤ 400) : ∀ (N : Nat) (s : St) (r : Pa) (ah : Option Nat) (f : Nat) (W : Option Nd), Occ R (s :: r) ah f → wgL (s :: r) = true → stL (s :: r) < N → Gl (s :: r) ah f g W →
    rn N 51 [encRs R, .int (f : Int), .int (g : Int)] = .ok (.tuple [encT (ownT s (plL r)), encO W])
  | 0, s, r, ah, f, W, _, _, h, _ => by omega
  | N + 1, .mk w l ts, r, ah, f, W, hO, hw, hN, hG => by
    have hlim : lim = 1000000 := rfl
    obtain ⟨A, B, h1, h2, h3, h4, h5⟩ := hO
    have hO : Occ R (.mk w l ts :: r) ah f := ⟨A, B, h1, h2, h3, h4, h5⟩
    have hlenR := congrArg List.length h1
    simp only [List.length_append, rwL_len, h2] at hlenR
    have hst : stS (.mk w l ts) = 1 + stPs ts := by rw [stS]
    have hsl := stL_cons (.mk w l ts) r
    have htl := ts_len (s := .mk w l ts) (List.mem_cons_self) hw
    simp only [St.ts] at htl
    have hwr : wgL r = true := by rw [wgL, Bool.and_eq_true] at hw; exact hw.2
    -- the tests
    have tests : ∀ (b a : List Pa) (kids : List Tr) (way : Option Nd) (a5 a6 a7 a8 : Option Sl), ts = a ++ b → kids.length = a.length → (∀ p ∈ b, Gl p (some f) (f + 1 + stPs a) g none → True) → (g < f + 1 ∨ f + 1 + stPs ts ≤ g) →
        ∃ b5 b6 b7 b8, loopFor (.tup (.cons (.name 5) (.cons (.name 6) .nil))) (fun s' => evSs (Cn N) b_grown_1 s') ((en (f + 1 + stPs a) (rwT b f (f + 1 + stPs a))).map encE) (gst R f g kids way a5 a6 a7 a8) = .nx (gst R f g (kids ++ plTs b) way b5 b6 b7 b8) := by
      intro b
      induction b with
      | nil =>
        intro a kids way a5 a6 a7 a8 _ _ _ _
        exact ⟨a5, a6, a7, a8, by rw [rwT, plTs, List.append_nil]; rfl⟩
      | cons p b ih =>
        intro a kids way a5 a6 a7 a8 hts hk _ hg
        have hpin : p ∈ ts := by rw [hts]; simp
        have hp := wgP_inv (wg_mem (s := .mk w l ts) hw (by simp) hpin)
        match p, hp, hpin, hts with
        | [], hp, _, _ => have := hp.1; simp at this
        | .mk w2 l2 ts2 :: r2, hp, hpin, hts =>
          have hOp : Occ R (.mk w2 l2 ts2 :: r2) (some f) (f + 1 + stPs a) := by
            subst hts; exact occ_test hO
          have hpst := st_in (s := .mk w l ts) (p := .mk w l ts :: r) (by simp) hpin
          have hsum : stPs ts = stPs a + (stL (.mk w2 l2 ts2 :: r2) + stPs b) := by rw [hts, stPs_cat, stPs]
          have call := r_grown R g hR N (.mk w2 l2 ts2) r2 (some f) (f + 1 + stPs a) none hOp hp.2.2 (by omega) (.out (by omega))
          obtain ⟨c7, c8, e1⟩ := grow_step (Cn N) R f g (f + 1 + stPs a) kids way w2 l2 (ownT (.mk w2 l2 ts2) (plL r2)) none a7 a8 (by have := congrArg List.length hts; simp at this; omega) (fun n hn => by cases hn) call
          obtain ⟨d5, d6, e2⟩ := grow_skip (Cn N) R f g (kids ++ [dpT w2 (ownT (.mk w2 l2 ts2) (plL r2))]) way (rwT ts2 (f + 1 + stPs a) (f + 1 + stPs a + 1) ++ rwL r2 (some (f + 1 + stPs a)) (f + 1 + stPs a + stS (.mk w2 l2 ts2))) (f + 1 + stPs a + 1) (some (.sh (.int ((f + 1 + stPs a : Nat) : Int)))) (some (.sh (encR (some f, w2, l2)))) c7 c8 (by
            intro x hx e
            rcases List.mem_append.mp hx with hx | hx
            · have := low_T ts2 _ _ (by omega) x hx f e; omega
            · have := low_L r2 _ _ (by omega) x hx f e; omega)
          obtain ⟨x5, x6, x7, x8, e3⟩ := ih (a ++ [.mk w2 l2 ts2 :: r2]) (kids ++ [dpT w2 (ownT (.mk w2 l2 ts2) (plL r2))]) way d5 d6 c7 c8 (by rw [hts]; simp) (by simp [hk]) (fun _ _ _ => trivial) hg
          refine ⟨x5, x6, x7, x8, ?_⟩
          have hrows : rwL (.mk w2 l2 ts2 :: r2) (some f) (f + 1 + stPs a) = (some f, w2, l2) :: (rwT ts2 (f + 1 + stPs a) (f + 1 + stPs a + 1) ++ rwL r2 (some (f + 1 + stPs a)) (f + 1 + stPs a + stS (.mk w2 l2 ts2))) := by
            rw [rwL, rwS]; rfl
          have hpl : plTs ((.mk w2 l2 ts2 :: r2) :: b) = dpT w2 (ownT (.mk w2 l2 ts2) (plL r2)) :: plTs b := by
            rw [plTs, plL]
            simp only
            rw [plS_1]; rfl
          rw [rwT, en_app, List.map_append]
          refine loop_app_ok (s1 := gst R f g (kids ++ [dpT w2 (ownT (.mk w2 l2 ts2) (plL r2))]) way d5 d6 c7 c8) ?_ ?_
          · rw [hrows, en, List.map_cons]
            unfold loopFor
            rw [show bindT (.tup (.cons (.name 5) (.cons (.name 6) .nil))) (encE (f + 1 + stPs a, (some f, w2, l2))) (gst R f g kids way a5 a6 a7 a8) = some (gst R f g kids way (some (.sh (.int ((f + 1 + stPs a : Nat) : Int)))) (some (.sh (encR (some f, w2, l2)))) a7 a8) from bind_pair _ _ _ _ _]
            show (evSs (Cn N) b_grown_1 _).then _ = _
            rw [e1]
            have hnw : newW kids.length (dpW w2 none) way = way := by cases w2 <;> rfl
            rw [hnw]
            exact e2
          · rw [hpl, rwL_len]
            rw [stPs_cat, show stPs [.mk w2 l2 ts2 :: r2] = stL (.mk w2 l2 ts2 :: r2) by rw [stPs, stPs]; rfl, ← Nat.add_assoc] at e3
            rw [e3]; simp
    -- the rest
    have hgT : (g < f + 1 ∨ f + 1 + stPs ts ≤ g) := by
      cases hG with
      | out h => omega
      | «end» h =>
        cases r with
        | nil => rw [lsL, lsL] at h; cases h; omega
        | cons s2 r2 =>
          rw [lsL] at h
          obtain ⟨i, hi, k1, k2⟩ := lsL_ne (p := s2 :: r2) (by simp) (some f) (f + stS (.mk w l ts))
          rw [h] at hi
          cases hi
          omega
    -- ahead of it, its own row, behind it
    obtain ⟨y5, y6, eA⟩ := grow_skip (Cn N) R f g [] (if f = g then some [] else none) A 0 none none none none (fun x hx e => by have := h3 x hx f e; omega)
    obtain ⟨v5, v6, eH⟩ := grow_skip (Cn N) R f g [] (if f = g then some [] else none) [(ah, w, l)] f y5 y6 none none (fun x hx e => by
      simp only [List.mem_singleton] at hx
      subst hx
      have := h5 f e
      omega)
    obtain ⟨t5, t6, t7, t8, eT⟩ := tests ts [] [] (if f = g then some [] else none) v5 v6 none none rfl rfl (fun _ _ _ => trivial) hgT
    rw [stPs, Nat.add_zero, List.nil_append] at eT
    have rest : ∃ b5 b6 b7 b8, loopFor (.tup (.cons (.name 5) (.cons (.name 6) .nil))) (fun s' => evSs (Cn N) b_grown_1 s') ((en (f + stS (.mk w l ts)) (rwL r (some f) (f + stS (.mk w l ts)))).map encE) (gst R f g (plTs ts) (if f = g then some [] else none) t5 t6 t7 t8) = .nx (gst R f g (plTs ts ++ (match plL r with | some x => [x.1] | none => [])) W b5 b6 b7 b8) := by
      cases r with
      | nil =>
        refine ⟨t5, t6, t7, t8, ?_⟩
        have hW : W = if f = g then some [] else none := by
          cases hG with
          | out h => rw [if_neg (by rw [stL_cons, hst] at h; omega)]
          | «end» h =>
            rw [lsL, lsL] at h
            cases h
            rw [if_pos rfl, plL]; rfl
        rw [rwL, plL, hW, List.append_nil]
        rfl
      | cons s2 r2 =>
        have hs2 := one_le_stS s2
        have hsl2 := stL_cons s2 r2
        have hOr := occ_rest hO
        have hfg : f ≠ g := by
          cases hG with
          | out h => omega
          | «end» h =>
            rw [lsL] at h
            obtain ⟨i, hi, k1, k2⟩ := lsL_ne (p := s2 :: r2) (by simp) (some f) (f + stS (.mk w l ts))
            rw [h] at hi
            cases hi
            omega
        have hGr : ∃ W2, Gl (s2 :: r2) (some f) (f + stS (.mk w l ts)) g W2 ∧ W = newW (plTs ts).length (dpW s2.w W2) none ∧ (∀ n, W2 = some n → n.length < 1000) := by
          cases hG with
          | out h => exact ⟨none, .out (by rw [stL_cons] at h; omega), by cases s2.w <;> rfl, fun n hn => by cases hn⟩
          | «end» h =>
            rw [lsL] at h
            refine ⟨_, .end h, ?_, fun n hn => ?_⟩
            · rw [plL, plTs_len]
              simp only [ownN, newW, dpW, plS_2, St.ts]
              cases s2.w <;> rfl
            · cases hn
              have := ownN_len (s2 :: r2) s2 r2 rfl
              have := len_le_st r2
              omega
        obtain ⟨W2, g1, g2, g3⟩ := hGr
        have call := r_grown R g hR N s2 r2 (some f) (f + stS (.mk w l ts)) W2 hOr hwr (by omega) g1
        obtain ⟨c7, c8, e1⟩ := grow_step (Cn N) R f g (f + stS (.mk w l ts)) (plTs ts) none s2.w s2.l (ownT s2 (plL r2)) W2 t7 t8 (by rw [plTs_len]; omega) g3 call
        cases s2 with
        | mk w2 l2 ts2 =>
          obtain ⟨d5, d6, e2⟩ := grow_skip (Cn N) R f g (plTs ts ++ [dpT w2 (ownT (.mk w2 l2 ts2) (plL r2))]) W (rwT ts2 (f + stS (.mk w l ts)) (f + stS (.mk w l ts) + 1) ++ rwL r2 (some (f + stS (.mk w l ts))) (f + stS (.mk w l ts) + stS (.mk w2 l2 ts2))) (f + stS (.mk w l ts) + 1) (some (.sh (.int ((f + stS (.mk w l ts) : Nat) : Int)))) (some (.sh (encR (some f, w2, l2)))) c7 c8 (by
            intro x hx e
            rcases List.mem_append.mp hx with hx | hx
            · have := low_T ts2 _ _ (by omega) x hx f e; omega
            · have := low_L r2 _ _ (by omega) x hx f e; omega)
          refine ⟨d5, d6, c7, c8, ?_⟩
          have hrows : rwL (.mk w2 l2 ts2 :: r2) (some f) (f + stS (.mk w l ts)) = (some f, w2, l2) :: (rwT ts2 (f + stS (.mk w l ts)) (f + stS (.mk w l ts) + 1) ++ rwL r2 (some (f + stS (.mk w l ts))) (f + stS (.mk w l ts) + stS (.mk w2 l2 ts2))) := by
            rw [rwL, rwS]; rfl
          rw [hrows, en, List.map_cons, if_neg hfg]
          unfold loopFor
          rw [show bindT (.tup (.cons (.name 5) (.cons (.name 6) .nil))) (encE (f + stS (.mk w l ts), (some f, w2, l2))) (gst R f g (plTs ts) none t5 t6 t7 t8) = some (gst R f g (plTs ts) none (some (.sh (.int ((f + stS (.mk w l ts) : Nat) : Int)))) (some (.sh (encR (some f, w2, l2)))) t7 t8) from bind_pair _ _ _ _ _]
          show (evSs (Cn N) b_grown_1 _).then _ = _
          simp only [St.w, St.l] at e1 g2
          rw [e1, ← g2]
          rw [plL]
          simp only [plS_1, St.w]
          exact e2
    obtain ⟨u5, u6, u7, u8, eR⟩ := rest
    obtain ⟨z5, z6, eB⟩ := grow_skip (Cn N) R f g (plTs ts ++ (match plL r with | some x => [x.1] | none => [])) W B (f + stL (.mk w l ts :: r)) u5 u6 u7 u8 (fun x hx e => h4 x hx f e ⟨by omega, by omega⟩)
    have loop : loopFor (.tup (.cons (.name 5) (.cons (.name 6) .nil))) (fun s' => evSs (Cn N) b_grown_1 s') ((en 0 R).map encE) (gst R f g [] (if f = g then some [] else none) none none none none) = .nx (gst R f g (plTs ts ++ (match plL r with | some x => [x.1] | none => [])) W z5 z6 u7 u8) := by
      have hsplit : en 0 R = en 0 A ++ (en f [(ah, w, l)] ++ (en (f + 1) (rwT ts f (f + 1)) ++ (en (f + stS (.mk w l ts)) (rwL r (some f) (f + stS (.mk w l ts))) ++ en (f + stL (.mk w l ts :: r)) B))) := by
        have e1 : R = A ++ ([(ah, w, l)] ++ (rwT ts f (f + 1) ++ (rwL r (some f) (f + stS (.mk w l ts)) ++ B))) := by
          rw [h1, rwL, rwS]; simp
        have q1 : f + 1 + stPs ts = f + stS (.mk w l ts) := by rw [hst]; omega
        have q2 : f + stS (.mk w l ts) + stL r = f + stL (.mk w l ts :: r) := by rw [stL_cons]; omega
        rw [e1, en_app, en_app, en_app, en_app, h2, rwT_len, rwL_len, List.length_singleton, Nat.zero_add, q1, q2]
      rw [hsplit, List.map_append, List.map_append, List.map_append, List.map_append]
      exact loop_app_ok eA (loop_app_ok eH (loop_app_ok eT (loop_app_ok eR eB)))
    have hget : idxD (encRs R) (.int (f : Int)) = .ok (encR (ah, w, l)) := idx_R (occ_get hO)
    have hl2 := idx_R2 (ah, w, l)
    rw [rn_grown, b_grown]
    refine res_of (ss_nx (s' := [some (.sh (encRs R)), some (.sh (.int (f : Int))), some (.sh (.int (g : Int))), some (.ow []), none, none, none, none, none]) (by rw [s_setL', el_disp, es_nil']; rfl)) ?_
    refine res_of (ss_nx (s' := gst R f g [] (if f = g then some [] else none) none none none none) ?_) ?_
    · by_cases hfg : f = g
      · rw [if_pos hfg, hfg]
        exact (set_ok (d := .tuple []) (by simp)).trans rfl
      · rw [if_neg hfg]
        have hfg' : ¬ ((f : Int) = (g : Int)) := by omega
        exact (set_ok (d := .none) (by simp [hfg'])).trans rfl
    refine res_of (ss_nx ((for_ok (ds := (en 0 R).map encE) ?_).trans loop)) ?_
    · have : enumD 0 (R.map encR) = (en 0 R).map encE := enumD_enc encR 0 R
      simp [gst, encRs, this]
    refine res_of (ss_nx (s' := [some (.sh (encRs R)), some (.sh (.int (f : Int))), some (.sh (.int (g : Int))), some (.sh (.list ((plTs ts ++ (match plL r with | some x => [x.1] | none => [])).map encT))), some (.sh (encO W)), z5, z6, u7, u8]) (by simp [gst])) ?_
    refine res_of (ss_rt (ret_ok (d := .tuple [encT (ownT (.mk w l ts) (plL r)), encO W]) ?_)) rfl
    unfold ownT
    rw [encT_eq]
    simp only [e_tup, es_cons', es_nil', e_idx, e_var, List.getElem?_cons_zero, List.getElem?_cons_succ, Tf.R.bind_ok, hget, e_con, e_bi, bi_tup, St.l, St.ts, letT_l4]
    rw [show idxD (encR (ah, w, l)) (.int 2) = _ from hl2]
    rfl
theorem occ_self (p : Pa) : Occ (R0 p) p none 0 := ⟨[], [], by simp [R0], rfl, (fun r hr => by cases hr), (fun r hr => by cases hr), (fun j hj => by cases hj)⟩
theorem r_plain_tree {N : Nat} {p : Pa} {x : Tr × Nd} (hx : plL p = some x) (hw : wgL p = true) (hb : stL p ≤ 400) (hN : stL p + 2 < N) : rn N 52 [encP p] = .ok (.tuple [encT x.1, encI x.2]) := by
  have hlim : lim = 1000000 := rfl
  obtain ⟨N', rfl⟩ : ∃ n', N = n' + 2 := ⟨N - 2, by omega⟩
  have hp := one_ne hx
  match p, hx, hw, hb, hN, hp with
  | s :: r, hx, hw, hb, hN, hp =>
    rw [plL] at hx
    have hx' := Option.some.inj hx
    subst hx'
    have e1 := r_numbered' (N := N') (p := s :: r) (by omega) (by omega)
    have e2 := r_last_number (N := N') hp (by omega) (by omega)
    obtain ⟨g, hg, _, _⟩ := lsL_ne hp none 0
    rw [hg] at e2
    have e3 := r_grown (R0 (s :: r)) g (by rw [R0_len]; omega) (N' + 1) s r none 0 (some (ownN s (plL r))) (occ_self (s :: r)) hw (by omega) (.end hg)
    have e3' : rn (N' + 1) 51 [encRs (R0 (s :: r)), .int 0, .int (g : Int)] = .ok (.tuple [encT (ownT s (plL r)), encI (ownN s (plL r))]) := e3
    have hget := idx_R (occ_get (occ_self (s :: r)))
    have hl1 := idx_R1 (none, s.w, s.l)
    have hget' : idxD (encRs (R0 (s :: r))) (.int 0) = .ok (encR (none, s.w, s.l)) := hget
    rw [rn_plain_tree, b_plain_tree]
    refine res_of (ss_nx (set_ok (d := encRs (R0 (s :: r))) (by simp [e1]))) ?_
    refine res_of (ss_nx (s' := [some (.sh (encP (s :: r))), some (.sh (encRs (R0 (s :: r)))), some (.sh (encT (ownT s (plL r)))), some (.sh (encI (ownN s (plL r))))]) (by simp [e2, e3'])) ?_
    rw [plS_1, plS_2]
    cases hsw : s.w with
    | false =>
      rw [hsw] at hl1 hget'
      refine res_of (ss_nx ((iff_f (d := .bool false) (by simp [hget', hl1, cmp_str, way_deep]) rfl).trans (s_nil' _ _))) ?_
      exact res_of (ss_rt (ret_ok (d := .tuple [encT (ownT s (plL r)), encI (ownN s (plL r))]) (by simp))) rfl
    | true =>
      rw [hsw] at hl1 hget'
      have h1 := ownN_len (s :: r) s r rfl
      have h2 := len_le_st (s :: r)
      have h5 := encI_app [0] (ownN s (plL r)) (by simp at h2 ⊢; omega)
      have h5' : binD .Add (.tuple [.int 0]) (encI (ownN s (plL r))) = .ok (encI (0 :: ownN s (plL r))) := h5
      refine res_of (ss_rt ((iff_t (d := .bool true) (by simp [hget', hl1, cmp_str, way_deep]) rfl).trans (ss_rt (ret_ok (d := .tuple [encT (.mk 3 [ownT s (plL r)]), encI (0 :: ownN s (plL r))]) ?_)))) rfl
      simp [h5', encT_d]
def encTN (x : Tr × Nd) : D := .tuple [encT x.1, encI x.2]
theorem r_parting {N : Nat} {one other : Pa} {x : Tr × Nd} (hx : plL one = some x) (h2 : other ≠ []) (hw : wgL one = true) (b1 : stL one ≤ 400) (b2 : stL other ≤ 400) (n1 : stL one + 7 < N) (n2 : stL other + 7 < N) : rn N 53 [encP one, encP other] = .ok (if within one other then .none else encTN x) := by
  obtain ⟨N', rfl⟩ : ∃ n', N = n' + 1 := ⟨N - 1, by omega⟩
  have e1 := r_is_within (N := N') (one_ne hx) h2 (by omega) (by omega) (by omega) (by omega)
  have e2 := r_plain_tree (N := N') hx hw b1 (by omega)
  rw [rn_parting, b_parting]
  cases hq : within one other with
  | true =>
    rw [hq] at e1
    exact res_of (ss_rt ((iff_t (d := .bool true) (by simp [e1]) rfl).trans (ss_rt (ret_ok (d := .none) (by simp))))) rfl
  | false =>
    rw [hq] at e1
    refine res_of (ss_nx ((iff_f (d := .bool false) (by simp [e1]) rfl).trans (s_nil' _ _))) ?_
    exact res_of (ss_rt (ret_ok (d := encTN x) (by simp [e2]; rfl))) rfl
end Tf
namespace Tf
open PySem
/-! Tm24: leadings put together; is_leading of leadings; is_any_tree, is_parting of trees. -/
def LG (one other : Pa) (g : Nat → Nat) : Prop := (∀ i o, (R0 other)[i]? = some o → g i < (R0 one).length ∧ fitB (R0 one) o (o.1.map g) (g i) = true) ∧ g (ends one other).2 = (ends one other).1
def gOf (row : List Nat) (i : Nat) : Nat := row[i]?.getD 0
theorem ends_lt (one : Pa) {other : Pa} (h : other ≠ []) : (ends one other).2 < (R0 other).length := by
  obtain ⟨i, e, _, k⟩ := lsL_ne h none 0
  unfold ends
  rw [e, R0_len]
  simpa using k
theorem lead_LG {one other : Pa} (h2 : other ≠ []) {row : List Nat} (hl : Lead one other row) : LG one other (gOf row) := by
  obtain ⟨hlen, hv⟩ := hl
  have hwO := R0_wfr other
  refine ⟨fun i o ho => ?_, ?_⟩
  · have hi : i < (R0 other).length := (List.getElem?_eq_some_iff.mp ho).1
    have hir : i < row.length := by omega
    have hg := List.getElem?_eq_getElem hir
    obtain ⟨h1, h2⟩ := hv i _ hg
    have hao := hwO i o ho
    have hgoal := goal_map hir (fun j hj => by have := hao j hj; omega)
    unfold okT at h2
    rw [List.length_take, Nat.min_eq_left (by omega), ho] at h2
    simp only [Bool.and_eq_true] at h2
    have h3 := h2.2
    rw [hgoal] at h3
    have e : gOf row i = row[i] := by unfold gOf; rw [hg]; rfl
    rw [e]
    exact ⟨h1, h3⟩
  · have hlt := ends_lt one h2
    have hi2 : (ends one other).2 < row.length := by omega
    have hg := List.getElem?_eq_getElem hi2
    obtain ⟨h1, h2⟩ := hv _ _ hg
    have ho := List.getElem?_eq_getElem hlt
    unfold okT at h2
    rw [List.length_take, Nat.min_eq_left (by omega), ho] at h2
    simp only [Bool.and_eq_true, Bool.or_eq_true, decide_eq_true_eq, ne_eq, not_true_eq_false, false_or] at h2
    unfold gOf
    rw [hg]
    exact h2.1
theorem cbk_trans {R : List Row} (hw : wfr R 0) (b c : Nat) (h2 : cbk R b c = true) : ∀ a, cbk R a b = true → cbk R a c = true
  | a, h1 => by
    obtain ⟨h, e, hh⟩ := (cbk_iff hw a b).mp h1
    have hlt := ahd_lt hw e
    refine (cbk_iff hw a c).mpr ⟨h, e, .inr ?_⟩
    rcases hh with rfl | hh
    · exact h2
    · exact cbk_trans hw b c h2 h hh
theorem LG_edge {one other : Pa} {g : Nat → Nat} (h : LG one other g) {i j : Nat} {o : Row} (ho : (R0 other)[i]? = some o) (hj : o.1 = some j) : cbk (R0 one) (g i) (g j) = true := by
  obtain ⟨h1, h2⟩ := h.1 i o ho
  unfold fitB at h2
  rw [List.getElem?_eq_getElem h1] at h2
  simp only [Bool.and_eq_true] at h2
  have h3 := h2.2
  rw [hj] at h3
  cases hw : o.2.1 with
  | true => rw [hw] at h3; exact h3
  | false =>
    rw [hw] at h3
    simp only [Bool.and_eq_true, decide_eq_true_eq, Option.map_some] at h3
    refine (cbk_iff (R0_wfr one) _ _).mpr ⟨g j, ?_, .inl rfl⟩
    rw [ahd_some (List.getElem?_eq_getElem h1)]
    exact h3.1
theorem LG_back {one other : Pa} {g : Nat → Nat} (h : LG one other g) (b : Nat) : ∀ a, a < (R0 other).length → cbk (R0 other) a b = true → cbk (R0 one) (g a) (g b) = true
  | a, ha, hc => by
    obtain ⟨x, e, hh⟩ := (cbk_iff (R0_wfr other) a b).mp hc
    have hlt := ahd_lt (R0_wfr other) e
    have ho := List.getElem?_eq_getElem ha
    have hx : ((R0 other)[a]).1 = some x := by rw [← ahd_some ho]; exact e
    have h1 := LG_edge h ho hx
    rcases hh with rfl | hh
    · exact h1
    · exact cbk_trans (R0_wfr one) _ _ (LG_back h b x (by omega) hh) _ h1
theorem LG_comp {one other third : Pa} (h3 : third ≠ []) {g1 g2 : Nat → Nat} (k1 : LG one other g1) (k2 : LG other third g2) : LG one third (fun i => g1 (g2 i)) := by
  refine ⟨fun i o ho => ?_, ?_⟩
  · obtain ⟨b1, b2⟩ := k2.1 i o ho
    have hx := List.getElem?_eq_getElem b1
    obtain ⟨c1, c2⟩ := k1.1 (g2 i) _ hx
    refine ⟨c1, ?_⟩
    unfold fitB at b2 c2 ⊢
    rw [hx] at b2
    rw [List.getElem?_eq_getElem c1] at c2 ⊢
    simp only [Bool.and_eq_true, decide_eq_true_eq] at b2 c2 ⊢
    refine ⟨c2.1.trans b2.1, ?_⟩
    have d2 := b2.2
    have d3 := c2.2
    cases hw : o.2.1 with
    | true =>
      rw [hw] at d2
      cases hj : o.1 with
      | none => rfl
      | some j =>
        rw [hj] at d2
        exact LG_back k1 _ _ b1 d2
    | false =>
      rw [hw] at d2
      simp only [Bool.and_eq_true, decide_eq_true_eq, Bool.not_eq_true'] at d2 ⊢
      rw [d2.2] at d3
      simp only [Bool.and_eq_true, decide_eq_true_eq, Bool.not_eq_true'] at d3
      refine ⟨?_, d3.2⟩
      rw [d3.1, d2.1]
      cases o.1 <;> rfl
  · have e1 : (ends one third).2 = (ends other third).2 := rfl
    have e2 : (ends other third).1 = (ends one other).2 := rfl
    have e3 : (ends one other).1 = (ends one third).1 := rfl
    show g1 (g2 (ends one third).2) = _
    rw [e1, k2.2, e2, k1.2, e3]
theorem map_eqv_goal {row : List Nat} {o : Row} {i : Nat} (hi : i < row.length) (ho : ∀ j, o.1 = some j → j < i) : goalOf o (row.take i) = o.1.map (gOf row) := goal_map hi ho
theorem r_is_leading_true {N : Nat} {one other : Pa} {row : List Nat} (h1 : one ≠ []) (h2 : other ≠ []) (b1 : stL one ≤ 400) (b2 : stL other ≤ 400) (n1 : stL one + 5 < N) (n2 : stL other + 5 < N) (hl : row.length = (R0 other).length) (hg : LG one other (gOf row)) : rn N 44 [encP one, encP other, encG row] = .ok (.bool true) := by
  have hlim : lim = 1000000 := rfl
  obtain ⟨N', rfl⟩ : ∃ n', N = n' + 3 := ⟨N - 3, by omega⟩
  have e1 := r_numbered' (N := N' + 1) (p := one) (by omega) (by omega)
  have e2 := r_numbered' (N := N' + 1) (p := other) (by omega) (by omega)
  have e3 := r_last_number (N := N' + 1) h1 (by omega) (by omega)
  have e4 := r_last_number (N := N' + 1) h2 (by omega) (by omega)
  have l1 := R0_len one
  have l2 := R0_len other
  have hlt := ends_lt one h2
  have hend : row[(ends one other).2]? = some (ends one other).1 := by
    have := hg.2
    unfold gOf at this
    have hq := List.getElem?_eq_getElem (show (ends one other).2 < row.length by omega)
    rw [hq] at this ⊢
    rw [← this]; rfl
  have e5 := idx_row hend
  have hin : ∀ x ∈ row, x < (R0 one).length := by
    intro x hx
    obtain ⟨i, hi, rfl⟩ := List.mem_iff_getElem.mp hx
    have := (hg.1 i _ (List.getElem?_eq_getElem (show i < (R0 other).length by omega))).1
    unfold gOf at this
    rw [List.getElem?_eq_getElem hi] at this
    exact this
  obtain ⟨s', x1, a3, rfl⟩ := loop_each (t := .name 3) (f := fun s' => evSs (Cn (N' + 2)) b_is_leading_1 s') (enc := fun i : Nat => .int (i : Int)) (fun s => ∃ a3, s = [some (.sh (encP one)), some (.sh (encP other)), some (.sh (encG row)), a3, some (.sh (encRs (R0 one))), some (.sh (encRs (R0 other))), none]) row
    [some (.sh (encP one)), some (.sh (encP other)), some (.sh (encG row)), none, some (.sh (encRs (R0 one))), some (.sh (encRs (R0 other))), none]
    (by
      rintro i hi s ⟨a3, rfl⟩
      refine ⟨_, [some (.sh (encP one)), some (.sh (encP other)), some (.sh (encG row)), some (.sh (.int (i : Int))), some (.sh (encRs (R0 one))), some (.sh (encRs (R0 other))), none], b_name _ _ _, ?_, _, rfl⟩
      rw [b_is_leading_1]
      refine (iffF ?_).trans (s_nil' _ _)
      have h3 := hin i hi
      have h4 : (0 : Int) ≤ (i : Int) := by omega
      have h5 : (i : Int) < ((R0 one).length : Int) := by omega
      rw [or_f (by simp [isTy]), or_f (by simp [isTy])]
      simp [h4, encRs, h5])
    ⟨_, rfl⟩
  rw [rn_is_leading, b_is_leading]
  refine res_of (ss_nx (s' := [some (.sh (encP one)), some (.sh (encP other)), some (.sh (encG row)), none, some (.sh (encRs (R0 one))), some (.sh (encRs (R0 other))), none]) (by simp [e1, e2])) ?_
  refine res_of (iffF ?_) ?_
  · rw [or_f (by simp [encG, isTy])]
    simp [encG, encRs]
    omega
  refine res_of (ss_nx ((for_ok (ds := row.map fun i : Nat => .int (i : Int)) (by simp [encG])).trans x1)) ?_
  refine res_of (iffF ?_) ?_
  · have e4' : rn (N' + 2) 39 [encP other] = .ok (.int ((ends one other).2 : Int)) := e4
    have e3' : rn (N' + 2) 39 [encP one] = .ok (.int ((ends one other).1 : Int)) := e3
    simp [e4', e3', e5]
  refine res_of (ss_rt (ret_ok (d := .bool true) ?_)) rfl
  rw [e_bi, e_lst, comp_map (xs := en 0 row) (enc := fun p : Nat × Nat => .tuple [.int (p.1 : Int), .int (p.2 : Int)]) (g := fun _ => .bool true)]
  · simp only [R.bind_ok, biD, boolsOf_enc, all_true]
  · have := enumD_enc (fun i : Nat => PyData.int (i : Int)) 0 row
    simp [encG, this]
  · rw [en_len]; omega
  · rintro ⟨i, x⟩ hp
    rw [en_mem] at hp
    have hx : row[i]? = some x := by simpa using hp.2
    have hi := (List.getElem?_eq_some_iff.mp hx).1
    have ho := List.getElem?_eq_getElem (show i < (R0 other).length by omega)
    have hao := R0_wfr other i _ ho
    have hgx : gOf row i = x := by unfold gOf; rw [hx]; rfl
    have hfit := (hg.1 i _ ho).2
    rw [hgx] at hfit
    have e6 := r_fits (N := N') (R := R0 one) (O := R0 other) (row := row.take i) (num := i) (tg := x) (R0_wfr one) (by omega) ho (fun j hj => by have := hao j hj; simp; omega) (hin x (List.mem_of_getElem? hx))
    rw [map_eqv_goal hi (fun j hj => by have := hao j hj; omega), hfit] at e6
    have e7 : slcD none (some (i : Int)) (encG row) = .ok (encG (row.take i)) := by
      unfold encG
      rw [slcT, cut_take, ← List.map_take]
    exact ⟨_, bind_pair _ _ _ _ _, by simp [e7, e6]⟩
/-! ### trees -/
theorem let4_in : ∀ l : Fin 4, (Builtin.Str.occurrences "abcd" (letT l) 0 ("abcd" : Str).length 1).isEmpty = false := by decide +kernel
theorem let4_len : ∀ l : Fin 4, (letT l).length = 1 := by decide +kernel
theorem r_is_letter_T {N : Nat} (l : Fin 4) : rn (N + 1) 0 [.str (letT l), .str "abcd"] = .ok (.bool true) := by
  have hlim : lim = 1000000 := rfl
  rw [rn_is_letter, b_is_letter]
  have h1 : biD .len (.str (letT l)) = .ok (.int 1) := by
    show (if (letT l).length ≤ lim then R.ok (PyData.int (letT l).length) else .fail) = _
    rw [let4_len, if_pos (by omega)]; rfl
  have h2 : cmpD .In (.str (letT l)) (.str "abcd") = .ok true := by
    show R.ok (!(Builtin.Str.occurrences "abcd" (letT l) 0 ("abcd" : Str).length 1).isEmpty) = _
    rw [let4_in]; rfl
  refine res_of (ss_rt (ret_ok (d := .bool true) ?_)) rfl
  rw [and_t (by simp [isTy]), and_t (by simp [h1])]
  simp [h2]
theorem r_is_any_tree_enc : ∀ (N : Nat) (t : Tr), szT t < N → szT t ≤ 900 → rn (N + 1) 1 [encT t] = .ok (.bool true)
  | 0, t, h, _ => by omega
  | N + 1, t, h, hb => by
    have hlim : lim = 1000000 := rfl
    have hl := ks_len t
    have e1 := r_is_letter_T (N := N) t.l
    have hty : isTy .tuple (encT t) = true := by cases t; rw [encT_eq]; rfl
    have hlen : biD .len (encT t) = .ok (.int 2) := by cases t; rw [encT_eq]; rfl
    rw [rn_is_any_tree, b_is_any_tree]
    refine res_of (iffF ?_) ?_
    · rw [or_f (by simp [hty]), or_f (by simp [hlen])]
      have hgv : gv 0 = some (.str "abcd") := rfl
      simp only [e_not, e_call, es_cons', es_nil', e_idx, e_var, List.getElem?_cons_zero, R.bind_ok, e_con, encT_let, e_glo, hgv, e1, t_bool, Bool.not_true]
    refine res_of (ss_rt (ret_ok (d := .bool true) ?_)) rfl
    rw [and_t (by simp [encT_kids])]
    rw [e_bi, e_lst, comp_map (xs := t.ks) (enc := encT) (g := fun _ => .bool true)]
    · simp only [R.bind_ok, biD, boolsOf_enc, all_true]
    · simp [encT_kids]
    · omega
    · intro c hc
      have := sz_mem hc
      have ih := r_is_any_tree_enc N c (by omega) (by omega)
      exact ⟨_, b_name _ _ _, by simp [ih]⟩
theorem r_is_parting_enc {N : Nat} {one other : Pa} {t : Tr} {n : Nd} (w1 : wgP one = true) (w2 : wgP other = true) (b1 : stL one ≤ 40) (b2 : stL other ≤ 40) (hb : szT t ≤ 31) (hn : n.length ≤ 900) (hN : 120 < N) : rn N 54 [encP one, encP other, .tuple [encT t, encI n]] = .ok (.bool (decide (n ∈ fnd one t) && !decide (n ∈ fnd other t))) := by
  have hlim : lim = 1000000 := rfl
  obtain ⟨N', rfl⟩ : ∃ n', N = n' + 2 := ⟨N - 2, by omega⟩
  have e1 := r_is_any_tree_enc N' t (by omega) (by omega)
  have f1 := r_finds (N := N' + 1) (t := t) w1 hb (by omega) (by omega)
  have f2 := r_finds (N := N' + 1) (t := t) w2 hb (by omega) (by omega)
  have i0 : idxD (.tuple [encT t, encI n]) (.int 0) = .ok (encT t) := rfl
  have i1 : idxD (.tuple [encT t, encI n]) (.int 1) = .ok (encI n) := rfl
  have hty : isTy .tuple (encI n) = true := rfl
  rw [rn_is_parting, b_is_parting]
  refine res_of (iffF ?_) ?_
  · rw [or_f (by simp), or_f (by simp), or_f (by simp [i0, e1])]
    simp [i1, hty]
  refine res_of (ss_nx (s' := [some (.sh (encP one)), some (.sh (encP other)), some (.sh (.tuple [encT t, encI n])), some (.sh (encT t)), some (.sh (encI n)), none]) (by simp)) ?_
  refine res_of (iffF ?_) ?_
  · rw [e_not, e_bi, e_lst, comp_map (xs := n) (enc := fun i : Int => .int i) (g := fun _ => .bool true)]
    · simp only [R.bind_ok, biD, boolsOf_enc, all_true]; rfl
    · simp [encI]
    · omega
    · intro i _
      refine ⟨_, b_name _ _ _, ?_⟩
      rw [and_t (by simp [isTy])]
      simp [isTy]
  refine res_of (ss_rt (ret_ok (ev_and (p := decide (n ∈ fnd one t)) (q := !decide (n ∈ fnd other t)) ?_ fun _ => ?_))) rfl
  · simp [f1, cmp_In]
  · simp [f2, cmp_NotIn]
mutual
theorem plS_sz : ∀ (s : St) (o : Option (Tr × Nd)), wgS s = true → szT (plS s o).1 ≤ 2 * stS s + (match o with | some x => szT x.1 | none => 0)
  | .mk w l ts, o, h => by
    rw [wgS] at h
    have ih := plTs_sz ts h
    rw [plS_1, stS]
    unfold dpT ownT
    cases w with
    | true =>
      simp only [St.w, if_true]
      rw [szT, szTs, szTs, szT, szTs_cat]
      simp only [St.ts]
      cases o with
      | none => simp [szTs]; omega
      | some x => simp [szTs]; omega
    | false =>
      simp only [St.w, Bool.false_eq_true, if_false]
      rw [szT, szTs_cat]
      simp only [St.ts]
      cases o with
      | none => simp [szTs]; omega
      | some x => simp [szTs]; omega
theorem plL_sz : ∀ (p : List St) (x : Tr × Nd), plL p = some x → wgL p = true → szT x.1 ≤ 2 * stL p
  | [], x, h, _ => by rw [plL] at h; cases h
  | s :: r, x, h, hw => by
    rw [plL] at h
    have h' := Option.some.inj h
    subst h'
    rw [wgL, Bool.and_eq_true] at hw
    have h1 := plS_sz s (plL r) hw.1
    rw [stL]
    cases hy : plL r with
    | none => rw [hy] at h1; simp only at h1; omega
    | some y =>
      rw [hy] at h1
      simp only at h1
      have := plL_sz r y hy hw.2
      omega
theorem plTs_sz : ∀ (ts : List (List St)), wgPs ts = true → szTs (plTs ts) ≤ 2 * stPs ts
  | [], _ => by rw [plTs, szTs, stPs]; omega
  | p :: r, h => by
    rw [wgPs] at h
    simp only [Bool.and_eq_true, decide_eq_true_eq] at h
    have h2 := plTs_sz r h.2
    rw [plTs, szTs, stPs]
    cases hp : plL p with
    | none =>
      cases p with
      | nil => have := h.1.1.1; simp at this
      | cons s q => rw [plL] at hp; cases hp
    | some x =>
      simp only
      have := plL_sz p x hp h.1.2
      omega
end
theorem pl_nd_len {p : Pa} {x : Tr × Nd} (hx : plL p = some x) : x.2.length < szT x.1 := by
  obtain ⟨c, hc⟩ := fL_at p none x.2 (one_ne hx) (pl_finds hx)
  have := at_len _ _ _ hc
  have := sz_pos c
  omega
end Tf
namespace Tf
open PySem
/-! Tm25: trees in order; all trees of up to three nodes; the least that parts. -/
theorem leD_total (a b : D) : leD a b = true ∨ leD b a = true := by
  unfold leD PySem.W.dataLt
  cases h1 : PyProof.Rows.lexLt PyProof.Rows.itemOrd (PySem.W.keyToks b) (PySem.W.keyToks a) with
  | false => exact .inl rfl
  | true =>
    cases h2 : PyProof.Rows.lexLt PyProof.Rows.itemOrd (PySem.W.keyToks a) (PySem.W.keyToks b) with
    | false => exact .inr rfl
    | true =>
      have := PyProof.Rows.lex_trans _ _ _ h1 h2
      rw [PyProof.Rows.lex_irrefl] at this
      cases this
theorem leD_trans (a b c : D) (h1 : leD a b = true) (h2 : leD b c = true) : leD a c = true := by
  unfold leD PySem.W.dataLt at *
  simp only [Bool.not_eq_true'] at *
  generalize PySem.W.keyToks a = ka at *
  generalize PySem.W.keyToks b = kb at *
  generalize PySem.W.keyToks c = kc at *
  cases hca : PyProof.Rows.lexLt PyProof.Rows.itemOrd kc ka with
  | false => rfl
  | true =>
    exfalso
    cases hab : PyProof.Rows.lexLt PyProof.Rows.itemOrd ka kb with
    | false =>
      have := PyProof.Rows.lex_total _ _ hab h1
      subst this
      rw [h2] at hca; cases hca
    | true =>
      have := PyProof.Rows.lex_trans _ _ _ hca hab
      rw [h2] at this; cases this
theorem key_eqv {x y : D} (h : PySem.W.alike x y = true) (hk : PySem.W.keyToks x = PySem.W.keyToks y) : PyData.eqv x y = true := by
  cases he : PyData.eqv x y with
  | true => rfl
  | false =>
    have h1 := (PySem.W.toks_eqv x y h).2 he [.inl 0] [.inl 1]
    rw [hk, PySem.W.lex_pre, PyProof.Rows.lex_irrefl] at h1
    exact absurd h1 (by decide)
theorem leD_anti {x y : D} (h : PySem.W.alike x y = true) (tx : tame x = true) (ty : tame y = true) (h1 : leD x y = true) (h2 : leD y x = true) : x = y := by
  refine (eqv_tame x y tx ty).mp (key_eqv h ?_)
  unfold leD PySem.W.dataLt at h1 h2
  simp only [Bool.not_eq_true'] at h1 h2
  exact PyProof.Rows.lex_total _ _ h2 h1
def leT (a b : Tr) : Bool := leD (encT a) (encT b)
theorem leT_anti (a b : Tr) (h1 : leT a b = true) (h2 : leT b a = true) : a = b := encT_inj a b (leD_anti (alike_T a b) (tame_T a) (tame_T b) h1 h2)
theorem sortT (ts : List Tr) : (ts.mergeSort leT).Pairwise (fun a b => leT a b = true) :=
  List.pairwise_mergeSort (le := leT) (fun a b c h1 h2 => leD_trans (encT a) (encT b) (encT c) h1 h2) (fun a b => by
    rcases leD_total (encT a) (encT b) with h | h
    · unfold leT; simp [h]
    · unfold leT; simp [h]) ts
theorem srt_T (ts : List Tr) (h : ∀ t ∈ ts, szT t ≤ 70) (hl : ts.length ≤ lim) : srtD (ts.map encT) = .ok ((ts.mergeSort leT).map encT) := by
  rw [srt_enc encT alike_T ts (fun t ht => by have := depth_T 70 t (h t ht); omega) (fun t _ => by cases t; rw [encT_eq]; rfl) hl]
  congr 1
  exact (List.map_mergeSort (r := leT) (s := leD) (f := encT) (fun a _ b _ => rfl)).symm
/-! ### all trees -/
def lets : List (Fin 4) := [0, 1, 2, 3]
def mkTs (R : List (List Tr)) : List Tr := lets.flatMap fun l => R.map (Tr.mk l)
def mkR (T : List Tr) (R : List (List Tr)) : List (List Tr) := T.flatMap fun t => R.map fun r => t :: r
def T1 : List Tr := mkTs [[]]
def Rw1 : List (List Tr) := mkR T1 [[]]
def T2 : List Tr := mkTs Rw1
def Rw2 : List (List Tr) := mkR T1 Rw1 ++ mkR T2 [[]]
def T3 : List Tr := mkTs Rw2
def tOf : Nat → List Tr
  | 1 => T1
  | 2 => T2
  | 3 => T3
  | _ => []
theorem mkTs_mem (R : List (List Tr)) (t : Tr) : t ∈ mkTs R ↔ t.ks ∈ R := by
  unfold mkTs
  rw [List.mem_flatMap]
  constructor
  · rintro ⟨l, _, h⟩
    obtain ⟨r, hr, rfl⟩ := List.mem_map.mp h
    exact hr
  · intro h
    cases t with
    | mk l ks =>
      refine ⟨l, ?_, List.mem_map_of_mem h⟩
      have : ∀ l : Fin 4, l ∈ lets := by decide
      exact this l
theorem mkR_mem (T : List Tr) (R : List (List Tr)) (ks : List Tr) : ks ∈ mkR T R ↔ ∃ t r, ks = t :: r ∧ t ∈ T ∧ r ∈ R := by
  unfold mkR
  rw [List.mem_flatMap]
  constructor
  · rintro ⟨t, ht, h⟩
    obtain ⟨r, hr, rfl⟩ := List.mem_map.mp h
    exact ⟨t, r, rfl, ht, hr⟩
  · rintro ⟨t, r, rfl, ht, hr⟩
    exact ⟨t, ht, List.mem_map_of_mem hr⟩
theorem szTs0 (ks : List Tr) : szTs ks = 0 ↔ ks = [] := by
  cases ks with
  | nil => rw [szTs]; simp
  | cons t r => rw [szTs]; have := sz_pos t; simp; omega
theorem T1_mem (t : Tr) : t ∈ T1 ↔ szT t = 1 := by
  unfold T1
  rw [mkTs_mem, List.mem_singleton, sz_mk, ← szTs0]; omega
theorem Rw1_mem (ks : List Tr) : ks ∈ Rw1 ↔ szTs ks = 1 := by
  unfold Rw1
  rw [mkR_mem]
  constructor
  · rintro ⟨t, r, rfl, h1, h2⟩
    rw [T1_mem] at h1
    simp only [List.mem_singleton] at h2
    subst h2
    rw [szTs, szTs, h1]
  · intro h
    cases ks with
    | nil => rw [szTs] at h; cases h
    | cons t r =>
      rw [szTs] at h
      have := sz_pos t
      refine ⟨t, r, rfl, (T1_mem t).mpr (by omega), ?_⟩
      rw [List.mem_singleton, ← szTs0]; omega
theorem T2_mem (t : Tr) : t ∈ T2 ↔ szT t = 2 := by
  unfold T2
  rw [mkTs_mem, Rw1_mem, sz_mk]; omega
theorem Rw2_mem (ks : List Tr) : ks ∈ Rw2 ↔ szTs ks = 2 := by
  unfold Rw2
  rw [List.mem_append, mkR_mem, mkR_mem]
  constructor
  · rintro (⟨t, r, rfl, h1, h2⟩ | ⟨t, r, rfl, h1, h2⟩)
    · rw [T1_mem] at h1
      rw [Rw1_mem] at h2
      rw [szTs, h1, h2]
    · rw [T2_mem] at h1
      simp only [List.mem_singleton] at h2
      subst h2
      rw [szTs, szTs, h1]
  · intro h
    cases ks with
    | nil => rw [szTs] at h; cases h
    | cons t r =>
      rw [szTs] at h
      have := sz_pos t
      by_cases h1 : szT t = 1
      · exact .inl ⟨t, r, rfl, (T1_mem t).mpr h1, (Rw1_mem r).mpr (by omega)⟩
      · refine .inr ⟨t, r, rfl, (T2_mem t).mpr (by omega), ?_⟩
        rw [List.mem_singleton, ← szTs0]; omega
theorem T3_mem (t : Tr) : t ∈ T3 ↔ szT t = 3 := by
  unfold T3
  rw [mkTs_mem, Rw2_mem, sz_mk]; omega
theorem tOf_mem {n : Nat} (h1 : 1 ≤ n) (h3 : n ≤ 3) (t : Tr) : t ∈ tOf n ↔ szT t = n := by
  have : n = 1 ∨ n = 2 ∨ n = 3 := by omega
  rcases this with rfl | rfl | rfl
  · exact T1_mem t
  · exact T2_mem t
  · exact T3_mem t
theorem lens : T1.length = 4 ∧ Rw1.length = 4 ∧ T2.length = 16 ∧ Rw2.length = 32 ∧ T3.length = 128 := by decide +kernel
/-! ### rows_of_trees, trees_of -/
def encK (ks : List Tr) : D := .tuple (ks.map encT)
theorem lets_items : itemsOf (.str "abcd") = .ok (lets.map fun l => .str (letT l)) := by
  have h : ("abcd" : Str).cps.toList = [97, 98, 99, 100] := by decide +kernel
  show R.ok (("abcd" : Str).cps.toList.map fun c => PyData.str ⟨#[c]⟩) = _
  rw [h]
  have h0 : (⟨#[97]⟩ : Str) = letT 0 := by decide +kernel
  have h1 : (⟨#[98]⟩ : Str) = letT 1 := by decide +kernel
  have h2 : (⟨#[99]⟩ : Str) = letT 2 := by decide +kernel
  have h3 : (⟨#[100]⟩ : Str) = letT 3 := by decide +kernel
  simp only [List.map_cons, List.map_nil, lets, h0, h1, h2, h3]
theorem r_trees_step {N : Nat} {m : Int} {R : List (List Tr)} (hR : R.length ≤ 1000) (h : rn N 57 [.int (m - 1)] = .ok (.list (R.map encK))) : rn (N + 1) 58 [.int m] = .ok (.list ((mkTs R).map encT)) := by
  have hlim : lim = 1000000 := rfl
  have hlen : (lets.flatMap fun l => (R.map (Tr.mk l)).map encT).length ≤ 4000 := by
    rw [len_flatMap]
    simp [lets]
    omega
  obtain ⟨s', x1, a2, a3, rfl⟩ := loop_flat (t := .name 2) (f := fun s' => evSs (Cn N) b_trees_of_1 s') (enc := fun l : Fin 4 => .str (letT l)) (g := fun l => (R.map (Tr.mk l)).map encT)
    (fun acc st => ∃ a2 a3, st = [some (.sh (.int m)), some (.ow acc), a2, a3]) 4000 lets [] [some (.sh (.int m)), some (.ow []), none, none]
    (by
      rintro l _ acc st ⟨a2, a3, rfl⟩ hB
      refine ⟨_, [some (.sh (.int m)), some (.ow (acc ++ (R.map (Tr.mk l)).map encT)), some (.sh (.str (letT l))), a3], b_name _ _ _, ?_, _, _, rfl⟩
      rw [b_trees_of_1]
      have hc : evL (Cn N) (.comp (.name 3) (.seq (.call 57 (.cons (.bin .Sub (.var 0) (.con (.int 1))) .nil))) .no (.tup (.cons (.var 2) (.cons (.var 3) .nil)))) [some (.sh (.int m)), some (.ow acc), some (.sh (.str (letT l))), a3] = .ok (R.map fun ks => encT (.mk l ks)) := by
        refine comp_map (enc := encK) (by simp [h]) (by omega) fun ks _ => ⟨_, b_name _ _ _, ?_⟩
        rw [encT_eq]
        simp [encK]
      simp only [List.length_map] at hB
      refine (ss_nx ?_).trans (s_nil' _ _)
      rw [s_ext', e_lst]
      simp only [List.set_cons_succ, List.set_cons_zero, List.getElem?_cons_succ, List.getElem?_cons_zero, hc, Tf.R.bind_ok, l_of, Tf.R.out_ok]
      rw [if_pos (by simp; omega), List.map_map]
      rfl)
    ⟨_, _, rfl⟩ (by rw [List.nil_append]; exact hlen)
  rw [rn_trees_of, b_trees_of]
  refine res_of (ss_nx (s' := [some (.sh (.int m)), some (.ow []), none, none]) (by rw [s_setL', el_disp, es_nil']; rfl)) ?_
  have hgv : gv 0 = some (.str "abcd") := rfl
  refine res_of (ss_nx ((for_ok (ds := lets.map fun l => .str (letT l)) (by simp only [ei_seq, e_glo, hgv, Tf.R.bind_ok, lets_items])).trans x1)) ?_
  rw [List.nil_append, ← List.map_flatMap]
  simp [mkTs]
theorem r_rows0 (N : Nat) : rn (N + 1) 57 [.int 0] = .ok (.list ([[]].map encK)) := by
  rw [rn_rows_of_trees, b_rows_of_trees]
  exact res_of (ss_rt ((iff_t (d := .bool true) (by simp) rfl).trans (ss_rt (ret_ok (d := .list [.tuple []]) (by simp))))) rfl
/-- one part of rows_of_trees: the first tree has so many nodes -/
theorem rows_part {N : Nat} {m f : Int} {T : List Tr} {R : List (List Tr)} (hT : T.length * R.length ≤ 10000) (hR : R.length ≤ 1000) (hK : ∀ r ∈ R, r.length ≤ 100) (h1 : rn N 57 [.int (m - f)] = .ok (.list (R.map encK))) (h2 : rn N 58 [.int f] = .ok (.list (T.map encT))) (acc : List D) (ha : acc.length ≤ 10000) (a3 a4 a5 : Option Sl) :
    ∃ b3 b4 b5, evSs (Cn N) b_rows_of_trees_2 [some (.sh (.int m)), some (.ow acc), some (.sh (.int f)), a3, a4, a5] = .nx [some (.sh (.int m)), some (.ow (acc ++ (mkR T R).map encK)), some (.sh (.int f)), b3, b4, b5] := by
  have hlim : lim = 1000000 := rfl
  have hlen : ∀ T : List Tr, (T.flatMap fun t => (R.map fun r => t :: r).map encK).length = T.length * R.length := fun T => by
    induction T with
    | nil => simp
    | cons t T ih => rw [List.flatMap_cons, List.length_append, ih, List.length_map, List.length_map, List.length_cons, Nat.add_mul]; omega
  obtain ⟨s', x1, a4, a5, rfl⟩ := loop_flat (t := .name 4) (f := fun s' => evSs (Cn N) b_rows_of_trees_1 s') (enc := encT) (g := fun t => (R.map fun r => t :: r).map encK)
    (fun acc st => ∃ a4 a5, st = [some (.sh (.int m)), some (.ow acc), some (.sh (.int f)), some (.sh (.list (R.map encK))), a4, a5]) 100000 T acc [some (.sh (.int m)), some (.ow acc), some (.sh (.int f)), some (.sh (.list (R.map encK))), a4, a5]
    (by
      rintro t _ acc st ⟨a4, a5, rfl⟩ hB
      refine ⟨_, [some (.sh (.int m)), some (.ow (acc ++ (R.map fun r => t :: r).map encK)), some (.sh (.int f)), some (.sh (.list (R.map encK))), some (.sh (encT t)), a5], b_name _ _ _, ?_, _, _, rfl⟩
      rw [b_rows_of_trees_1]
      have hc : evL (Cn N) (.comp (.name 5) (.seq (.var 3)) .no (.bin .Add (.tup (.cons (.var 4) .nil)) (.var 5))) [some (.sh (.int m)), some (.ow acc), some (.sh (.int f)), some (.sh (.list (R.map encK))), some (.sh (encT t)), a5] = .ok (R.map fun ks => encK (t :: ks)) := by
        refine comp_map (enc := encK) (by simp) (by omega) fun ks hks => ⟨_, b_name _ _ _, ?_⟩
        have := add_T [t] ks (by have := hK ks hks; simp; omega)
        have this' : binD .Add (.tuple [encT t]) (encK ks) = .ok (encK (t :: ks)) := this
        simp [this']
      simp only [List.length_map] at hB
      refine (ss_nx ?_).trans (s_nil' _ _)
      rw [s_ext', e_lst]
      simp only [List.set_cons_succ, List.set_cons_zero, List.getElem?_cons_succ, List.getElem?_cons_zero, hc, Tf.R.bind_ok, l_of, Tf.R.out_ok]
      rw [if_pos (by simp; omega), List.map_map]
      rfl)
    ⟨_, _, rfl⟩ (by rw [List.length_append, hlen]; omega)
  refine ⟨some (.sh (.list (R.map encK))), a4, a5, ?_⟩
  rw [b_rows_of_trees_2]
  refine (ss_nx (set_ok (d := .list (R.map encK)) (by simp [h1]))).trans ?_
  refine (ss_nx ((for_ok (ds := T.map encT) (by simp [h2])).trans x1)).trans ?_
  rw [← List.map_flatMap]
  exact s_nil' _ _
theorem mkR_len1 {T : List Tr} {R : List (List Tr)} {k : Nat} (h : ∀ r ∈ R, r.length ≤ k) : ∀ r ∈ mkR T R, r.length ≤ k + 1 := by
  intro r hr
  obtain ⟨t, q, rfl, _, hq⟩ := (mkR_mem T R r).mp hr
  have := h q hq
  simp; omega
theorem nil_len : ∀ r ∈ ([[]] : List (List Tr)), r.length ≤ 0 := by simp
theorem bind_n (i : Nat) (d : D) (s : Sd) : bindT (.name i) d s = some (s.set i (some (.sh d))) := b_name s i d
theorem loop1 {i : Nat} {f : Sd → Out} {d : D} {s s1 : Sd} (h : f (s.set i (some (.sh d))) = .nx s1) : loopFor (.name i) f [d] s = .nx s1 := by
  unfold loopFor
  rw [b_name]
  show (f _).then _ = _
  rw [h]; rfl
theorem loop2 {i : Nat} {f : Sd → Out} {d e : D} {s s1 s2 : Sd} (h : f (s.set i (some (.sh d))) = .nx s1) (h2 : f (s1.set i (some (.sh e))) = .nx s2) : loopFor (.name i) f [d, e] s = .nx s2 := by
  unfold loopFor
  rw [b_name]
  show (f _).then _ = _
  rw [h]
  exact loop1 h2
theorem rows_one_gen {N : Nat} {T : List Tr} {R : List (List Tr)} (hT : T.length * R.length ≤ 10000) (hR : R.length ≤ 1000) (hK : ∀ r ∈ R, r.length ≤ 100) (h0 : rn N 57 [.int 0] = .ok (.list (R.map encK))) (t1 : rn N 58 [.int 1] = .ok (.list (T.map encT))) : rn (N + 1) 57 [.int 1] = .ok (.list ((mkR T R).map encK)) := by
  obtain ⟨b3, b4, b5, e⟩ := rows_part (N := N) (m := 1) (f := 1) hT hR hK h0 t1 [] (by simp) none none none
  rw [rn_rows_of_trees, b_rows_of_trees]
  refine res_of (ss_nx ((iff_f (d := .bool false) (by simp) rfl).trans (s_nil' _ _))) ?_
  refine res_of (ss_nx (s' := [some (.sh (.int 1)), some (.ow []), none, none, none, none]) (by rw [s_setL', el_disp, es_nil']; rfl)) ?_
  refine res_of (ss_nx (s' := [some (.sh (.int 1)), some (.ow ([] ++ (mkR T R).map encK)), some (.sh (.int 1)), b3, b4, b5]) ((for_ok (ds := [.int 1]) ?_).trans (loop1 e))) ?_
  · refine rng2_ok (i := 1) (j := 2) (by simp) (by simp) ?_
    rw [rng_ok (by omega) (by omega) (by omega) (by omega)]; rfl
  simp
theorem rows_two_gen {N : Nat} {T T' : List Tr} {R R' : List (List Tr)} (hT : T.length * R.length ≤ 10000) (hR : R.length ≤ 1000) (hK : ∀ r ∈ R, r.length ≤ 100) (hT' : T'.length * R'.length ≤ 10000) (hR' : R'.length ≤ 1000) (hK' : ∀ r ∈ R', r.length ≤ 100) (hm : (mkR T R).length ≤ 10000)
    (h1 : rn N 57 [.int 1] = .ok (.list (R.map encK))) (h0 : rn N 57 [.int 0] = .ok (.list (R'.map encK))) (t1 : rn N 58 [.int 1] = .ok (.list (T.map encT))) (t2 : rn N 58 [.int 2] = .ok (.list (T'.map encT))) : rn (N + 1) 57 [.int 2] = .ok (.list ((mkR T R ++ mkR T' R').map encK)) := by
  obtain ⟨b3, b4, b5, e⟩ := rows_part (N := N) (m := 2) (f := 1) hT hR hK h1 t1 [] (by simp) none none none
  obtain ⟨c3, c4, c5, e'⟩ := rows_part (N := N) (m := 2) (f := 2) hT' hR' hK' h0 t2 ([] ++ (mkR T R).map encK) (by simpa using hm) b3 b4 b5
  rw [rn_rows_of_trees, b_rows_of_trees]
  refine res_of (ss_nx ((iff_f (d := .bool false) (by simp) rfl).trans (s_nil' _ _))) ?_
  refine res_of (ss_nx (s' := [some (.sh (.int 2)), some (.ow []), none, none, none, none]) (by rw [s_setL', el_disp, es_nil']; rfl)) ?_
  refine res_of (ss_nx (s' := [some (.sh (.int 2)), some (.ow ([] ++ (mkR T R).map encK ++ (mkR T' R').map encK)), some (.sh (.int 2)), c3, c4, c5]) ((for_ok (ds := [.int 1, .int 2]) ?_).trans (loop2 e e'))) ?_
  · refine rng2_ok (i := 1) (j := 3) (by simp) (by simp) ?_
    rw [rng_ok (by omega) (by omega) (by omega) (by omega)]; rfl
  simp
theorem r_rows1 (N : Nat) : rn (N + 3) 57 [.int 1] = .ok (.list (Rw1.map encK)) :=
  rows_one_gen (T := T1) (R := [[]]) (by rw [lens.1]; simp) (by simp) (fun r hr => by have := nil_len r hr; omega) (r_rows0 (N + 1)) (r_trees_step (m := 1) (R := [[]]) (by simp) (r_rows0 N))
theorem r_rows2 (N : Nat) : rn (N + 5) 57 [.int 2] = .ok (.list (Rw2.map encK)) :=
  rows_two_gen (T := T1) (R := Rw1) (T' := T2) (R' := [[]]) (by rw [lens.1, lens.2.1]; omega) (by rw [lens.2.1]; omega) (fun r hr => by have := mkR_len1 nil_len r hr; omega) (by rw [lens.2.2.1]; simp) (by simp) (fun r hr => by have := nil_len r hr; omega)
    (by rw [show (mkR T1 Rw1).length = 16 by decide +kernel]; omega) (r_rows1 (N + 1)) (r_rows0 (N + 3)) (r_trees_step (m := 1) (R := [[]]) (by simp) (r_rows0 (N + 2))) (r_trees_step (m := 2) (R := Rw1) (by rw [lens.2.1]; omega) (r_rows1 N))
theorem r_trees_of {N : Nat} {n : Nat} (h1 : 1 ≤ n) (h3 : n ≤ 3) : rn (N + 6) 58 [.int (n : Int)] = .ok (.list ((tOf n).map encT)) := by
  have : n = 1 ∨ n = 2 ∨ n = 3 := by omega
  rcases this with rfl | rfl | rfl
  · exact r_trees_step (m := 1) (R := [[]]) (by simp) (r_rows0 (N + 4))
  · exact r_trees_step (m := 2) (R := Rw1) (by rw [lens.2.1]; omega) (r_rows1 (N + 2))
  · exact r_trees_step (m := 3) (R := Rw2) (by rw [lens.2.2.2.1]; omega) (r_rows2 N)
def srtT (n : Nat) : List Tr := (tOf n).mergeSort leT
theorem srtT_mem {n : Nat} (h1 : 1 ≤ n) (h3 : n ≤ 3) (t : Tr) : t ∈ srtT n ↔ szT t = n := by
  unfold srtT; rw [List.mem_mergeSort]; exact tOf_mem h1 h3 t
theorem tOf_len {n : Nat} (h1 : 1 ≤ n) (h3 : n ≤ 3) : (tOf n).length ≤ 128 := by
  have : n = 1 ∨ n = 2 ∨ n = 3 := by omega
  rcases this with rfl | rfl | rfl
  · show T1.length ≤ _; rw [lens.1]; omega
  · show T2.length ≤ _; rw [lens.2.2.1]; omega
  · show T3.length ≤ _; rw [lens.2.2.2.2]; omega
theorem r_srtT {N : Nat} {n : Nat} (h1 : 1 ≤ n) (h3 : n ≤ 3) : srtD ((tOf n).map encT) = .ok ((srtT n).map encT) :=
  srt_T (tOf n) (fun t ht => by have := (tOf_mem h1 h3 t).mp ht; omega) (by have := tOf_len h1 h3; have hlim : lim = 1000000 := rfl; omega)
/-! ### the least that parts -/
def parts (p q : Pa) (t : Tr) : Bool := (fnd p t).any fun n => !decide (n ∈ fnd q t)
def encOT : Option Tr → D
  | none => .none
  | some t => encT t
def leastT (p q : Pa) (m : Nat) : Option Tr := (List.range m).findSome? fun i => (srtT (i + 1)).find? (parts p q)
theorem find_findSome {A : Type} (p : A → Bool) (xs : List A) : xs.find? p = xs.findSome? fun x => if p x then some x else none := by
  induction xs with
  | nil => rfl
  | cons x r ih =>
    rw [List.find?_cons, List.findSome?_cons]
    cases p x <;> simp [ih]
theorem r_least_tree {N : Nat} {p q : Pa} {m : Nat} (w1 : wgP p = true) (w2 : wgP q = true) (b1 : stL p ≤ 20) (b2 : stL q ≤ 20) (hm : m ≤ 3) (hN : 60 < N) : rn N 59 [encP p, encP q, .int (m : Int)] = .ok (encOT (leastT p q m)) := by
  have hlim : lim = 1000000 := rfl
  obtain ⟨N', rfl⟩ : ∃ n', N = n' + 7 := ⟨N - 7, by omega⟩
  have hp : p ≠ [] := fun e => by subst e; have := (wgP_inv w1).1; simp at this
  -- one tree
  have one : ∀ t, szT t ≤ 3 → ∀ (a3 : D) (a5 a6 : Option Sl), (parts p q t = true → evSs (Cn (N' + 6)) b_least_tree_1 [some (.sh (encP p)), some (.sh (encP q)), some (.sh (.int (m : Int))), some (.sh a3), some (.sh (encT t)), a5, a6] = .rt (encT t)) ∧ (parts p q t = false → evSs (Cn (N' + 6)) b_least_tree_1 [some (.sh (encP p)), some (.sh (encP q)), some (.sh (.int (m : Int))), some (.sh a3), some (.sh (encT t)), a5, a6] = .nx [some (.sh (encP p)), some (.sh (encP q)), some (.sh (.int (m : Int))), some (.sh a3), some (.sh (encT t)), some (.sh (.tuple ((fnd q t).map encI))), a6]) := by
    intro t ht a3 a5 a6
    have f1 := r_finds (N := N' + 6) (t := t) w1 (by omega) (by omega) (by omega)
    have f2 := r_finds (N := N' + 6) (t := t) w2 (by omega) (by omega) (by omega)
    have hl := fnd_len p t hp
    have hc : ev (Cn (N' + 6)) (.bi .any (.lst (.comp (.name 6) (.seq (.call 28 (.cons (.var 0) (.cons (.var 4) .nil)))) .no (.cmp .NotIn (.var 6) (.var 5))))) [some (.sh (encP p)), some (.sh (encP q)), some (.sh (.int (m : Int))), some (.sh a3), some (.sh (encT t)), some (.sh (.tuple ((fnd q t).map encI))), a6] = .ok (.bool (parts p q t)) := by
      rw [e_bi, e_lst, comp_map (xs := fnd p t) (enc := encI) (g := fun n => .bool (!decide (n ∈ fnd q t)))]
      · simp only [R.bind_ok, biD, boolsOf_enc, List.any_map, Function.comp_def, id]
        rfl
      · simp [f1]
      · omega
      · intro n _
        exact ⟨_, b_name _ _ _, by simp [cmp_NotIn]⟩
    rw [b_least_tree_1]
    refine ⟨fun h => ?_, fun h => ?_⟩
    · rw [h] at hc
      refine (ss_nx (set_ok (d := .tuple ((fnd q t).map encI)) (by simp [f2]))).trans ?_
      exact ss_rt ((iff_t hc rfl).trans (ss_rt (ret_ok (by simp))))
    · rw [h] at hc
      refine (ss_nx (set_ok (d := .tuple ((fnd q t).map encI)) (by simp [f2]))).trans ?_
      exact (ss_nx ((iff_f hc rfl).trans (s_nil' _ _))).trans (s_nil' _ _)
  have key := loop_find (t := .name 3) (f := fun s' => evSs (Cn (N' + 6)) b_least_tree_2 s') (enc := fun i : Nat => .int ((i + 1 : Nat) : Int)) (g := fun i => ((srtT (i + 1)).find? (parts p q)).map encT)
    (fun s => ∃ a3 a4 a5 a6, s = [some (.sh (encP p)), some (.sh (encP q)), some (.sh (.int (m : Int))), a3, a4, a5, a6]) (List.range m) [some (.sh (encP p)), some (.sh (encP q)), some (.sh (.int (m : Int))), none, none, none, none]
    (by
      rintro i hi s ⟨a3, a4, a5, a6, rfl⟩
      rw [List.mem_range] at hi
      have e1 := r_trees_of (N := N') (n := i + 1) (by omega) (by omega)
      have e2 := r_srtT (N := N') (n := i + 1) (by omega) (by omega)
      refine ⟨_, b_name _ _ _, ?_⟩
      simp only [List.set_cons_succ, List.set_cons_zero]
      have inner := loop_find (t := .name 4) (f := fun s' => evSs (Cn (N' + 6)) b_least_tree_1 s') (enc := encT) (g := fun t => (if parts p q t then some t else none).map encT)
        (fun s => ∃ a4 a5 a6, s = [some (.sh (encP p)), some (.sh (encP q)), some (.sh (.int (m : Int))), some (.sh (.int ((i + 1 : Nat) : Int))), a4, a5, a6]) (srtT (i + 1)) [some (.sh (encP p)), some (.sh (encP q)), some (.sh (.int (m : Int))), some (.sh (.int ((i + 1 : Nat) : Int))), a4, a5, a6]
        (by
          rintro t ht s ⟨a4, a5, a6, rfl⟩
          have hsz := (srtT_mem (n := i + 1) (by omega) (by omega) t).mp ht
          obtain ⟨o1, o2⟩ := one t (by omega) (.int ((i + 1 : Nat) : Int)) a5 a6
          refine ⟨_, b_name _ _ _, fun d hd => ?_, fun hd => ?_⟩
          · cases hv : parts p q t with
            | false => rw [hv] at hd; simp at hd
            | true =>
              rw [hv] at hd
              simp at hd
              subst hd
              exact o1 hv
          · cases hv : parts p q t with
            | true => rw [hv] at hd; simp at hd
            | false => exact ⟨_, o2 hv, _, _, _, rfl⟩)
        ⟨_, _, _, rfl⟩
      rw [findSome_map, ← find_findSome] at inner
      have hI : evI (Cn (N' + 6)) (.seq (.lst (.srt (.call 58 (.cons (.var 3) .nil))))) [some (.sh (encP p)), some (.sh (encP q)), some (.sh (.int (m : Int))), some (.sh (.int ((i + 1 : Nat) : Int))), a4, a5, a6] = .ok ((srtT (i + 1)).map encT) := by
        simp only [ei_seq, e_lst, el_srt, e_call, es_cons', es_nil', e_var, List.getElem?_cons_succ, List.getElem?_cons_zero, R.bind_ok, e1, sq_lst, e2, i_lst]
      refine ⟨fun d hd => ?_, fun hd => ?_⟩
      · rw [b_least_tree_2]
        exact ss_rt ((for_ok hI).trans (inner.1 d hd))
      · obtain ⟨s', x1, a4', a5', a6', rfl⟩ := inner.2 hd
        refine ⟨[some (.sh (encP p)), some (.sh (encP q)), some (.sh (.int (m : Int))), some (.sh (.int ((i + 1 : Nat) : Int))), a4', a5', a6'], ?_, _, _, _, _, rfl⟩
        rw [b_least_tree_2]
        exact (ss_nx ((for_ok hI).trans x1)).trans (s_nil' _ _))
    ⟨_, _, _, _, rfl⟩
  rw [findSome_map] at key
  have hI : evI (Cn (N' + 6)) (.rng2 (.con (.int 1)) (.bin .Add (.var 2) (.con (.int 1)))) [some (.sh (encP p)), some (.sh (encP q)), some (.sh (.int (m : Int))), none, none, none, none] = .ok ((List.range m).map fun i => .int ((i + 1 : Nat) : Int)) := by
    refine rng2_ok (i := 1) (j := (m : Int) + 1) (by simp) (by simp) ?_
    rw [rng_ok (by omega) (by omega) (by omega) (by omega), rangeD_eq, show ((m : Int) + 1 - 1).toNat = m by omega]
    congr 1
    refine List.map_congr_left fun i _ => ?_
    congr 1
    omega
  rw [rn_least_tree, b_least_tree]
  unfold leastT
  cases hq : (List.range m).findSome? fun i => (srtT (i + 1)).find? (parts p q) with
  | some t =>
    have := key.1 (encT t) (by rw [hq]; rfl)
    exact res_of (ss_rt ((for_ok hI).trans this)) rfl
  | none =>
    obtain ⟨s', x1, a3, a4, a5, a6, rfl⟩ := key.2 (by rw [hq]; rfl)
    refine res_of (ss_nx ((for_ok hI).trans x1)) ?_
    exact res_of (ss_rt (ret_ok (d := .none) (by simp))) rfl
theorem parts_iff {p q : Pa} (hp : p ≠ []) (hq : q ≠ []) (t : Tr) : parts p q t = true ↔ ∃ n, fL t p none n ∧ ¬ fL t q none n := by
  unfold parts
  rw [List.any_eq_true]
  constructor
  · rintro ⟨n, hn, h⟩
    simp only [Bool.not_eq_true', decide_eq_false_iff_not] at h
    exact ⟨n, (fnd_mem hp n).mp hn, fun z => h ((fnd_mem hq n).mpr z)⟩
  · rintro ⟨n, hn, h⟩
    refine ⟨n, (fnd_mem hp n).mpr hn, ?_⟩
    simp only [Bool.not_eq_true', decide_eq_false_iff_not]
    exact fun z => h ((fnd_mem hq n).mp z)
end Tf
namespace Tf
open PySem
/-! Tm26: all trees in their order. -/
theorem srtT_len {n : Nat} (h1 : 1 ≤ n) (h3 : n ≤ 3) : (srtT n).length ≤ 128 := by
  unfold srtT
  rw [List.length_mergeSort]; exact tOf_len h1 h3
/-! ### the first of all -/
def allS : List Tr := srtT 1 ++ srtT 2 ++ srtT 3
theorem blk {p q : Pa} {n m : Nat} (h1 : 1 ≤ n) (h3 : n ≤ 3) : (srtT n).find? (fun t => parts p q t && decide (szT t ≤ m)) = if n ≤ m then (srtT n).find? (parts p q) else none := by
  have hs := fun t => (srtT_mem h1 h3 t).mp
  generalize srtT n = L at hs
  by_cases h : n ≤ m
  · rw [if_pos h]
    induction L with
    | nil => rfl
    | cons t r ih =>
      have := hs t (by simp)
      rw [List.find?_cons, List.find?_cons, ih fun t ht => hs t (by simp [ht])]
      have : decide (szT t ≤ m) = true := by rw [this]; simp [h]
      rw [this, Bool.and_true]
  · rw [if_neg h, List.find?_eq_none]
    intro t ht
    have := hs t ht
    simp [this, h]
theorem least_eq {p q : Pa} {m : Nat} (h1 : 1 ≤ m) (h3 : m ≤ 3) : leastT p q m = ((allS.filter (parts p q)).filter fun t => decide (szT t ≤ m)).head? := by
  rw [List.filter_filter, List.head?_filter]
  unfold allS
  have e : (fun t => decide (szT t ≤ m) && parts p q t) = fun t => parts p q t && decide (szT t ≤ m) := by funext t; exact Bool.and_comm _ _
  rw [e, List.find?_append, List.find?_append, blk (by omega) (by omega), blk (by omega) (by omega), blk (by omega) (by omega)]
  unfold leastT
  have r1 : List.range 1 = [0] := rfl
  have r2 : List.range 2 = [0, 1] := rfl
  have r3 : List.range 3 = [0, 1, 2] := rfl
  have : m = 1 ∨ m = 2 ∨ m = 3 := by omega
  rcases this with rfl | rfl | rfl
  · rw [r1]
    simp only [List.findSome?_cons, List.findSome?_nil, Nat.zero_add]
    generalize (srtT 1).find? (parts p q) = a
    cases a <;> rfl
  · rw [r2]
    simp only [List.findSome?_cons, List.findSome?_nil, Nat.zero_add]
    generalize (srtT 1).find? (parts p q) = a
    generalize (srtT 2).find? (parts p q) = b
    generalize (srtT 3).find? (parts p q) = c
    cases a <;> cases b <;> rfl
  · rw [r3]
    simp only [List.findSome?_cons, List.findSome?_nil, Nat.zero_add]
    generalize (srtT 1).find? (parts p q) = a
    generalize (srtT 2).find? (parts p q) = b
    generalize (srtT 3).find? (parts p q) = c
    cases a <;> cases b <;> cases c <;> rfl
theorem any_filter {A : Type} (q : A → Bool) (xs : List A) : (!(xs.filter q).isEmpty) = xs.any q := by
  induction xs with
  | nil => rfl
  | cons x r ih =>
    rw [List.filter_cons, List.any_cons]
    cases q x with
    | true => rfl
    | false => simpa using ih
theorem pln_T : ∀ (j : Nat) (t : Tr), szT t ≤ j → szT t ≤ 900 → pln (2 * j + 1) (encT t)
  | 0, t, h, _ => by have := sz_pos t; omega
  | j + 1, t, h, hb => by
    cases t with
    | mk l ks =>
      rw [encT_eq]
      refine ⟨by simp, fun x hx => ?_⟩
      simp only [List.mem_cons, List.not_mem_nil, or_false] at hx
      rcases hx with rfl | rfl
      · trivial
      · have hk := ks_len (.mk l ks)
        simp only [Tr.ks] at hk
        refine ⟨by rw [List.length_map]; omega, fun y hy => ?_⟩
        obtain ⟨c, hc, rfl⟩ := List.mem_map.mp hy
        have := sz_mem (t := .mk l ks) hc
        exact pln_T j c (by omega) (by omega)
theorem parts_fnd (p q : Pa) (t : Tr) : (!((fnd p t).filter fun n => !decide (n ∈ fnd q t)).isEmpty) = parts p q t := any_filter _ _
theorem allS_len : allS.length ≤ 400 := by
  unfold allS
  have h1 := srtT_len (n := 1) (by omega) (by omega)
  have h2 := srtT_len (n := 2) (by omega) (by omega)
  have h3 := srtT_len (n := 3) (by omega) (by omega)
  rw [List.length_append, List.length_append]; omega
theorem allS_sz {t : Tr} (h : t ∈ allS) : szT t ≤ 3 := by
  unfold allS at h
  rcases List.mem_append.mp h with h | h
  · rcases List.mem_append.mp h with h | h
    · have := (srtT_mem (n := 1) (by omega) (by omega) t).mp h; omega
    · have := (srtT_mem (n := 2) (by omega) (by omega) t).mp h; omega
  · have := (srtT_mem (n := 3) (by omega) (by omega) t).mp h; omega
theorem call_Cn (n f : Nat) (ds : List D) : (Cn n).call f ds = rn n f ds := rfl
theorem mem_allS {t : Tr} (h1 : 1 ≤ szT t) (h3 : szT t ≤ 3) : t ∈ allS := by
  unfold allS
  rw [List.mem_append, List.mem_append, srtT_mem (by omega) (by omega), srtT_mem (by omega) (by omega), srtT_mem (by omega) (by omega)]
  omega
theorem allS_order : allS.Pairwise fun a b => szT a < szT b ∨ (szT a = szT b ∧ leT a b = true) := by
  unfold allS
  have one : ∀ n, 1 ≤ n → n ≤ 3 → (srtT n).Pairwise fun a b => szT a < szT b ∨ (szT a = szT b ∧ leT a b = true) := fun n h1 h3 => by
    refine (sortT (tOf n)).imp_of_mem fun {a b} ha hb h => .inr ⟨?_, h⟩
    have := (srtT_mem h1 h3 a).mp ha
    have := (srtT_mem h1 h3 b).mp hb
    omega
  rw [List.pairwise_append, List.pairwise_append]
  refine ⟨⟨one 1 (by omega) (by omega), one 2 (by omega) (by omega), fun a ha b hb => .inl ?_⟩, one 3 (by omega) (by omega), fun a ha b hb => .inl ?_⟩
  · have := (srtT_mem (n := 1) (by omega) (by omega) a).mp ha
    have := (srtT_mem (n := 2) (by omega) (by omega) b).mp hb
    omega
  · have := (srtT_mem (n := 3) (by omega) (by omega) b).mp hb
    rcases List.mem_append.mp ha with ha | ha
    · have := (srtT_mem (n := 1) (by omega) (by omega) a).mp ha
      omega
    · have := (srtT_mem (n := 2) (by omega) (by omega) a).mp ha
      omega
theorem allS_rise : allS.Pairwise fun a b => szT a ≤ szT b := allS_order.imp fun h => by omega
end Tf
namespace Tf
open PySem
/-! Tm27: _law_plain, _law_is_within; things that are trees; is_parting of any thing. -/
def plt (q : Pa) : Tr := match plL q with
  | some x => x.1
  | none => .mk 3 []
theorem plTs_eq (ts : List Pa) : plTs ts = ts.map plt := by
  induction ts with
  | nil => rw [plTs]; rfl
  | cons p r ih => rw [plTs, ih]; rfl
theorem idx_pair0 (a b : D) : idxD (.tuple [a, b]) (.int 0) = .ok a := rfl
theorem idx_pair1 (a b : D) : idxD (.tuple [a, b]) (.int 1) = .ok b := rfl
theorem r_law_plain : ∀ (N : Nat) (p : Pa) (x : Tr × Nd), plL p = some x → wgL p = true → stL p ≤ 400 → stL p < N → rn N 34 [encP p] = .ok (encTN x)
  | 0, p, x, _, _, _, h => by omega
  | N + 1, [], x, h, _, _, _ => by rw [plL] at h; cases h
  | N + 1, .mk w l ts :: r, x, hx, hw, hb, hN => by
    have hlim : lim = 1000000 := rfl
    rw [plL] at hx
    have hx' := Option.some.inj hx
    subst hx'
    have hsl := stL_cons (.mk w l ts) r
    have hst : stS (.mk w l ts) = 1 + stPs ts := by rw [stS]
    have htl := ts_len (s := .mk w l ts) (List.mem_cons_self) hw
    simp only [St.ts] at htl
    have hwr : wgL r = true := by rw [wgL, Bool.and_eq_true] at hw; exact hw.2
    have hidx : idxD (encP (.mk w l ts :: r)) (.int 0) = .ok (encS (.mk w l ts)) := by rw [encP_cons, idx0]
    have hlen : biD .len (encP (.mk w l ts :: r)) = .ok (.int ((r.length + 1 : Nat) : Int)) := by rw [encP_eq]; simp
    have hcut : slcD (some 1) none (encP (.mk w l ts :: r)) = .ok (encP r) := by
      rw [encP_eq, slcT, show (1 : Int) = ((1 : Nat) : Int) from rfl, cut_drop, encP_eq]; rfl
    generalize hP : encP (.mk w l ts :: r) = P at hidx hlen hcut
    have hcomp : evL (Cn N) (.comp (.name 7) (.seq (.var 6)) .no (.idx (.call 34 (.cons (.var 7) .nil)) (.con (.int 0)))) [some (.sh P), none, none, none, some (.sh (.str (wayS w))), some (.sh (.str (letS l))), some (.sh (.tuple (ts.map encP))), none, none, none] = .ok (ts.map fun q => encT (plt q)) := by
      refine comp_map (enc := encP) (by simp) (by omega) fun q hq => ⟨_, b_name _ _ _, ?_⟩
      have h1 := st_in (s := .mk w l ts) (p := .mk w l ts :: r) (by simp) hq
      obtain ⟨k1, k2, k3⟩ := wgP_inv (wg_mem (s := .mk w l ts) hw (by simp) hq)
      obtain ⟨y, hy⟩ := plL_some (p := q) (fun e => by subst e; simp at k1)
      have ih := r_law_plain N q y hy k3 (by omega) (by omega)
      have e0 : idxD (encTN y) (.int 0) = .ok (encT y.1) := rfl
      have ept : plt q = y.1 := by unfold plt; rw [hy]
      rw [ept]
      simp [ih, e0]
    have fin : ∀ (a8 a9 : Option Sl), (evSs (Cn N) (.cons (.frz 1) (.cons (.set 3 (.tup (.cons (.var 5) (.cons (.bi .tuple (.var 1)) .nil)))) (.cons (.ret (.ite (.cmp .Eq (.var 4) (.con (.str "in"))) (.tup (.cons (.var 3) (.cons (.var 2) .nil))) (.tup (.cons (.tup (.cons (.con (.str "d")) (.cons (.tup (.cons (.var 3) .nil)) .nil))) (.cons (.bin .Add (.tup (.cons (.con (.int 0)) .nil)) (.var 2)) .nil))))) .nil))) [some (.sh P), some (.ow ((ownT (.mk w l ts) (plL r)).ks.map encT)), some (.sh (encI (ownN (.mk w l ts) (plL r)))), none, some (.sh (.str (wayS w))), some (.sh (.str (letS l))), some (.sh (.tuple (ts.map encP))), none, a8, a9]).res = .ok (encTN (plS (.mk w l ts) (plL r))) := by
      intro a8 a9
      have hown : PyData.tuple [.str (letS l), .tuple ((ownT (.mk w l ts) (plL r)).ks.map encT)] = encT (ownT (.mk w l ts) (plL r)) := by
        unfold ownT
        rw [encT_eq, letT_l4]; rfl
      refine res_of (ss_nx (s' := [some (.sh P), some (.sh (.list ((ownT (.mk w l ts) (plL r)).ks.map encT))), some (.sh (encI (ownN (.mk w l ts) (plL r)))), none, some (.sh (.str (wayS w))), some (.sh (.str (letS l))), some (.sh (.tuple (ts.map encP))), none, a8, a9]) (by simp)) ?_
      refine res_of (ss_nx (set_ok (d := encT (ownT (.mk w l ts) (plL r))) (by simp [hown]))) ?_
      refine res_of (ss_rt (ret_ok (d := encTN (plS (.mk w l ts) (plL r))) ?_)) rfl
      unfold encTN
      rw [plS_1, plS_2]
      cases w with
      | false => simp [cmp_str, way_in, dpT, St.w]
      | true =>
        have h1 := ownN_len (.mk true l ts :: r) (.mk true l ts) r rfl
        have h2 := len_le_st r
        have h5 := encI_app [0] (ownN (.mk true l ts) (plL r)) (by simp; omega)
        have h5' : binD .Add (.tuple [.int 0]) (encI (ownN (.mk true l ts) (plL r))) = .ok (encI (0 :: ownN (.mk true l ts) (plL r))) := h5
        simp [cmp_str, way_in, dpT, St.w, h5', encT_d]
    rw [rn_law_plain, b_law_plain]
    refine res_of (ss_nx (s' := [some (.sh P), none, none, none, some (.sh (.str (wayS w))), some (.sh (.str (letS l))), some (.sh (.tuple (ts.map encP))), none, none, none]) (by simp [hidx, encS_eq])) ?_
    refine res_of (ss_nx (s' := [some (.sh P), some (.ow (ts.map fun q => encT (plt q))), none, none, some (.sh (.str (wayS w))), some (.sh (.str (letS l))), some (.sh (.tuple (ts.map encP))), none, none, none]) (by rw [s_setL', hcomp]; rfl)) ?_
    refine res_of (ss_nx (set_ok (d := .tuple []) (by simp))) ?_
    simp only [List.set_cons_succ, List.set_cons_zero]
    cases r with
    | nil =>
      refine res_of (ss_nx ((iff_f (d := .bool false) (by simp [hlen]) rfl).trans (s_nil' _ _))) ?_
      have := fin none none
      rw [plL] at this ⊢
      have e1 : (ownT (.mk w l ts) none).ks.map encT = ts.map fun q => encT (plt q) := by
        show (plTs ts ++ []).map encT = _
        rw [List.append_nil, plTs_eq, List.map_map]; rfl
      rw [e1] at this
      exact this
    | cons s2 r2 =>
      have hlen' : ¬ ((1 : Int) < (((s2 :: r2).length + 1 : Nat) : Int)) → False := fun h => h (by simp; omega)
      have hr : plL (s2 :: r2) = some (plS s2 (plL r2)) := by rw [plL]
      have hss := one_le_stS (.mk w l ts)
      have ih := r_law_plain N (s2 :: r2) _ hr hwr (by omega) (by omega)
      have h1 := pl_nd_len hr
      have h2 := plL_sz (s2 :: r2) _ hr hwr
      refine res_of (ss_nx (s' := [some (.sh P), some (.ow ((ownT (.mk w l ts) (plL (s2 :: r2))).ks.map encT)), some (.sh (encI (ownN (.mk w l ts) (plL (s2 :: r2))))), none, some (.sh (.str (wayS w))), some (.sh (.str (letS l))), some (.sh (.tuple (ts.map encP))), none, some (.sh (encT (plS s2 (plL r2)).1)), some (.sh (encI (plS s2 (plL r2)).2))]) ?_) (fin _ _)
      refine (iff_t (d := .bool true) ?_ rfl).trans ?_
      · simp only [e_cmp, e_bi, e_var, List.getElem?_cons_zero, R.bind_ok, hlen, e_con, c_gt]
        rw [decide_eq_true (show (1 : Int) < (((s2 :: r2).length + 1 : Nat) : Int) by simp; omega)]
      · refine (ss_nx (s' := [some (.sh P), some (.ow (ts.map fun q => encT (plt q))), some (.sh (.tuple [])), none, some (.sh (.str (wayS w))), some (.sh (.str (letS l))), some (.sh (.tuple (ts.map encP))), none, some (.sh (encT (plS s2 (plL r2)).1)), some (.sh (encI (plS s2 (plL r2)).2))]) (by simp [hcut, ih, encTN])).trans ?_
        have h5 := encI_app [(ts.length : Int)] (plS s2 (plL r2)).2 (by simp; omega)
        have h5' : binD .Add (.tuple [.int (ts.length : Int)]) (encI (plS s2 (plL r2)).2) = .ok (encI (ownN (.mk w l ts) (plL (s2 :: r2)))) := by
          rw [hr]; exact h5
        refine (ss_nx (s' := [some (.sh P), some (.ow (ts.map fun q => encT (plt q))), some (.sh (encI (ownN (.mk w l ts) (plL (s2 :: r2))))), none, some (.sh (.str (wayS w))), some (.sh (.str (letS l))), some (.sh (.tuple (ts.map encP))), none, some (.sh (encT (plS s2 (plL r2)).1)), some (.sh (encI (plS s2 (plL r2)).2))]) (by simp [h5'])).trans ?_
        have hl : ts.length < lim := by omega
        have e1 : (ownT (.mk w l ts) (plL (s2 :: r2))).ks.map encT = (ts.map fun q => encT (plt q)) ++ [encT (plS s2 (plL r2)).1] := by
          rw [hr]
          show (plTs ts ++ [_]).map encT = _
          rw [List.map_append, plTs_eq, List.map_map]; rfl
        rw [e1]
        simp [hl]
theorem r_law_is_within {N : Nat} {one other : Pa} {x : Tr × Nd} (hx : plL one = some x) (w1 : wgL one = true) (w2 : wgP other = true) (b1 : stL one ≤ 15) (b2 : stL other ≤ 40) (hN : 100 < N) : rn N 46 [encP one, encP other] = .ok (.bool (within one other)) := by
  obtain ⟨N', rfl⟩ : ∃ n', N = n' + 1 := ⟨N - 1, by omega⟩
  have e1 := r_law_plain N' one x hx w1 (by omega) (by omega)
  have hz := plL_sz one x hx w1
  have e2 := r_law_finds (N := N') (p := other) (t := x.1) w2 (by omega) (by omega) (by omega)
  have ho : other ≠ [] := fun e => by subst e; have := (wgP_inv w2).1; simp at this
  have hv : decide (x.2 ∈ fnd other x.1) = within one other := by
    rw [Bool.eq_iff_iff, decide_eq_true_eq, fnd_mem ho, within_plain hx ho]
  rw [rn_law_is_within, b_law_is_within]
  refine res_of (ss_nx (s' := [some (.sh (encP one)), some (.sh (encP other)), some (.sh (encT x.1)), some (.sh (encI x.2))]) (by simp [e1, encTN])) ?_
  refine res_of (ss_rt (ret_ok (d := .bool (within one other)) ?_)) rfl
  have := cmp_In x.2 (fnd other x.1)
  simp [e2, this, hv]
/-! ### things that are trees -/
def letOf (x : Str) : Option (Fin 4) := if x = "a" then some 0 else if x = "b" then some 1 else if x = "c" then some 2 else if x = "d" then some 3 else none
def letOfD : D → Option (Fin 4)
  | .str x => letOf x
  | _ => none
def decAll (f : D → Option Tr) : List D → Option (List Tr)
  | [] => some []
  | d :: r => match f d, decAll f r with
    | some t, some ts => some (t :: ts)
    | _, _ => none
def decT : Nat → D → Option Tr
  | 0, _ => none
  | n + 1, d => match d with
    | .tuple [a, .tuple ks] => match letOfD a, decAll (decT n) ks with
      | some l, some ts => some (.mk l ts)
      | _, _ => none
    | _ => none
theorem letOf_some {x : Str} {l : Fin 4} (h : letOf x = some l) : x = letT l := by
  unfold letOf at h
  split at h
  · cases h; assumption
  · split at h
    · cases h; assumption
    · split at h
      · cases h; assumption
      · split at h
        · cases h; assumption
        · cases h
theorem letOfD_some {d : D} {l : Fin 4} (h : letOfD d = some l) : d = .str (letT l) := by
  cases d with
  | str x => rw [letOf_some h]
  | _ => cases h
theorem decAll_some {f : D → Option Tr} : ∀ (ks : List D) (ts : List Tr), decAll f ks = some ts → (∀ d t, d ∈ ks → f d = some t → d = encT t) → ks = ts.map encT
  | [], ts, h, _ => by cases h; rfl
  | d :: r, ts, h, hf => by
    unfold decAll at h
    cases h1 : f d with
    | none => rw [h1] at h; cases h
    | some t =>
      cases h2 : decAll f r with
      | none => rw [h1, h2] at h; cases h
      | some us =>
        rw [h1, h2] at h
        cases h
        rw [List.map_cons, hf d t (by simp) h1, decAll_some r us h2 fun d t hd => hf d t (by simp [hd])]
theorem decT_some : ∀ (n : Nat) (d : D) (t : Tr), decT n d = some t → d = encT t
  | 0, d, t, h => by cases h
  | n + 1, d, t, h => by
    unfold decT at h
    split at h
    · rename_i a ks
      cases h1 : letOfD a with
      | none => rw [h1] at h; cases h
      | some l =>
        cases h2 : decAll (decT n) ks with
        | none => rw [h1, h2] at h; cases h
        | some ts =>
          rw [h1, h2] at h
          cases h
          rw [encT_eq, letOfD_some h1, decAll_some ks ts h2 fun d t _ => decT_some n d t]
    · cases h
theorem decAll_isSome (f : D → Option Tr) : ∀ ks : List D, (decAll f ks).isSome = ks.all fun d => (f d).isSome
  | [] => rfl
  | d :: r => by
    rw [List.all_cons, ← decAll_isSome f r]
    show (match f d, decAll f r with | some t, some ts => some (t :: ts) | _, _ => none).isSome = ((f d).isSome && (decAll f r).isSome)
    cases f d <;> cases decAll f r <;> rfl
theorem in_abcd (c : Nat) : (!(Builtin.Str.occurrences ("abcd" : Str) ⟨#[c]⟩ 0 ("abcd" : Str).length 1).isEmpty) = (letOf ⟨#[c]⟩).isSome := by
  have := StrLaws.found_one ("abcd" : Str) c
  rw [this]
  have e : ("abcd" : Str).cps.toList = [97, 98, 99, 100] := by decide +kernel
  have sd : ("d" : Str) = ⟨#[100]⟩ := by decide +kernel
  have q : ∀ a : Nat, ((⟨#[c]⟩ : Str) = ⟨#[a]⟩) = (c = a) := fun a => by
    apply propext
    constructor
    · intro h; injection h with h; simpa using h
    · intro h; rw [h]
  unfold letOf
  rw [sa, sb, sc, sd, e]
  simp only [q]
  by_cases h1 : c = 97
  · simp [h1]
  · by_cases h2 : c = 98
    · simp [h2]
    · by_cases h3 : c = 99
      · simp [h3]
      · by_cases h4 : c = 100
        · simp [h4]
        · simp [h1, h2, h3, h4]
theorem letOf_one {x : Str} (h : x.length ≠ 1) : letOf x = none := by
  cases hl : letOf x with
  | none => rfl
  | some l =>
    have := letOf_some hl
    subst this
    exact absurd (let4_len l) h
theorem r_letter4 {k m : Nat} (n : Nat) (d : D) (hf : fit k m d) (hk : k ≤ 1000) : rn (n + 1) 0 [d, .str "abcd"] = .ok (.bool (letOfD d).isSome) := by
  have hlim : lim = 1000000 := rfl
  rw [rn_is_letter, b_is_letter]
  refine res_of (ss_rt (ret_ok (d := .bool (letOfD d).isSome) ?_)) rfl
  cases d with
  | str x =>
    have hx : x.length ≤ lim := by
      cases m with
      | zero => exact hf.elim
      | succ m => have : x.length ≤ k := hf; omega
    rw [and_t (by simp [isTy])]
    by_cases h1 : x.length = 1
    · rw [and_t (by simp [lenS x hx, h1])]
      obtain ⟨c, rfl⟩ := str_one h1
      simp only [e_cmp, e_var, List.getElem?_cons_zero, List.getElem?_cons_succ, R.bind_ok, cmpD, in_abcd]
      rfl
    · rw [and_f (by simp [lenS x hx]; omega)]
      show _ = R.ok (PyData.bool (letOf x).isSome)
      rw [letOf_one h1]; rfl
  | _ => exact and_f (by simp [isTy])
theorem all_bools (f : D → Bool) (ks : List D) : (ks.map f).all id = ks.all f := by simp [List.all_map, Function.comp_def]
theorem r_is_any_tree : ∀ (n N k : Nat) (d : D), fit k n d → k ≤ 1000 → n < N → rn (N + 1) 1 [d] = .ok (.bool (decT n d).isSome)
  | 0, N, k, d, h, _, _ => h.elim
  | n + 1, N, k, d, h, hk, hN => by
    have hlim : lim = 1000000 := rfl
    obtain ⟨N', rfl⟩ : ∃ n', N = n' + 1 := ⟨N - 1, by omega⟩
    rw [rn_is_any_tree, b_is_any_tree]
    have no : ∀ d : D, isTy .tuple d = false → decT (n + 1) d = none → (evSs (Cn (N' + 1)) b_is_any_tree [some (.sh d), none]).res = .ok (.bool (decT (n + 1) d).isSome) := by
      intro d h1 h2
      rw [h2, b_is_any_tree]
      exact res_of (ss_rt ((iff_t (d := .bool true) (or_t (by simp [h1])) rfl).trans (ss_rt (ret_ok (d := .bool false) (by simp))))) rfl
    cases d with
    | tuple xs =>
      match xs, h with
      | [a, b], h =>
        have ha := r_letter4 N' a (h.2 a (by simp)) hk
        have hgv : gv 0 = some (.str "abcd") := rfl
        have hc : ev (Cn (N' + 1)) (.not (.call 0 (.cons (.idx (.var 0) (.con (.int 0))) (.cons (.glo 0) .nil)))) [some (.sh (.tuple [a, b])), none] = .ok (.bool (!(letOfD a).isSome)) := by
          simp only [e_not, e_call, es_cons', es_nil', e_idx, e_var, List.getElem?_cons_zero, R.bind_ok, e_con, idx_pair0, e_glo, hgv, ha, t_bool]
        cases hl : letOfD a with
        | none =>
          rw [hl] at hc
          have hd : decT (n + 1) (.tuple [a, b]) = none := by
            unfold decT
            split
            · rename_i a' ks e
              injection e with e
              injection e with e1 e2
              subst e1
              rw [hl]
            · rfl
          rw [hd]
          refine res_of (ss_rt ((iff_t (d := .bool true) ?_ rfl).trans (ss_rt (ret_ok (d := .bool false) (by simp))))) rfl
          rw [or_f (by simp), or_f (by simp)]
          exact hc
        | some l =>
          rw [hl] at hc
          refine res_of (iffF ?_) ?_
          · rw [or_f (by simp), or_f (by simp)]
            exact hc
          cases b with
          | tuple ks =>
            have hks := h.2 (.tuple ks) (by simp)
            cases n with
            | zero => exact hks.elim
            | succ n =>
              have hd : (decT (n + 2) (.tuple [a, .tuple ks])).isSome = ks.all fun d => (decT (n + 1) d).isSome := by
                rw [← decAll_isSome]
                show (match letOfD a, decAll (decT (n + 1)) ks with | some l, some ts => some (Tr.mk l ts) | _, _ => none).isSome = _
                rw [hl]
                cases decAll (decT (n + 1)) ks <;> rfl
              rw [hd]
              refine res_of (ss_rt (ret_ok (d := .bool (ks.all fun d => (decT (n + 1) d).isSome)) ?_)) rfl
              rw [and_t (by simp [idx_pair1, isTy])]
              have hcm : evL (Cn (N' + 1)) (.comp (.name 1) (.seq (.idx (.var 0) (.con (.int 1)))) .no (.call 1 (.cons (.var 1) .nil))) [some (.sh (.tuple [a, .tuple ks])), none] = .ok (ks.map fun d => .bool (decT (n + 1) d).isSome) := by
                refine comp_map (enc := id) (by simp [idx_pair1]) (by have := hks.1; omega) fun d hd => ⟨_, b_name _ _ _, ?_⟩
                have ih := r_is_any_tree (n + 1) N' k d (fit_mono (Nat.le_refl _) (by omega) (hks.2 d hd)) hk (by omega)
                simp [ih]
              rw [e_bi, e_lst, hcm]
              simp only [R.bind_ok, biD, boolsOf_enc, all_bools]
          | _ =>
            refine res_of (ss_rt (ret_ok (d := .bool false) (and_f (by simp [idx_pair1, isTy])))) ?_
            rfl
      | [], h => exact res_of (ss_rt ((iff_t (d := .bool true) ((or_f (by simp)).trans (or_t (by simp))) rfl).trans (ss_rt (ret_ok (d := .bool false) (by simp))))) rfl
      | [_], h => exact res_of (ss_rt ((iff_t (d := .bool true) ((or_f (by simp)).trans (or_t (by simp))) rfl).trans (ss_rt (ret_ok (d := .bool false) (by simp))))) rfl
      | _ :: _ :: _ :: _, h =>
        have hd : ∀ (a b c : D) (r : List D), decT (n + 1) (.tuple (a :: b :: c :: r)) = none := fun a b c r => by
          unfold decT
          split
          · rename_i e
            injection e with e
            injection e with _ e
            injection e with _ e
            cases e
          · rfl
        rw [hd]
        refine res_of (ss_rt ((iff_t (d := .bool true) ((or_f (by simp)).trans (or_t ?_)) rfl).trans (ss_rt (ret_ok (d := .bool false) (by simp))))) rfl
        simp
        omega
    | dict _ => exact h.elim
    | none => exact no _ rfl rfl
    | bool _ => exact no _ rfl rfl
    | int _ => exact no _ rfl rfl
    | str _ => exact no _ rfl rfl
    | list _ => exact no _ rfl rfl
end Tf
namespace Tf
open PySem
/-! Tm28: _law_is_tree, is_parting and _law_parts of any thing. -/
theorem in_four (d : D) (hd : d.depth ≤ 190) : cmpD .NotIn d (.tuple [.str "a", .str "b", .str "c", .str "d"]) = .ok (!(letOfD d).isSome) := by
  show (if d.depth ≤ 190 then R.ok (!inD d [.str "a", .str "b", .str "c", .str "d"]) else .fail) = _
  rw [if_pos hd]
  congr 2
  unfold inD
  simp only [List.any_cons, List.any_nil, Bool.or_false, eqv_strT]
  cases d with
  | str x =>
    show _ = (letOf x).isSome
    unfold letOf
    have q : ∀ y : Str, (y == x) = decide (x = y) := fun y => by
      rw [Bool.eq_iff_iff, beq_iff_eq, decide_eq_true_eq]; exact eq_comm
    simp only [q]
    by_cases h1 : x = "a"
    · rw [if_pos h1]; simp [h1]
    · by_cases h2 : x = "b"
      · rw [if_neg h1, if_pos h2]; simp [h2]
      · by_cases h3 : x = "c"
        · rw [if_neg h1, if_neg h2, if_pos h3]; simp [h3]
        · by_cases h4 : x = "d"
          · rw [if_neg h1, if_neg h2, if_neg h3, if_pos h4]; simp [h4]
          · simp [h1, h2, h3, h4]
  | _ => rfl
theorem isEmpty_not {A : Type} (f : A → Bool) (ks : List A) : (ks.filter fun d => !f d).isEmpty = ks.all f := by
  induction ks with
  | nil => rfl
  | cons d r ih =>
    rw [List.filter_cons, List.all_cons]
    cases f d with
    | true => simpa using ih
    | false => rfl
theorem decT_pair {n : Nat} {a : D} {ks : List D} : (decT (n + 1) (.tuple [a, .tuple ks])).isSome = ((letOfD a).isSome && ks.all fun d => (decT n d).isSome) := by
  rw [← decAll_isSome]
  show (match letOfD a, decAll (decT n) ks with | some l, some ts => some (Tr.mk l ts) | _, _ => none).isSome = _
  cases letOfD a <;> cases decAll (decT n) ks <;> rfl
theorem decT_no {n : Nat} {d : D} (h : ∀ a ks, d ≠ .tuple [a, .tuple ks]) : decT n d = none := by
  cases n with
  | zero => rfl
  | succ n =>
    unfold decT
    split
    · exact absurd rfl (h _ _)
    · rfl
theorem r_law_is_tree : ∀ (n N k : Nat) (d : D), fit k n d → k ≤ 1000 → n ≤ 180 → n < N → rn (N + 1) 55 [d] = .ok (.bool (decT n d).isSome)
  | 0, N, k, d, h, _, _, _ => h.elim
  | n + 1, N, k, d, h, hk, hn, hN => by
    have hlim : lim = 1000000 := rfl
    obtain ⟨N', rfl⟩ : ∃ n', N = n' + 1 := ⟨N - 1, by omega⟩
    rw [rn_law_is_tree, b_law_is_tree]
    have no : ∀ d : D, isTy .tuple d = false → decT (n + 1) d = none → (evSs (Cn (N' + 1)) b_law_is_tree [some (.sh d), none]).res = .ok (.bool (decT (n + 1) d).isSome) := by
      intro d h1 h2
      rw [h2, b_law_is_tree]
      exact res_of (ss_rt ((iff_t (d := .bool true) (or_t (by simp [h1])) rfl).trans (ss_rt (ret_ok (d := .bool false) (by simp))))) rfl
    cases d with
    | tuple xs =>
      match xs, h with
      | [a, b], h =>
        have hin := in_four a (by have := fit_depth (h.2 a (by simp)); omega)
        have hc : ev (Cn (N' + 1)) (.cmp .NotIn (.idx (.var 0) (.con (.int 0))) (.tup (.cons (.con (.str "a")) (.cons (.con (.str "b")) (.cons (.con (.str "c")) (.cons (.con (.str "d")) .nil)))))) [some (.sh (.tuple [a, b])), none] = .ok (.bool (!(letOfD a).isSome)) := by
          simp only [e_cmp, e_idx, e_var, List.getElem?_cons_zero, R.bind_ok, e_con, idx_pair0, e_tup, es_cons', es_nil', hin]
        cases hl : letOfD a with
        | none =>
          rw [hl] at hc
          have hd : decT (n + 1) (.tuple [a, b]) = none := by
            unfold decT
            split
            · rename_i a' ks e
              injection e with e
              injection e with e1 e2
              subst e1
              rw [hl]
            · rfl
          rw [hd]
          refine res_of (ss_rt ((iff_t (d := .bool true) ?_ rfl).trans (ss_rt (ret_ok (d := .bool false) (by simp))))) rfl
          rw [or_f (by simp), or_f (by simp)]
          exact hc
        | some l =>
          rw [hl] at hc
          refine res_of (iffF ?_) ?_
          · rw [or_f (by simp), or_f (by simp)]
            exact hc
          cases b with
          | tuple ks =>
            have hks := h.2 (.tuple ks) (by simp)
            cases n with
            | zero => exact hks.elim
            | succ n =>
              rw [decT_pair, hl]
              refine res_of (iffF (by simp [idx_pair1, isTy])) ?_
              refine res_of (ss_rt (ret_ok (d := .bool (ks.all fun d => (decT (n + 1) d).isSome)) ?_)) (by simp)
              have hcm : evL (Cn (N' + 1)) (.comp (.name 1) (.seq (.idx (.var 0) (.con (.int 1)))) (.yes (.not (.call 55 (.cons (.var 1) .nil)))) (.var 1)) [some (.sh (.tuple [a, .tuple ks])), none] = .ok ((ks.filter fun d => !(decT (n + 1) d).isSome).map id) := by
                refine comp_filter (enc := id) (by simp [idx_pair1]) (by have := hks.1; omega) fun d hd => ⟨_, b_name _ _ _, ⟨.bool (!(decT (n + 1) d).isSome), ?_, rfl⟩, fun _ => by simp⟩
                have ih := r_law_is_tree (n + 1) N' k d (fit_mono (Nat.le_refl _) (by omega) (hks.2 d hd)) hk (by omega) (by omega)
                simp [ih]
              rw [e_cmp, e_lst, hcm]
              simp only [R.bind_ok, e_lst, el_disp, es_nil', eq_list, List.map_id]
              rw [isEmpty_not fun d => (decT (n + 1) d).isSome]
          | _ =>
            rw [decT_no (fun a' ks e => by cases e)]
            exact res_of (ss_rt ((iff_t (d := .bool true) (by simp [idx_pair1, isTy]) rfl).trans (ss_rt (ret_ok (d := .bool false) (by simp))))) rfl
      | [], h => rw [decT_no (fun a' ks e => by cases e)]; exact res_of (ss_rt ((iff_t (d := .bool true) ((or_f (by simp)).trans (or_t (by simp))) rfl).trans (ss_rt (ret_ok (d := .bool false) (by simp))))) rfl
      | [_], h => rw [decT_no (fun a' ks e => by cases e)]; exact res_of (ss_rt ((iff_t (d := .bool true) ((or_f (by simp)).trans (or_t (by simp))) rfl).trans (ss_rt (ret_ok (d := .bool false) (by simp))))) rfl
      | _ :: _ :: _ :: _, h =>
        rw [decT_no (fun a' ks e => by cases e)]
        refine res_of (ss_rt ((iff_t (d := .bool true) ((or_f (by simp)).trans (or_t ?_)) rfl).trans (ss_rt (ret_ok (d := .bool false) (by simp))))) rfl
        simp
        omega
    | dict _ => exact h.elim
    | none => exact no _ rfl rfl
    | bool _ => exact no _ rfl rfl
    | int _ => exact no _ rfl rfl
    | str _ => exact no _ rfl rfl
    | list _ => exact no _ rfl rfl
/-! ### nodes as things -/
def isInt : D → Bool
  | .int _ => true
  | _ => false
theorem intsOf_some : ∀ (ks : List D), (intsOf ks).isSome = ks.all isInt
  | [] => rfl
  | .int i :: r => by rw [intsOf, List.all_cons, ← intsOf_some r]; cases intsOf r <;> rfl
  | .none :: r => rfl
  | .bool _ :: r => rfl
  | .str _ :: r => rfl
  | .list _ :: r => rfl
  | .tuple _ :: r => rfl
  | .dict _ :: r => rfl
theorem intsOf_enc' : ∀ (ks : List D) (n : List Int), intsOf ks = some n → ks = n.map .int
  | [], n, h => by cases h; rfl
  | .int i :: r, n, h => by
    rw [intsOf] at h
    cases hr : intsOf r with
    | none => rw [hr] at h; cases h
    | some m =>
      rw [hr] at h
      cases h
      rw [List.map_cons, intsOf_enc' r m hr]
  | .none :: r, n, h => by cases h
  | .bool _ :: r, n, h => by cases h
  | .str _ :: r, n, h => by cases h
  | .list _ :: r, n, h => by cases h
  | .tuple _ :: r, n, h => by cases h
  | .dict _ :: r, n, h => by cases h
mutual
theorem ns_T : ∀ t : Tr, nsD (encT t) = szT t
  | .mk l ks => by rw [encT, nsD, nsA, nsA, nsA, nsD, nsD, szT, ns_Ts ks]; omega
theorem ns_Ts : ∀ ks : List Tr, nsA (encTs ks) = szTs ks
  | [] => by rw [encTs, nsA, szTs]
  | t :: r => by rw [encTs, nsA, szTs, ns_T t, ns_Ts r]
end
/-- whether a thing parts -/
def partD (p q : Pa) (n : Nat) : D → Bool
  | .tuple [a, .tuple ks] => match decT n a, intsOf ks with
    | some t, some v => decide (v ∈ fnd p t) && !decide (v ∈ fnd q t)
    | _, _ => false
  | _ => false
theorem ty_int (d : D) : (isTy .int d && !isTy .bool d) = isInt d := by cases d <;> rfl
section
variable {p q : Pa} (w1 : wgP p = true) (w2 : wgP q = true) (b1 : stL p ≤ 20) (b2 : stL q ≤ 20)
include w1 w2 b1 b2
theorem r_is_parting {N n k : Nat} {d : D} (hf : fit k (n + 1) d) (hk : k ≤ 1000) (hn : n ≤ 100) (hns : nsD d ≤ 31) (hN : 120 < N) : rn N 54 [encP p, encP q, d] = .ok (.bool (partD p q n d)) := by
  have hlim : lim = 1000000 := rfl
  obtain ⟨N', rfl⟩ : ∃ n', N = n' + 2 := ⟨N - 2, by omega⟩
  rw [rn_is_parting]
  have no : ∀ d : D, isTy .tuple d = false → partD p q n d = false → (evSs (Cn (N' + 1)) b_is_parting [some (.sh (encP p)), some (.sh (encP q)), some (.sh d), none, none, none]).res = .ok (.bool (partD p q n d)) := by
    intro d h1 h2
    rw [h2, b_is_parting]
    exact res_of (ss_rt ((iff_t (d := .bool true) (or_t (by simp [h1])) rfl).trans (ss_rt (ret_ok (d := .bool false) (by simp))))) rfl
  have len : ∀ xs : List D, xs.length ≠ 2 → partD p q n (.tuple xs) = false → (evSs (Cn (N' + 1)) b_is_parting [some (.sh (encP p)), some (.sh (encP q)), some (.sh (.tuple xs)), none, none, none]).res = .ok (.bool (partD p q n (.tuple xs))) := by
    intro xs h1 h2
    have h1' : ¬ ((xs.length : Int) = 2) := by omega
    rw [h2, b_is_parting]
    exact res_of (ss_rt ((iff_t (d := .bool true) ((or_f (by simp)).trans (or_t (by simp [h1']))) rfl).trans (ss_rt (ret_ok (d := .bool false) (by simp))))) rfl
  cases d with
  | tuple xs =>
    match xs, hf, hns with
    | [a, b], hf, hns =>
      have hfa := hf.2 a (by simp)
      have ht := r_is_any_tree n N' k a hfa hk (by omega)
      rw [b_is_parting]
      cases hd : decT n a with
      | none =>
        rw [hd] at ht
        have hp : partD p q n (.tuple [a, b]) = false := by
          unfold partD
          split
          · rename_i a' ks e
            injection e with e
            injection e with e1 e2
            subst e1
            rw [hd]
          · rfl
        rw [hp]
        refine res_of (ss_rt ((iff_t (d := .bool true) ?_ rfl).trans (ss_rt (ret_ok (d := .bool false) (by simp))))) rfl
        rw [or_f (by simp), or_f (by simp), or_t (by simp [idx_pair0, ht])]
      | some t =>
        rw [hd] at ht
        have ea := decT_some n a t hd
        cases b with
        | tuple ks =>
          have hsz : szT t ≤ 31 := by
            rw [nsD, nsA, ea, ns_T] at hns
            omega
          have hkl : ks.length ≤ k := by
            have := hf.2 (.tuple ks) (by simp)
            cases n with
            | zero => exact this.elim
            | succ n => exact this.1
          refine res_of (iffF ?_) ?_
          · rw [or_f (by simp), or_f (by simp), or_f (by simp [idx_pair0, ht])]
            simp [idx_pair1, isTy]
          refine res_of (ss_nx (s' := [some (.sh (encP p)), some (.sh (encP q)), some (.sh (.tuple [a, .tuple ks])), some (.sh a), some (.sh (.tuple ks)), none]) (by simp)) ?_
          have hc : ev (Cn (N' + 1)) (.not (.bi .all (.lst (.comp (.name 5) (.seq (.var 4)) .no (.and (.isi (.var 5) .int) (.not (.isi (.var 5) .bool))))))) [some (.sh (encP p)), some (.sh (encP q)), some (.sh (.tuple [a, .tuple ks])), some (.sh a), some (.sh (.tuple ks)), none] = .ok (.bool (!ks.all isInt)) := by
            refine not_ok ?_
            rw [e_bi, e_lst, comp_map (xs := ks) (enc := id) (g := fun d => .bool (isInt d))]
            · simp only [R.bind_ok, biD, boolsOf_enc, all_bools]
            · simp
            · omega
            · intro d _
              refine ⟨_, b_name _ _ _, ?_⟩
              rw [← ty_int]
              exact ev_and (by simp) fun _ => by simp
          rw [← intsOf_some] at hc
          cases hv : intsOf ks with
          | none =>
            rw [hv] at hc
            have hp : partD p q n (.tuple [a, .tuple ks]) = false := by
              show (match decT n a, intsOf ks with | some t, some v => _ | _, _ => false) = false
              rw [hd, hv]
            rw [hp]
            exact res_of (ss_rt ((iff_t hc rfl).trans (ss_rt (ret_ok (d := .bool false) (by simp))))) rfl
          | some v =>
            rw [hv] at hc
            have hp : partD p q n (.tuple [a, .tuple ks]) = (decide (v ∈ fnd p t) && !decide (v ∈ fnd q t)) := by
              show (match decT n a, intsOf ks with | some t, some v => decide (v ∈ fnd p t) && !decide (v ∈ fnd q t) | _, _ => false) = _
              rw [hd, hv]
            have eb : PyData.tuple ks = encI v := by rw [intsOf_enc' ks v hv]; rfl
            have f1 := r_finds (N := N' + 1) (t := t) w1 hsz (by omega) (by omega)
            have f2 := r_finds (N := N' + 1) (t := t) w2 hsz (by omega) (by omega)
            rw [hp]
            refine res_of (ss_nx ((iff_f hc rfl).trans (s_nil' _ _))) ?_
            rw [eb, ea]
            refine res_of (ss_rt (ret_ok (ev_and (p := decide (v ∈ fnd p t)) (q := !decide (v ∈ fnd q t)) ?_ fun _ => ?_))) rfl
            · simp [f1, cmp_In]
            · simp [f2, cmp_NotIn]
        | _ =>
          refine res_of (ss_rt ((iff_t (d := .bool true) ?_ rfl).trans (ss_rt (ret_ok (d := .bool false) (by simp))))) rfl
          rw [or_f (by simp), or_f (by simp), or_f (by simp [idx_pair0, ht])]
          simp [idx_pair1, isTy]
    | [], _, _ => exact len _ (by simp) rfl
    | [_], _, _ => exact len _ (by simp) rfl
    | x :: y :: z :: r, _, _ =>
      refine len _ (by simp) ?_
      unfold partD
      split
      · rename_i e
        injection e with e
        injection e with _ e
        injection e with _ e
        cases e
      · rfl
  | dict _ => exact hf.elim
  | none => exact no _ rfl rfl
  | bool _ => exact no _ rfl rfl
  | int _ => exact no _ rfl rfl
  | str _ => exact no _ rfl rfl
  | list _ => exact no _ rfl rfl
theorem r_law_parts {N n k : Nat} {d : D} (hf : fit k (n + 1) d) (hk : k ≤ 1000) (hn : n ≤ 100) (hns : nsD d ≤ 31) (hN : 120 < N) : rn N 56 [encP p, encP q, d] = .ok (.bool (partD p q n d)) := by
  have hlim : lim = 1000000 := rfl
  obtain ⟨N', rfl⟩ : ∃ n', N = n' + 2 := ⟨N - 2, by omega⟩
  rw [rn_law_parts]
  have no : ∀ d : D, isTy .tuple d = false → partD p q n d = false → (evSs (Cn (N' + 1)) b_law_parts [some (.sh (encP p)), some (.sh (encP q)), some (.sh d), none]).res = .ok (.bool (partD p q n d)) := by
    intro d h1 h2
    rw [h2, b_law_parts]
    exact res_of (ss_rt ((iff_t (d := .bool true) (or_t (by simp [h1])) rfl).trans (ss_rt (ret_ok (d := .bool false) (by simp))))) rfl
  have len : ∀ xs : List D, xs.length ≠ 2 → partD p q n (.tuple xs) = false → (evSs (Cn (N' + 1)) b_law_parts [some (.sh (encP p)), some (.sh (encP q)), some (.sh (.tuple xs)), none]).res = .ok (.bool (partD p q n (.tuple xs))) := by
    intro xs h1 h2
    have h1' : ¬ ((xs.length : Int) = 2) := by omega
    rw [h2, b_law_parts]
    exact res_of (ss_rt ((iff_t (d := .bool true) ((or_f (by simp)).trans (or_t (by simp [h1']))) rfl).trans (ss_rt (ret_ok (d := .bool false) (by simp))))) rfl
  cases d with
  | tuple xs =>
    match xs, hf, hns with
    | [a, b], hf, hns =>
      have hfa := hf.2 a (by simp)
      have ht := r_law_is_tree n N' k a hfa hk (by omega) (by omega)
      rw [b_law_parts]
      cases hd : decT n a with
      | none =>
        rw [hd] at ht
        have hp : partD p q n (.tuple [a, b]) = false := by
          unfold partD
          split
          · rename_i a' ks e
            injection e with e
            injection e with e1 e2
            subst e1
            rw [hd]
          · rfl
        rw [hp]
        refine res_of (ss_rt ((iff_t (d := .bool true) ?_ rfl).trans (ss_rt (ret_ok (d := .bool false) (by simp))))) rfl
        rw [or_f (by simp), or_f (by simp), or_t (by simp [idx_pair0, ht])]
      | some t =>
        rw [hd] at ht
        have ea := decT_some n a t hd
        cases b with
        | tuple ks =>
          have hsz : szT t ≤ 31 := by
            rw [nsD, nsA, ea, ns_T] at hns
            omega
          have hkl : ks.length ≤ k := by
            have := hf.2 (.tuple ks) (by simp)
            cases n with
            | zero => exact this.elim
            | succ n => exact this.1
          refine res_of (iffF ?_) ?_
          · rw [or_f (by simp), or_f (by simp), or_f (by simp [idx_pair0, ht])]
            simp [idx_pair1, isTy]
          have hc : ev (Cn (N' + 1)) (.cmp .NotEq (.lst (.comp (.name 3) (.seq (.idx (.var 2) (.con (.int 1)))) (.yes (.or (.not (.isi (.var 3) .int)) (.isi (.var 3) .bool))) (.var 3))) (.lst (.disp .nil))) [some (.sh (encP p)), some (.sh (encP q)), some (.sh (.tuple [a, .tuple ks])), none] = .ok (.bool (!ks.all isInt)) := by
            rw [e_cmp, e_lst, comp_filter (xs := ks) (enc := id) (p := fun d => !isInt d) (g := id)]
            · simp only [R.bind_ok, e_lst, el_disp, es_nil', ne_list, List.map_id]
              rw [isEmpty_not isInt]
            · simp [idx_pair1]
            · omega
            · intro d _
              refine ⟨_, b_name _ _ _, ⟨.bool (!isInt d), ?_, rfl⟩, fun _ => by simp⟩
              have : (!isInt d) = (!isTy .int d || isTy .bool d) := by cases d <;> rfl
              rw [this]
              exact ev_or (by simp) fun _ => by simp
          rw [← intsOf_some] at hc
          cases hv : intsOf ks with
          | none =>
            rw [hv] at hc
            have hp : partD p q n (.tuple [a, .tuple ks]) = false := by
              show (match decT n a, intsOf ks with | some t, some v => _ | _, _ => false) = false
              rw [hd, hv]
            rw [hp]
            exact res_of (ss_rt ((iff_t hc rfl).trans (ss_rt (ret_ok (d := .bool false) (by simp))))) rfl
          | some v =>
            rw [hv] at hc
            have hp : partD p q n (.tuple [a, .tuple ks]) = (decide (v ∈ fnd p t) && !decide (v ∈ fnd q t)) := by
              show (match decT n a, intsOf ks with | some t, some v => decide (v ∈ fnd p t) && !decide (v ∈ fnd q t) | _, _ => false) = _
              rw [hd, hv]
            have eb : PyData.tuple ks = encI v := by rw [intsOf_enc' ks v hv]; rfl
            have f1 := r_law_finds (N := N' + 1) (t := t) w1 hsz (by omega) (by omega)
            have f2 := r_law_finds (N := N' + 1) (t := t) w2 hsz (by omega) (by omega)
            rw [hp]
            refine res_of (ss_nx ((iff_f hc rfl).trans (s_nil' _ _))) ?_
            rw [eb, ea]
            refine res_of (ss_rt (ret_ok (ev_and (p := decide (v ∈ fnd p t)) (q := !decide (v ∈ fnd q t)) ?_ fun _ => ?_))) rfl
            · simp [f1, idx_pair0, idx_pair1, cmp_In]
            · simp [f2, idx_pair0, idx_pair1, cmp_NotIn]
        | _ =>
          refine res_of (ss_rt ((iff_t (d := .bool true) ?_ rfl).trans (ss_rt (ret_ok (d := .bool false) (by simp))))) rfl
          rw [or_f (by simp), or_f (by simp), or_f (by simp [idx_pair0, ht])]
          simp [idx_pair1, isTy]
    | [], _, _ => exact len _ (by simp) rfl
    | [_], _, _ => exact len _ (by simp) rfl
    | x :: y :: z :: r, _, _ =>
      refine len _ (by simp) ?_
      unfold partD
      split
      · rename_i e
        injection e with e
        injection e with _ e
        injection e with _ e
        cases e
      · rfl
  | dict _ => exact hf.elim
  | none => exact no _ rfl rfl
  | bool _ => exact no _ rfl rfl
  | int _ => exact no _ rfl rfl
  | str _ => exact no _ rfl rfl
  | list _ => exact no _ rfl rfl
end
/-! ### trees and nodes as things of small size -/
theorem tsi_mono {k : Nat} : ∀ {n m : Nat} {d : D}, n ≤ m → tsi k n d → tsi k m d
  | 0, _, _, _, h => h.elim
  | n + 1, 0, _, hm, _ => by omega
  | n + 1, m + 1, d, hm, h => by
    cases d with
    | tuple xs => exact ⟨h.1, fun x hx => tsi_mono (by omega) (h.2 x hx)⟩
    | str x => exact h
    | int x => trivial
    | _ => exact h.elim
theorem tsi_T : ∀ (j : Nat) (t : Tr), szT t ≤ j → szT t ≤ 40 → tsi 40 (2 * j + 1) (encT t)
  | 0, t, h, _ => by have := sz_pos t; omega
  | j + 1, t, h, hb => by
    cases t with
    | mk l ks =>
      rw [encT_eq]
      refine ⟨by simp, fun x hx => ?_⟩
      simp only [List.mem_cons, List.not_mem_nil, or_false] at hx
      rcases hx with rfl | rfl
      · show (letT l).length ≤ 40
        rw [let4_len]; omega
      · have hk := ks_len (.mk l ks)
        simp only [Tr.ks] at hk
        refine ⟨by rw [List.length_map]; omega, fun y hy => ?_⟩
        obtain ⟨c, hc, rfl⟩ := List.mem_map.mp hy
        have := sz_mem (t := .mk l ks) hc
        exact tsi_T j c (by omega) (by omega)
theorem tsi_I (n : Nd) (h : n.length ≤ 40) : tsi 40 2 (encI n) := ⟨by simpa using h, fun x hx => by
  obtain ⟨i, _, rfl⟩ := List.mem_map.mp hx
  trivial⟩
theorem ns_I (n : Nd) : nsD (encI n) = 0 := by
  rw [tup_I, nsD]
  induction n with
  | nil => rfl
  | cons i r ih => rw [List.map_cons, nsA, ih, nsD]
theorem tsi_TN {x : Tr × Nd} (h : szT x.1 ≤ 20) (h2 : x.2.length ≤ 40) : tsi 40 42 (encTN x) := ⟨by simp, fun y hy => by
  simp only [List.mem_cons, List.not_mem_nil, or_false] at hy
  rcases hy with rfl | rfl
  · exact tsi_T 20 x.1 h (by omega)
  · exact tsi_mono (n := 2) (m := 41) (by decide) (tsi_I x.2 h2)⟩
theorem ns_TN (x : Tr × Nd) : nsD (encTN x) = szT x.1 := by
  unfold encTN
  rw [nsD, nsA, nsA, nsA, ns_T, ns_I]; omega
end Tf
namespace Tf
open PySem
/-! K03l: the law of finds. -/
theorem pln_I {k : Nat} {n : Nd} (h : n.length ≤ 900000) : pln (k + 2) (encI n) := by
  refine ⟨by simpa using h, fun z hz => ?_⟩
  obtain ⟨i, _, rfl⟩ := List.mem_map.mp hz
  trivial
theorem pln_Is {k : Nat} {ns : List Nd} (h : ns.length ≤ 900000) (h2 : ∀ n ∈ ns, n.length ≤ 900000) : pln (k + 3) (.tuple (ns.map encI)) := by
  refine ⟨by simpa using h, fun z hz => ?_⟩
  obtain ⟨n, hn, rfl⟩ := List.mem_map.mp hz
  exact pln_I (h2 n hn)
theorem fnd_at {p : Pa} {t : Tr} {u : Option Nd} (hu : okU t u) (hp : p ≠ []) : ∀ n ∈ fndL p (kidsU t u), ∃ c, atT t n = some c := fun n hn => by
  unfold fndL at hn
  rw [List.mem_mergeSort, List.mem_eraseDups] at hn
  exact last_at hu hp n hn
theorem fndL_len {p : Pa} {t : Tr} {u : Option Nd} (hu : okU t u) (hp : p ≠ []) : (fndL p (kidsU t u)).length ≤ szT t := by
  unfold fndL
  rw [List.length_mergeSort]
  exact dups_len (last_at hu hp)
theorem pln_fnd {k : Nat} {p : Pa} {t : Tr} {u : Option Nd} (hu : okU t u) (hp : p ≠ []) (ht : szT t ≤ 31) : pln (k + 3) (.tuple ((fndL p (kidsU t u)).map encI)) := by
  have := fndL_len hu hp
  refine pln_Is (by omega) fun n hn => ?_
  obtain ⟨c, hc⟩ := fnd_at hu hp n hn
  have := at_len _ _ _ hc
  omega
theorem row_small : ∀ (p : Pa) (ks : List NT), (∀ x ∈ ks, x.1.length + szT x.2 ≤ 900) → ∀ row ∈ wyL p ks, ∀ n ∈ row, n.length ≤ 900
  | [], ks, _, row, hr, n, hn => by
    rw [wyL_nil, List.mem_singleton] at hr
    subst hr; cases hn
  | s :: r, ks, h, row, hr, n, hn => by
    rw [wyL_cons, List.mem_flatMap] at hr
    obtain ⟨x, hx, hr⟩ := hr
    obtain ⟨row', hr', rfl⟩ := List.mem_map.mp hr
    have hx' := below_ok (w := s.w) h x (List.mem_filter.mp hx).1
    rcases List.mem_cons.mp hn with rfl | hn
    · omega
    · exact row_small r (kids x) (kids_ok hx') row' hr' n hn
theorem told_ok {N : Nat} {p : Pa} {t : Tr} {n : Nd} {x : D} (h : rn N 30 [encP p, encT t, encI n] = .ok x) : rn (N + 1) 35 [encP p, encT t, encI n] = .ok x := by
  rw [rn_law_told_k03, b_law_told_k03]
  have : (evSs (Cn N) (.cons (.ret (.call 30 (.cons (.var 0) (.cons (.var 1) (.cons (.var 2) .nil))))) .nil) [some (.sh (encP p)), some (.sh (encT t)), some (.sh (encI n)), none]) = .rt x := ss_rt (by simp [h])
  rw [this]; rfl
theorem told_no {N : Nat} {p : Pa} {t : Tr} {n : Nd} (h : atT t n = none) : rn (N + 3) 35 [encP p, encT t, encI n] = .ok (.str "no node") := by
  have e := r_finds_from_no (N := N) (p := p) h
  rw [rn_law_told_k03, b_law_told_k03]
  have : (evSs (Cn (N + 2)) (.cons (.ret (.call 30 (.cons (.var 0) (.cons (.var 1) (.cons (.var 2) .nil))))) .nil) [some (.sh (encP p)), some (.sh (encT t)), some (.sh (encI n)), none]) = .exc 0 := ss_exc (by simp [e])
  rw [this]; rfl
theorem emp_map {A B : Type} (f : A → B) (xs : List A) : (xs.map f).isEmpty = xs.isEmpty := by cases xs <;> rfl
theorem fnd_emp (p : Pa) (t : Tr) : (fnd p t).isEmpty = (wyL p [([], t)]).isEmpty := by
  unfold fnd fndL
  cases h : wyL p [([], t)] with
  | nil => simp
  | cons r q =>
    have : lastN r ∈ ((((r :: q).map lastN).eraseDups).mergeSort leI) := by rw [List.mem_mergeSort, List.mem_eraseDups]; simp
    cases h2 : (((r :: q).map lastN).eraseDups).mergeSort leI with
    | nil => rw [h2] at this; cases this
    | cons _ _ => rfl
theorem ne_tup0 (xs : List D) : cmpD .NotEq (.tuple xs) (.tuple []) = .ok (!xs.isEmpty) := by
  have hn : near (.tuple xs) (.tuple []) = true := by simp [near, PyData.depth, PyData.depthAll]
  rw [cmp_Ne, if_pos hn]
  cases xs <;> rfl
section
variable {p : Pa} (hw : wgP p = true) (hb : stL p ≤ 7)
include hw hb
/-- one node -/
theorem one_node (a0 a1 a2 a5 a6 a7 a8 a11 a12 a13 a14 : Option Sl) (t : Tr) (ht : szT t ≤ 31) (x : NT) (hx : atT t x.1 = some x.2) :
    ∃ b8 b11, evSs (Cn 150) b_law_1 [a0, a1, a2, some (.sh (encP p)), some (.sh (encT t)), a5, a6, a7, a8, some (.sh (encI x.1)), some (.sh (encT x.2)), a11, a12, a13, a14] = .nx [a0, a1, a2, some (.sh (encP p)), some (.sh (encT t)), a5, a6, a7, b8, some (.sh (encI x.1)), some (.sh (encT x.2)), b11, a12, a13, a14] := by
  have hlim : lim = 1000000 := rfl
  obtain ⟨w1, w2, w3⟩ := wgP_inv hw
  have ne : p ≠ [] := fun e => by subst e; simp at w1
  have hu : okU t (some x.1) := ⟨_, hx⟩
  have hal := at_len _ _ _ hx
  have hkx : kidsU t (some x.1) = kids x := kidsU_some hx
  have hx3 := szs_kids x
  have e1 := r_law_ways 150 p (kids x) ne w3 w2 (by omega) (by omega) (kids_ok (by omega)) (by omega)
  have e2 := told_ok (r_finds_from (N := 149) hu hw ht (by omega) (by omega))
  have e3 := r_same 3 150 (.tuple ((fndL p (kidsU t (some x.1))).map encI)) (pln_fnd hu ne ht) (by omega)
  refine ⟨some (.sh (.tuple ((fndL p (kidsU t (some x.1))).map encI))), some (.sh (.list ((kids x).map encNT))), ?_⟩
  have e0 : evL (Cn 150) (.comp (.tup (.cons (.name 12) (.cons (.name 13) .nil))) (.enum (.idx (.var 10) (.con (.int 1)))) .no (.tup (.cons (.bin .Add (.var 9) (.tup (.cons (.var 12) .nil))) (.cons (.var 13) .nil)))) [a0, a1, a2, some (.sh (encP p)), some (.sh (encT t)), a5, a6, a7, a8, some (.sh (encI x.1)), some (.sh (encT x.2)), a11, a12, a13, a14] = .ok ((kids x).map encNT) := by
    rw [kids_en, List.map_map]
    refine comp_map (enc := fun p : Nat × Tr => .tuple [.int p.1, encT p.2]) (by simp [encT_kids, enumD_enc]) ?_ ?_
    · rw [en_len]; have := ks_len x.2; omega
    · intro p hp
      have e3 := encI_app1 x.1 (p.1 : Int) (by omega)
      exact ⟨_, bind_pair _ _ _ _ _, by simp [e3, encNT]⟩
  rw [b_law_1]
  refine (ss_nx (set_ok (d := .list ((kids x).map encNT)) (by rw [e_lst, e0]; rfl))).trans ?_
  simp only [List.set_cons_succ, List.set_cons_zero]
  refine (ss_nx (set_ok (d := .tuple ((fndL p (kidsU t (some x.1))).map encI)) ?_)).trans ?_
  · refine ev_last (t := t) (u := some x.1) hu ne w2 ht (by simp) ?_
    rw [hkx]
    simp [e1]
  simp only [List.set_cons_succ, List.set_cons_zero]
  refine (iffF ?_).trans (s_nil' _ _)
  simp [e2, e3]
/-- one tree -/
theorem one_tree (a0 a1 a2 a5 a6 a7 a8 a9 a10 a11 a12 a13 a14 : Option Sl) (t : Tr) (ht : szT t ≤ 31) (h20 : atT t [20] = none) :
    ∃ b7 b8 b9 b10 b11, evSs (Cn 150) b_law_2 [a0, a1, a2, some (.sh (encP p)), some (.sh (encT t)), a5, a6, a7, a8, a9, a10, a11, a12, a13, a14] = .nx [a0, a1, a2, some (.sh (encP p)), some (.sh (encT t)), a5, a6, b7, b8, b9, b10, b11, a12, a13, a14] := by
  have hlim : lim = 1000000 := rfl
  obtain ⟨w1, w2, w3⟩ := wgP_inv hw
  have ne : p ≠ [] := fun e => by subst e; simp at w1
  have e1 := r_law_ways 150 p [([], t)] ne w3 w2 (by simp [szs]; omega) (by omega) (by simp; omega) (by omega)
  have e1' : rn 150 32 [encP p, .list [.tuple [.tuple [], encT t]]] = _ := e1
  have e2 := r_law_finds (N := 150) (p := p) (t := t) hw ht (by omega) (by omega)
  have e3 := r_finds (N := 150) (p := p) (t := t) hw ht (by omega) (by omega)
  have e4 := r_ways (N := 150) (p := p) (t := t) hw ht (by omega) (by omega)
  have e5 := r_has_find (N := 150) (p := p) (t := t) hw ht (by omega) (by omega)
  have e6 := r_law_nodes 150 t [] (by omega) (by simp; omega)
  have e6' : rn 150 31 [encT t, .tuple []] = .ok (.list ((nwT [] t).map encNT)) := e6
  have e7 := told_no (N := 147) (p := p) h20
  rw [show encI [20] = .tuple [.int 20] from rfl, show 147 + 3 = 150 from rfl] at e7
  have hwl := wy_lim p [([], t)] (by simp [szs]; omega) w2
  have e8 := srt_W (wyL p [([], t)]) (by omega)
  have e9 := r_same 5 150 (.tuple [.tuple ((fnd p t).map encI), .tuple (((wyL p [([], t)]).map encW).mergeSort leD)]) (by
    refine ⟨by simp, fun z hz => ?_⟩
    simp only [List.mem_cons, List.not_mem_nil, or_false] at hz
    rcases hz with rfl | rfl
    · exact pln_fnd (k := 1) (u := none) trivial ne ht
    · refine ⟨by rw [List.length_mergeSort, List.length_map]; omega, fun z hz => ?_⟩
      rw [List.mem_mergeSort] at hz
      obtain ⟨row, hr, rfl⟩ := List.mem_map.mp hz
      have hrl := rows_len _ _ _ hr
      refine ⟨by simp; omega, fun z hz => ?_⟩
      obtain ⟨n, hn, rfl⟩ := List.mem_map.mp hz
      have := row_small p [([], t)] (by simp; omega) row hr n hn
      exact pln_I (k := 0) (by omega)) (by omega)
  have e10 := r_same 1 150 (.bool (!(wyL p [([], t)]).isEmpty)) trivial (by omega)
  obtain ⟨s2, x4, b8, b9, b10, b11, rfl⟩ := loop_each (t := .tup (.cons (.name 9) (.cons (.name 10) .nil))) (f := fun s' => evSs (Cn 150) b_law_1 s') (enc := encNT) (fun s => ∃ b8 b9 b10 b11, s = [a0, a1, a2, some (.sh (encP p)), some (.sh (encT t)), a5, a6, some (.sh (.list ((wyL p [([], t)]).map encW))), b8, b9, b10, b11, a12, a13, a14]) (nwT [] t)
    [a0, a1, a2, some (.sh (encP p)), some (.sh (encT t)), a5, a6, some (.sh (.list ((wyL p [([], t)]).map encW))), some (.sh (.tuple ((fnd p t).map encI))), a9, a10, a11, a12, a13, a14]
    (by
      rintro x hx s ⟨b8, b9, b10, b11, rfl⟩
      have hx' : atT t x.1 = some x.2 := by
        obtain ⟨m, h1, h2⟩ := (nwT_mem t [] x).mp hx
        rw [List.nil_append] at h1
        rw [h1]; exact h2
      obtain ⟨c8, c11, e⟩ := one_node hw hb a0 a1 a2 a5 a6 (some (.sh (.list ((wyL p [([], t)]).map encW)))) b8 b11 a12 a13 a14 t ht x hx'
      exact ⟨_, _, bind_pair _ _ _ _ _, e, _, _, _, _, rfl⟩)
    ⟨_, _, _, _, rfl⟩
  refine ⟨some (.sh (.list ((wyL p [([], t)]).map encW))), b8, b9, b10, b11, ?_⟩
  rw [b_law_2]
  refine (ss_nx (set_ok (d := .list ((wyL p [([], t)]).map encW)) (by simp [e1']))).trans ?_
  refine (ss_nx (set_ok (d := .tuple ((fnd p t).map encI)) (by simp [e2]))).trans ?_
  simp only [List.set_cons_succ, List.set_cons_zero]
  refine (iffF ?_).trans ?_
  · simp [e3, e4, el_srt, e8, e9]
  refine (iffF ?_).trans ?_
  · have hne := ne_tup0 ((fnd p t).map encI)
    rw [emp_map, fnd_emp] at hne
    simp [e5, hne, e10]
  refine (ss_nx ((for_ok (ds := (nwT [] t).map encNT) (by simp [e6'])).trans x4)).trans ?_
  refine (iffF ?_).trans (s_nil' _ _)
  simp [e7, cmp_strN]
end
theorem no20 {t : Tr} (h : t.ks.length ≤ 20) : atT t [20] = none := by
  rw [show ([20] : Nd) = [((20 : Nat) : Int)] from rfl, at_one]
  exact List.getElem?_eq_none h
theorem one_k (ns : List Int) (k : Int) (h0 : 0 ≤ k) (h9 : k ≤ 9) (a2 a3 a4 a5 a6 a7 a8 a9 a10 a11 a12 a13 a14 : Option Sl) :
    ∃ b3 b4 b5 b6 b7 b8 b9 b10 b11, evSs (Cn 150) b_law_3 [some (.scr ns), some (.sh (.int k)), a2, a3, a4, a5, a6, a7, a8, a9, a10, a11, a12, a13, a14] = .nx [some (.scr ns), some (.sh (.int k)), a2, b3, b4, b5, b6, b7, b8, b9, b10, b11, a12, a13, a14] := by
  have hlim : lim = 1000000 := rfl
  have m31 := b_mul 31 k (.inl ⟨by decide, by decide⟩)
  have m7 := b_mul 7 k (.inl ⟨by decide, by decide⟩)
  have md : binD .Mod (.int k) (.int 9) = .ok (.int (k % 9)) := rfl
  have md0 : 0 ≤ k % 9 := Int.emod_nonneg _ (by omega)
  generalize hc : ns.getD (k % 9).toNat 0 + 31 * k = c
  have e1 := r_mix 149 c 9887 7 (by omega) (by omega) (by omega)
  have l1 := mix_lo c 9887 7 (by omega)
  have l2 := mix_hi c 9887 7 (by omega)
  obtain ⟨p, p1, w1, s1⟩ := r_path 150 c (1 + mix c 9887 7) (by omega) (by omega) (by omega)
  obtain ⟨t, q1, z1⟩ := r_tree 150 (ns.getD 9 0 + 7 * k) 10 (by omega) (by omega) (by omega)
  have g1 := wf_wgP w1
  have b1 : stL p ≤ 7 := by omega
  have np : p ≠ [] := fun e => by subst e; have := (wgP_inv g1).1; simp at this
  have i1 := (wgP_inv g1).2.2
  obtain ⟨x, hx⟩ := plL_some np
  have zx := plL_sz p x hx i1
  have y2 := r_law_plain 150 p x hx i1 (by omega) (by omega)
  have k1 := ks_len t
  have k2 := ks_len x.1
  have hz3 : szT (.mk 0 [x.1, t]) = szT x.1 + szT t + 1 := by simp [szT, szTs]; omega
  have hall : ∀ u ∈ [t, x.1, .mk 0 [x.1, t]], szT u ≤ 31 ∧ u.ks.length ≤ 20 := by
    intro u hu
    simp only [List.mem_cons, List.not_mem_nil, or_false] at hu
    rcases hu with rfl | rfl | rfl
    · omega
    · omega
    · refine ⟨by omega, by simp [Tr.ks]⟩
  obtain ⟨s2, x4, b4, b7, b8, b9, b10, b11, rfl⟩ := loop_each (t := .name 4) (f := fun s' => evSs (Cn 150) b_law_2 s') (enc := encT) (fun s => ∃ b4 b7 b8 b9 b10 b11, s = [some (.scr ns), some (.sh (.int k)), a2, some (.sh (encP p)), b4, some (.sh (.int c)), some (.sh (encT t)), b7, b8, b9, b10, b11, a12, a13, a14]) [t, x.1, .mk 0 [x.1, t]]
    [some (.scr ns), some (.sh (.int k)), a2, some (.sh (encP p)), a4, some (.sh (.int c)), some (.sh (encT t)), a7, a8, a9, a10, a11, a12, a13, a14]
    (by
      rintro u hu s ⟨b4, b7, b8, b9, b10, b11, rfl⟩
      obtain ⟨c7, c8, c9, c10, c11, e⟩ := one_tree g1 b1 (some (.scr ns)) (some (.sh (.int k))) a2 (some (.sh (.int c))) (some (.sh (encT t))) b7 b8 b9 b10 b11 a12 a13 a14 u (hall u hu).1 (no20 (hall u hu).2)
      exact ⟨_, _, b_name _ _ _, e, _, _, _, _, _, _, rfl⟩)
    ⟨_, _, _, _, _, _, rfl⟩
  refine ⟨some (.sh (encP p)), b4, some (.sh (.int c)), some (.sh (encT t)), b7, b8, b9, b10, b11, ?_⟩
  simp only [List.getD_eq_getElem?_getD] at hc q1
  rw [b_law_3]
  refine (ss_nx (set_ok (d := .int c) (by simp [md, md0, m31, hc]))).trans ?_
  refine (ss_nx (set_ok (d := encP p) (by simp [e1, p1]))).trans ?_
  refine (ss_nx (set_ok (d := encT t) (by simp [m7, q1]))).trans ?_
  simp only [List.set_cons_succ, List.set_cons_zero]
  refine (ss_nx ((for_ok (ds := [t, x.1, .mk 0 [x.1, t]].map encT) ?_).trans x4)).trans (s_nil' _ _)
  have i0 : idxD (encTN x) (.int 0) = .ok (encT x.1) := rfl
  have e3 : encT (.mk 0 [x.1, t]) = .tuple [.str "a", .tuple [encT x.1, encT t]] := rfl
  simp [y2, i0, e3]
def JL (ns : List Int) (ds : List D) (s : Sd) : Prop :=
  ∃ (a1 a2 a3 a4 a5 a6 a7 a8 a9 a10 a11 a12 a13 a14 : Option Sl), s = [some (.scr ns), a1, a2, a3, a4, a5, a6, a7, a8, a9, a10, a11, a12, a13, a14] ∧ ∀ d ∈ ds, ∃ j : Int, d = .int j ∧ 0 ≤ j ∧ j ≤ 9
def pE : Pa := [.mk true 0 [[.mk false 1 []]], .mk true 2 []]
def tE3 : Tr := .mk 0 [.mk 1 [], .mk 0 [.mk 2 []]]
theorem ways_E : wyL pE [([], tE3)] = [[[], [1, 0]]] := by decide +kernel
theorem law_run : ∀ ns : List Int, ns.length ≤ 63 → (evSs (Cn LV) f_law.body (start0 f_law [some (.scr ns)])).res = .ok (.bool true) := by
  intro ns _
  have loop : ∀ (ds : List D) (s : Sd), JL ns ds s → ∃ s', loopFor (.name 1) (fun s' => evSs (Cn 150) b_law_3 s') ds s = .nx s' ∧ JL ns [] s' := by
    refine loopFor_inv _ ?_
    rintro d r s ⟨a1, a2, a3, a4, a5, a6, a7, a8, a9, a10, a11, a12, a13, a14, rfl, g⟩
    obtain ⟨j, rfl, h0, h9⟩ := g d (by simp)
    obtain ⟨b3, b4, b5, b6, b7, b8, b9, b10, b11, e⟩ := one_k ns j h0 h9 a2 a3 a4 a5 a6 a7 a8 a9 a10 a11 a12 a13 a14
    exact ⟨_, _, b_name _ _ _, e, _, _, _, _, _, _, _, _, _, _, _, _, _, _, rfl, fun d hd => g d (by simp [hd])⟩
  obtain ⟨s', x1, a1, a2, a3, a4, a5, a6, a7, a8, a9, a10, a11, a12, a13, a14, rfl, _⟩ := loop (rangeD 0 10) [some (.scr ns), none, none, none, none, none, none, none, none, none, none, none, none, none, none]
    ⟨_, _, _, _, _, _, _, _, _, _, _, _, _, _, rfl, fun d hd => by
      obtain ⟨i, hi, h1, h2⟩ := mem_range hd
      exact ⟨i, hi, h1, by omega⟩⟩
  obtain ⟨p, p1, w1, s1⟩ := r_path 150 (ns.getD 7 0) 3 (by omega) (by omega) (by omega)
  obtain ⟨t, q1, z1⟩ := r_tree 150 (ns.getD 8 0) 30 (by omega) (by omega) (by omega)
  have g1 := wf_wgP w1
  have np : p ≠ [] := fun e => by subst e; have := (wgP_inv g1).1; simp at this
  have e2 := r_law_finds (N := 150) (p := p) (t := t) g1 (by omega) (by omega) (by omega)
  have e3 := r_finds (N := 150) (p := p) (t := t) g1 (by omega) (by omega) (by omega)
  have e4 := r_same 3 150 (.tuple ((fnd p t).map encI)) (pln_fnd (k := 0) (u := none) trivial np (by omega)) (by omega)
  have f3 := r_finds (N := 150) (p := pE) (t := tE3) (by decide +kernel) (by decide +kernel) (by decide +kernel) (by decide +kernel)
  have f4 := r_ways (N := 150) (p := pE) (t := tE3) (by decide +kernel) (by decide +kernel) (by decide +kernel) (by decide +kernel)
  have hfE : fnd pE tE3 = [[1, 0]] := by unfold fnd fndL; rw [ways_E]; decide +kernel
  rw [hfE] at f3
  rw [ways_E] at f4
  simp only [List.map_cons, List.map_nil, List.mergeSort_singleton] at f3 f4
  have eP : encP pE = .tuple [.tuple [.str "deep", .str "a", .tuple [.tuple [.tuple [.str "in", .str "b", .tuple []]]]], .tuple [.str "deep", .str "c", .tuple []]] := rfl
  have eT : encT tE3 = .tuple [.str "a", .tuple [.tuple [.str "b", .tuple []], .tuple [.str "a", .tuple [.tuple [.str "c", .tuple []]]]]] := rfl
  have eW : encW [[], [1, 0]] = .tuple [.tuple [], .tuple [.int 1, .int 0]] := rfl
  have eI : encI [1, 0] = .tuple [.int 1, .int 0] := rfl
  have c1 := (cmp_same (a := .tuple [encI [1, 0]]) (by decide +kernel) (by decide +kernel)).1
  have c2 := (cmp_same (a := .tuple [encW [[], [1, 0]]]) (by decide +kernel) (by decide +kernel)).1
  rw [eP, eT] at f3 f4
  rw [eI] at f3 c1
  rw [eW] at f4 c2
  simp only [List.getD_eq_getElem?_getD] at p1 q1
  show (evSs (Cn 150) b_law [some (.scr ns), none, none, none, none, none, none, none, none, none, none, none, none, none, none]).res = _
  rw [b_law]
  refine res_of (ss_nx ((for_ok (ds := rangeD 0 10) ?_).trans x1)) ?_
  · simp
    rw [rng0 (by omega) (by omega)]
    rfl
  refine res_of (ss_nx (set_ok (d := encT t) (by simp [q1]))) ?_
  refine res_of (ss_nx (set_ok (d := encP p) (by simp [p1]))) ?_
  simp only [List.set_cons_succ, List.set_cons_zero]
  refine res_of (iffF ?_) ?_
  · simp [e2, e3, e4]
  refine res_of (ss_nx (s' := [some (.scr ns), a1, some (.sh (encT t)), some (.sh (.tuple [.tuple [.str "deep", .str "a", .tuple [.tuple [.tuple [.str "in", .str "b", .tuple []]]]], .tuple [.str "deep", .str "c", .tuple []]])), a4, a5, a6, a7, a8, a9, a10, a11, a12, a13, a14]) (by simp)) ?_
  refine res_of (ss_nx (s' := [some (.scr ns), a1, some (.sh (encT t)), some (.sh (.tuple [.tuple [.str "deep", .str "a", .tuple [.tuple [.tuple [.str "in", .str "b", .tuple []]]]], .tuple [.str "deep", .str "c", .tuple []]])), some (.sh (.tuple [.str "a", .tuple [.tuple [.str "b", .tuple []], .tuple [.str "a", .tuple [.tuple [.str "c", .tuple []]]]]])), a5, a6, a7, a8, a9, a10, a11, a12, a13, a14]) (by simp)) ?_
  refine res_of (ss_rt (ret_ok (d := .bool true) ?_)) rfl
  rw [and_t (by simp [f3, c1])]
  simp [f4, c2]
end Tf
open PySem PySem.W PyProof.Rows
set_option maxRecDepth 100000 in
set_option maxHeartbeats 0 in
theorem PySem.Challenge.cw_treefinds_k03_finds_holds : PySem.Challenge.rw_treefinds_k03_finds.Holds := by
  w_on; o_law; k_head; (case hw => w_witness2)
  k_fill
  refine Tf.walk_law (k := Tf.LV + 2) (l := PySem.Challenge.rw_treefinds_k03_finds) rfl rfl ⟨rfl, by decide, by decide⟩ (fun w h Y => PySem.W.kIn_of Y) ?tfF
  case tfF =>
    intro w mg fa h KX G hmg
    refine' Tf.all_mk KX G hmg Tf.law_run ?tf_a0 ?tf_l0 ?tf_c0 ?tf_k0 ?tf_a1 ?tf_l1 ?tf_c1 ?tf_k1 ?tf_a2 ?tf_l2 ?tf_c2 ?tf_k2 ?tf_a3 ?tf_l3 ?tf_c3 ?tf_k3 ?tf_a4 ?tf_l4 ?tf_c4 ?tf_k4 ?tf_a5 ?tf_l5 ?tf_c5 ?tf_k5 ?tf_a6 ?tf_l6 ?tf_c6 ?tf_k6 ?tf_a7 ?tf_l7 ?tf_c7 ?tf_k7 ?tf_a8 ?tf_l8 ?tf_c8 ?tf_k8 ?tf_a9 ?tf_l9 ?tf_c9 ?tf_k9 ?tf_a10 ?tf_l10 ?tf_c10 ?tf_k10 ?tf_a11 ?tf_l11 ?tf_c11 ?tf_k11 ?tf_a12 ?tf_l12 ?tf_c12 ?tf_k12 ?tf_a13 ?tf_l13 ?tf_c13 ?tf_k13 ?tf_a14 ?tf_l14 ?tf_c14 ?tf_k14 ?tf_a15 ?tf_l15 ?tf_c15 ?tf_k15 ?tf_a16 ?tf_l16 ?tf_c16 ?tf_k16 ?tf_a17 ?tf_l17 ?tf_c17 ?tf_k17 ?tf_a18 ?tf_l18 ?tf_c18 ?tf_k18 ?tf_a19 ?tf_l19 ?tf_c19 ?tf_k19 ?tf_a20 ?tf_l20 ?tf_c20 ?tf_k20 ?tf_a21 ?tf_l21 ?tf_c21 ?tf_k21 ?tf_a22 ?tf_l22 ?tf_c22 ?tf_k22 ?tf_a23 ?tf_l23 ?tf_c23 ?tf_k23 ?tf_z0 ?tf_z1 ?tf_z2 ?tf_z3 ?tf_z4 ?tf_z5 ?tf_z6 ?tf_z7 ?tf_z8 ?tf_z9 ?tf_z10 ?tf_z11 ?tf_z12 ?tf_z13 ?tf_z14 ?tf_z15 ?tf_x0 ?tf_xe0 ?tf_xk0 ?tf_xs0 ?tf_xq0 ?tf_x1 ?tf_xe1 ?tf_xk1 ?tf_xs1 ?tf_xq1 ?tf_xt0 ?tf_xt1 ?tf_xt2 ?tf_xt3 ?tf_xu0 ?tf_xu1 ?tf_zv ?tf_sp ?tf_tn ?tf_v00 ?tf_v01 ?tf_v02 ?tf_v03 ?tf_v04 ?tf_v05 ?tf_v10 ?tf_v11 ?tf_v12 ?tf_v13 ?tf_v14 ?tf_v15 ?tf_s00 ?tf_s01 ?tf_s10
    (case tf_a0 => k_is)
    (case tf_l0 => k_is)
    (case tf_c0 => k_is)
    (case tf_k0 => k_is)
    (case tf_a1 => k_is)
    (case tf_l1 => k_is)
    (case tf_c1 => k_is)
    (case tf_k1 => k_is)
    (case tf_a2 => k_is)
    (case tf_l2 => k_is)
    (case tf_c2 => k_is)
    (case tf_k2 => k_is)
    (case tf_a3 => k_is)
    (case tf_l3 => k_is)
    (case tf_c3 => k_is)
    (case tf_k3 => k_is)
    (case tf_a4 => k_is)
    (case tf_l4 => k_is)
    (case tf_c4 => k_is)
    (case tf_k4 => k_is)
    (case tf_a5 => k_is)
    (case tf_l5 => k_is)
    (case tf_c5 => k_is)
    (case tf_k5 => k_is)
    (case tf_a6 => k_is)
    (case tf_l6 => k_is)
    (case tf_c6 => k_is)
    (case tf_k6 => k_is)
    (case tf_a7 => k_is)
    (case tf_l7 => k_is)
    (case tf_c7 => k_is)
    (case tf_k7 => k_is)
    (case tf_a8 => k_is)
    (case tf_l8 => k_is)
    (case tf_c8 => k_is)
    (case tf_k8 => k_is)
    (case tf_a9 => k_is)
    (case tf_l9 => k_is)
    (case tf_c9 => k_is)
    (case tf_k9 => k_is)
    (case tf_a10 => k_is)
    (case tf_l10 => k_is)
    (case tf_c10 => k_is)
    (case tf_k10 => k_is)
    (case tf_a11 => k_is)
    (case tf_l11 => k_is)
    (case tf_c11 => k_is)
    (case tf_k11 => k_is)
    (case tf_a12 => k_is)
    (case tf_l12 => k_is)
    (case tf_c12 => k_is)
    (case tf_k12 => k_is)
    (case tf_a13 => k_is)
    (case tf_l13 => k_is)
    (case tf_c13 => k_is)
    (case tf_k13 => k_is)
    (case tf_a14 => k_is)
    (case tf_l14 => k_is)
    (case tf_c14 => k_is)
    (case tf_k14 => k_is)
    (case tf_a15 => k_is)
    (case tf_l15 => k_is)
    (case tf_c15 => k_is)
    (case tf_k15 => k_is)
    (case tf_a16 => k_is)
    (case tf_l16 => k_is)
    (case tf_c16 => k_is)
    (case tf_k16 => k_is)
    (case tf_a17 => k_is)
    (case tf_l17 => k_is)
    (case tf_c17 => k_is)
    (case tf_k17 => k_is)
    (case tf_a18 => k_is)
    (case tf_l18 => k_is)
    (case tf_c18 => k_is)
    (case tf_k18 => k_is)
    (case tf_a19 => k_is)
    (case tf_l19 => k_is)
    (case tf_c19 => k_is)
    (case tf_k19 => k_is)
    (case tf_a20 => k_is)
    (case tf_l20 => k_is)
    (case tf_c20 => k_is)
    (case tf_k20 => k_is)
    (case tf_a21 => k_is)
    (case tf_l21 => k_is)
    (case tf_c21 => k_is)
    (case tf_k21 => k_is)
    (case tf_a22 => k_is)
    (case tf_l22 => k_is)
    (case tf_c22 => k_is)
    (case tf_k22 => k_is)
    (case tf_a23 => k_is)
    (case tf_l23 => k_is)
    (case tf_c23 => k_is)
    (case tf_k23 => k_is)
    (case tf_z0 => k_is)
    (case tf_z1 => k_is)
    (case tf_z2 => k_is)
    (case tf_z3 => k_is)
    (case tf_z4 => k_is)
    (case tf_z5 => k_is)
    (case tf_z6 => k_is)
    (case tf_z7 => k_is)
    (case tf_z8 => k_is)
    (case tf_z9 => k_is)
    (case tf_z10 => k_is)
    (case tf_z11 => k_is)
    (case tf_z12 => k_is)
    (case tf_z13 => k_is)
    (case tf_z14 => k_is)
    (case tf_z15 => k_is)
    (case tf_x0 => k_is)
    (case tf_xe0 => k_exc)
    (case tf_xk0 => k_is)
    (case tf_xs0 => k_is)
    (case tf_xq0 => k_is)
    (case tf_x1 => k_is)
    (case tf_xe1 => k_exc)
    (case tf_xk1 => k_is)
    (case tf_xs1 => k_is)
    (case tf_xq1 => k_is)
    (case tf_xt0 => k_is)
    (case tf_xt1 => k_is)
    (case tf_xt2 => k_is)
    (case tf_xt3 => k_is)
    (case tf_xu0 => k_is)
    (case tf_xu1 => k_is)
    (case tf_zv => k_is)
    (case tf_sp => k_is)
    (case tf_tn => k_is)
    (case tf_v00 => k_is)
    (case tf_v01 => k_is)
    (case tf_v02 => k_is)
    (case tf_v03 => k_is)
    (case tf_v04 => k_is)
    (case tf_v05 => k_is)
    (case tf_v10 => k_is)
    (case tf_v11 => k_is)
    (case tf_v12 => k_is)
    (case tf_v13 => k_is)
    (case tf_v14 => k_is)
    (case tf_v15 => k_is)
    (case tf_s00 => k_is)
    (case tf_s01 => k_is)
    (case tf_s10 => k_is)
