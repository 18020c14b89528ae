import PyProof.Rows.All
import Wide.All
import OpenK.AllK
import Wide.FinOn
import HandS.ForMost
import HandS.ForExc
import HandS.Flow
import HandS.TupAny
import HandS.TupLe
import HandS.IsInst
import HandS.TupMul
import HandS.Text
import KE.GoesEnum
import KE.GoesZip
import HandS.Iter
import KE.KRevSl
import PySem.Challenge.RW_treefinds_k02_paths
set_option Elab.async false
set_option linter.all false
set_option maxRecDepth 100000
set_option maxHeartbeats 4000000
set_option autoImplicit false
/-! Tf1: a small evaluator for the Python that the program and the laws are written in, over PyData. -/
namespace Tf
open PySem

abbrev D := PyData
abbrev lim : Nat := 1000000

/-- a result: a value, an exception by its number, or nothing is told -/
inductive R (A : Type) where
  | ok (a : A)
  | exc (c : Nat)
  | fail
namespace R
def bind {A B : Type} : R A → (A → R B) → R B
  | .ok a, f => f a
  | .exc c, _ => .exc c
  | .fail, _ => .fail
/-- out of a comprehension no exception is told -/
def still {A : Type} : R A → R A
  | .ok a => .ok a
  | .exc _ => .fail
  | .fail => .fail
@[simp] theorem bind_ok {A B : Type} (a : A) (f : A → R B) : (R.ok a).bind f = f a := rfl
@[simp] theorem bind_exc {A B : Type} (c : Nat) (f : A → R B) : (R.exc c : R A).bind f = .exc c := rfl
@[simp] theorem bind_fail {A B : Type} (f : A → R B) : (R.fail : R A).bind f = .fail := rfl
@[simp] theorem still_ok {A : Type} (a : A) : (R.ok a).still = .ok a := rfl
end R

inductive Bi where
  | len | all | any | sum | tuple | int
inductive Ty where
  | int | str | bool | tuple | list

mutual
inductive Tg where
  | name (i : Nat)
  | tup (ts : Tgs)
inductive Tgs where
  | nil
  | cons (t : Tg) (r : Tgs)
end

mutual
inductive E where
  | var (i : Nat)
  | con (d : D)
  | glo (g : Nat)
  | tup (es : Es)
  | lst (l : L)
  | bin (op : Operator) (a b : E)
  | neg (a : E)
  | cmp (op : CmpOp) (a b : E)
  | cmp2 (o p : CmpOp) (a b c : E)
  | and (a b : E)
  | or (a b : E)
  | not (a : E)
  | ite (c a b : E)
  | idx (a i : E)
  | slc (a : E) (lo hi : Eo)
  | rev (a : E)
  | call (f : Nat) (es : Es)
  | isi (a : E) (t : Ty)
  | isi2 (a : E) (t u : Ty)
  | bi (b : Bi) (a : E)
  | min2 (a b : E)
  | lenO (i : Nat)
  | inO (neg : Bool) (a : E) (i : Nat)
  | cell (i : Nat) (e : E)
  | upper (a : E)
  | join (s a : E)
  | rows (a b : E)
inductive Es where
  | nil
  | cons (e : E) (r : Es)
inductive Eo where
  | no
  | yes (e : E)
inductive L where
  | disp (es : Es)
  | comp (t : Tg) (it : It) (c : Eo) (e : E)
  | cat (a b : E)
  | rep (a k : E)
  | ofs (a : E)
  | srt (a : E)
  | sset (a : E)
inductive It where
  | seq (a : E)
  | rng1 (a : E)
  | rng2 (a b : E)
  | enum (a : E)
  | zip (a b : E)
end

mutual
inductive S where
  | set (i : Nat) (e : E)
  | setL (i : Nat) (l : L)
  | frz (i : Nat)
  | unp (t : Tgs) (e : E)
  | par (i j : Nat) (a b : E)
  | parL (i j : Nat) (l : L) (b : E)
  | parR (i j : Nat) (a : E) (l : L)
  | app (i : Nat) (e : E)
  | ext (i : Nat) (e : E)
  | ret (e : E)
  | iff (c : E) (a b : Ss)
  | for_ (t : Tg) (it : It) (b : Ss)
  | whl (c : E) (b : Ss)
  | exp (e : E)
  | rai (c : Nat)
  | io (i : Nat) (a b : E)
inductive Ss where
  | nil
  | cons (s : S) (r : Ss)
end

/-- a slot: a shared value, an owned list, the script -/
inductive Sl where
  | sh (d : D)
  | ow (ds : List D)
  | scr (ns : List Int)
abbrev Sd := List (Option Sl)

/-! ### operations on data -/
def isTy : Ty → D → Bool
  | .int, .int _ => true
  | .int, .bool _ => true
  | .str, .str _ => true
  | .bool, .bool _ => true
  | .tuple, .tuple _ => true
  | .list, .list _ => true
  | _, _ => false
def truth : D → R Bool
  | .none => .ok false
  | .bool b => .ok b
  | .int i => .ok (i != 0)
  | .list xs => .ok (!xs.isEmpty)
  | .tuple xs => .ok (!xs.isEmpty)
  | _ => .fail
def binD : Operator → D → D → R D
  | .Add, .int i, .int j => .ok (.int (i + j))
  | .Add, .str x, .str y => if x.length + y.length ≤ lim then .ok (.str (x ++ y)) else .fail
  | .Add, .tuple xs, .tuple ys => if xs.length + ys.length ≤ lim then .ok (.tuple (xs ++ ys)) else .fail
  | .Sub, .int i, .int j => .ok (.int (i - j))
  | .Mult, .int i, .int j => if (-(2 ^ 64) < i ∧ i < 2 ^ 64) ∨ (-(2 ^ 64) < j ∧ j < 2 ^ 64) then .ok (.int (i * j)) else .fail
  | .Mult, .str x, .int j => if 0 ≤ j ∧ j ≤ 1000 ∧ x.length ≤ 1000 then .ok (.str (Txt.mul x j)) else .fail
  | .Mult, .tuple xs, .int j => if xs.isEmpty = false ∧ 2 ≤ j ∧ j ≤ 1000 ∧ xs.length ≤ 1000 then .ok (.tuple (List.replicate j.toNat xs).flatten) else .fail
  | .Mod, .int i, .int j => if 0 < j then .ok (.int (i % j)) else .fail
  | _, _, _ => .fail
def negD : D → R D
  | .int i => .ok (.int (-i))
  | _ => .fail
def near (a b : D) : Bool := decide (min a.depth b.depth ≤ 190)
def inD (x : D) (ys : List D) : Bool := ys.any fun y => PyData.eqv y x
/-- the sign c among the signs of a text -/
def cmpD : CmpOp → D → D → R Bool
  | .Eq, a, b => if near a b = true then .ok (PyData.eqv a b) else .fail
  | .NotEq, a, b => if near a b = true then .ok (!PyData.eqv a b) else .fail
  | .Lt, .int i, .int j => .ok (decide (i < j))
  | .LtE, .int i, .int j => .ok (decide (i ≤ j))
  | .Gt, .int i, .int j => .ok (decide (j < i))
  | .GtE, .int i, .int j => .ok (decide (j ≤ i))
  | .Is, .none, .none => .ok true
  | .Is, .bool _, .none => .ok false
  | .Is, .int _, .none => .ok false
  | .Is, .str _, .none => .ok false
  | .Is, .list _, .none => .ok false
  | .Is, .tuple _, .none => .ok false
  | .Is, .bool a, .bool b => .ok (decide (a = b))
  | .IsNot, .none, .none => .ok false
  | .IsNot, .bool _, .none => .ok true
  | .IsNot, .int _, .none => .ok true
  | .IsNot, .str _, .none => .ok true
  | .IsNot, .list _, .none => .ok true
  | .IsNot, .tuple _, .none => .ok true
  | .IsNot, .bool a, .bool b => .ok (!decide (a = b))
  | .In, x, .tuple ys => if x.depth ≤ 190 then .ok (inD x ys) else .fail
  | .In, x, .list ys => if x.depth ≤ 190 then .ok (inD x ys) else .fail
  | .In, .str x, .str y => .ok (!(Builtin.Str.occurrences y x 0 y.length 1).isEmpty)
  | .NotIn, x, .tuple ys => if x.depth ≤ 190 then .ok (!inD x ys) else .fail
  | .NotIn, x, .list ys => if x.depth ≤ 190 then .ok (!inD x ys) else .fail
  | .NotIn, .str x, .str y => .ok (!(!(Builtin.Str.occurrences y x 0 y.length 1).isEmpty))
  | _, _, _ => .fail
def idxD : D → D → R D
  | .tuple xs, .int i => match L2.atI xs i with
    | some d => .ok d
    | none => .fail
  | .list xs, .int i => match L2.atI xs i with
    | some d => .ok d
    | none => .fail
  | .str x, .int i => if x.length ≤ lim then (match L2.atI x.cps.toList i with
    | some c => .ok (.str ⟨#[c]⟩)
    | none => .fail) else .fail
  | _, _ => .fail
/-- the items of xs[lo:hi] -/
def cutD {A : Type} (xs : List A) (lo hi : Option Int) : List A := (xs.drop (HT.sIx xs.length 0 lo)).take (HT.sIx xs.length xs.length hi - HT.sIx xs.length 0 lo)
def slcD (lo hi : Option Int) : D → R D
  | .tuple xs => .ok (.tuple (cutD xs lo hi))
  | .str x => if x.length ≤ lim then .ok (.str ⟨(cutD x.cps.toList lo hi).toArray⟩) else .fail
  | _ => .fail
def revD : D → R D
  | .tuple xs => .ok (.tuple xs.reverse)
  | _ => .fail
def boolsOf : List D → Option (List Bool)
  | [] => some []
  | .bool b :: r => (boolsOf r).map (b :: ·)
  | _ :: _ => none
def intsOf : List D → Option (List Int)
  | [] => some []
  | .int i :: r => (intsOf r).map (i :: ·)
  | _ :: _ => none
def strsOf : List D → Option (List Str)
  | [] => some []
  | .str x :: r => (strsOf r).map (x :: ·)
  | _ :: _ => none
def biD : Bi → D → R D
  | .len, .tuple xs => .ok (.int xs.length)
  | .len, .list xs => .ok (.int xs.length)
  | .len, .str x => if x.length ≤ lim then .ok (.int x.length) else .fail
  | .all, .list xs => match boolsOf xs with
    | some bs => .ok (.bool (bs.all id))
    | none => .fail
  | .any, .list xs => match boolsOf xs with
    | some bs => .ok (.bool (bs.any id))
    | none => .fail
  | .sum, .list xs => match intsOf xs with
    | some ns => .ok (.int ns.sum)
    | none => .fail
  | .tuple, .list xs => .ok (.tuple xs)
  | .tuple, .tuple xs => .ok (.tuple xs)
  | .int, .bool b => .ok (.int (if b then 1 else 0))
  | .int, .int i => .ok (.int i)
  | _, _ => .fail
def min2D : D → D → R D
  | .int i, .int j => .ok (.int (if j < i then j else i))
  | _, _ => .fail
def upperD : D → R D
  | .str x => if x.length ≤ lim then .ok (.str ⟨x.cps.map PyProof.Rows.up1⟩) else .fail
  | _ => .fail
def joinD : D → D → R D
  | _, _ => .fail

/-! ### targets -/
mutual
def slotsT : Tg → List Nat
  | .name i => [i]
  | .tup ts => slotsTs ts
def slotsTs : Tgs → List Nat
  | .nil => []
  | .cons t r => slotsT t ++ slotsTs r
end
mutual
def bindT : Tg → D → Sd → Option Sd
  | .name i, d, s => some (s.set i (some (.sh d)))
  | .tup ts, d, s => match d with
    | .tuple ds => bindTs ts ds s
    | _ => none
def bindTs : Tgs → List D → Sd → Option Sd
  | .nil, ds, s => match ds with
    | [] => some s
    | _ => none
  | .cons t r, ds, s => match ds with
    | d :: ds' => match bindT t d s with
      | some s' => bindTs r ds' s'
      | none => none
    | [] => none
end
def wipeD (s : Sd) : List Nat → Sd
  | [] => s
  | v :: vs => (wipeD s vs).set v none

structure EvC where
  call : Nat → List D → R D
  gv : Nat → Option D
  wf : Nat
  io : D → D → List D → Option (List D)

def compGo (f : D → R (Option D)) : List D → R (List D)
  | [] => .ok []
  | d :: r => (f d).still.bind fun o => (compGo f r).bind fun ys => .ok (match o with | some y => y :: ys | none => ys)

/-- enumerate -/
def enumD : Nat → List D → List D
  | _, [] => []
  | k, d :: r => .tuple [.int k, d] :: enumD (k + 1) r
def zipD : List D → List D → List D
  | x :: xs, y :: ys => .tuple [x, y] :: zipD xs ys
  | _, _ => []
def rangeD (lo : Int) : Nat → List D
  | 0 => []
  | n + 1 => .int lo :: rangeD (lo + 1) n
def itemsOf : D → R (List D)
  | .list xs => .ok xs
  | .tuple xs => .ok xs
  | .str x => .ok (x.cps.toList.map fun c => .str ⟨#[c]⟩)
  | _ => .fail
def seqOf : D → R (List D)
  | .list xs => .ok xs
  | .tuple xs => .ok xs
  | _ => .fail
def tupOf : D → R (List D)
  | .tuple xs => .ok xs
  | _ => .fail
def listOf : D → R (List D)
  | .list xs => .ok xs
  | _ => .fail
def intOf : D → R Int
  | .int i => .ok i
  | _ => .fail
def rng (lo hi : Int) : R (List D) := if -(2 ^ 62) ≤ lo ∧ lo < 2 ^ 62 ∧ -(2 ^ 62) ≤ hi ∧ hi < 2 ^ 62 then .ok (rangeD lo (hi - lo).toNat) else .fail
def repD : List D → D → R (List D)
  | xs, .int k => if 0 ≤ k ∧ k ≤ 1000 ∧ xs.length ≤ 1000 then .ok (List.replicate k.toNat xs).flatten else .fail
  | _, _ => .fail
def catD (xs ys : List D) : R (List D) := if xs.length + ys.length ≤ lim then .ok (xs ++ ys) else .fail
/-- sorted; sorted(set(..)) -/
def srtD (_ : List D) : R (List D) := .fail
def ssetD (_ : List D) : R (List D) := .fail

mutual
def ev (C : EvC) : E → Sd → R D
  | .var i, s => match s[i]? with
    | some (some (.sh d)) => .ok d
    | _ => .fail
  | .con d, _ => .ok d
  | .glo g, _ => match C.gv g with
    | some d => .ok d
    | none => .fail
  | .tup es, s => (evs C es s).bind fun ds => .ok (.tuple ds)
  | .lst l, s => (evL C l s).bind fun ds => .ok (.list ds)
  | .bin op a b, s => (ev C a s).bind fun x => (ev C b s).bind fun y => binD op x y
  | .neg a, s => (ev C a s).bind negD
  | .cmp op a b, s => (ev C a s).bind fun x => (ev C b s).bind fun y => (cmpD op x y).bind fun t => .ok (.bool t)
  | .cmp2 o p a b c, s => (ev C a s).bind fun x => (ev C b s).bind fun y => (cmpD o x y).bind fun t => match t with
    | true => (ev C c s).bind fun z => (cmpD p y z).bind fun t => .ok (.bool t)
    | false => .ok (.bool false)
  | .and a b, s => (ev C a s).bind fun x => (truth x).bind fun t => match t with
    | true => ev C b s
    | false => .ok x
  | .or a b, s => (ev C a s).bind fun x => (truth x).bind fun t => match t with
    | true => .ok x
    | false => ev C b s
  | .not a, s => (ev C a s).bind fun x => (truth x).bind fun t => .ok (.bool (!t))
  | .ite c a b, s => (ev C c s).bind fun x => (truth x).bind fun t => match t with
    | true => ev C a s
    | false => ev C b s
  | .idx a i, s => (ev C a s).bind fun x => (ev C i s).bind fun y => idxD x y
  | .slc a lo hi, s => (ev C a s).bind fun x => (evo C lo s).bind fun l => (evo C hi s).bind fun h => slcD l h x
  | .rev a, s => (ev C a s).bind revD
  | .call f es, s => (evs C es s).bind fun ds => C.call f ds
  | .isi a t, s => (ev C a s).bind fun x => .ok (.bool (isTy t x))
  | .isi2 a t u, s => (ev C a s).bind fun x => .ok (.bool (isTy t x || isTy u x))
  | .bi b a, s => (ev C a s).bind fun x => biD b x
  | .min2 a b, s => (ev C a s).bind fun x => (ev C b s).bind fun y => min2D x y
  | .lenO i, s => match s[i]? with
    | some (some (.ow ds)) => .ok (.int ds.length)
    | _ => .fail
  | .inO neg a i, s => (ev C a s).bind fun x => match s[i]? with
    | some (some (.ow ds)) => if x.depth ≤ 190 then .ok (.bool (if neg then !inD x ds else inD x ds)) else .fail
    | _ => .fail
  | .cell i e, s => match s[i]? with
    | some (some (.scr ns)) => (ev C e s).bind fun x => match x with
      | .int k => if 0 ≤ k then .ok (.int (ns.getD k.toNat 0)) else .fail
      | _ => .fail
    | _ => .fail
  | .upper a, s => (ev C a s).bind upperD
  | .join a b, s => (ev C a s).bind fun x => (ev C b s).bind fun y => joinD x y
  | .rows a b, s => (ev C a s).bind fun x => (ev C b s).bind fun y => match C.io x y [] with
    | some es => .ok (.tuple es)
    | none => .fail
def evs (C : EvC) : Es → Sd → R (List D)
  | .nil, _ => .ok []
  | .cons e r, s => (ev C e s).bind fun x => (evs C r s).bind fun xs => .ok (x :: xs)
/-- a slice's part -/
def evo (C : EvC) : Eo → Sd → R (Option Int)
  | .no, _ => .ok none
  | .yes e, s => (ev C e s).bind fun x => (intOf x).bind fun i => .ok (some i)
/-- a comprehension's test -/
def evc (C : EvC) : Eo → Sd → R Bool
  | .no, _ => .ok true
  | .yes e, s => (ev C e s).bind truth
def evL (C : EvC) : L → Sd → R (List D)
  | .disp es, s => evs C es s
  | .comp t it c e, s => (evI C it s).bind fun items => if items.length ≤ lim then
      compGo (fun d => match bindT t d (wipeD s (slotsT t)) with
        | none => .fail
        | some s' => (evc C c s').bind fun b => match b with
          | true => (ev C e s').bind fun y => .ok (some y)
          | false => .ok none) items
      else .fail
  | .cat a b, s => (ev C a s).bind fun x => (ev C b s).bind fun y => (listOf x).bind fun xs => (listOf y).bind fun ys => catD xs ys
  | .rep a k, s => (ev C a s).bind fun x => (ev C k s).bind fun y => (listOf x).bind fun xs => repD xs y
  | .ofs a, s => (ev C a s).bind seqOf
  | .srt a, s => (ev C a s).bind fun x => (seqOf x).bind srtD
  | .sset a, s => (ev C a s).bind fun x => (listOf x).bind ssetD
def evI (C : EvC) : It → Sd → R (List D)
  | .seq a, s => (ev C a s).bind itemsOf
  | .rng1 a, s => (ev C a s).bind fun x => (intOf x).bind fun i => rng 0 i
  | .rng2 a b, s => (ev C a s).bind fun x => (ev C b s).bind fun y => (intOf x).bind fun i => (intOf y).bind fun j => rng i j
  | .enum a, s => (ev C a s).bind fun x => (seqOf x).bind fun xs => .ok (enumD 0 xs)
  | .zip a b, s => (ev C a s).bind fun x => (ev C b s).bind fun y => (tupOf x).bind fun xs => (tupOf y).bind fun ys => .ok (zipD xs ys)
end

inductive Out where
  | nx (s : Sd)
  | rt (d : D)
  | exc (c : Nat)
  | fail
def R.out {A : Type} : R A → (A → Out) → Out
  | .ok a, f => f a
  | .exc c, _ => .exc c
  | .fail, _ => .fail
@[simp] theorem R.out_ok {A : Type} (a : A) (f : A → Out) : (R.ok a).out f = f a := rfl
def Out.then : Out → (Sd → Out) → Out
  | .nx s, f => f s
  | .rt d, _ => .rt d
  | .exc c, _ => .exc c
  | .fail, _ => .fail
@[simp] theorem Out.then_nx (s : Sd) (f : Sd → Out) : (Out.nx s).then f = f s := rfl
@[simp] theorem Out.then_rt (d : D) (f : Sd → Out) : (Out.rt d).then f = .rt d := rfl

def loopFor (t : Tg) (f : Sd → Out) : List D → Sd → Out
  | [], s => .nx s
  | d :: r, s => match bindT t d s with
    | none => .fail
    | some s' => (f s').then (loopFor t f r)
def loopWhile (c : Sd → R Bool) (f : Sd → Out) : Nat → Sd → Out
  | 0, _ => .fail
  | n + 1, s => (c s).out fun b => match b with
    | true => (f s).then (loopWhile c f n)
    | false => .nx s

mutual
def evS (C : EvC) : S → Sd → Out
  | .set i e, s => (ev C e s).out fun d => .nx (s.set i (some (.sh d)))
  | .setL i l, s => (evL C l s).out fun ds => .nx (s.set i (some (.ow ds)))
  | .frz i, s => match s[i]? with
    | some (some (.ow ds)) => .nx (s.set i (some (.sh (.list ds))))
    | _ => .nx s
  | .unp t e, s => (ev C e s).out fun d => match bindT (.tup t) d s with
    | some s' => .nx s'
    | none => .fail
  | .par i j a b, s => (ev C a s).out fun x => (ev C b s).out fun y => .nx ((s.set i (some (.sh x))).set j (some (.sh y)))
  | .parL i j l b, s => (evL C l s).out fun xs => (ev C b s).out fun y => .nx ((s.set i (some (.ow xs))).set j (some (.sh y)))
  | .parR i j a l, s => (ev C a s).out fun x => (evL C l s).out fun ys => .nx ((s.set i (some (.sh x))).set j (some (.ow ys)))
  | .app i e, s => match s[i]? with
    | some (some (.ow ds)) => (ev C e s).out fun d => if ds.length < lim then .nx (s.set i (some (.ow (ds ++ [d])))) else .fail
    | _ => .fail
  | .ext i e, s => match s[i]? with
    | some (some (.ow ds)) => ((ev C e s).bind listOf).out fun es => if ds.length + es.length ≤ lim then .nx (s.set i (some (.ow (ds ++ es)))) else .fail
    | _ => .fail
  | .ret e, s => (ev C e s).out fun d => .rt d
  | .iff c a b, s => ((ev C c s).bind truth).out fun t => match t with
    | true => evSs C a s
    | false => evSs C b s
  | .for_ t it b, s => (evI C it s).out fun items => loopFor t (fun s' => evSs C b s') items s
  | .whl c b, s => loopWhile (fun s' => (ev C c s').bind truth) (fun s' => evSs C b s') C.wf s
  | .exp e, s => (ev C e s).out fun _ => .nx s
  | .rai c, _ => .exc c
  | .io i a b, s => match s[i]? with
    | some (some (.ow ds)) => (ev C a s).out fun x => (ev C b s).out fun y => match C.io x y ds with
      | some es => .nx (s.set i (some (.ow es)))
      | none => .fail
    | _ => .fail
def evSs (C : EvC) : Ss → Sd → Out
  | .nil, s => .nx s
  | .cons x r, s => (evS C x s).then fun s' => evSs C r s'
end

structure Fn where
  np : Nat
  nn : Nat
  body : Ss
def start0 (f : Fn) (sl : List (Option Sl)) : Sd := sl ++ List.replicate (f.nn - f.np) none
def Out.res : Out → R D
  | .nx _ => .ok .none
  | .rt d => .ok d
  | .exc c => .exc c
  | .fail => .fail
def runF (C : EvC) (f : Fn) (ds : List D) : R D :=
  if ds.length = f.np then (evSs C f.body (start0 f (ds.map fun d => some (.sh d)))).res else .fail
/-- what stands at a place of the table: a def of the text, or a function that is shown by hand (n: the level) -/
inductive Fk where
  | fn (f : Fn)
  | prim (m : Nat → List D → R D)
abbrev Io := Nat → D → D → List D → Option (List D)
def run (tbl : List Fk) (gv : Nat → Option D) (io : Io) : Nat → Nat → List D → R D
  | 0, _, _ => .fail
  | n + 1, f, ds => match tbl[f]? with
    | some (.fn x) => runF ⟨run tbl gv io n, gv, 1000, io n⟩ x ds
    | some (.prim m) => m n ds
    | none => .fail
/-- a def whose last parameter is a list that it makes longer: its loop, and what the list is then -/
def ioF (C : EvC) (nn : Nat) (m : S) (x y : D) (ds : List D) : Option (List D) :=
  match evS C m ([some (.sh x), some (.sh y), some (.ow ds)] ++ List.replicate (nn - 3) none) with
  | .nx s => match (s[2]? : Option (Option Sl)) with
    | some (some (Sl.ow es)) => some es
    | _ => none
  | _ => none
/-- the law itself: its one parameter is the script -/
def runLaw (tbl : List Fk) (gv : Nat → Option D) (io : Io) (n : Nat) (f : Fn) (ns : List Int) : R D :=
  (evSs ⟨run tbl gv io n, gv, 1000, io n⟩ f.body (start0 f [some (.scr ns)])).res
end Tf
/-! Tf2a: how values of the abstract heap stand for data; the operations. -/
namespace Tf
open PySem L2

/-! ### heaps -/
def Le (H H' : Hp) : Prop := ∀ a o, H a = some o → H' a = some o
theorem Le.refl (H : Hp) : Le H H := fun _ _ h => h
theorem Le.trans {H H1 H2 : Hp} (a : Le H H1) (b : Le H1 H2) : Le H H2 := fun x o h => b x o (a x o h)
theorem Le.non {H H' : Hp} (h : Le H H') {a : Addr} (e : H' a = none) : H a = none := by
  cases q : H a with
  | none => rfl
  | some o => rw [h a o q] at e; cases e
theorem Le.fresh {H : Hp} {a : Addr} {o : HO} (h : H a = none) : Le H (upd H a o) := fun b u e => by
  rw [upd_ne (ne_of_none e h)]; exact e
theorem Le.upd2 {F H : Hp} {a : Addr} {o : HO} (h : Le F H) : Le (upd F a o) (upd H a o) := fun b u e => by
  by_cases hb : b = a
  · subst hb; rw [upd_same] at e ⊢; exact e
  · rw [upd_ne hb] at e ⊢; exact h b u e
theorem Le.updR {F H : Hp} {a : Addr} {o : HO} (h : Le F H) (hn : F a = none) : Le F (upd H a o) := fun b u e => by
  rw [upd_ne (ne_of_none e hn)]; exact h b u e
theorem Le.rd {H H' : Hp} {a : Addr} {u : HO} (e : Le H H') (h : Rd H a u) : Rd H' a u := by
  rcases h with h | ⟨o, h⟩
  · exact Or.inl (e a _ h)
  · exact Or.inr ⟨o, e a _ h⟩
theorem Le.sqL {K : PySem.W.Frag} {H H' : Hp} {a : Addr} {xs : List V} (e : Le H H') (h : SqL K H a xs) : SqL K H' a xs := by
  rcases h with h | h
  · exact Or.inl (e.rd h)
  · exact Or.inr h
theorem Le.sqT {K : PySem.W.Frag} {H H' : Hp} {a : Addr} {xs : List V} (e : Le H H') (h : SqT K H a xs) : SqT K H' a xs := by
  rcases h with h | h
  · exact Or.inl (e.rd h)
  · exact Or.inr h

/-! ### data -/
/-- a plain text -/
def asc (x : Str) : Prop := ∀ c ∈ x.cps.toList, c < 128
theorem asc.ok {x : Str} (h : asc x) : PyData.strOk x = true := by
  unfold PyData.strOk
  rw [← Array.all_toList, List.all_eq_true]
  intro c hc
  have := h c hc
  simp; omega
theorem asc.append {x y : Str} (h : asc x) (k : asc y) : asc (x ++ y) := by
  intro c hc
  have e : (x ++ y).cps = x.cps ++ y.cps := rfl
  rw [e, Array.toList_append, List.mem_append] at hc
  rcases hc with hc | hc
  · exact h c hc
  · exact k c hc
theorem asc.mul {x : Str} (h : asc x) (n : Int) : asc (Txt.mul x n) := by
  have all : ∀ (k : Nat) (acc : Array Nat), (∀ c ∈ acc.toList, c < 128) → ∀ c ∈ ((List.replicate k x.cps).foldl (· ++ ·) acc).toList, c < 128 := by
    intro k
    induction k with
    | zero => intro acc ha; simpa using ha
    | succ k ih =>
      intro acc ha
      rw [List.replicate_succ, List.foldl_cons]
      refine ih _ fun c hc => ?_
      rw [Array.toList_append, List.mem_append] at hc
      rcases hc with hc | hc
      · exact ha c hc
      · exact h c hc
  unfold Txt.mul
  split
  · intro c hc; exact absurd hc (by simp [Str.empty])
  · split
    · exact h
    · exact all _ _ (by simp)
mutual
inductive Rep (K : PySem.W.Frag) (F : Hp) : V → D → Prop
  | non : Rep K F .non .none
  | bl (b : Bool) : Rep K F (.bl b) (.bool b)
  | int (i : Int) : Rep K F (.int i) (.int i)
  | str (x : Str) (h : asc x) : Rep K F (.str x) (.str x)
  | lst {a : Addr} {xs : List V} {ds : List D} : F a = some (.lst xs) → RepA K F xs ds → Rep K F (.ref a) (.list ds)
  | tup {a : Addr} {xs : List V} {ds : List D} : SqT K F a xs → RepA K F xs ds → Rep K F (.ref a) (.tuple ds)
inductive RepA (K : PySem.W.Frag) (F : Hp) : List V → List D → Prop
  | nil : RepA K F [] []
  | cons {v : V} {vs : List V} {d : D} {ds : List D} : Rep K F v d → RepA K F vs ds → RepA K F (v :: vs) (d :: ds)
end
section
variable {K : PySem.W.Frag} {F F' : Hp}
mutual
theorem Rep.mono (h : Le F F') : ∀ (d : D) {v : V}, Rep K F v d → Rep K F' v d
  | .none, _, r => by cases r; exact .non
  | .bool b, _, r => by cases r; exact .bl b
  | .int i, _, r => by cases r; exact .int i
  | .str x, _, r => by cases r; exact .str x ‹_›
  | .list ds, _, r => by
    cases r with
    | lst e q => exact .lst (h _ _ e) (RepA.mono h ds q)
  | .tuple ds, _, r => by
    cases r with
    | tup e q => exact .tup (h.sqT e) (RepA.mono h ds q)
  | .dict _, _, r => by cases r
theorem RepA.mono (h : Le F F') : ∀ (ds : List D) {vs : List V}, RepA K F vs ds → RepA K F' vs ds
  | [], _, r => by cases r; exact .nil
  | d :: ds, _, r => by
    cases r with
    | cons a b => exact .cons (Rep.mono h d a) (RepA.mono h ds b)
end
mutual
theorem Rep.dp : ∀ (d : D) {v : V}, Rep K F v d → Dp K F v d
  | .none, _, r => by cases r; exact .non
  | .bool b, _, r => by cases r; exact .bl b
  | .int i, _, r => by cases r; exact .int i
  | .str x, _, r => by cases r; exact .str x
  | .list ds, _, r => by
    cases r with
    | lst e q => exact .lst (SqL.of e) (RepA.dp ds q)
  | .tuple ds, _, r => by
    cases r with
    | tup e q => exact .tup e (RepA.dp ds q)
  | .dict _, _, r => by cases r
theorem RepA.dp : ∀ (ds : List D) {vs : List V}, RepA K F vs ds → DpAll K F vs ds
  | [], _, r => by cases r; exact .nil
  | d :: ds, _, r => by
    cases r with
    | cons a b => exact .cons (Rep.dp d a) (RepA.dp ds b)
end
mutual
theorem Rep.lay : ∀ (d : D) {v : V}, Rep K F v d → d.canLay0 = true
  | .none, _, r => by simp [PyData.canLay0]
  | .bool b, _, r => by simp [PyData.canLay0]
  | .int i, _, r => by simp [PyData.canLay0]
  | .str x, _, r => by cases r with | str _ h => simp only [PyData.canLay0]; exact h.ok
  | .list ds, _, r => by
    cases r with
    | lst e q => simp only [PyData.canLay0]; exact RepA.lay ds q
  | .tuple ds, _, r => by
    cases r with
    | tup e q => simp only [PyData.canLay0]; exact RepA.lay ds q
  | .dict _, _, r => by cases r
theorem RepA.lay : ∀ (ds : List D) {vs : List V}, RepA K F vs ds → PyData.canLayAll0 ds = true
  | [], _, r => by simp [PyData.canLayAll0]
  | d :: ds, _, r => by
    cases r with
    | cons a b => simp [PyData.canLayAll0, Rep.lay d a, RepA.lay ds b]
end
theorem RepA.length {vs : List V} : ∀ {ds : List D}, RepA K F vs ds → vs.length = ds.length := by
  induction vs with
  | nil => intro ds r; cases r; rfl
  | cons v vs ih =>
    intro ds r
    cases r with
    | cons a b => simp [ih b]
theorem RepA.get {vs : List V} : ∀ {ds : List D} {i : Nat} {d : D}, RepA K F vs ds → ds[i]? = some d → ∃ v, vs[i]? = some v ∧ Rep K F v d := by
  induction vs with
  | nil => intro ds i d r e; cases r; simp at e
  | cons v vs ih =>
    intro ds i d r e
    cases r with
    | cons a b =>
      cases i with
      | zero => simp at e; subst e; exact ⟨v, rfl, a⟩
      | succ i => simpa using ih b (by simpa using e)
theorem RepA.append {vs ws : List V} {ds es : List D} (a : RepA K F vs ds) (b : RepA K F ws es) : RepA K F (vs ++ ws) (ds ++ es) := by
  induction vs generalizing ds with
  | nil => cases a; exact b
  | cons v vs ih =>
    cases a with
    | cons x y => exact .cons x (ih y)
theorem RepA.take {vs : List V} {ds : List D} (a : RepA K F vs ds) (n : Nat) : RepA K F (vs.take n) (ds.take n) := by
  induction n generalizing vs ds with
  | zero => exact .nil
  | succ n ih =>
    cases a with
    | nil => exact .nil
    | cons x y => exact .cons x (ih y)
theorem RepA.drop {vs : List V} {ds : List D} (a : RepA K F vs ds) (n : Nat) : RepA K F (vs.drop n) (ds.drop n) := by
  induction n generalizing vs ds with
  | zero => exact a
  | succ n ih =>
    cases a with
    | nil => exact .nil
    | cons x y => exact ih y
theorem RepA.reverse {vs : List V} {ds : List D} (a : RepA K F vs ds) : RepA K F vs.reverse ds.reverse := by
  induction vs generalizing ds with
  | nil => cases a; exact .nil
  | cons v vs ih =>
    cases a with
    | cons x y => rw [List.reverse_cons, List.reverse_cons]; exact (ih y).append (.cons x .nil)
theorem RepA.rep {vs : List V} {ds : List D} (a : RepA K F vs ds) : ∀ k : Nat, RepA K F (List.replicate k vs).flatten (List.replicate k ds).flatten
  | 0 => .nil
  | k + 1 => by rw [List.replicate_succ, List.replicate_succ, List.flatten_cons, List.flatten_cons]; exact a.append (RepA.rep a k)
theorem RepA.cut {vs : List V} {ds : List D} (a : RepA K F vs ds) (lo hi : Option Int) : RepA K F (cutV vs lo hi) (cutD ds lo hi) := by
  unfold cutV cutD
  rw [a.length]
  exact (a.drop _).take _
end

/-! ### from (F, H) to (F', H'): what was known stays, what is newly known is new -/
def Stp (F H F' H' : Hp) : Prop := Le F F' ∧ Le F' H' ∧ Le H H' ∧ ∀ a o, F' a = some o → F a = some o ∨ H a = none
theorem Stp.refl {F H : Hp} (h : Le F H) : Stp F H F H := ⟨.refl _, h, .refl _, fun _ _ e => .inl e⟩
theorem Stp.trans {F H F1 H1 F2 H2 : Hp} (a : Stp F H F1 H1) (b : Stp F1 H1 F2 H2) : Stp F H F2 H2 :=
  ⟨a.1.trans b.1, b.2.1, a.2.2.1.trans b.2.2.1, fun x o e => by
    rcases b.2.2.2 x o e with h | h
    · exact a.2.2.2 x o h
    · exact .inr (a.2.2.1.non h)⟩
/-- a new object, known at once -/
theorem Stp.new {F H : Hp} (h : Le F H) {p : Addr} {o : HO} (hp : H p = none) : Stp F H (upd F p o) (upd H p o) :=
  ⟨.fresh (h.non hp), h.upd2, .fresh hp, fun a u e => by
    by_cases hb : a = p
    · subst hb; exact .inr hp
    · rw [upd_ne hb] at e; exact .inl e⟩
/-- a new object, not known yet -/
theorem Stp.loose {F H : Hp} (h : Le F H) {p : Addr} {o : HO} (hp : H p = none) : Stp F H F (upd H p o) :=
  ⟨.refl _, h.updR (h.non hp), .fresh hp, fun _ _ e => .inl e⟩
/-- a new list becomes known -/
theorem Stp.know {F H F' H' : Hp} (s : Stp F H F' H') {p : Addr} {o : HO} (hp : H p = none) (ho : H' p = some o) (hf : F' p = none) : Stp F H (upd F' p o) H' :=
  ⟨s.1.trans (.fresh hf), fun a u e => by
    by_cases hb : a = p
    · subst hb; rw [upd_same] at e; cases e; exact ho
    · rw [upd_ne hb] at e; exact s.2.1 a u e, s.2.2.1, fun a u e => by
    by_cases hb : a = p
    · subst hb; exact .inr hp
    · rw [upd_ne hb] at e; exact s.2.2.2 a u e⟩

/-- an answer of a rule by values -/
def ans (K : PySem.W.Frag) (F H : Hp) (r : R D) (Q : VK) : Prop := match r with
  | .ok d => ∀ v F' H', Stp F H F' H' → Rep K F' v d → Q v H'
  | _ => False
/-- a new list -/
def ansL (K : PySem.W.Frag) (F H : Hp) (r : R (List D)) (Q : VK) : Prop := match r with
  | .ok ds => ∀ p vs F' H', Stp F H F' H' → H p = none → F' p = none → H' p = some (.lst vs) → RepA K F' vs ds → Q (.ref p) H'
  | _ => False
def ansB (H : Hp) (r : R Bool) (Q : VK) : Prop := match r with
  | .ok b => Q (.bl b) H
  | _ => False

theorem ans.flat {K : PySem.W.Frag} {F H : Hp} {d : D} {v : V} {Q : VK} (h : ans K F H (.ok d) Q) (l : Le F H) (r : Rep K F v d) : Q v H := h v F H (.refl l) r
theorem ans.tup {K : PySem.W.Frag} {F H : Hp} {ds : List D} {vs : List V} {Q : VK} (h : ans K F H (.ok (.tuple ds)) Q) (l : Le F H) (r : RepA K F vs ds) {p : Addr} (hp : H p = none) : Q (.ref p) (upd H p (.tup vs)) :=
  h _ _ _ (.new l hp) (.tup (SqT.of upd_same) (RepA.mono (.fresh (l.non hp)) _ r))

theorem lim_le {n : Nat} (h : n ≤ lim) : n ≤ sizeLine := Nat.le_trans h (by decide)

/-! ### the operations -/
section
variable {X : Cx}
def rBin (K : PySem.W.Frag) (op : Operator) : R2 := fun x y H Q => ∃ F d e, Le F H ∧ Rep K F x d ∧ Rep K F y e ∧ ans K F H (binD op d e) Q
theorem op_bin (op : Operator) : OpR X (binaryOp op) (rBin X.K op) := by
  intro pins s σ H x y v u Q I rx ry h
  obtain ⟨F, d, e, l, hd, he, q⟩ := h
  unfold binD at q
  split at q
  · cases hd; cases he
    exact op_add pins s σ H _ _ v u Q I rx ry ⟨_, _, rfl, rfl, q.flat l (.int _)⟩
  · split at q
    · rename_i hz
      cases hd; cases he
      exact op_add_str pins s σ H _ _ v u Q I rx ry ⟨_, _, rfl, rfl, lim_le hz, q.flat l (.str _ (asc.append ‹_› ‹_›))⟩
    · exact q.elim
  · split at q
    · rename_i hz
      cases hd with
      | tup e1 a1 =>
        cases he with
        | tup e2 a2 =>
          have k1 := a1.length
          have k2 := a2.length
          refine op_catA pins s σ H _ _ v u Q I rx ry ⟨_, _, _, _, rfl, rfl, l.sqT e1, l.sqT e2, lim_le (by omega), fun z => ?_, fun z1 z2 => ?_, fun z1 z2 p hp => ?_⟩
          · subst z; cases a1; exact q.flat l (.tup e2 a2)
          · subst z2; cases a2; exact q.flat l (.tup e1 (by rw [List.append_nil]; exact a1))
          · exact q.tup l (a1.append a2) hp
    · exact q.elim
  · cases hd; cases he
    exact op_sub pins s σ H _ _ v u Q I rx ry ⟨_, _, rfl, rfl, q.flat l (.int _)⟩
  · split at q
    · rename_i hz
      cases hd; cases he
      exact op_mul pins s σ H _ _ v u Q I rx ry ⟨_, _, rfl, rfl, hz, q.flat l (.int _)⟩
    · exact q.elim
  · split at q
    · rename_i z j hz
      cases hd; cases he
      obtain ⟨t, rfl⟩ := rx
      obtain ⟨t', rfl⟩ := ry
      refine SB.mul ⟨by simp; omega, fun h1 _ => ?_, fun h1 _ => ?_⟩ fun t'' k => ⟨.str _, H, I.tok _, ⟨_, rfl⟩, q.flat l (.str _ (asc.mul ‹_› _))⟩
      · intro h2
        have e1 : (1000 : Int) ≤ (2 ^ 63 - 1) / j := by
          rw [Int.le_ediv_iff_mul_le (by omega)]; omega
        have : (z.length : Int) ≤ 1000 := by omega
        omega
      · have e2 : z.length * j.toNat ≤ 1000 * 1000 := Nat.mul_le_mul hz.2.2 (by omega)
        unfold Builtin.Str.tooLong
        simp [sizeLine_eq]; omega
    · exact q.elim
  · split at q
    · rename_i hz
      cases he
      cases hd with
      | tup e1 a1 =>
        have k1 := a1.length
        refine op_repT pins s σ H _ _ v u Q I rx ry ⟨_, _, _, rfl, rfl, l.sqT e1, ?_, hz.2.1, hz.2.2.1, by omega, fun p hp => q.tup l (a1.rep _) hp⟩
        intro z; subst z; cases a1; exact absurd hz.1 (by simp)
    · exact q.elim
  · split at q
    · rename_i hz
      cases hd; cases he
      exact op_mod pins s σ H _ _ v u Q I rx ry ⟨_, _, rfl, rfl, hz, q.flat l (.int _)⟩
    · exact q.elim
  · exact q.elim
end
end Tf
/-! Tf2b: comparisons, subscripts, built-ins. -/
namespace Tf
open PySem L2
section
variable {X : Cx} {pins : List (Addr × Obj)} {σ : L2.St} {H : Hp} {s : Shared}
theorem Rep.reads {K : PySem.W.Frag} {F : Hp} {d : D} {x : V} {v : Value} (I : Inv X pins σ H s) (e : X.K = K) (l : Le F H) (r : Rep K F x d) (rx : RelV x v) : ∃ as, Reads s.heap v d as := by
  subst e
  exact Dp.reads I d x v (Rep.dp d (Rep.mono l d r)) rx
theorem depthAll_lay (ds : List D) : True := trivial

def rCmp (K : PySem.W.Frag) (op : CmpOp) : R2 := fun x y H Q => ∃ F d e, Le F H ∧ Rep K F x d ∧ Rep K F y e ∧ ansB H (cmpD op d e) Q
theorem op_cmp (hu : X.A.units + 200 < cLine) (op : CmpOp) : OpR X (compareOp op) (rCmp X.K op) := by
  intro pins s σ H x y v u Q I rx ry h
  obtain ⟨F, d, e, l, hd, he, q⟩ := h
  unfold cmpD at q
  have isn : ∀ b, decide (x = V.non) = b → op = .Is → y = .non → Q (.bl b) H → wpAny (model X.prog X.w) X.A (compareOp op v u) (EP X pins σ Q) X.xe s := fun b e1 e2 e3 q' => by
    clear q
    subst e2
    refine op_isN pins s σ H _ _ v u Q I rx ry ⟨e3, ?_⟩
    rw [e1]; exact q'
  have isn' : ∀ b, (!decide (x = V.non)) = b → op = .IsNot → y = .non → Q (.bl b) H → wpAny (model X.prog X.w) X.A (compareOp op v u) (EP X pins σ Q) X.xe s := fun b e1 e2 e3 q' => by
    clear q
    subst e2
    refine op_notN pins s σ H _ _ v u Q I rx ry ⟨e3, ?_⟩
    rw [e1]; exact q'
  split at q
  · split at q
    · rename_i hz
      obtain ⟨as, r1⟩ := hd.reads I rfl l rx
      obtain ⟨bs, r2⟩ := he.reads I rfl l ry
      have hz' := of_decide_eq_true hz
      exact SeqAt.compareEq_reads r1 r2 (Rep.lay _ hd) (Rep.lay _ he) (by omega) ⟨.bl _, H, I, rfl, q⟩
    · exact q.elim
  · split at q
    · rename_i hz
      obtain ⟨as, r1⟩ := hd.reads I rfl l rx
      obtain ⟨bs, r2⟩ := he.reads I rfl l ry
      have hz' := of_decide_eq_true hz
      exact SeqAt.compareNe_reads r1 r2 (Rep.lay _ hd) (Rep.lay _ he) (by omega) ⟨.bl _, H, I, rfl, q⟩
    · exact q.elim
  · cases hd; cases he; exact op_lt pins s σ H _ _ v u Q I rx ry ⟨_, _, rfl, rfl, q⟩
  · cases hd; cases he; exact op_le pins s σ H _ _ v u Q I rx ry ⟨_, _, rfl, rfl, q⟩
  · cases hd; cases he; exact op_gt pins s σ H _ _ v u Q I rx ry ⟨_, _, rfl, rfl, q⟩
  · cases hd; cases he; exact op_ge pins s σ H _ _ v u Q I rx ry ⟨_, _, rfl, rfl, q⟩
  · cases hd; cases he; exact isn true (by simp) rfl rfl q
  · cases hd; cases he; exact isn false (by simp) rfl rfl q
  · cases hd; cases he; exact isn false (by simp) rfl rfl q
  · cases hd; cases he; exact isn false (by simp) rfl rfl q
  · cases hd; cases he; exact isn false (by simp) rfl rfl q
  · cases hd; cases he; exact isn false (by simp) rfl rfl q
  · cases hd; cases he; exact op_is_bl pins s σ H _ _ v u Q I rx ry ⟨_, _, rfl, rfl, q⟩
  · cases hd; cases he; exact isn' false (by simp) rfl rfl q
  · cases hd; cases he; exact isn' true (by simp) rfl rfl q
  · cases hd; cases he; exact isn' true (by simp) rfl rfl q
  · cases hd; cases he; exact isn' true (by simp) rfl rfl q
  · cases hd; cases he; exact isn' true (by simp) rfl rfl q
  · cases hd; cases he; exact isn' true (by simp) rfl rfl q
  · cases hd; cases he; exact op_isnot_bl pins s σ H _ _ v u Q I rx ry ⟨_, _, rfl, rfl, q⟩
  · split at q
    · rename_i hz
      obtain ⟨as, r1⟩ := hd.reads I rfl l rx
      obtain ⟨bs, r2⟩ := he.reads I rfl l ry
      exact SeqAt.in_tuple_reads r2 r1 (Rep.lay _ he) (Rep.lay _ hd) (by omega) ⟨.bl _, H, I, rfl, q⟩
    · exact q.elim
  · split at q
    · rename_i hz
      obtain ⟨as, r1⟩ := hd.reads I rfl l rx
      obtain ⟨bs, r2⟩ := he.reads I rfl l ry
      exact SeqAt.in_list_reads r2 r1 (Rep.lay _ he) (Rep.lay _ hd) (by omega) ⟨.bl _, H, I, rfl, q⟩
    · exact q.elim
  · cases hd; cases he; exact op_in_str pins s σ H _ _ v u Q I rx ry ⟨_, _, rfl, rfl, q⟩
  · split at q
    · rename_i hz
      obtain ⟨as, r1⟩ := hd.reads I rfl l rx
      obtain ⟨bs, r2⟩ := he.reads I rfl l ry
      exact SeqAt.notIn_tuple_reads r2 r1 (Rep.lay _ he) (Rep.lay _ hd) (by omega) ⟨.bl _, H, I, rfl, q⟩
    · exact q.elim
  · split at q
    · rename_i hz
      obtain ⟨as, r1⟩ := hd.reads I rfl l rx
      obtain ⟨bs, r2⟩ := he.reads I rfl l ry
      exact SeqAt.notIn_list_reads r2 r1 (Rep.lay _ he) (Rep.lay _ hd) (by omega) ⟨.bl _, H, I, rfl, q⟩
    · exact q.elim
  · cases hd; cases he; exact op_notIn_str pins s σ H _ _ v u Q I rx ry ⟨_, _, rfl, rfl, q⟩
  · exact q.elim

/-- truth -/
theorem tru_of {K : PySem.W.Frag} {F : Hp} {d : D} {x : V} {b : Bool} (l : Le F H) (r : Rep K F x d) (e : truth d = .ok b) : TruV K x H b := by
  cases r with
  | non => cases e; rfl
  | bl b => cases e; rfl
  | int i => cases e; rfl
  | str x h => cases e
  | lst h a =>
    cases e
    refine .inl ⟨_, SqL.of (l _ _ h), ?_⟩
    cases a <;> rfl
  | tup h a =>
    cases e
    refine .inr (.inl ⟨_, l.sqT h, ?_⟩)
    cases a <;> rfl

/-- x[i] -/
theorem RepA.atI {K : PySem.W.Frag} {F : Hp} {vs : List V} {ds : List D} {i : Int} {d : D} (r : RepA K F vs ds) (e : L2.atI ds i = some d) : ∃ v, L2.atI vs i = some v ∧ Rep K F v d := by
  unfold L2.atI at e ⊢
  rw [r.length]
  cases h : ixN ds.length i with
  | none => rw [h] at e; cases e
  | some j =>
    rw [h] at e
    exact r.get e
theorem asc.at {x : Str} (h : asc x) {i : Int} {c : Nat} (e : L2.atI x.cps.toList i = some c) : asc ⟨#[c]⟩ := by
  obtain ⟨j, _, e2, _⟩ := atI_get e
  intro y hy
  have : y = c := by simpa using hy
  subst this
  exact h _ (List.mem_of_getElem? e2)
def rIdx (K : PySem.W.Frag) : R2 := fun x y H Q => ∃ F d e, Le F H ∧ Rep K F x d ∧ Rep K F y e ∧ ans K F H (idxD d e) Q
theorem ix_any : IxR X (rIdx X.K) := by
  intro value slice pins s σ H x y v u Q I rx ry h hs
  obtain ⟨F, d, e, l, hd, he, q⟩ := h
  unfold idxD at q
  split at q
  · split at q
    · rename_i hz
      cases he
      cases hd with
      | tup h1 a1 =>
        obtain ⟨w, e1, r1⟩ := a1.atI hz
        refine ix_tup value slice pins s σ H _ _ v u Q I rx ry ⟨_, _, _, _, rfl, rfl, l.sqT h1, e1, q.flat l r1⟩ hs
    · exact q.elim
  · split at q
    · rename_i hz
      cases he
      cases hd with
      | lst h1 a1 =>
        obtain ⟨w, e1, r1⟩ := a1.atI hz
        refine ix_list value slice pins s σ H _ _ v u Q I rx ry ⟨_, _, _, _, rfl, rfl, SqL.of (l _ _ h1), e1, q.flat l r1⟩ hs
    · exact q.elim
  · split at q
    · split at q
      · rename_i hl _ _ hz
        cases he
        cases hd with
        | str _ ha => refine ix_str value slice pins s σ H _ _ v u Q I rx ry ⟨_, _, _, rfl, rfl, lim_le hl, hz, q.flat l (.str _ (ha.at hz))⟩ hs
      · exact q.elim
    · exact q.elim
  · exact q.elim

/-- x[lo:hi] -/
def rSlc (K : PySem.W.Frag) : V → Option Int → Option Int → Hp → VK → Prop := fun x lo hi H Q => ∃ F d, Le F H ∧ Rep K F x d ∧ ans K F H (slcD lo hi d) Q
theorem cut_whole {A : Type} (xs : List A) (lo hi : Option Int) (h : HT.sIx xs.length 0 lo = 0 ∧ HT.sIx xs.length xs.length hi = xs.length) : cutD xs lo hi = xs := by
  unfold cutD
  rw [h.1, h.2]
  simp
theorem asc.cut {x : Str} (h : asc x) (lo hi : Option Int) : asc ⟨(cutD x.cps.toList lo hi).toArray⟩ := by
  intro c hc
  have hc' : c ∈ cutD x.cps.toList lo hi := by simpa using hc
  unfold cutD at hc'
  exact h c (List.mem_of_mem_drop (List.mem_of_mem_take hc'))
theorem sl_any : SlR X (rSlc X.K) := by
  intro pins s σ H x v vl vu lo hi sl Q I rx hs pl pu h
  obtain ⟨F, d, l, hd, q⟩ := h
  unfold slcD at q
  split at q
  · cases hd with
    | tup h1 a1 =>
      refine sl_tupA pins s σ H _ v vl vu lo hi sl Q I rx hs pl pu ⟨_, _, rfl, l.sqT h1, fun hw => ?_, fun hw p hp => q.tup l (a1.cut lo hi) hp⟩
      rw [a1.length] at hw
      rw [cut_whole _ _ _ hw] at q
      exact q.flat l (.tup h1 a1)
  · split at q
    · rename_i hl
      cases hd with
      | str _ ha =>
        refine sl_str pins s σ H _ v vl vu lo hi sl Q I rx hs pl pu ⟨_, rfl, lim_le hl, ?_⟩
        exact q.flat l (.str _ (ha.cut lo hi))
    · exact q.elim
  · exact q.elim

/-! ### built-ins of one argument -/
theorem bools_of {K : PySem.W.Frag} {F : Hp} {vs : List V} : ∀ {ds : List D} {bs : List Bool}, RepA K F vs ds → boolsOf ds = some bs → vs = bs.map V.bl := by
  induction vs with
  | nil => intro ds bs r e; cases r; cases e; rfl
  | cons v vs ih =>
    intro ds bs r e
    cases r with
    | cons a b =>
      cases a <;> simp only [boolsOf, Option.map_eq_some_iff, reduceCtorEq] at e
      obtain ⟨bs', e1, rfl⟩ := e
      rw [ih b e1]; rfl
theorem ints_of {K : PySem.W.Frag} {F : Hp} {vs : List V} : ∀ {ds : List D} {bs : List Int}, RepA K F vs ds → intsOf ds = some bs → vs = bs.map V.int := by
  induction vs with
  | nil => intro ds bs r e; cases r; cases e; rfl
  | cons v vs ih =>
    intro ds bs r e
    cases r with
    | cons a b =>
      cases a <;> simp only [intsOf, Option.map_eq_some_iff, reduceCtorEq] at e
      obtain ⟨bs', e1, rfl⟩ := e
      rw [ih b e1]; rfl
def biName : Bi → Str
  | .len => "len"
  | .all => "all"
  | .any => "any"
  | .sum => "sum"
  | .tuple => "tuple"
  | .int => "int"
def biVal : Bi → Value
  | .len => .builtin "len"
  | .all => .builtin "all"
  | .any => .builtin "any"
  | .sum => .builtin "sum"
  | .tuple => .type "tuple"
  | .int => .type "int"
def rBi (K : PySem.W.Frag) (b : Bi) : List V → Hp → VK → Prop := fun xs H Q => ∃ x F d, xs = [x] ∧ Le F H ∧ Rep K F x d ∧ ans K F H (biD b d) Q
theorem call_bi (hc : X.calm = true) (b : Bi) : CallR X (biVal b) (rBi X.K b) := by
  intro pins s σ H xs us Q I r h
  obtain ⟨x, F, d, rfl, l, hd, q⟩ := h
  unfold biD at q
  split at q
  · cases hd with
    | tup h1 a1 =>
      refine call_len pins s σ H _ us Q I r ⟨_, _, rfl, .inr ⟨_, l.sqT h1, rfl⟩, ?_⟩
      rw [a1.length]; exact q.flat l (.int _)
  · cases hd with
    | lst h1 a1 =>
      refine call_len pins s σ H _ us Q I r ⟨_, _, rfl, .inl ⟨_, SqL.of (l _ _ h1), rfl⟩, ?_⟩
      rw [a1.length]; exact q.flat l (.int _)
  · split at q
    · rename_i hz
      cases hd with
      | str _ ha => exact call_len pins s σ H _ us Q I r ⟨_, _, rfl, ⟨lim_le hz, rfl⟩, q.flat l (.int _)⟩
    · exact q.elim
  · split at q
    · rename_i hz
      cases hd with
      | lst h1 a1 =>
        have e := bools_of a1 hz
        subst e
        exact cr_all hc pins s σ H _ us Q I r ⟨_, _, rfl, SqL.of (l _ _ h1), q.flat l (.bl _)⟩
    · exact q.elim
  · split at q
    · rename_i hz
      cases hd with
      | lst h1 a1 =>
        have e := bools_of a1 hz
        subst e
        exact cr_any hc pins s σ H _ us Q I r ⟨_, _, rfl, SqL.of (l _ _ h1), q.flat l (.bl _)⟩
    · exact q.elim
  · split at q
    · rename_i hz
      cases hd with
      | lst h1 a1 =>
        have e := ints_of a1 hz
        subst e
        exact cr_sum hc pins s σ H _ us Q I r ⟨_, _, rfl, SqL.of (l _ _ h1), q.flat l (.int _)⟩
    · exact q.elim
  · cases hd with
    | lst h1 a1 => exact call_tuple_of pins s σ H _ us Q I r ⟨_, _, rfl, .inl ⟨SqL.of (l _ _ h1), fun p hp => q.tup l a1 hp⟩⟩
  · cases hd with
    | tup h1 a1 => exact call_tuple_of pins s σ H _ us Q I r ⟨_, _, rfl, .inr ⟨l.sqT h1, q.flat l (.tup h1 a1)⟩⟩
  · cases hd with
    | bl b => exact call_int1 pins s σ H _ us Q I r (.inr ⟨_, rfl, q.flat l (.int _)⟩)
  · cases hd with
    | int b => exact call_int1 pins s σ H _ us Q I r (.inl ⟨_, rfl, q.flat l (.int _)⟩)
  · exact q.elim
def rMin2 (K : PySem.W.Frag) : List V → Hp → VK → Prop := fun xs H Q => ∃ x y F d e, xs = [x, y] ∧ Le F H ∧ Rep K F x d ∧ Rep K F y e ∧ ans K F H (min2D d e) Q
theorem call_mn (hc : X.calm = true) : CallR X (.builtin "min") (rMin2 X.K) := by
  intro pins s σ H xs us Q I r h
  obtain ⟨x, y, F, d, e, rfl, l, hd, he, q⟩ := h
  unfold min2D at q
  split at q
  · cases hd; cases he
    exact call_min2 hc pins s σ H _ us Q I r ⟨_, _, rfl, q.flat l (.int _)⟩
  · exact q.elim
/-- list(x) -/
def rOfs (K : PySem.W.Frag) : List V → Hp → VK → Prop := fun xs H Q => ∃ x F d, xs = [x] ∧ Le F H ∧ Rep K F x d ∧ ansL K F H (seqOf d) Q
theorem call_ofs : CallR X (.type "list") (rOfs X.K) := by
  intro pins s σ H xs us Q I r h
  obtain ⟨x, F, d, rfl, l, hd, q⟩ := h
  unfold seqOf at q
  split at q
  · cases hd with
    | lst h1 a1 => exact call_list_of pins s σ H _ us Q I r ⟨_, _, rfl, .inl (SqL.of (l _ _ h1)), fun p hp => q p _ F _ (.loose l hp) hp (l.non hp) upd_same a1⟩
  · cases hd with
    | tup h1 a1 => exact call_list_of pins s σ H _ us Q I r ⟨_, _, rfl, .inr (l.sqT h1), fun p hp => q p _ F _ (.loose l hp) hp (l.non hp) upd_same a1⟩
  · exact q.elim
/-- xs + ys, lists -/
def rCatL (K : PySem.W.Frag) : R2 := fun x y H Q => ∃ F d e, Le F H ∧ Rep K F x d ∧ Rep K F y e ∧ ansL K F H ((listOf d).bind fun xs => (listOf e).bind fun ys => catD xs ys) Q
theorem op_catL : OpR X (binaryOp .Add) (rCatL X.K) := by
  intro pins s σ H x y v u Q I rx ry h
  obtain ⟨F, d, e, l, hd, he, q⟩ := h
  cases hd with
  | lst h1 a1 =>
    cases he with
    | lst h2 a2 =>
      simp only [listOf, R.bind_ok, catD] at q
      split at q
      · rename_i hz
        have k1 := a1.length
        have k2 := a2.length
        exact op_cat pins s σ H _ _ v u Q I rx ry ⟨_, _, _, _, rfl, rfl, l _ _ h1, l _ _ h2, lim_le (by omega), fun p hp => q p _ F _ (.loose l hp) hp (l.non hp) upd_same (a1.append a2)⟩
      · exact q.elim
    | _ => exact q.elim
  | _ => exact q.elim
/-- xs * k, a list -/
def rRepL (K : PySem.W.Frag) : R2 := fun x y H Q => ∃ F d e, Le F H ∧ Rep K F x d ∧ Rep K F y e ∧ ansL K F H ((listOf d).bind fun xs => repD xs e) Q
theorem op_repL : OpR X (binaryOp .Mult) (rRepL X.K) := by
  intro pins s σ H x y v u Q I rx ry h
  obtain ⟨F, d, e, l, hd, he, q⟩ := h
  cases hd with
  | lst h1 a1 =>
    cases he with
    | int k =>
      simp only [listOf, R.bind_ok, repD] at q
      split at q
      · rename_i hz
        have k1 := a1.length
        refine op_rep pins s σ H _ _ v u Q I rx ry ⟨_, _, _, rfl, rfl, l _ _ h1, by omega, by omega, ?_, fun p hp => q p _ F _ (.loose l hp) hp (l.non hp) upd_same (a1.rep _)⟩
        rw [k1, sizeLine_eq]
        have e2 : (_ : List D).length * k.toNat ≤ 1000 * 1000 := Nat.mul_le_mul hz.2.2 (by omega)
        omega
      · exact q.elim
    | _ => exact q.elim
  | _ => exact q.elim

/-! ### isinstance -/
def tyName : Ty → String
  | .int => "int"
  | .str => "str"
  | .bool => "bool"
  | .tuple => "tuple"
  | .list => "list"
/-- the built-in class of a datum -/
def clsOf : D → String
  | .none => "NoneType"
  | .bool _ => "bool"
  | .int _ => "int"
  | .str _ => "str"
  | .list _ => "list"
  | .tuple _ => "tuple"
  | .dict _ => "dict"
theorem tyX_of {K : PySem.W.Frag} {F : Hp} {d : D} {x : V} (l : Le F H) (r : Rep K F x d) : TyX K H x (.type (clsOf d)) := by
  cases r with
  | non => exact .base .non
  | bl b => exact .base (.bl b)
  | int i => exact .base (.int i)
  | str x h => exact .base (.str x)
  | lst h a => exact .base (.lst (l _ _ h))
  | tup h a =>
    rcases l.sqT h with (h | ⟨o, h⟩) | ⟨o, its, n, h, c, _⟩
    · exact .base (.tup h)
    · exact .fTuple h
    · exact .kTuple h c
theorem kit_isTy (t : Ty) {K : PySem.W.Frag} {F : Hp} {d : D} {x : V} (r : Rep K F x d) : PySem.W.kitOne K (.type (clsOf d)) (.type (tyName t)) = some (isTy t d) := by
  cases r <;> cases t <;> exact kit_ty (by simp only [clsOf, tyName, isTy]; decide +kernel)
def rIsT (K : PySem.W.Frag) (t : Ty) : List V → Hp → VK → Prop := fun xs H Q => ∃ x F d, xs = [x, .ty (tyName t)] ∧ Le F H ∧ Rep K F x d ∧ Q (.bl (isTy t d)) H
theorem call_isT (t : Ty) : CallR X (.builtin "isinstance") (rIsT X.K t) := by
  intro pins s σ H xs us Q I r h
  obtain ⟨x, F, d, rfl, l, hd, q⟩ := h
  exact call_isi pins s σ H _ us Q I r ⟨_, _, _, _, _, rfl, .ty _, tyX_of l hd, kit_isTy t hd, q⟩
def rIsT2 (K : PySem.W.Frag) (t u : Ty) : List V → Hp → VK → Prop := fun xs H Q => ∃ x p F d, xs = [x, .ref p] ∧ H p = some (.tup [.ty (tyName t), .ty (tyName u)]) ∧ Le F H ∧ Rep K F x d ∧ Q (.bl (isTy t d || isTy u d)) H
theorem call_isT2 (t t' : Ty) : CallR X (.builtin "isinstance") (rIsT2 X.K t t') := by
  intro pins s σ H xs us Q I r h
  obtain ⟨x, p, F, d, rfl, hp, l, hd, q⟩ := h
  refine call_isiT pins s σ H _ us Q I r ⟨_, _, _, _, _, _, rfl, hp, .cons (.ty _) (.cons (.ty _) .nil), tyX_of l hd, ?_, q⟩
  refine kitAny_cons (kit_isTy t hd) (fun e => kitAny_cons (kit_isTy t' hd) (fun e2 => by rw [e, e2]; exact kitAny_nil) (fun e2 => by rw [e2]; simp)) (fun e => by rw [e]; simp)
end
end Tf
/-! Tf2c: enumerate and zip of tuples; a for over whatever the data is. -/
namespace Tf
open PySem
theorem meets_enum1 {v : Value} {o : Obj} {H : Heap → Prop} (B : Begins v o H) :
    Meets (Builtin.«enumerate.__new__» ⟨[.type "enumerate", v], []⟩) (fun _ R s => H s.heap ∧
      R (.ok (.ret (.ref (s.heap.push o).objs.size))) { s with heap := (s.heap.push o).push { cls := .type "enumerate", data := .fields #[.none, .bool false, .ref s.heap.objs.size, rawInt 0, .none, .none] } }) :=
  .of_wp fun prog w A R s h => by
    obtain ⟨hp, g, d, tk, os⟩ := s; obtain ⟨h1, h⟩ := h
    have hsub := sub_enumerate
    have q1 : ∀ {A' : Around} {E : Value → Shared → Prop} {Q : Value → Shared → Prop}, Q (.ref hp.objs.size) ⟨hp.push o, g, d, tk, os⟩ → wpAny (model prog w) A' (pyIter v) Q E ⟨hp, g, d, tk, os⟩ :=
      fun q => B.iter prog w _ _ ⟨hp, g, d, tk, os⟩ _ h1 q
    wp_walk using q1
    refine wpAny_stack_any fun st => wpAny_pure ?_
    split
    · rename_i c _ _ _ _ _
      cases (c == Value.type "enumerate")
      · wp_walk using q1
        exact ⟨_, rfl, h⟩
      · wp_walk using q1
        exact ⟨_, rfl, h⟩
    · wp_walk using q1
      exact ⟨_, rfl, h⟩
section
variable {prog : Program} {w : World} {A : Around} {E : Value → Shared → Prop} {s : Shared}
theorem enum1_begins {v : Value} {o : Obj} {H : Heap → Prop} {Q : Value → Shared → Prop} (B : Begins v o H) (h1 : H s.heap)
    (h : ∀ h', IsEnum h' (s.heap.objs.size + 1) s.heap.objs.size 0 .none → h'.get? s.heap.objs.size = some o → h'.objs.size = s.heap.objs.size + 2 →
      (∀ b o, s.heap.get? b = some o → h'.get? b = some o) → Q (.ref (s.heap.objs.size + 1)) { s with heap := h' }) :
    wpAny (model prog w) A (call (.type "enumerate") [v]) Q E s := by
  refine callType_new F.called_enumerate (by decide) (F.typeCall_enumerate_1 _) (F.newCall_enumerate_1 _) (fun obj => F.args_object_init_2 obj _) F.entry_enumerate_new
    (meets_enum1 B) ⟨h1, ?_⟩
  have hz : (s.heap.push o).objs.size = s.heap.objs.size + 1 := Heap.size_push ..
  show _ ∧ _
  rw [hz]
  have he : IsEnum ((s.heap.push o).push { cls := .type "enumerate", data := .fields #[.none, .bool false, .ref s.heap.objs.size, rawInt 0, .none, .none] }) (s.heap.objs.size + 1) s.heap.objs.size 0 .none := by
    have := Heap.get?_push_size (s.heap.push o) (o := { cls := .type "enumerate", data := .fields #[.none, .bool false, .ref s.heap.objs.size, rawInt 0, .none, .none] }) rfl
    rw [hz] at this; exact this
  refine ⟨⟨_, he, rfl⟩, h _ he (Heap.get?_push_of_some _ (Heap.get?_push_size _ B.free)) (by rw [Heap.size_push, hz]) fun b o x => Heap.get?_push_of_some _ (Heap.get?_push_of_some _ x)⟩
end
end Tf

namespace Tf
open PySem L2
/-! ### enumerate(tuple) -/
def IteT (K : PySem.W.Frag) (a : Addr) : L2.It :=
  ⟨fun i H => ∃ (xs : List V) (x : V), SqT K H a xs ∧ xs[i]? = some x, fun i H v H' => ∃ T x, v = .ref T ∧ H T = none ∧ H' = upd H T (.tup [.int (i : Nat), x]) ∧ ∀ xs, SqT K H a xs → xs[i]? = some x, fun i H => ∃ xs : List V, SqT K H a xs ∧ xs.length = i⟩
theorem turn_enumT {P : Program} {w : World} {K : PySem.W.Frag} {elts : List Expr} {kk : Nat} {tpos : Pos} (a e it : Addr) (hae : e ≠ a) (hai : a ≠ it) :
    Turn P w K (.Tuple elts kk tpos) (IteT K a) [e, it] e (fun i h => (∃ old, IsEnum h e it ((i : Nat) : Int) old) ∧ h.IsTupleIter it a i ∧ e ≠ it) where
  mem := by simp
  obj := fun i h st b hb => by
    obtain ⟨⟨old, he⟩, ⟨o, ho, hc, hd⟩, _⟩ := st
    have e' : b = e ∨ b = it := by simpa using hb
    rcases e' with z | z
    · rw [z]; exact ⟨_, he, fun v q => nomatch q⟩
    · rw [z]; exact ⟨o, ho, fun v q => by rw [hd] at q; cases q⟩
  keep := fun i h h' st k => let ⟨⟨old, he⟩, hi, hne⟩ := st; ⟨⟨old, k e (by simp) _ he⟩, hi.at fun o q => k it (by simp) o q, hne⟩
  item := by
    intro X hP hw hK hc i pins s σ H E I hf st hg
    subst hP hw hK
    obtain ⟨⟨old, he⟩, hit, hne⟩ := st
    obtain ⟨xs, x, hq, hx⟩ := hg
    obtain ⟨its, rv, p, hz⟩ := I.tuple hq
    obtain ⟨u, hu, ru⟩ := rv.get hx
    have hel : e < s.heap.objs.size := Heap.lt_size he
    have hil : it < s.heap.objs.size := by obtain ⟨_, q, _⟩ := hit; exact Heap.lt_size q
    have hef : e ∉ [it, a] := by simp [hne, hae]
    refine wpAny_pyNext_enum_itemD (Draws.tuple (A := X.A.in1) (I.ok.hd hc) it a hai its.toArray) he ⟨hit, (show s.heap.IsTuple a its.toArray from p)⟩ (by simpa using (List.getElem?_eq_some_iff.mp hu).1) hne hef fun u' h' tk hPu ho hit' hT hsz hk => ?_
    have eu : u' = u := by
      have z : its.toArray[i]? = some u := by simpa using hu
      rw [z] at hPu
      exact (Option.some.inj hPu).symm
    subst eu
    refine ⟨_, rfl, wpAny_letOwnedTupleGo_enum (s := { s with heap := h', toks := tk + 1 }) ho fun h'' he' sb => ?_⟩
    have hT2 : h''.get? s.heap.objs.size = some { cls := .type "tuple", data := .seq #[.int i tk, u'] } := (sb.2 _ (Nat.ne_of_gt hel)).trans hT
    have new : ObjOk X.prog X.w (upd H s.heap.objs.size (.tup [.int (i : Nat), x])) h'' s.heap.objs.size (.tup [.int (i : Nat), x]) :=
      ⟨by show 2 ≤ sizeLine; decide, [.int i tk, u'], .cons ⟨_, rfl⟩ (.cons ru .nil), ⟨_, hT2, rfl, _, rfl⟩⟩
    have I1 : Inv X pins σ (upd H s.heap.objs.size (.tup [.int (i : Nat), x])) { s with heap := h'', toks := tk + 1 } :=
      I.turnedNew (ch := [e, it]) (fun b ob hb q => (sb.2 b (fun z => hb (by simp [z]))).trans (hk b ob (fun z => hb (by simp [z])) (fun z => hb (by simp [z])) q)) hf (Nat.le_refl _) new
    refine ⟨.ref s.heap.objs.size, _, I1, rfl, ⟨_, x, rfl, I.hok.fresh (Nat.le_refl _), rfl, fun ys hy => by rw [I.tuple_inj hy hq]; exact hx⟩, ⟨⟨u', ?_⟩, hit'.1.at fun o q => (sb.2 it (Ne.symm hne)).trans q, hne⟩, fun b hb => ?_⟩
    · have e1 : ((i + 1 : Nat) : Int) = (i : Int) + 1 := by omega
      rw [e1]; exact he'
    · have hb' : b < s.heap.objs.size := by
        have e' : b = e ∨ b = it := by simpa using hb
        rcases e' with z | z
        · rw [z]; exact hel
        · rw [z]; exact hil
      rw [upd_ne (Nat.ne_of_lt hb')]
      exact (hf b hb).1
  done := by
    intro X hP hw hK hc i pins s σ H E I hf st hg
    subst hP hw hK
    obtain ⟨⟨old, he⟩, hit, hne⟩ := st
    obtain ⟨xs, hq, hx⟩ := hg
    obtain ⟨its, rv, p, hz⟩ := I.tuple hq
    obtain ⟨f0, f1, f2, f3, f4, f5⟩ := hf it (by simp)
    have hl := rv.length
    have hn : its.toArray.size = i := by simp; omega
    refine wpAny_pyNext_enum_endD (Draws.tuple (A := X.A.in1) (I.ok.hd hc) it a hai its.toArray) he ?_ fun h' eb => ⟨rfl, I.turned (t' := s.toks) (fun b o hb q => eb b o hb q) f0 f1 f3 f4 f5⟩
    rw [hn]
    exact ⟨hit, p⟩
  self := fun A i s Q E st h => let ⟨⟨_, he⟩, _⟩ := st; wpAny_pyIter_enum he h

/-! ### zip(tuple, tuple) -/
def ItzT (K : PySem.W.Frag) (a b : Addr) : L2.It :=
  ⟨fun i H => ∃ (xs ys : List V) (x y : V), SqT K H a xs ∧ SqT K H b ys ∧ xs[i]? = some x ∧ ys[i]? = some y,
    fun i H v H' => ∃ T x y, v = .ref T ∧ H T = none ∧ H' = upd H T (.tup [x, y]) ∧ (∀ xs, SqT K H a xs → xs[i]? = some x) ∧ ∀ ys, SqT K H b ys → ys[i]? = some y,
    fun i H => ∃ xs ys : List V, SqT K H a xs ∧ SqT K H b ys ∧ i ≤ xs.length ∧ i ≤ ys.length ∧ (i = xs.length ∨ i = ys.length)⟩
theorem turn_zipT {P : Program} {w : World} {K : PySem.W.Frag} {elts : List Expr} {kk : Nat} {tpos : Pos} {a b z TI TO i1 i2 : Addr} (D : ZipSep2 z TI TO i1 i2 [i1, a] [i2, b]) (h1a : a ≠ i1) (h2b : b ≠ i2) :
    Turn P w K (.Tuple elts kk tpos) (ItzT K a b) [z, TI, TO, i1, i2] z (fun i h => IsZip h z TI TO .none ∧ IsTupOf2 h TI (.ref i1) (.ref i2) ∧ (∃ x y, IsTupOf2 h TO x y) ∧ h.IsTupleIter i1 a i ∧ h.IsTupleIter i2 b i) where
  mem := by simp
  obj := fun i h st c hc => by
    obtain ⟨hz, hTI, ⟨x, y, hTO⟩, ⟨o1, e1, _, d1⟩, ⟨o2, e2, _, d2⟩⟩ := st
    have e' : c = z ∨ c = TI ∨ c = TO ∨ c = i1 ∨ c = i2 := by simpa using hc
    rcases e' with q | q | q | q | q
    · rw [q]; exact ⟨_, hz, fun v q => nomatch q⟩
    · rw [q]; exact ⟨_, hTI, fun v q => nomatch q⟩
    · rw [q]; exact ⟨_, hTO, fun v q => nomatch q⟩
    · rw [q]; exact ⟨o1, e1, fun v q => by rw [d1] at q; cases q⟩
    · rw [q]; exact ⟨o2, e2, fun v q => by rw [d2] at q; cases q⟩
  keep := fun i h h' st k => by
    obtain ⟨hz, hTI, ⟨x, y, hTO⟩, h1, h2⟩ := st
    exact ⟨k z (by simp) _ hz, k TI (by simp) _ hTI, ⟨x, y, k TO (by simp) _ hTO⟩, h1.at fun o q => k i1 (by simp) o q, h2.at fun o q => k i2 (by simp) o q⟩
  item := by
    intro X hP hw hK hc i pins s σ H E I hf st hg
    subst hP hw hK
    obtain ⟨hz, hTI, ⟨x0, y0, hTO⟩, h1, h2⟩ := st
    obtain ⟨xs, ys, x, y, hqx, hqy, hx, hy⟩ := hg
    obtain ⟨its, rv, p, _⟩ := I.tuple hqx
    obtain ⟨its2, rv2, p2, _⟩ := I.tuple hqy
    obtain ⟨u, hu, ru⟩ := rv.get hx
    obtain ⟨u2, hu2, ru2⟩ := rv2.get hy
    have hzl : z < s.heap.objs.size := Heap.lt_size hz
    refine wpAny_pyNext_zipD2_item D (Draws.tuple (A := X.A.in1) (I.ok.hd hc) i1 a h1a its.toArray) (Draws.tuple (A := X.A.in1) (I.ok.hd hc) i2 b h2b its2.toArray) hz hTI hTO ⟨h1, p⟩ ⟨h2, p2⟩
      (by simpa using (List.getElem?_eq_some_iff.mp hu).1) (by simpa using (List.getElem?_eq_some_iff.mp hu2).1) fun v1 v2 h' tk hp1 hp2 z' TO' h1' h2' hT hsz hk => ?_
    have eu : v1 = u := by
      have q : its.toArray[i]? = some u := by simpa using hu
      rw [q] at hp1
      exact (Option.some.inj hp1).symm
    have eu2 : v2 = u2 := by
      have q : its2.toArray[i]? = some u2 := by simpa using hu2
      rw [q] at hp2
      exact (Option.some.inj hp2).symm
    subst eu eu2
    refine ⟨_, rfl, wpAny_letOwnedTupleGo_zip (s := { s with heap := h', toks := tk }) z' fun h'' z'' sb => ?_⟩
    have hT2 : h''.get? s.heap.objs.size = some { cls := .type "tuple", data := .seq #[v1, v2] } := (sb.2 _ (Nat.ne_of_gt hzl)).trans hT
    have new : ObjOk X.prog X.w (upd H s.heap.objs.size (.tup [x, y])) h'' s.heap.objs.size (.tup [x, y]) :=
      ⟨by show 2 ≤ sizeLine; decide, [v1, v2], .cons ru (.cons ru2 .nil), ⟨_, hT2, rfl, _, rfl⟩⟩
    have I1 : Inv X pins σ (upd H s.heap.objs.size (.tup [x, y])) { s with heap := h'', toks := tk } :=
      I.turnedNew (t' := tk) (ch := [z, TI, TO, i1, i2]) (fun c o hb q => (sb.2 c (fun q' => hb (by simp [q']))).trans (hk c o (fun q' => hb (by simp [q'])) (fun q' => hb (by simp [q'])) (fun q' => hb (by simp [q'])) (fun q' => hb (by simp [q'])) q)) hf (Nat.le_refl _) new
    refine ⟨.ref s.heap.objs.size, _, I1, rfl, ⟨_, x, y, rfl, I.hok.fresh (Nat.le_refl _), rfl, fun l hl => by rw [I.tuple_inj hl hqx]; exact hx, fun l hl => by rw [I.tuple_inj hl hqy]; exact hy⟩, ⟨z'', ?_, ⟨v1, v2, ?_⟩, ?_, ?_⟩, fun c hcm => ?_⟩
    · exact (sb.2 _ D.TIz).trans (hk _ _ D.TIz D.TITO D.TIi1 D.TIi2 hTI)
    · exact (sb.2 _ D.TOz).trans TO'
    · exact h1'.1.at fun o q => (sb.2 _ (Ne.symm D.zi1)).trans q
    · exact h2'.1.at fun o q => (sb.2 _ (Ne.symm D.zi2)).trans q
    · have hlt : c < s.heap.objs.size := by
        have e' : c = z ∨ c = TI ∨ c = TO ∨ c = i1 ∨ c = i2 := by simpa using hcm
        rcases e' with q | q | q | q | q
        · rw [q]; exact hzl
        · rw [q]; exact Heap.lt_size hTI
        · rw [q]; exact Heap.lt_size hTO
        · rw [q]; obtain ⟨_, e1, _⟩ := h1; exact Heap.lt_size e1
        · rw [q]; obtain ⟨_, e2, _⟩ := h2; exact Heap.lt_size e2
      rw [upd_ne (Nat.ne_of_lt hlt)]
      exact (hf c hcm).1
  done := by
    intro X hP hw hK hc i pins s σ H E I hf st hg
    subst hP hw hK
    obtain ⟨hz, hTI, ⟨x0, y0, hTO⟩, h1, h2⟩ := st
    obtain ⟨xs, ys, hqx, hqy, l1, l2, hend⟩ := hg
    obtain ⟨its, rv, p, _⟩ := I.tuple hqx
    obtain ⟨its2, rv2, p2, _⟩ := I.tuple hqy
    have k1 := rv.length
    have k2 := rv2.length
    exact wpAny_pyNext_zipD2_end D (Draws.tuple (A := X.A.in1) (I.ok.hd hc) i1 a h1a its.toArray) (Draws.tuple (A := X.A.in1) (I.ok.hd hc) i2 b h2b its2.toArray) hz hTI hTO ⟨h1, p⟩ ⟨h2, p2⟩ (by simp; omega) (by simp; omega) (by simp; omega) fun h' tk hk =>
      ⟨rfl, I.turnedL (t' := tk) (ch := [z, TI, TO, i1, i2]) (fun c o hb q =>
        hk c o (fun q' => hb (by simp [q'])) (fun q' => hb (by simp [q'])) (fun q' => hb (by simp [q'])) (fun q' => hb (by simp [q'])) q) hf⟩
  self := fun A i s Q E st h => wpAny_pyIter_zip st.1 h

/-! ### what is walked, by data -/
section
variable {X : Cx} {tg : Expr}
/-- a list, a tuple, a text -/
def iSeq (K : PySem.W.Frag) (te : TE) : TI := fun σ H R => te σ H fun x H1 => (∃ a xs, x = .ref a ∧ SqL K H1 a xs ∧ R (Itl K a) H1) ∨ (∃ a xs, x = .ref a ∧ SqT K H1 a xs ∧ R (Itt K a) H1) ∨ ∃ z, x = .str z ∧ R (Its z) H1
theorem pi_seq {l : Expr} {tl : TE} (hl : PE X l tl) : PI X tg l (iSeq X.K tl) := by
  refine ⟨fun pins s σ H R I h => ?_⟩
  refine thn (hl.run pins s σ H _ I h) fun v s1 ⟨x, H1, I1, r1, q1⟩ => ?_
  rcases q1 with ⟨a, xs, e, hq, q⟩ | ⟨a, xs, e, hq, q⟩ | ⟨z, e, q⟩
  · subst e
    cases r1
    obtain ⟨its, rv, p, hz⟩ := I1.list hq
    refine wpAny_pyIter_list p.isList ?_
    refine ⟨s1.heap.objs.size, [s1.heap.objs.size], _, _, H1, rfl, I1.kept (t' := s1.toks) fun b o e => Heap.get?_push_of_some _ e, turn_list a _, ⟨_, Heap.get?_push_size _ rfl, rfl, rfl⟩, fun b hb => ?_, q⟩
    have e : b = s1.heap.objs.size := by simpa using hb
    subst e
    exact I1.fpOk (Nat.le_refl _) (I1.hok.fresh (Nat.le_refl _))
  · subst e
    cases r1
    obtain ⟨its, rv, p, hz⟩ := I1.tuple hq
    refine wpAny_pyIter_tuple (show s1.heap.IsTuple a its.toArray from p) ?_
    refine ⟨s1.heap.objs.size, [s1.heap.objs.size], _, _, H1, rfl, I1.kept (t' := s1.toks) fun b o e => Heap.get?_push_of_some _ e, turn_tuple a _, ⟨_, Heap.get?_push_size _ rfl, rfl, rfl⟩, fun b hb => ?_, q⟩
    have e : b = s1.heap.objs.size := by simpa using hb
    subst e
    exact I1.fpOk (Nat.le_refl _) (I1.hok.fresh (Nat.le_refl _))
  · subst e
    obtain ⟨t, rfl⟩ := r1
    cases ha : z.cps.all (· < 128)
    · exact wpAny_pyIter_wide ha (pi_one (tk := s1.toks) I1 _ (turn_str _ z t "str_iterator" (.inr rfl)) ⟨_, Heap.get?_push_size _ rfl, rfl, rfl⟩ q)
    · exact wpAny_pyIter_ascii ha (pi_one (tk := s1.toks) I1 _ (turn_str _ z t "str_ascii_iterator" (.inl rfl)) ⟨_, Heap.get?_push_size _ rfl, rfl, rfl⟩ q)
/-- enumerate of a list or a tuple -/
def iEnumA (K : PySem.W.Frag) (ta : TA) : TI := fun σ H R => ta σ H fun vs H1 => (∃ a xs, vs = [.ref a] ∧ SqL K H1 a xs ∧ R (Ite K a) H1) ∨ ∃ a xs, vs = [.ref a] ∧ SqT K H1 a xs ∧ R (IteT K a) H1
theorem pi_enumA {e : Expr} {ta : TA} {p pos tpos : Pos} {elts : List Expr} {kk : Nat} (hg : Gl X "enumerate") (hm : X.mg "enumerate" = none) (ha : PA X [e] ta) (hs : starEach [e] X.env = [(false, eval e X.env)]) :
    PI X (.Tuple elts kk tpos) (.Call (.Name "enumerate" p) [e] [] pos) (iEnumA X.K ta) := by
  refine ⟨fun pins s σ H R I h => ?_⟩
  refine PyProof.Rows.Call_ (ld_blt I hg hm PyProof.Rows.boot_enumerate (PyProof.Rows.callWith_type1 (thn (ha.run pos pins s σ H _ I h) fun us s1 ⟨vs, H1, I1, r1, q1⟩ => ?_) hs rfl))
  have fp2 : ∀ b ∈ [s1.heap.objs.size + 1, s1.heap.objs.size], FpOk X pins H1 b := fun b hb => by
    have e' : b = s1.heap.objs.size + 1 ∨ b = s1.heap.objs.size := by simpa using hb
    have hle : s1.heap.objs.size ≤ b := by
      rcases e' with z | z
      · rw [z]; exact Nat.le_add_right _ _
      · rw [z]; exact Nat.le_refl _
    exact I1.fpOk hle (I1.hok.fresh hle)
  rcases q1 with ⟨a, xs, ex, hq, q⟩ | ⟨a, xs, ex, hq, q⟩
  · subst ex
    cases r1 with
    | cons r rr =>
      cases rr
      cases r
      obtain ⟨its, rv, p', hz⟩ := I1.list hq
      refine call_enumerate_list p'.isList fun h' he hit hsz hk => wpAny_pyIter_enum he ?_
      have I2 : Inv X pins σ H1 { s1 with heap := h' } := I1.kept (t' := s1.toks) hk
      exact ⟨s1.heap.objs.size + 1, [s1.heap.objs.size + 1, s1.heap.objs.size], _, _, H1, rfl, I2, turn_enum a (s1.heap.objs.size + 1) s1.heap.objs.size, ⟨⟨.none, he⟩, hit, Nat.succ_ne_self _⟩, fp2, q⟩
  · subst ex
    cases r1 with
    | cons r rr =>
      cases rr
      cases r
      obtain ⟨its, rv, p', hz⟩ := I1.tuple hq
      have hlt : a < s1.heap.objs.size := p'.lt
      refine enum1_begins (begins_tuple a its.toArray) (show s1.heap.IsTuple a its.toArray from p') fun h' he hit hsz hk => wpAny_pyIter_enum he ?_
      have I2 : Inv X pins σ H1 { s1 with heap := h' } := I1.kept (t' := s1.toks) hk
      exact ⟨s1.heap.objs.size + 1, [s1.heap.objs.size + 1, s1.heap.objs.size], _, _, H1, rfl, I2, turn_enumT a (s1.heap.objs.size + 1) s1.heap.objs.size (Nat.ne_of_gt (Nat.lt_succ_of_lt hlt)) (Nat.ne_of_lt hlt), ⟨⟨.none, he⟩, ⟨_, hit, rfl, rfl⟩, Nat.succ_ne_self _⟩, fp2, q⟩
def iZipT (K : PySem.W.Frag) (ta : TA) : TI := fun σ H R => ta σ H fun vs H1 => ∃ a b xs ys, vs = [.ref a, .ref b] ∧ SqT K H1 a xs ∧ SqT K H1 b ys ∧ R (ItzT K a b) H1
theorem pi_zipT {e e2 : Expr} {ta : TA} {p pos tpos : Pos} {elts : List Expr} {kk : Nat} (hg : Gl X "zip") (hm : X.mg "zip" = none) (ha : PA X [e, e2] ta)
    (hs : starEach [e, e2] X.env = (false, eval e X.env) :: starEach [e2] X.env) (hpl : (backTo pos (starEach [e2] X.env)).any (·.1) = false) :
    PI X (.Tuple elts kk tpos) (.Call (.Name "zip" p) [e, e2] [] pos) (iZipT X.K ta) := by
  refine ⟨fun pins s σ H R I h => ?_⟩
  refine PyProof.Rows.Call_ (ld_blt I hg hm PyProof.Rows.boot_zip (PyProof.Rows.callWith_type1 (thn (ha.run pos pins s σ H _ I h) fun us s1 ⟨vs, H1, I1, r1, q1⟩ => ?_) hs hpl))
  obtain ⟨a, b, xs, ys, ex, hqx, hqy, q⟩ := q1
  subst ex
  cases r1 with
  | cons r rr =>
    cases rr with
    | cons r' rr =>
      cases rr
      cases r
      cases r'
      obtain ⟨its, rv, p1, _⟩ := I1.tuple hqx
      obtain ⟨its2, rv2, p2, _⟩ := I1.tuple hqy
      have la : a < s1.heap.objs.size := p1.lt
      have lb : b < s1.heap.objs.size := p2.lt
      refine zip_begins2 (begins_tuple a its.toArray) (begins_tuple b its2.toArray) (show s1.heap.IsTuple a its.toArray from p1) (show s1.heap.IsTuple b its2.toArray from p2) fun h' hz hTI hTO h1 h2 hsz hk => wpAny_pyIter_zip hz ?_
      have I2 : Inv X pins σ H1 { s1 with heap := h' } := I1.kept (t' := s1.toks) hk
      have sep : ZipSep2 (s1.heap.objs.size + 4) (s1.heap.objs.size + 2) (s1.heap.objs.size + 3) s1.heap.objs.size (s1.heap.objs.size + 1) [s1.heap.objs.size, a] [s1.heap.objs.size + 1, b] :=
        zip_sep2 (N := s1.heap.objs.size) (fp1 := [a]) (fp2 := [b]) (fun c hc => by rw [List.mem_singleton.mp hc]; exact la) (fun c hc => by rw [List.mem_singleton.mp hc]; exact lb)
      refine ⟨s1.heap.objs.size + 4, [s1.heap.objs.size + 4, s1.heap.objs.size + 2, s1.heap.objs.size + 3, s1.heap.objs.size, s1.heap.objs.size + 1], _, _, H1, rfl, I2, turn_zipT sep (Nat.ne_of_lt la) (Nat.ne_of_lt (Nat.lt_succ_of_lt lb)), ⟨hz, hTI, ⟨_, _, hTO⟩, ⟨_, h1, rfl, rfl⟩, ⟨_, h2, rfl, rfl⟩⟩, fun c hcm => ?_, q⟩
      have e' : c = s1.heap.objs.size + 4 ∨ c = s1.heap.objs.size + 2 ∨ c = s1.heap.objs.size + 3 ∨ c = s1.heap.objs.size ∨ c = s1.heap.objs.size + 1 := by simpa using hcm
      have hle : s1.heap.objs.size ≤ c := by
        rcases e' with z | z | z | z | z
        · rw [z]; exact Nat.le_add_right _ _
        · rw [z]; exact Nat.le_add_right _ _
        · rw [z]; exact Nat.le_add_right _ _
        · rw [z]; exact Nat.le_refl _
        · rw [z]; exact Nat.le_add_right _ _
      exact I1.fpOk hle (I1.hok.fresh hle)
end
end Tf
/-! Tf2d: the slots; readings; the check of expressions. -/
namespace Tf
open PySem L2

/-! ### slots -/
/-- slot i of the frame stands for what the evaluator has there -/
def SlOk (K : PySem.W.Frag) (F H : Hp) (v : V) : Sl → Prop
  | .sh d => Rep K F v d
  | .ow ds => ∃ a vs, v = .ref a ∧ F a = none ∧ H a = some (.lst vs) ∧ RepA K F vs ds
  | .scr ns => ∃ a, v = .ref a ∧ SqL K F a (ns.map V.int)
structure Rst (K : PySem.W.Frag) (F H : Hp) (σ : L2.St) (d : Sd) : Prop where
  len : σ.length = d.length
  le : Le F H
  sl : ∀ (i : Nat) (x : Sl), d[i]? = some (some x) → ∃ v, σ[i]? = some (some v) ∧ SlOk K F H v x
  dj : ∀ (i j : Nat) (xs ys : List D) (a : Addr), i ≠ j → d[i]? = some (some (.ow xs)) → d[j]? = some (some (.ow ys)) → σ[i]? = some (some (.ref a)) → σ[j]? ≠ some (some (.ref a))
section
variable {K : PySem.W.Frag} {F H F' H' : Hp} {σ : L2.St} {d : Sd}
theorem SlOk.step {v : V} {x : Sl} (h : SlOk K F H v x) (s : Stp F H F' H') : SlOk K F' H' v x := by
  cases x with
  | sh d => exact Rep.mono s.1 _ h
  | ow ds =>
    obtain ⟨a, vs, e, n, hh, r⟩ := h
    refine ⟨a, vs, e, ?_, s.2.2.1 _ _ hh, RepA.mono s.1 _ r⟩
    cases q : F' a with
    | none => rfl
    | some o =>
      rcases s.2.2.2 a o q with z | z
      · rw [n] at z; cases z
      · rw [hh] at z; cases z
  | scr ns =>
    obtain ⟨a, e, q⟩ := h
    exact ⟨a, e, s.1.sqL q⟩
theorem Rst.step (h : Rst K F H σ d) (s : Stp F H F' H') : Rst K F' H' σ d :=
  ⟨h.len, s.2.1, fun i x e => let ⟨v, e1, q⟩ := h.sl i x e; ⟨v, e1, q.step s⟩, h.dj⟩
/-- a slot gets a shared value -/
theorem Rst.setSh (h : Rst K F H σ d) (i : Nat) {v : V} {x : D} (r : Rep K F v x) : Rst K F H (σ.set i (some v)) (d.set i (some (.sh x))) := by
  refine ⟨by simp [h.len], h.le, fun j y e => ?_, fun j k xs ys a hjk e1 e2 e3 => ?_⟩
  · by_cases hj : i = j
    · subst hj
      have hi : i < d.length := by
        have := List.getElem?_eq_some_iff.mp e
        simpa using this.1
      rw [List.getElem?_set_self hi] at e
      cases e
      exact ⟨v, List.getElem?_set_self (by rw [h.len]; exact hi), r⟩
    · rw [List.getElem?_set_ne hj] at e
      rw [List.getElem?_set_ne hj]
      exact h.sl j y e
  · have hj : i ≠ j := by
      intro z; subst z
      have hi : i < d.length := by
        have := List.getElem?_eq_some_iff.mp e1
        simpa using this.1
      rw [List.getElem?_set_self hi] at e1; cases e1
    have hk : i ≠ k := by
      intro z; subst z
      have hi : i < d.length := by
        have := List.getElem?_eq_some_iff.mp e2
        simpa using this.1
      rw [List.getElem?_set_self hi] at e2; cases e2
    rw [List.getElem?_set_ne hj] at e1 e3
    rw [List.getElem?_set_ne hk] at e2
    rw [List.getElem?_set_ne hk]
    exact h.dj j k xs ys a hjk e1 e2 e3
/-- a slot gets a list of its own -/
theorem Rst.setOw (h : Rst K F H σ d) (i : Nat) {a : Addr} {vs : List V} {xs : List D} (hn : F a = none) (hh : H a = some (.lst vs)) (r : RepA K F vs xs)
    (nw : ∀ (j : Nat) (ys : List D), j ≠ i → d[j]? = some (some (.ow ys)) → σ[j]? ≠ some (some (.ref a))) : Rst K F H (σ.set i (some (.ref a))) (d.set i (some (.ow xs))) := by
  refine ⟨by simp [h.len], h.le, fun j y e => ?_, fun j k xs' ys a' hjk e1 e2 e3 => ?_⟩
  · by_cases hj : i = j
    · subst hj
      have hi : i < d.length := by
        have := List.getElem?_eq_some_iff.mp e
        simpa using this.1
      rw [List.getElem?_set_self hi] at e
      cases e
      exact ⟨_, List.getElem?_set_self (by rw [h.len]; exact hi), a, vs, rfl, hn, hh, r⟩
    · rw [List.getElem?_set_ne hj] at e
      rw [List.getElem?_set_ne hj]
      exact h.sl j y e
  · by_cases hj : i = j
    · subst hj
      have hi : i < σ.length := by
        have := List.getElem?_eq_some_iff.mp e3
        simpa using this.1
      rw [List.getElem?_set_self hi] at e3
      cases e3
      rw [List.getElem?_set_ne hjk] at e2
      rw [List.getElem?_set_ne hjk]
      exact nw k ys (Ne.symm hjk) e2
    · rw [List.getElem?_set_ne hj] at e1 e3
      by_cases hk : i = k
      · subst hk
        intro e4
        have hi : i < σ.length := by
          have := List.getElem?_eq_some_iff.mp e4
          simpa using this.1
        rw [List.getElem?_set_self hi] at e4
        cases e4
        exact nw j xs' hjk e1 e3
      · rw [List.getElem?_set_ne hk] at e2
        rw [List.getElem?_set_ne hk]
        exact h.dj j k xs' ys a' hjk e1 e2 e3
theorem Rst.setNone (h : Rst K F H σ d) (i : Nat) : Rst K F H (σ.set i none) (d.set i none) := by
  have no : ∀ (j : Nat) (x : Sl), (d.set i none)[j]? = some (some x) → i ≠ j ∧ d[j]? = some (some x) := fun j x e => by
    by_cases hj : i = j
    · subst hj
      by_cases hi : i < d.length
      · rw [List.getElem?_set_self hi] at e; cases e
      · rw [List.getElem?_eq_none (by simpa using hi)] at e; cases e
    · rw [List.getElem?_set_ne hj] at e
      exact ⟨hj, e⟩
  refine ⟨by simp [h.len], h.le, fun j y e => ?_, fun j k xs ys a hjk e1 e2 e3 => ?_⟩
  · obtain ⟨hj, e⟩ := no j y e
    rw [List.getElem?_set_ne hj]
    exact h.sl j y e
  · obtain ⟨hj, e1⟩ := no j _ e1
    obtain ⟨hk, e2⟩ := no k _ e2
    rw [List.getElem?_set_ne hj] at e3
    rw [List.getElem?_set_ne hk]
    exact h.dj j k xs ys a hjk e1 e2 e3
theorem Rst.wipe (h : Rst K F H σ d) : ∀ vs : List Nat, Rst K F H (L2.wipe σ vs) (wipeD d vs)
  | [] => h
  | v :: vs => (Rst.wipe h vs).setNone v
end

/-! ### readings -/
section
variable (K : PySem.W.Frag) (EX : Nat → Hp → Prop) (C : EvC)
/-- what an expression's answer must lead to -/
def okE (F H : Hp) (r : R D) (Q : VK) : Prop := match r with
  | .ok d => ∀ v F' H', Stp F H F' H' → Rep K F' v d → Q v H'
  | .exc c => ∀ F' H', Stp F H F' H' → EX c H'
  | .fail => False
def okEs (F H : Hp) (r : R (List D)) (Q : List V → Hp → Prop) : Prop := match r with
  | .ok ds => ∀ vs F' H', Stp F H F' H' → RepA K F' vs ds → Q vs H'
  | .exc c => ∀ F' H', Stp F H F' H' → EX c H'
  | .fail => False
def okL (F H : Hp) (r : R (List D)) (Q : VK) : Prop := match r with
  | .ok ds => ∀ p vs F' H', Stp F H F' H' → H p = none → F' p = none → H' p = some (.lst vs) → RepA K F' vs ds → Q (.ref p) H'
  | .exc c => ∀ F' H', Stp F H F' H' → EX c H'
  | .fail => False
/-- an answer that no heap object belongs to -/
def okA {A : Type} (F H : Hp) (r : R A) (Q : A → Hp → Prop) : Prop := match r with
  | .ok a => ∀ F' H', Stp F H F' H' → Q a H'
  | .exc c => ∀ F' H', Stp F H F' H' → EX c H'
  | .fail => False
def tE (m : E) : TE := fun σ H Q => ∃ F d, Rst K F H σ d ∧ okE K EX F H (ev C m d) Q
def tEs (m : Es) : TA := fun σ H Q => ∃ F d, Rst K F H σ d ∧ okEs K EX F H (evs C m d) Q
def tL (m : L) : TE := fun σ H Q => ∃ F d, Rst K F H σ d ∧ okL K EX F H (evL C m d) Q
def tO (m : Eo) : TO := fun σ H Q => ∃ F d, Rst K F H σ d ∧ okA EX F H (evo C m d) Q
/-- as a test -/
def tT (m : E) : TT := fun σ H Q => ∃ F d, Rst K F H σ d ∧ okA EX F H ((ev C m d).bind truth) Q
def tC1 (m : Eo) : TT := fun σ H Q => ∃ F d, Rst K F H σ d ∧ okA EX F H (evc C m d) Q
end
section
variable {K : PySem.W.Frag} {EX : Nat → Hp → Prop} {F H F1 H1 : Hp}
theorem okE.mono {r : R D} {Q : VK} (h : okE K EX F H r Q) (s : Stp F H F1 H1) : okE K EX F1 H1 r Q := by
  cases r with
  | ok d => exact fun v F' H' s' => h v F' H' (s.trans s')
  | exc c => exact fun F' H' s' => h F' H' (s.trans s')
  | fail => exact h
theorem okEs.mono {r : R (List D)} {Q : List V → Hp → Prop} (h : okEs K EX F H r Q) (s : Stp F H F1 H1) : okEs K EX F1 H1 r Q := by
  cases r with
  | ok d => exact fun v F' H' s' => h v F' H' (s.trans s')
  | exc c => exact fun F' H' s' => h F' H' (s.trans s')
  | fail => exact h
theorem okL.mono {r : R (List D)} {Q : VK} (h : okL K EX F H r Q) (s : Stp F H F1 H1) : okL K EX F1 H1 r Q := by
  cases r with
  | ok d => exact fun p vs F' H' s' hp => h p vs F' H' (s.trans s') (s.2.2.1.non hp)
  | exc c => exact fun F' H' s' => h F' H' (s.trans s')
  | fail => exact h
theorem okA.mono {A : Type} {r : R A} {Q : A → Hp → Prop} (h : okA EX F H r Q) (s : Stp F H F1 H1) : okA EX F1 H1 r Q := by
  cases r with
  | ok d => exact fun F' H' s' => h F' H' (s.trans s')
  | exc c => exact fun F' H' s' => h F' H' (s.trans s')
  | fail => exact h
/-- first one, then the rest: whatever the rest's wish is -/
class Wish (K : PySem.W.Frag) (EX : Nat → Hp → Prop) {B : Type} (W : Hp → Hp → R B → Prop) : Prop where
  mono : ∀ {F H F1 H1 r}, W F H r → Stp F H F1 H1 → W F1 H1 r
  exc : ∀ {F H c}, W F H (.exc c) → ∀ F' H', Stp F H F' H' → EX c H'
  fail : ∀ {F H}, ¬ W F H .fail
theorem wE (Q : VK) : Wish K EX (fun F H r => okE K EX F H r Q) := ⟨fun h s => okE.mono h s, fun h => h, fun h => h⟩
theorem wEs (Q : List V → Hp → Prop) : Wish K EX (fun F H r => okEs K EX F H r Q) := ⟨fun h s => okEs.mono h s, fun h => h, fun h => h⟩
theorem wL (Q : VK) : Wish K EX (fun F H r => okL K EX F H r Q) := ⟨fun h s => okL.mono h s, fun h => h, fun h => h⟩
theorem wA {A : Type} (Q : A → Hp → Prop) : Wish K EX (fun F H r => okA EX F H r Q) := ⟨fun h s => okA.mono h s, fun h => h, fun h => h⟩
theorem okE.bind {B : Type} {W : Hp → Hp → R B → Prop} (w : Wish K EX W) {r : R D} {f : D → R B} {G : VK} (h : W F H (r.bind f))
    (k : ∀ d v F1 H1, Stp F H F1 H1 → Rep K F1 v d → W F1 H1 (f d) → G v H1) : okE K EX F H r G := by
  cases r with
  | ok d => exact fun v F' H' s rp => k d v F' H' s rp (w.mono h s)
  | exc c => exact w.exc h
  | fail => exact (w.fail h).elim
theorem okEs.bind {B : Type} {W : Hp → Hp → R B → Prop} (w : Wish K EX W) {r : R (List D)} {f : List D → R B} {G : List V → Hp → Prop} (h : W F H (r.bind f))
    (k : ∀ d v F1 H1, Stp F H F1 H1 → RepA K F1 v d → W F1 H1 (f d) → G v H1) : okEs K EX F H r G := by
  cases r with
  | ok d => exact fun v F' H' s rp => k d v F' H' s rp (w.mono h s)
  | exc c => exact w.exc h
  | fail => exact (w.fail h).elim
theorem okL.bind {B : Type} {W : Hp → Hp → R B → Prop} (w : Wish K EX W) {r : R (List D)} {f : List D → R B} {G : VK} (h : W F H (r.bind f))
    (k : ∀ ds p vs F1 H1, Stp F H F1 H1 → H p = none → F1 p = none → H1 p = some (.lst vs) → RepA K F1 vs ds → W F1 H1 (f ds) → G (.ref p) H1) : okL K EX F H r G := by
  cases r with
  | ok d => exact fun p vs F' H' s a b c rp => k d p vs F' H' s a b c rp (w.mono h s)
  | exc c => exact w.exc h
  | fail => exact (w.fail h).elim
theorem okA.bind {A B : Type} {W : Hp → Hp → R B → Prop} (w : Wish K EX W) {r : R A} {f : A → R B} {G : A → Hp → Prop} (h : W F H (r.bind f))
    (k : ∀ a F1 H1, Stp F H F1 H1 → W F1 H1 (f a) → G a H1) : okA EX F H r G := by
  cases r with
  | ok d => exact fun F' H' s => k d F' H' s (w.mono h s)
  | exc c => exact w.exc h
  | fail => exact (w.fail h).elim
theorem okE.ans {r : R D} {Q : VK} (h : okE K EX F H r Q) (n : ∀ c, r ≠ .exc c) : Tf.ans K F H r Q := by
  cases r with
  | ok d => exact h
  | exc c => exact absurd rfl (n c)
  | fail => exact h
theorem okL.ans {r : R (List D)} {Q : VK} (h : okL K EX F H r Q) (n : ∀ c, r ≠ .exc c) : Tf.ansL K F H r Q := by
  cases r with
  | ok d => exact h
  | exc c => exact absurd rfl (n c)
  | fail => exact h
end
theorem _root_.L2.PE.imp {X : Cx} {e : Expr} {t t' : TE} (h : PE X e t) (i : ∀ σ H Q, t' σ H Q → t σ H Q) : PE X e t' := ⟨fun pins s σ H Q I q => h.run pins s σ H Q I (i σ H Q q)⟩
theorem _root_.L2.PT.imp {X : Cx} {e : Expr} {t t' : TT} (h : PT X e t) (i : ∀ σ H Q, t' σ H Q → t σ H Q) : PT X e t' := ⟨fun pins s σ H Q I q => h.run pins s σ H Q I (i σ H Q q)⟩
theorem _root_.L2.PW.imp {X : Cx} {e : Expr} {t t' : TT} (h : PW X e t) (i : ∀ σ H Q, t' σ H Q → t σ H Q) : PW X e t' := ⟨fun w pins s σ H Q I q => h.run w pins s σ H Q I (i σ H Q q)⟩
theorem _root_.L2.PA.imp {X : Cx} {e : List Expr} {t t' : TA} (h : PA X e t) (i : ∀ σ H Q, t' σ H Q → t σ H Q) : PA X e t' := ⟨fun p pins s σ H Q I q => h.run p pins s σ H Q I (i σ H Q q)⟩
theorem _root_.L2.PO.imp {X : Cx} {e : Option Expr} {t t' : TO} (h : PO X e t) (i : ∀ σ H Q, t' σ H Q → t σ H Q) : PO X e t' := ⟨fun pins s σ H Q I q => h.run pins s σ H Q I (i σ H Q q)⟩
theorem _root_.L2.PS.imp {X : Cx} {e : Stmt} {t t' : TS} (h : PS X e t) (i : ∀ D σ H, t' D σ H → t D σ H) : PS X e t' := ⟨fun pins s σ H D I q => h.run pins s σ H D I (i D σ H q)⟩
theorem _root_.L2.PSs.imp {X : Cx} {e : List Stmt} {t t' : TS} (h : PSs X e t) (i : ∀ D σ H, t' D σ H → t D σ H) : PSs X e t' := ⟨fun pins s σ H D I q => h.run pins s σ H D I (i D σ H q)⟩
theorem _root_.L2.PI.imp {X : Cx} {tg e : Expr} {t t' : TI} (h : PI X tg e t) (i : ∀ σ H Q, t' σ H Q → t σ H Q) : PI X tg e t' := ⟨fun pins s σ H Q I q => h.run pins s σ H Q I (i σ H Q q)⟩
end Tf
/-! Tf2e: the check of expressions. -/
namespace Tf
open PySem L2

structure Ck where
  N : List Str
  fns : List (Option Str)
  gls : List (Option Str)
  xcs : List (Option Str)
  io : Option Str

def visB (sc : Scope) (x : Str) : Bool := match sc.names.lookup x with
  | some .local => true
  | some .cell => true
  | some .free => true
  | _ => false
def locB (sc : Scope) (x : Str) : Bool := match sc.names.lookup x with
  | some .local => true
  | some .cell => true
  | _ => false
def isLoc (sc : Scope) (x : Str) : Bool := match sc.names.lookup x with
  | some .local => true
  | _ => false
def gloB (sc : Scope) (x : Str) : Bool := match sc.names.lookup x with
  | some .globalImplicit => true
  | _ => false
def nmOk (x : Str) : Bool := !(x == ("__debug__" : Str)) && !(x == ("__classdict__" : Str))
def conOk : D → Const → Bool
  | .none, .none => true
  | .bool b, .bool c => b == c
  | .int i, .int j => decide (i = j)
  | .str x, .str y => decide (x = y) && x.cps.all (· < 128)
  | _, _ => false
def noStar : Expr → Bool
  | .Starred _ _ => false
  | _ => true
def isName : Expr → Bool
  | .Name _ _ => true
  | _ => false
def noSlice : Expr → Bool
  | .Slice _ _ _ _ => false
  | _ => true
mutual
def chkT (c : Ck) : Tg → Scope → (Str → Bool) → Expr → Bool
  | .name i, sc, fn, e => match e with
    | .Name x _ => decide (c.N[i]? = some x) && locB sc x && (fn x || isLoc sc x)
    | _ => false
  | .tup ts, sc, fn, e => match e with
    | .Tuple es _ _ => chkTs c ts sc fn es
    | _ => false
def chkTs (c : Ck) : Tgs → Scope → (Str → Bool) → List Expr → Bool
  | .nil, _, _, es => match es with
    | [] => true
    | _ => false
  | .cons t r, sc, fn, es => match es with
    | e :: es' => chkT c t sc fn e && chkTs c r sc fn es'
    | [] => false
end
def ownOf (c : Ck) (is : List Nat) : List (Str × Nat) := is.map fun i => (c.N.getD i "", i)
def isTupTg : Tg → Bool
  | .tup _ => true
  | _ => false
def blName (x y : Str) (sc : Scope) : Bool := decide (x = y) && gloB sc x
/-- what may stand as a test -/
def tst : E → Bool
  | .and a b => tst a && tst b
  | .or a b => tst a && tst b
  | .not a => tst a
  | .ite _ _ _ => false
  | _ => true
mutual
def chkE (c : Ck) : E → Scope → (Str → Bool) → Expr → Bool
  | .var i, sc, _, e => match e with
    | .Name x _ => decide (c.N[i]? = some x) && visB sc x && nmOk x
    | _ => false
  | .con d, _, _, e => match e with
    | .Constant k _ _ => conOk d k
    | _ => false
  | .glo g, sc, _, e => match e with
    | .Name x _ => decide (c.gls[g]? = some (some x)) && gloB sc x && nmOk x
    | _ => false
  | .tup es, sc, fn, e => match e with
    | .Tuple xs _ _ => chkEs c es sc fn xs && decide (xs.length ≤ 1000)
    | _ => false
  | .lst l, sc, fn, e => chkL c l sc fn e
  | .bin op a b, sc, fn, e => match e with
    | .BinOp x o y _ => decide (o = op) && chkE c a sc fn x && chkE c b sc fn y
    | _ => false
  | .neg a, sc, fn, e => match e with
    | .UnaryOp .USub x _ => chkE c a sc fn x
    | _ => false
  | .cmp op a b, sc, fn, e => match e with
    | .Compare x [o] [y] _ => decide (o = op) && chkE c a sc fn x && chkE c b sc fn y && !behindInMarks op y
    | _ => false
  | .cmp2 o p a b d, sc, fn, e => match e with
    | .Compare x [o', p'] [y, z] _ => decide (o' = o) && decide (p' = p) && chkE c a sc fn x && chkE c b sc fn y && chkE c d sc fn z && decide (o ≠ .In) && decide (o ≠ .NotIn) && decide (p ≠ .In) && decide (p ≠ .NotIn)
    | _ => false
  | .and a b, sc, fn, e => match e with
    | .BoolOp .And (x :: y :: rest) pos => chkE c a sc fn x && (match rest with
      | [] => chkE c b sc fn y
      | z :: rest' => chkE c b sc fn (.BoolOp .And (y :: z :: rest') pos))
    | _ => false
  | .or a b, sc, fn, e => match e with
    | .BoolOp .Or (x :: y :: rest) pos => chkE c a sc fn x && (match rest with
      | [] => chkE c b sc fn y
      | z :: rest' => chkE c b sc fn (.BoolOp .Or (y :: z :: rest') pos))
    | _ => false
  | .not a, sc, fn, e => match e with
    | .UnaryOp .Not x _ => chkE c a sc fn x
    | _ => false
  | .ite t a b, sc, fn, e => match e with
    | .IfExp x y z _ => tst t && chkE c t sc fn x && chkE c a sc fn y && chkE c b sc fn z
    | _ => false
  | .idx a i, sc, fn, e => match e with
    | .Subscript x y _ => chkE c a sc fn x && chkE c i sc fn y && noSlice y
    | _ => false
  | .slc a lo hi, sc, fn, e => match e with
    | .Subscript x (.Slice l u none _) _ => chkE c a sc fn x && chkO c lo sc fn l && chkO c hi sc fn u
    | _ => false
  | .rev a, sc, fn, e => match e with
    | .Subscript x (.Slice none none (some (.UnaryOp .USub (.Constant (.int 1) _ _) _)) _) _ => chkE c a sc fn x
    | _ => false
  | .call f es, sc, fn, e => match e with
    | .Call (.Name x _) xs [] _ => decide (c.fns[f]? = some (some x)) && gloB sc x && nmOk x && chkEs c es sc fn xs
    | _ => false
  | .isi a t, sc, fn, e => match e with
    | .Call (.Name x _) [y, .Name z _] [] _ => blName x "isinstance" sc && blName z (tyName t) sc && chkE c a sc fn y
    | _ => false
  | .isi2 a t u, sc, fn, e => match e with
    | .Call (.Name x _) [y, .Tuple [.Name z _, .Name z' _] _ _] [] _ => blName x "isinstance" sc && blName z (tyName t) sc && blName z' (tyName u) sc && chkE c a sc fn y
    | _ => false
  | .bi b a, sc, fn, e => match e with
    | .Call (.Name x _) [y] [] _ => blName x (biName b) sc && chkE c a sc fn y
    | _ => false
  | .min2 a b, sc, fn, e => match e with
    | .Call (.Name x _) [y, z] [] _ => blName x "min" sc && chkE c a sc fn y && chkE c b sc fn z
    | _ => false
  | .lenO i, sc, _, e => match e with
    | .Call (.Name x _) [.Name y _] [] _ => blName x "len" sc && decide (c.N[i]? = some y) && visB sc y && nmOk y
    | _ => false
  | .inO neg a i, sc, fn, e => match e with
    | .Compare x [o] [.Name y _] _ => decide (o = if neg then .NotIn else .In) && chkE c a sc fn x && decide (c.N[i]? = some y) && visB sc y && nmOk y
    | _ => false
  | .cell i a, sc, fn, e => match e with
    | .Call (.Name x _) [.Name y _, z] [] _ => decide (x = "_law_cell") && gloB sc x && decide (c.N[i]? = some y) && visB sc y && nmOk y && chkE c a sc fn z
    | _ => false
  | .upper a, sc, fn, e => match e with
    | .Call (.Attribute x n p) [] [] q => isName x && decide (n = "upper") && (p.endLine == q.line) && chkE c a sc fn x
    | _ => false
  | .join _ _, _, _, _ => false
  | .rows a b, sc, fn, e => match e with
    | .Call (.Name x _) [y, z, .List [] _] [] _ => decide (c.io = some x) && gloB sc x && nmOk x && chkE c a sc fn y && chkE c b sc fn z
    | _ => false
def chkEs (c : Ck) : Es → Scope → (Str → Bool) → List Expr → Bool
  | .nil, _, _, es => match es with
    | [] => true
    | _ => false
  | .cons m r, sc, fn, es => match es with
    | e :: es' => chkE c m sc fn e && chkEs c r sc fn es'
    | [] => false
def chkO (c : Ck) : Eo → Scope → (Str → Bool) → Option Expr → Bool
  | .no, _, _, e => match e with
    | none => true
    | some _ => false
  | .yes m, sc, fn, e => match e with
    | none => false
    | some x => chkE c m sc fn x
def chkC (c : Ck) : Eo → Scope → (Str → Bool) → List Expr → Bool
  | .no, _, _, e => match e with
    | [] => true
    | _ => false
  | .yes m, sc, fn, e => match e with
    | [x] => tst m && chkE c m sc fn x
    | _ => false
def chkL (c : Ck) : L → Scope → (Str → Bool) → Expr → Bool
  | .disp es, sc, fn, e => match e with
    | .List xs _ => chkEs c es sc fn xs && decide (xs.length ≤ 1000)
    | _ => false
  | .comp t it f m, sc, fn, e => match e with
    | .ListComp elt [⟨tg, iter, ifs, 0⟩] scope _ => blkC c.N sc scope (ownOf c (slotsT t)) && chkI c it (isTupTg t) sc fn iter &&
        chkT c t (relS scope sc) (fun x => scope.names.lookup x == some .cell) tg &&
        chkC c f (relS scope sc) (fun x => scope.names.lookup x == some .cell) ifs &&
        chkE c m (relS scope sc) (fun x => scope.names.lookup x == some .cell) elt
    | _ => false
  | .cat a b, sc, fn, e => match e with
    | .BinOp x .Add y _ => chkE c a sc fn x && chkE c b sc fn y
    | _ => false
  | .rep a b, sc, fn, e => match e with
    | .BinOp x .Mult y _ => chkE c a sc fn x && chkE c b sc fn y
    | _ => false
  | .ofs a, sc, fn, e => match e with
    | .Call (.Name x _) [y] [] _ => blName x "list" sc && chkE c a sc fn y
    | _ => false
  | .srt _, _, _, _ => false
  | .sset _, _, _, _ => false
def chkI (c : Ck) : It → Bool → Scope → (Str → Bool) → Expr → Bool
  | .seq a, _, sc, fn, e => chkE c a sc fn e
  | .rng1 a, _, sc, fn, e => match e with
    | .Call (.Name x _) [y] [] _ => blName x "range" sc && chkE c a sc fn y
    | _ => false
  | .rng2 a b, _, sc, fn, e => match e with
    | .Call (.Name x _) [y, z] [] _ => blName x "range" sc && chkE c a sc fn y && chkE c b sc fn z
    | _ => false
  | .enum a, tup, sc, fn, e => match e with
    | .Call (.Name x _) [y] [] _ => tup && blName x "enumerate" sc && chkE c a sc fn y
    | _ => false
  | .zip a b, tup, sc, fn, e => match e with
    | .Call (.Name x _) [y, z] [] _ => tup && blName x "zip" sc && chkE c a sc fn y && chkE c b sc fn z
    | _ => false
end

/-! ### what the check gives of the written expression -/
theorem chkE_noStar (c : Ck) (m : E) (sc : Scope) (fn : Str → Bool) (e : Expr) (h : chkE c m sc fn e = true) : noStar e = true := by
  cases e with
  | Starred x p =>
    cases m with
    | lst l =>
      unfold chkE at h
      cases l <;> (unfold chkL at h; exact absurd h (by simp))
    | _ => unfold chkE at h; exact absurd h (by simp)
  | _ => rfl
theorem starEach_cons {e : Expr} {es : List Expr} {env : Env} (h : noStar e = true) : starEach (e :: es) env = (false, eval e env) :: starEach es env := by
  cases e <;> first | rfl | exact absurd h (by simp [noStar])
theorem chkEs_stars (c : Ck) : ∀ (m : Es) (sc : Scope) (fn : Str → Bool) (es : List Expr) (env : Env) (pos : Pos), chkEs c m sc fn es = true → (backTo pos (starEach es env)).any (·.1) = false
  | .nil, sc, fn, es, env, pos, h => by
    unfold chkEs at h
    cases es with
    | nil => rfl
    | cons e es => exact absurd h (by simp)
  | .cons m r, sc, fn, es, env, pos, h => by
    unfold chkEs at h
    cases es with
    | nil => exact absurd h (by simp)
    | cons e es =>
      simp only [Bool.and_eq_true] at h
      rw [starEach_cons (chkE_noStar c m sc fn e h.1)]
      have ih := chkEs_stars c r sc fn es env pos h.2
      unfold backTo at ih ⊢
      simp only [List.map_cons, List.any_cons, Bool.false_or]
      exact ih
/-- a list, a tuple .. as a plain index -/
theorem plainIx_of {y : Expr} (h : noSlice y = true) : PlainIx y := by
  intro o i
  cases y <;> first | rfl | exact absurd h (by simp [noSlice])
theorem folded_of {c : Ck} {it : It} {tup : Bool} {sc : Scope} {fn : Str → Bool} {e : Expr} {env : Env} (h : chkI c it tup sc fn e = true) : ∀ x, foldedSetIterable e env x = pure x := by
  intro x
  cases e with
  | Set elts k p =>
    cases it with
    | seq a =>
      unfold chkI at h
      cases a with
      | lst l =>
        unfold chkE at h
        cases l <;> (unfold chkL at h; exact absurd h (by simp))
      | _ => unfold chkE at h; exact absurd h (by simp)
    | _ => unfold chkI at h; exact absurd h (by simp)
  | _ => rfl
end Tf
/-! Tf2f: what is walked, targets, the ambient. -/
namespace Tf
open PySem L2

/-! ### no operation tells an exception -/
theorem binD_nx (op : Operator) (x y : D) (c : Nat) : binD op x y ≠ .exc c := by
  unfold binD; split <;> (try split) <;> simp
theorem cmpD_nx (op : CmpOp) (x y : D) (c : Nat) : cmpD op x y ≠ .exc c := by
  unfold cmpD; split <;> (try split) <;> simp
theorem idxD_nx (x y : D) (c : Nat) : idxD x y ≠ .exc c := by
  unfold idxD; split <;> (try split) <;> (try split) <;> simp
theorem slcD_nx (lo hi : Option Int) (x : D) (c : Nat) : slcD lo hi x ≠ .exc c := by
  unfold slcD; split <;> (try split) <;> simp
theorem biD_nx (b : Bi) (x : D) (c : Nat) : biD b x ≠ .exc c := by
  unfold biD; split <;> (try split) <;> simp
theorem min2D_nx (x y : D) (c : Nat) : min2D x y ≠ .exc c := by
  unfold min2D; split <;> simp
theorem seqOf_nx (x : D) (c : Nat) : seqOf x ≠ .exc c := by
  unfold seqOf; split <;> simp
theorem listOf_nx (x : D) (c : Nat) : listOf x ≠ .exc c := by
  unfold listOf; split <;> simp
theorem cat_nx (x y : D) (c : Nat) : ((listOf x).bind fun xs => (listOf y).bind fun ys => catD xs ys) ≠ .exc c := by
  cases x <;> cases y <;> simp only [listOf, R.bind_ok, R.bind_fail, catD, ne_eq, reduceCtorEq, not_false_eq_true]
  split <;> simp
theorem rep_nx (x y : D) (c : Nat) : ((listOf x).bind fun xs => repD xs y) ≠ .exc c := by
  cases x <;> cases y <;> simp only [listOf, R.bind_ok, R.bind_fail, repD, ne_eq, reduceCtorEq, not_false_eq_true]
  split <;> simp
theorem negD_nx (x : D) (c : Nat) : negD x ≠ .exc c := by
  unfold negD; split <;> simp
theorem compGo_nx (f : D → R (Option D)) : ∀ (xs : List D) (c : Nat), compGo f xs ≠ .exc c
  | [], c => by simp [compGo]
  | x :: xs, c => by
    unfold compGo
    cases f x with
    | ok o =>
      have ih := compGo_nx f xs
      cases h : compGo f xs with
      | ok ys => simp
      | exc c' => exact absurd h (ih c')
      | fail => simp
    | exc c' => simp [R.still]
    | fail => simp [R.still]

/-! ### a walked thing -/
structure Wk (K : PySem.W.Frag) (J : L2.It) (F0 : Hp) (items : List D) : Prop where
  go : ∀ (i : Nat) (F H : Hp), Le F0 F → Le F H → i < items.length → J.go i H
  stop : ∀ (F H : Hp), Le F0 F → Le F H → J.stop items.length H
  yld : ∀ (i : Nat) (F H : Hp) (x : V) (H' : Hp) (d : D), Le F0 F → Le F H → J.yld i H x H' → items[i]? = some d → ∃ F', Stp F H F' H' ∧ Rep K F' x d
def okI (K : PySem.W.Frag) (EX : Nat → Hp → Prop) (F H : Hp) (r : R (List D)) (Q : L2.It → Hp → Prop) : Prop := match r with
  | .ok items => ∀ J F' H', Stp F H F' H' → Wk K J F' items → Q J H'
  | .exc c => ∀ F' H', Stp F H F' H' → EX c H'
  | .fail => False
def tI (K : PySem.W.Frag) (EX : Nat → Hp → Prop) (C : EvC) (m : It) : TI := fun σ H Q => ∃ F d, Rst K F H σ d ∧ okI K EX F H (evI C m d) Q
section
variable {K : PySem.W.Frag} {EX : Nat → Hp → Prop} {F H F1 H1 : Hp}
theorem okI.mono {r : R (List D)} {Q : L2.It → Hp → Prop} (h : okI K EX F H r Q) (s : Stp F H F1 H1) : okI K EX F1 H1 r Q := by
  cases r with
  | ok d => exact fun J F' H' s' => h J F' H' (s.trans s')
  | exc c => exact fun F' H' s' => h F' H' (s.trans s')
  | fail => exact h
theorem wI (Q : L2.It → Hp → Prop) : Wish K EX (fun F H r => okI K EX F H r Q) := ⟨fun h s => okI.mono h s, fun h => h, fun h => h⟩
theorem okI.bind {B : Type} {W : Hp → Hp → R B → Prop} (w : Wish K EX W) {r : R (List D)} {f : List D → R B} {G : L2.It → Hp → Prop} (h : W F H (r.bind f))
    (k : ∀ items J F1 H1, Stp F H F1 H1 → Wk K J F1 items → W F1 H1 (f items) → G J H1) : okI K EX F H r G := by
  cases r with
  | ok d => exact fun J F' H' s wk => k d J F' H' s wk (w.mono h s)
  | exc c => exact w.exc h
  | fail => exact (w.fail h).elim
theorem Wk.list {a : Addr} {xs : List V} {ds : List D} (h : F a = some (.lst xs)) (r : RepA K F xs ds) : Wk K (Itl K a) F ds where
  go := fun i F' H' l l' hi => by
    have hi' : i < xs.length := by rw [r.length]; exact hi
    exact ⟨xs, xs[i], SqL.of (l' _ _ (l _ _ h)), by simp [hi']⟩
  stop := fun F' H' l l' => ⟨xs, SqL.of (l' _ _ (l _ _ h)), by rw [r.length]; exact Nat.le_refl _⟩
  yld := fun i F' H' x H'' d l l' y e => by
    obtain ⟨e1, y⟩ := y
    subst e1
    obtain ⟨v, e2, r2⟩ := r.get e
    have := y xs (SqL.of (l' _ _ (l _ _ h)))
    rw [e2] at this
    cases this
    exact ⟨F', .refl l', Rep.mono l _ r2⟩
theorem Wk.tup {a : Addr} {xs : List V} {ds : List D} (h : SqT K F a xs) (r : RepA K F xs ds) : Wk K (Itt K a) F ds where
  go := fun i F' H' l l' hi => by
    have hi' : i < xs.length := by rw [r.length]; exact hi
    exact ⟨xs, xs[i], l'.sqT (l.sqT h), by simp [hi']⟩
  stop := fun F' H' l l' => ⟨xs, l'.sqT (l.sqT h), by rw [r.length]; exact Nat.le_refl _⟩
  yld := fun i F' H' x H'' d l l' y e => by
    obtain ⟨e1, y⟩ := y
    subst e1
    obtain ⟨v, e2, r2⟩ := r.get e
    have := y xs (l'.sqT (l.sqT h))
    rw [e2] at this
    cases this
    exact ⟨F', .refl l', Rep.mono l _ r2⟩
theorem Wk.str {z : Str} (h : asc z) : Wk K (Its z) F (z.cps.toList.map fun c => .str ⟨#[c]⟩) where
  go := fun i F' H' l l' hi => by
    show i < z.cps.size
    simpa using hi
  stop := fun F' H' l l' => by
    show z.cps.size ≤ _
    simp
  yld := fun i F' H' x H'' d l l' y e => by
    obtain ⟨e1, c, e2, e3⟩ := y
    subst e1 e3
    rw [List.getElem?_map] at e
    have e4 : z.cps.toList[i]? = some c := by simpa using e2
    rw [e4] at e
    cases e
    refine ⟨F', .refl l', .str _ fun y hy => ?_⟩
    have : y = c := by simpa using hy
    subst this
    exact h _ (List.mem_of_getElem? e4)
theorem rangeD_length : ∀ (n : Nat) (lo : Int), (rangeD lo n).length = n
  | 0, _ => rfl
  | n + 1, lo => by simp [rangeD, rangeD_length n]
theorem rangeD_get : ∀ (n : Nat) (lo : Int) (i : Nat) (d : D), (rangeD lo n)[i]? = some d → d = .int (lo + i) ∧ i < n
  | 0, _, i, d, e => by simp [rangeD] at e
  | n + 1, lo, 0, d, e => by simp [rangeD] at e; simp [e]
  | n + 1, lo, i + 1, d, e => by
    have ih := rangeD_get n (lo + 1) i d (by simpa [rangeD] using e)
    refine ⟨?_, by omega⟩
    rw [ih.1]
    congr 1
    omega
theorem Wk.rng {lo : Int} {n : Nat} : Wk K (Itr lo n) F (rangeD lo n) where
  go := fun i F' H' l l' hi => by rw [rangeD_length] at hi; exact hi
  stop := fun F' H' l l' => by rw [rangeD_length]; exact Nat.le_refl _
  yld := fun i F' H' x H'' d l l' y e => by
    obtain ⟨e1, e2⟩ := y
    subst e1 e2
    obtain ⟨rfl, _⟩ := rangeD_get n lo i d e
    exact ⟨F', .refl l', .int _⟩
theorem enumD_length : ∀ (xs : List D) (k : Nat), (enumD k xs).length = xs.length
  | [], _ => rfl
  | x :: xs, k => by simp [enumD, enumD_length xs]
theorem enumD_get : ∀ (xs : List D) (k i : Nat) (d : D), (enumD k xs)[i]? = some d → ∃ x, xs[i]? = some x ∧ d = .tuple [.int ((k + i : Nat) : Int), x]
  | [], _, _, _, e => by simp [enumD] at e
  | x :: xs, k, 0, d, e => by simp [enumD] at e; exact ⟨x, rfl, by simp [e]⟩
  | x :: xs, k, i + 1, d, e => by
    obtain ⟨y, h1, h2⟩ := enumD_get xs (k + 1) i d (by simpa [enumD] using e)
    refine ⟨y, by simpa using h1, ?_⟩
    rw [h2]
    have : k + 1 + i = k + (i + 1) := by omega
    rw [this]
theorem Wk.enumL {a : Addr} {xs : List V} {ds : List D} (h : F a = some (.lst xs)) (r : RepA K F xs ds) : Wk K (Ite K a) F (enumD 0 ds) where
  go := fun i F' H' l l' hi => by
    rw [enumD_length] at hi
    have hi' : i < xs.length := by rw [r.length]; exact hi
    exact ⟨xs, xs[i], SqL.of (l' _ _ (l _ _ h)), by simp [hi']⟩
  stop := fun F' H' l l' => ⟨xs, SqL.of (l' _ _ (l _ _ h)), by rw [r.length, enumD_length]; exact Nat.le_refl _⟩
  yld := fun i F' H' x H'' d l l' y e => by
    obtain ⟨T, z, e1, e2, e3, y⟩ := y
    subst e1 e3
    obtain ⟨w, e4, rfl⟩ := enumD_get ds 0 i d e
    obtain ⟨v, e5, r2⟩ := r.get e4
    have := y xs (SqL.of (l' _ _ (l _ _ h)))
    rw [e5] at this
    cases this
    refine ⟨_, .new l' e2, .tup (SqT.of upd_same) (.cons ?_ (.cons (Rep.mono (l.trans (.fresh (l'.non e2))) _ r2) .nil))⟩
    rw [Nat.zero_add]
    exact .int _
theorem Wk.enumT {a : Addr} {xs : List V} {ds : List D} (h : SqT K F a xs) (r : RepA K F xs ds) : Wk K (IteT K a) F (enumD 0 ds) where
  go := fun i F' H' l l' hi => by
    rw [enumD_length] at hi
    have hi' : i < xs.length := by rw [r.length]; exact hi
    exact ⟨xs, xs[i], l'.sqT (l.sqT h), by simp [hi']⟩
  stop := fun F' H' l l' => ⟨xs, l'.sqT (l.sqT h), by rw [r.length, enumD_length]⟩
  yld := fun i F' H' x H'' d l l' y e => by
    obtain ⟨T, z, e1, e2, e3, y⟩ := y
    subst e1 e3
    obtain ⟨w, e4, rfl⟩ := enumD_get ds 0 i d e
    obtain ⟨v, e5, r2⟩ := r.get e4
    have := y xs (l'.sqT (l.sqT h))
    rw [e5] at this
    cases this
    refine ⟨_, .new l' e2, .tup (SqT.of upd_same) (.cons ?_ (.cons (Rep.mono (l.trans (.fresh (l'.non e2))) _ r2) .nil))⟩
    rw [Nat.zero_add]
    exact .int _
theorem zipD_length : ∀ (xs ys : List D), (zipD xs ys).length = min xs.length ys.length
  | [], ys => by simp [zipD]
  | _ :: _, [] => by simp [zipD]
  | x :: xs, y :: ys => by simp [zipD, zipD_length xs ys]
theorem zipD_get : ∀ (xs ys : List D) (i : Nat) (d : D), (zipD xs ys)[i]? = some d → ∃ x y, xs[i]? = some x ∧ ys[i]? = some y ∧ d = .tuple [x, y]
  | [], ys, _, _, e => by simp [zipD] at e
  | _ :: _, [], _, _, e => by simp [zipD] at e
  | x :: xs, y :: ys, 0, d, e => by simp [zipD] at e; exact ⟨x, y, rfl, rfl, e.symm⟩
  | x :: xs, y :: ys, i + 1, d, e => by
    obtain ⟨a, b, h1, h2, h3⟩ := zipD_get xs ys i d (by simpa [zipD] using e)
    exact ⟨a, b, by simpa using h1, by simpa using h2, h3⟩
theorem Wk.zipT {a b : Addr} {xs ys : List V} {ds es : List D} (h : SqT K F a xs) (r : RepA K F xs ds) (h' : SqT K F b ys) (r' : RepA K F ys es) : Wk K (ItzT K a b) F (zipD ds es) where
  go := fun i F' H' l l' hi => by
    rw [zipD_length] at hi
    have hi1 : i < xs.length := by rw [r.length]; omega
    have hi2 : i < ys.length := by rw [r'.length]; omega
    exact ⟨xs, ys, xs[i], ys[i], l'.sqT (l.sqT h), l'.sqT (l.sqT h'), by simp [hi1], by simp [hi2]⟩
  stop := fun F' H' l l' => ⟨xs, ys, l'.sqT (l.sqT h), l'.sqT (l.sqT h'), by rw [r.length, zipD_length]; omega, by rw [r'.length, zipD_length]; omega, by rw [r.length, r'.length, zipD_length]; omega⟩
  yld := fun i F' H' x H'' d l l' y e => by
    obtain ⟨T, z, z', e1, e2, e3, y, y'⟩ := y
    subst e1 e3
    obtain ⟨w, w', e4, e4', rfl⟩ := zipD_get ds es i d e
    obtain ⟨v, e5, r2⟩ := r.get e4
    obtain ⟨v', e5', r2'⟩ := r'.get e4'
    have q := y xs (l'.sqT (l.sqT h))
    rw [e5] at q
    cases q
    have q' := y' ys (l'.sqT (l.sqT h'))
    rw [e5'] at q'
    cases q'
    exact ⟨_, .new l' e2, .tup (SqT.of upd_same) (.cons (Rep.mono (l.trans (.fresh (l'.non e2))) _ r2) (.cons (Rep.mono (l.trans (.fresh (l'.non e2))) _ r2') .nil))⟩
end

/-! ### targets -/
def lenTs : Tgs → Nat
  | .nil => 0
  | .cons _ r => lenTs r + 1
mutual
def gTg (K : PySem.W.Frag) : Tg → TG
  | .name i => gName i
  | .tup ts => gTup K (lenTs ts) (gTgs K ts)
def gTgs (K : PySem.W.Frag) : Tgs → TGs
  | .nil => gNil
  | .cons t r => gCons (gTg K t) (gTgs K r)
end
theorem assignEach_cons {e : Expr} {es : List Expr} {env : Env} (h : noStar e = true) : assignEach (e :: es) env = (false, assign e env) :: assignEach es env := by
  cases e <;> first | rfl | exact absurd h (by simp [noStar])
theorem chkT_noStar (c : Ck) (t : Tg) (sc : Scope) (fn : Str → Bool) (e : Expr) (h : chkT c t sc fn e = true) : noStar e = true := by
  cases e with
  | Starred x p => cases t <;> (unfold chkT at h; exact absurd h (by simp))
  | _ => rfl
theorem chkTs_each (c : Ck) : ∀ (ts : Tgs) (sc : Scope) (fn : Str → Bool) (es : List Expr) (env : Env), chkTs c ts sc fn es = true → (assignEach es env).length = lenTs ts ∧ (assignEach es env).findIdx? (·.1) = none
  | .nil, sc, fn, es, env, h => by
    unfold chkTs at h
    cases es with
    | nil => exact ⟨rfl, rfl⟩
    | cons e es => exact absurd h (by simp)
  | .cons t r, sc, fn, es, env, h => by
    unfold chkTs at h
    cases es with
    | nil => exact absurd h (by simp)
    | cons e es =>
      simp only [Bool.and_eq_true] at h
      rw [assignEach_cons (chkT_noStar c t sc fn e h.1)]
      have ih := chkTs_each c r sc fn es env h.2
      refine ⟨by simp [lenTs, ih.1], ?_⟩
      rw [List.findIdx?_cons, ih.2]
      rfl
theorem loc_of {sc : Scope} {x : Str} (h : locB sc x = true) : Loc sc x := by
  unfold locB at h
  split at h <;> first | exact .inl (by assumption) | exact .inr (by assumption) | cases h
theorem vis_of {sc : Scope} {x : Str} (h : visB sc x = true) : Vis sc x := by
  unfold visB at h
  split at h <;> first | exact .inl (by assumption) | exact .inr (.inl (by assumption)) | exact .inr (.inr (by assumption)) | cases h
theorem isLoc_of {sc : Scope} {x : Str} (h : isLoc sc x = true) : sc.names.lookup x = some .local := by
  unfold isLoc at h
  split at h <;> first | assumption | cases h
theorem glo_of {X : Cx} {x : Str} (h : gloB X.env.scope x = true) : Gl X x := by
  unfold gloB at h
  split at h <;> first | assumption | cases h
section
variable {X : Cx} {c : Ck}
mutual
theorem sTg (hN : X.N = c.N) (nd : X.N.Nodup) (hc : X.calm = true) : ∀ (t : Tg) (e : Expr), chkT c t X.env.scope X.fn e = true → PG X e (gTg X.K t)
  | .name i, e, h => by
    unfold chkT at h
    split at h
    · simp only [Bool.and_eq_true, Bool.or_eq_true, decide_eq_true_eq] at h
      unfold gTg
      exact pg_name nd (by rw [hN]; exact h.1.1) (loc_of h.1.2) (h.2.imp (fun z => z) isLoc_of)
    · exact absurd h (by simp)
  | .tup ts, e, h => by
    unfold chkT at h
    split at h
    · unfold gTg
      obtain ⟨h1, h2⟩ := chkTs_each c ts _ _ _ X.env h
      exact pg_tup hc (sTgs hN nd hc ts _ h) h1 h2
    · exact absurd h (by simp)
theorem sTgs (hN : X.N = c.N) (nd : X.N.Nodup) (hc : X.calm = true) : ∀ (t : Tgs) (es : List Expr), chkTs c t X.env.scope X.fn es = true → PGs X es (gTgs X.K t)
  | .nil, es, h => by
    unfold chkTs at h
    cases es with
    | nil => unfold gTgs; exact pgs_nil
    | cons e es => exact absurd h (by simp)
  | .cons t r, es, h => by
    unfold chkTs at h
    cases es with
    | nil => exact absurd h (by simp)
    | cons e es =>
      simp only [Bool.and_eq_true] at h
      unfold gTgs
      refine pgs_cons (sTg hN nd hc t e h.1) (sTgs hN nd hc r es h.2) ?_
      rw [assignEach_cons (chkT_noStar c t _ _ e h.1)]
      rfl
end
end
theorem wipe_set {σ : L2.St} {x : Option V} {i : Nat} : ∀ {vs : List Nat}, i ∈ vs → L2.wipe (σ.set i x) vs = L2.wipe σ vs
  | [], h => by cases h
  | v :: vs, h => by
    unfold L2.wipe
    have out : ∀ {us : List Nat}, i ∉ us → L2.wipe (σ.set i x) us = (L2.wipe σ us).set i x := by
      intro us
      induction us with
      | nil => intro _; rfl
      | cons u us ih =>
        intro hu
        simp only [List.mem_cons, not_or] at hu
        unfold L2.wipe
        rw [ih hu.2, List.set_comm _ _ hu.1]
    by_cases hi : i ∈ vs
    · rw [wipe_set hi]
    · have e : i = v := by
        rcases List.mem_cons.mp h with z | z
        · exact z
        · exact absurd z hi
      subst e
      rw [out hi, List.set_set]
section
variable {K : PySem.W.Frag} {F H : Hp}
mutual
theorem bindT_ok : ∀ (t : Tg) (d : D) (s s' : Sd) (v : V) (σ : L2.St) (Q : L2.St → Hp → Prop), bindT t d s = some s' → Rep K F v d → Rst K F H σ s →
    (∀ σ', Rst K F H σ' s' → (∀ vs, (∀ i ∈ slotsT t, i ∈ vs) → L2.wipe σ' vs = L2.wipe σ vs) → Q σ' H) → gTg K t v σ H Q
  | .name i, d, s, s', v, σ, Q, e, r, R, k => by
    unfold bindT at e
    cases e
    unfold gTg gName
    exact k _ (R.setSh i r) fun vs hv => wipe_set (hv i (by simp [slotsT]))
  | .tup ts, d, s, s', v, σ, Q, e, r, R, k => by
    unfold bindT at e
    split at e
    · cases r with
      | tup h a =>
        unfold gTg gTup
        have hl : lenTs ts = _ := bindTs_len ts _ s s' e
        refine ⟨_, _, rfl, R.le.sqT h, by rw [a.length, hl], bindTs_ok ts _ s s' _ σ Q e a R fun σ' R' w => k σ' R' fun vs hv => w vs fun i hi => hv i (by simpa [slotsT] using hi)⟩
    · cases e
theorem bindTs_len : ∀ (ts : Tgs) (ds : List D) (s s' : Sd), bindTs ts ds s = some s' → lenTs ts = ds.length
  | .nil, ds, s, s', e => by
    unfold bindTs at e
    cases ds with
    | nil => rfl
    | cons d ds => cases e
  | .cons t r, ds, s, s', e => by
    unfold bindTs at e
    cases ds with
    | nil => cases e
    | cons d ds =>
      simp only at e
      split at e
      · simp [lenTs, bindTs_len r ds _ s' e]
      · cases e
theorem bindTs_ok : ∀ (ts : Tgs) (ds : List D) (s s' : Sd) (vs : List V) (σ : L2.St) (Q : L2.St → Hp → Prop), bindTs ts ds s = some s' → RepA K F vs ds → Rst K F H σ s →
    (∀ σ', Rst K F H σ' s' → (∀ us, (∀ i ∈ slotsTs ts, i ∈ us) → L2.wipe σ' us = L2.wipe σ us) → Q σ' H) → gTgs K ts vs σ H Q
  | .nil, ds, s, s', vs, σ, Q, e, r, R, k => by
    unfold bindTs at e
    cases ds with
    | nil =>
      cases e
      cases r
      unfold gTgs gNil
      exact ⟨rfl, k σ R fun _ _ => rfl⟩
    | cons d ds => cases e
  | .cons t tr, ds, s, s', vs, σ, Q, e, r, R, k => by
    unfold bindTs at e
    cases ds with
    | nil => cases e
    | cons d ds =>
      simp only at e
      split at e
      · rename_i s1 e1
        cases r with
        | cons r1 r2 =>
          unfold gTgs gCons
          refine ⟨_, _, rfl, bindT_ok t d s s1 _ σ _ e1 r1 R fun σ1 R1 w1 => bindTs_ok tr ds s1 s' _ σ1 Q e r2 R1 fun σ2 R2 w2 => k σ2 R2 fun us hu => ?_⟩
          rw [w2 us fun i hi => hu i (by simp [slotsTs, hi]), w1 us fun i hi => hu i (by simp [slotsTs, hi])]
      · cases e
end
end
end Tf
/-! Tf2r: tuple[::-1]. -/
namespace Tf
open PySem L2 PyProof.Rows HT
theorem fmap_congr {A B : Type} {f g : A → Option B} : ∀ {l : List A}, (∀ a ∈ l, f a = g a) → l.filterMap f = l.filterMap g
  | [], _ => rfl
  | a :: l, h => by
    rw [List.filterMap_cons, List.filterMap_cons, h a (by simp), fmap_congr fun b hb => h b (by simp [hb])]
section
variable {prog : Program} {w : World} {A : Around} {E : Value → Shared → Prop} {s : Shared}
theorem rev_adjust (n : Nat) : Builtin.Slice.sliceAdjust none none (-1) (n : Int) = ((n : Int) - 1, -1) := by
  unfold Builtin.Slice.sliceAdjust
  simp
theorem rev_places (n : Nat) : Builtin.Slice.slicePlaces ((n : Int) - 1) (-1) (-1) = n := by
  unfold Builtin.Slice.slicePlaces
  have h1 : ¬ ((-1 : Int) > 0) := by decide
  rw [if_neg h1]
  by_cases h : (n : Int) - 1 > -1
  · rw [if_pos h, show (- -1 : Int) = 1 by decide, Int.ediv_one]
    omega
  · rw [if_neg h]
    omega
theorem sliceApplied_rev {sl : Addr} {t : Tok} {n : Nat} {Q : Int × Int × Nat → Shared → Prop} (hs : s.heap.IsSliceOf sl .none .none (.int (-1) t))
    (h : Q ((n : Int) - 1, -1, n) s) : wpAny (model prog w) A (Builtin.Slice.sliceApplied (.ref sl) (pure (n : Int))) Q E s := by
  obtain ⟨os, hos, hcs, hds⟩ := id hs
  unfold Builtin.Slice.sliceApplied Builtin.Slice.sliceFields
  refine wpAny_bind (wpAny_bind (wpAny_field hos hds (x := .none) rfl (wpAny_bind (wpAny_field hos hds (x := .none) rfl (wpAny_bind (wpAny_field hos hds (x := .int (-1) t) rfl (wpAny_pure ?_)))))))
  refine wpAny_bind (slicePart_int ?_)
  show wpAny _ _ (if ((-1 : Int) == 0) = true then _ else _) _ _ s
  rw [if_neg (by decide)]
  refine wpAny_bind (slicePart_none (wpAny_bind (slicePart_none (wpAny_bind (wpAny_pure ?_)))))
  show wpAny _ _ (match Builtin.Slice.sliceAdjust none none (-1) (n : Int) with | (lo, hi) => pure (lo, (-1 : Int), Builtin.Slice.slicePlaces lo hi (-1))) _ _ s
  rw [rev_adjust]
  show wpAny _ _ (pure ((n : Int) - 1, (-1 : Int), Builtin.Slice.slicePlaces ((n : Int) - 1) (-1) (-1))) _ _ s
  rw [rev_places]
  exact wpAny_pure h
theorem rev_pick (xs : Array Value) : ((List.range xs.size).filterMap fun (m : Nat) => xs[(((xs.size : Int) - 1) + (m : Int) * (-1)).toNat]?).toArray = xs.toList.reverse.toArray := by
  congr 1
  have e : ∀ m ∈ List.range xs.size, xs[(((xs.size : Int) - 1) + (m : Int) * (-1)).toNat]? = xs[xs.size - 1 - m]? := by
    intro m hm
    have := List.mem_range.mp hm
    congr 1
    omega
  have e2 : ((List.range xs.size).filterMap fun (m : Nat) => xs[(((xs.size : Int) - 1) + (m : Int) * (-1)).toNat]?) = (List.range xs.size).filterMap fun m => xs[xs.size - 1 - m]? := by
    exact fmap_congr e
  rw [e2]
  have e3 : ((List.range xs.size).filterMap fun m => xs[xs.size - 1 - m]?) = ((List.range xs.size).map fun k => xs.size - 1 - k).filterMap (xs[·]?) := by
    rw [List.filterMap_map]; rfl
  rw [e3, PySem.W.krv_range, List.filterMap_reverse, PySem.W.krv_all]
theorem getItem_tuple_rev {t sl : Addr} {tk : Tok} {items : Array Value} {Q : Value → Shared → Prop} (ht : IsTup s.heap t items) (hs : s.heap.IsSliceOf sl .none .none (.int (-1) tk))
    (h : Q (.ref s.heap.objs.size) { s with heap := s.heap.push { cls := .type "tuple", data := .seq items.toList.reverse.toArray } })
    (hsz : items.size ≤ sizeLine) : wpAny (model prog w) A (getItem (.ref t) (.ref sl)) Q E s := by
  have htake : sizeOk (.seq items.toList.reverse.toArray) := by
    show items.toList.reverse.toArray.size ≤ sizeLine
    simpa using hsz
  obtain ⟨os, hos, hcs, hds⟩ := id hs
  have hTs : s.TypeIs (.ref sl) "slice" := ⟨os, hos, hcs⟩
  unfold getItem
  try with_reducible refine wpAny_holding ?_
  first | refine wpAny_bind (wpAny_pure ?_) | skip
  refine wpAny_bind (wpAny_sequenceKey ht.typeIs (by decide) ?_)
  refine wpAny_bind (wpAny_callSpecial?_slot (name := Str.ofString "__getitem__") ht.typeIs PyProof.Rows.slot_tuple_getitem
    (wpAny_call_entry PyProof.Rows.slot_tuple_getitem ht.typeIs entry_tuple_getitem ?_ (args_tuple_getitem _ _)))
  show wpAny _ _ (Builtin.Tuple.tupleItemsOf (.ref t) >>= _) _ _ s
  refine wpAny_bind (tupleItemsOf_ ht ?_)
  refine wpAny_bind (wpAny_typeOf hTs ?_)
  rw [if_pos (by decide)]
  refine wpAny_bind (sliceApplied_rev hs ?_)
  have hno : ¬ (((items.size : Int) - 1 == 0 && (-1 : Int) == 1 && items.size == items.size) = true) := by simp
  show wpAny _ _ (if ((items.size : Int) - 1 == 0 && (-1 : Int) == 1 && items.size == items.size) = true then _ else _) _ _ s
  rw [if_neg hno, rev_pick]
  first
    | exact wpAny_bind (m := Builtin.Tuple.tupleExact _) (wpAny_newObj_type (wpAny_pure ⟨_, rfl, wpAny_pure h⟩) htake)
    | exact wpAny_bind (m := Builtin.Tuple.tupleExact _) (wpAny_newObj_type (wpAny_bind (wpAny_pure (wpAny_pure ⟨_, rfl, wpAny_pure h⟩))) htake)
    | exact wpAny_bind (wpAny_bind (m := Builtin.Tuple.tupleExact _) (wpAny_newObj_type (wpAny_pure (wpAny_pure ⟨_, rfl, wpAny_pure h⟩)) htake))
    | exact wpAny_bind (wpAny_bind (m := Builtin.Tuple.tupleExact _) (wpAny_newObj_type (wpAny_pure ⟨_, rfl, wpAny_pure h⟩) htake))
end
section
variable {X : Cx} {e : Expr} {te : TE} {j : Nat} {p1 p2 p3 pos : Pos}
def tRevT (K : PySem.W.Frag) (te : TE) : TE := fun σ H Q => te σ H fun x H1 => ∃ a xs, x = .ref a ∧ SqT K H1 a xs ∧ ∀ p, H1 p = none → Q (.ref p) (upd H1 p (.tup xs.reverse))
theorem pe_revT (he : PE X e te) : PE X (.Subscript e (.Slice none none (some (.UnaryOp .USub (.Constant (.int 1) j p1) p3)) p2) pos) (tRevT X.K te) := by
  refine ⟨fun pins s σ H Q I h => ?_⟩
  refine Subscript_ (thn (he.run pins s σ H _ I h) fun v s1 ⟨x, H1, I1, r1, q1⟩ => ?_)
  obtain ⟨a, xs, rfl, hq, q⟩ := q1
  cases r1
  refine wpAny_Slice ?_
  rw [evalPart_none]
  refine wpAny_pure (wpAny_pure ?_)
  rw [evalPart_some]
  refine thn ((pe_un un_neg (pe_int (i := 1))).run pins s1 σ H1 (fun u H2 => u = .int (-1) ∧ H2 = H1) I1 ⟨1, rfl, rfl, rfl⟩) fun u s2 ⟨y, H2, I2, r2, e1, e2⟩ => ?_
  subst e1 e2
  obtain ⟨tk, rfl⟩ := r2
  have I4 : Inv X pins σ H2 { s2 with heap := s2.heap.push { cls := .type "slice", data := .fields #[.none, .none, .int (-1) tk] } } := I2.kept (t' := s2.toks) fun b ob q => Heap.get?_push_of_some _ q
  obtain ⟨its, rv, p, hz⟩ := I4.tuple hq
  have hl := rv.length
  show wpAny (model X.prog X.w) X.A (subscriptTail e _ (.ref a) (.ref s2.heap.objs.size)) (EP X pins σ Q) X.xe { s2 with heap := s2.heap.push { cls := .type "slice", data := .fields #[.none, .none, .int (-1) tk] } }
  refine tail_any (ops := [.ref a, .ref s2.heap.objs.size]) p.typeIs slot_tuple_getitem.lookup (getItem_tuple_rev p (Heap.IsSliceOf.new ..) ?_ (by rw [List.size_toArray]; omega)) (by with_unfolding_all rfl)
  have hf := I4.hok.fresh (Nat.le_refl _)
  refine ⟨.ref _, upd H2 _ (.tup xs.reverse), I4.laid (fun b u e => Heap.get?_push_of_some _ e) (Nat.le_refl _) ⟨by simpa using hz, its.reverse, rv.reverse, ?_⟩, rfl, q _ hf⟩
  exact ⟨_, Heap.get?_push_size _ rfl, rfl, _, rfl⟩
end
end Tf
/-! Tf2g: expressions. -/
namespace Tf
open PySem L2

def bnames : List Str := ["len", "all", "any", "sum", "tuple", "int", "min", "list", "isinstance", "str", "bool", "range", "enumerate", "zip", "sorted", "set"]
/-- a def's promise: its answer by the evaluator -/
def spR (K : PySem.W.Frag) (xv : Nat → Value) (m : List D → R D) : Sp := fun vs H Q E => ∃ F ds, Le F H ∧ RepA K F vs ds ∧ (match m ds with
  | .ok d => ∀ v F' H', Stp F H F' H' → Rep K F' v d → Q v H'
  | .exc c => ∀ F' H', Stp F H F' H' → E (xv c) none H'
  | .fail => False)
def spCell (K : PySem.W.Frag) : Sp := fun vs H Q _ => ∃ (a : Addr) (ns : List Int) (k : Int), vs = [.ref a, .int k] ∧ SqL K H a (ns.map V.int) ∧ 0 ≤ k ∧ Q (.int (ns.getD k.toNat 0)) H
/-- a heap without one object -/
def del (H : Hp) (a : Addr) : Hp := fun b => if b = a then none else H b
theorem del_same {H : Hp} {a : Addr} : del H a a = none := by unfold del; rw [if_pos rfl]
theorem del_ne {H : Hp} {a b : Addr} (h : b ≠ a) : del H a b = H b := by unfold del; rw [if_neg h]
theorem Le.del {H : Hp} {a : Addr} : Le (del H a) H := fun b o e => by
  by_cases h : b = a
  · subst h; rw [del_same] at e; cases e
  · rw [del_ne h] at e; exact e
theorem Le.toDel {F H : Hp} {a : Addr} (l : Le F H) (hn : F a = none) : Le F (Tf.del H a) := fun b o e => by
  have h : b ≠ a := fun z => by subst z; rw [hn] at e; cases e
  rw [del_ne h]; exact l b o e
/-- a def whose third parameter is a list that it makes longer -/
def spIo (K : PySem.W.Frag) (m : D → D → List D → Option (List D)) : Sp := fun vs H Q _ => ∃ (F : Hp) (x y : D) (ds es : List D) (a : Addr) (v1 v2 : V) (xs : List V), vs = [v1, v2, .ref a] ∧ Le F H ∧ F a = none ∧ H a = some (.lst xs) ∧ Rep K F v1 x ∧ Rep K F v2 y ∧ RepA K F xs ds ∧ m x y ds = some es ∧
  ∀ v F1 F2 H' xs', Stp F (del H a) F1 H' → F1 a = none → H' a = some (.lst xs') → RepA K F1 xs' es → Stp F (del H a) F2 H' → Rep K F2 v (.tuple es) → Q v H'
structure Amb (c : Ck) (C : EvC) (xv : Nat → Value) (P : Program) (w : World) (K : PySem.W.Frag) (mg : Str → Option Value) (base : Heap) (k : Nat) : Prop where
  fn : ∀ (f : Nat) (x : Str), c.fns[f]? = some (some x) → ∃ a fd ps, FnOk P w K mg base (CX P w) k a fd ps (spR K xv (C.call f)) ∧ mg x = some (.ref a) ∧ PySem.W.keepIn K (.ref a) = true ∧ Binds K fd ps []
  gv : ∀ (g : Nat) (x : Str) (d : D), c.gls[g]? = some (some x) → C.gv g = some d → ∃ u v, mg x = some u ∧ RelV v u ∧ Rep K (fun _ => none) v d
  bl : ∀ x ∈ bnames, mg x = none
  xc : ∀ (n : Nat) (x : Str), c.xcs[n]? = some (some x) → ∃ a, xv n = .ref a ∧ mg x = some (.ref a) ∧ PySem.W.excIn K a [.type "ValueError", .type "Exception", .type "BaseException", .type "object"] "ValueError.__new__" = true ∧
    PySem.W.keepIn K (.ref a) = true ∧ PySem.W.subIn K (.ref a) (.type "BaseException") = some true ∧ PySem.W.typeIn K (.ref a) = some (.type "type")
  cl : ∃ a fd ps, FnOk P w K mg base (CX P w) k a fd ps (spCell K) ∧ mg "_law_cell" = some (.ref a) ∧ PySem.W.keepIn K (.ref a) = true ∧ Binds K fd ps []
  io : ∀ x, c.io = some x → ∃ a fd ps, FnOk P w K mg base (CX P w) k a fd ps (spIo K C.io) ∧ mg x = some (.ref a) ∧ PySem.W.keepIn K (.ref a) = true ∧ Binds K fd ps []
def xwish (xv : Nat → Value) (EX : Nat → Hp → Prop) : XK := fun cls d H => ∃ n, cls = xv n ∧ d = none ∧ EX n H
structure CxOk (c : Ck) (C : EvC) (xv : Nat → Value) (k : Nat) (X : Cx) (EX : Nat → Hp → Prop) : Prop where
  amb : Amb c C xv X.prog X.w X.K X.mg X.base k
  nm : X.N = c.N
  nd : X.N.Nodup
  calm : X.calm = true
  room : Room k X.A
  pas : Passes (CX X.prog X.w) X (xwish xv EX)
theorem CxOk.blk {c : Ck} {C : EvC} {xv : Nat → Value} {k : Nat} {X : Cx} {EX : Nat → Hp → Prop} (h : CxOk c C xv k X EX) (s : Shared) (H : Hp) (scope : Scope) (cenv : Env) (fp : List Addr) :
    CxOk c C xv k (X.blk s H scope cenv fp) (fun _ _ => False) :=
  ⟨h.amb, h.nm, h.nd, h.calm, h.room, fun pins σ H s e s' I q => by
    obtain ⟨a, B, H', cls, d, _, _, _, _, _, _, _, n, _, _, z⟩ := q
    exact z.elim⟩

theorem wipe_wipe (σ : L2.St) (vs : List Nat) : L2.wipe (L2.wipe σ vs) vs = L2.wipe σ vs := by
  have sub : ∀ (us ws : List Nat), (∀ i ∈ us, i ∈ ws) → L2.wipe (L2.wipe σ us) ws = L2.wipe σ ws := by
    intro us
    induction us with
    | nil => intro ws _; rfl
    | cons u us ih =>
      intro ws h
      rw [show L2.wipe σ (u :: us) = (L2.wipe σ us).set u none from rfl, wipe_set (h u (by simp)), ih ws fun i hi => h i (by simp [hi])]
  exact sub vs vs fun _ h => h
/-! ### one node at a time -/
section
variable {X : Cx} {EX : Nat → Hp → Prop} {C : EvC} {x y z : Expr} {a b d : E} {pos p p2 p3 : Pos}

theorem s_var {i : Nat} {n : Str} (hN : X.N[i]? = some n) (hv : Vis X.env.scope n) (h1 : (n == ("__debug__" : Str)) = false) (h2 : (n == ("__classdict__" : Str)) = false) : PE X (.Name n pos) (tE X.K EX C (.var i)) :=
  (pe_var hN hv h1 h2).imp fun σ H Q ⟨F, d, R, q⟩ => by
    unfold ev at q
    split at q
    · rename_i h
      obtain ⟨v, e, r⟩ := R.sl i _ h
      exact ⟨v, e, q v F H (.refl R.le) r⟩
    · exact q.elim
theorem s_con {k : Const} {j : Nat} {d : D} (h : conOk d k = true) : PE X (.Constant k j pos) (tE X.K EX C (.con d)) := by
  unfold conOk at h
  split at h
  · exact pe_non.imp fun σ H Q ⟨F, s, R, q⟩ => q _ F H (.refl R.le) .non
  · rw [eq_of_beq h]
    exact pe_bl.imp fun σ H Q ⟨F, s, R, q⟩ => q _ F H (.refl R.le) (.bl _)
  · rw [of_decide_eq_true h]
    exact pe_int.imp fun σ H Q ⟨F, s, R, q⟩ => q _ F H (.refl R.le) (.int _)
  · simp only [Bool.and_eq_true, decide_eq_true_eq] at h
    obtain ⟨rfl, h⟩ := h
    refine pe_str.imp fun σ H Q ⟨F, s, R, q⟩ => q _ F H (.refl R.le) (.str _ fun c hc => ?_)
    rw [← Array.all_toList, List.all_eq_true] at h
    simpa using h c hc
  · cases h
theorem s_glo {g : Nat} {n : Str} (hg : Gl X n) (h1 : (n == ("__debug__" : Str)) = false) (hv : ∀ d, C.gv g = some d → ∃ u v, X.mg n = some u ∧ RelV v u ∧ Rep X.K (fun _ => none) v d) : PE X (.Name n pos) (tE X.K EX C (.glo g)) := by
  cases e : C.gv g with
  | none =>
    refine ⟨fun pins s σ H Q I ⟨F, d, R, q⟩ => ?_⟩
    unfold ev at q
    rw [e] at q
    exact q.elim
  | some d =>
    obtain ⟨u, v, hm, r, rp⟩ := hv d e
    refine (pe_glob hg hm r h1).imp fun σ H Q ⟨F, s, R, q⟩ => ?_
    unfold ev at q
    rw [e] at q
    exact q v F H (.refl R.le) (Rep.mono (fun _ _ z => by cases z) _ rp)
theorem s_tup {es : Es} {xs : List Expr} {j : Nat} (h : PA X xs (tEs X.K EX C es)) (hl : xs.length ≤ 1000) (hk : ∀ s ds, evs C es s = .ok ds → ds.length = xs.length) : PE X (.Tuple xs j pos) (tE X.K EX C (.tup es)) :=
  (pe_tup h).imp fun σ H Q ⟨F, s, R, q⟩ => by
    unfold ev at q
    refine ⟨F, s, R, ?_⟩
    cases e : evs C es s with
    | ok ds =>
      rw [e] at q
      intro vs F1 H1 s1 r1
      refine ⟨?_, fun p hp => ?_⟩
      · rw [r1.length, hk s ds e, sizeLine_eq]; omega
      · exact q _ _ _ (s1.trans (.new s1.2.1 hp)) (.tup (SqT.of upd_same) (RepA.mono (.fresh (s1.2.1.non hp)) _ r1))
    | exc c => rw [e] at q; exact q
    | fail => rw [e] at q; exact q.elim
theorem s_lst {l : L} (h : PE X x (tL X.K EX C l)) : PE X x (tE X.K EX C (.lst l)) :=
  h.imp fun σ H Q ⟨F, s, R, q⟩ => by
    unfold ev at q
    refine ⟨F, s, R, ?_⟩
    cases e : evL C l s with
    | ok ds =>
      rw [e] at q
      exact fun p vs F1 H1 s1 a1 a2 a3 r1 => q _ _ _ (s1.know a1 a3 a2) (.lst upd_same (RepA.mono (.fresh a2) _ r1))
    | exc c => rw [e] at q; exact q
    | fail => rw [e] at q; exact q.elim
theorem s_bin {op : Operator} (ha : PE X x (tE X.K EX C a)) (hb : PE X y (tE X.K EX C b)) : PE X (.BinOp x op y pos) (tE X.K EX C (.bin op a b)) :=
  (pe_op (op_bin op) ha hb).imp fun σ H Q ⟨F, s, R, q⟩ => by
    unfold ev at q
    exact ⟨F, s, R, okE.bind (wE Q) q fun dx v F1 H1 s1 r1 q1 => ⟨F1, s, R.step s1, okE.bind (wE Q) q1 fun dy u F2 H2 s2 r2 q2 => ⟨F2, dx, dy, s2.2.1, Rep.mono s2.1 _ r1, r2, okE.ans q2 (binD_nx _ _ _)⟩⟩⟩
theorem un_neg' : UnR X (unaryOp .USub) (fun x H Q => ∃ F d, Le F H ∧ Rep X.K F x d ∧ ans X.K F H (negD d) Q) := by
  intro pins s σ H x v Q I rx h
  obtain ⟨F, d, l, hd, q⟩ := h
  unfold negD at q
  split at q
  · cases hd
    exact un_neg pins s σ H _ v Q I rx ⟨_, rfl, q.flat l (.int _)⟩
  · exact q.elim
theorem s_neg (ha : PE X x (tE X.K EX C a)) : PE X (.UnaryOp .USub x pos) (tE X.K EX C (.neg a)) :=
  (pe_un un_neg' ha).imp fun σ H Q ⟨F, s, R, q⟩ => by
    unfold ev at q
    exact ⟨F, s, R, okE.bind (wE Q) q fun dx v F1 H1 s1 r1 q1 => ⟨F1, dx, s1.2.1, r1, okE.ans q1 (negD_nx _)⟩⟩
theorem okE.cmp {K : PySem.W.Frag} {F H : Hp} {r : R Bool} {Q : VK} (h : okE K EX F H (r.bind fun t => .ok (.bool t)) Q) (n : ∀ c, r ≠ .exc c) (l : Le F H) : ansB H r Q := by
  cases r with
  | ok t => exact h _ F H (.refl l) (.bl t)
  | exc c => exact absurd rfl (n c)
  | fail => exact h
theorem okA.cmp {F H : Hp} {r : R Bool} {Q : Bool → Hp → Prop} (h : okA EX F H ((r.bind fun t => .ok (.bool t)).bind truth) Q) (n : ∀ c, r ≠ .exc c) (l : Le F H) : ansB H r (fun x H' => ∃ k, x = .bl k ∧ Q k H') := by
  cases r with
  | ok t => exact ⟨t, rfl, h F H (.refl l)⟩
  | exc c => exact absurd rfl (n c)
  | fail => exact h
theorem bind_assoc {A B C' : Type} (r : R A) (f : A → R B) (g : B → R C') : (r.bind f).bind g = r.bind fun a => (f a).bind g := by
  cases r <;> rfl
theorem s_cmp {op : CmpOp} (hu : X.A.units + 200 < cLine) (ha : PE X x (tE X.K EX C a)) (hb : PE X y (tE X.K EX C b)) (hm : behindInMarks op y = false) : PE X (.Compare x [op] [y] pos) (tE X.K EX C (.cmp op a b)) :=
  (pe_cmpR (op_cmp hu op) ha hb hm).imp fun σ H Q ⟨F, s, R, q⟩ => by
    unfold ev at q
    exact ⟨F, s, R, okE.bind (wE Q) q fun dx v F1 H1 s1 r1 q1 => ⟨F1, s, R.step s1, okE.bind (wE Q) q1 fun dy u F2 H2 s2 r2 q2 => ⟨F2, dx, dy, s2.2.1, Rep.mono s2.1 _ r1, r2, okE.cmp q2 (cmpD_nx _ _ _) s2.2.1⟩⟩⟩
theorem t_cmp {op : CmpOp} (hu : X.A.units + 200 < cLine) (ha : PE X x (tE X.K EX C a)) (hb : PE X y (tE X.K EX C b)) (hm : behindInMarks op y = false) : PT X (.Compare x [op] [y] pos) (tT X.K EX C (.cmp op a b)) :=
  (pt_cmpR (op_cmp hu op) ha hb hm).imp fun σ H Q ⟨F, s, R, q⟩ => by
    unfold ev at q
    simp only [bind_assoc] at q
    exact ⟨F, s, R, okE.bind (wA Q) q fun dx v F1 H1 s1 r1 q1 => ⟨F1, s, R.step s1, okE.bind (wA Q) q1 fun dy u F2 H2 s2 r2 q2 => ⟨F2, dx, dy, s2.2.1, Rep.mono s2.1 _ r1, r2, okA.cmp (by simpa only [bind_assoc] using q2) (cmpD_nx _ _ _) s2.2.1⟩⟩⟩

/-! ### chains, and, or, not, if -/
theorem okE.chain {K : PySem.W.Frag} {F H : Hp} {r : R Bool} {f : Bool → R D} {Q : VK} {G : VK} (h : okE K EX F H (r.bind f) Q) (n : ∀ c, r ≠ .exc c) (k : ∀ t, okE K EX F H (f t) Q → G (.bl t) H) : ansB H r G := by
  cases r with
  | ok t => exact k t h
  | exc c => exact absurd rfl (n c)
  | fail => exact h
theorem okA.chain {A : Type} {F H : Hp} {r : R Bool} {f : Bool → R A} {Q : A → Hp → Prop} {G : VK} (h : okA EX F H (r.bind f) Q) (n : ∀ c, r ≠ .exc c) (k : ∀ t, okA EX F H (f t) Q → G (.bl t) H) : ansB H r G := by
  cases r with
  | ok t => exact k t h
  | exc c => exact absurd rfl (n c)
  | fail => exact h
theorem marks2 {o p : CmpOp} {y z : Expr} (h3 : p ≠ .In) (h4 : p ≠ .NotIn) : lastMarks [o, p] [y, z] = false := by
  show behindInMarks p z = false
  exact nobehind z h3 h4
theorem s_cmp2 {o p' : CmpOp} (hu : X.A.units + 200 < cLine) (ha : PE X x (tE X.K EX C a)) (hb : PE X y (tE X.K EX C b)) (hd : PE X z (tE X.K EX C d)) (hm : lastMarks [o, p'] [y, z] = false) : PE X (.Compare x [o, p'] [y, z] pos) (tE X.K EX C (.cmp2 o p' a b d)) :=
  (pe_chain (op_cmp hu o) (op_cmp hu p') ha hb hd hm).imp fun σ H Q ⟨F, s, R, q⟩ => by
    unfold ev at q
    refine ⟨F, s, R, okE.bind (wE Q) q fun dx v F1 H1 s1 r1 q1 => ⟨F1, s, R.step s1, okE.bind (wE Q) q1 fun dy u F2 H2 s2 r2 q2 => ⟨F2, dx, dy, s2.2.1, Rep.mono s2.1 _ r1, r2, okE.chain q2 (cmpD_nx _ _ _) fun t qt => ⟨t, rfl, ?_⟩⟩⟩⟩
    cases t with
    | false => exact qt _ F2 H2 (.refl s2.2.1) (.bl false)
    | true => exact ⟨F2, s, (R.step s1).step s2, okE.bind (wE Q) qt fun dz w F3 H3 s3 r3 q3 => ⟨F3, dy, dz, s3.2.1, Rep.mono s3.1 _ r2, r3, okE.cmp q3 (cmpD_nx _ _ _) s3.2.1⟩⟩
theorem t_cmp2 {o p' : CmpOp} (hu : X.A.units + 200 < cLine) (ha : PE X x (tE X.K EX C a)) (hb : PE X y (tE X.K EX C b)) (hd : PE X z (tE X.K EX C d)) (hm : lastMarks [o, p'] [y, z] = false) : PT X (.Compare x [o, p'] [y, z] pos) (tT X.K EX C (.cmp2 o p' a b d)) :=
  (pt_chain (op_cmp hu o) (op_cmp hu p') ha hb hd hm).imp fun σ H Q ⟨F, s, R, q⟩ => by
    unfold ev at q
    simp only [bind_assoc] at q
    refine ⟨F, s, R, okE.bind (wA Q) q fun dx v F1 H1 s1 r1 q1 => ⟨F1, s, R.step s1, okE.bind (wA Q) q1 fun dy u F2 H2 s2 r2 q2 => ⟨F2, dx, dy, s2.2.1, Rep.mono s2.1 _ r1, r2, okA.chain q2 (cmpD_nx _ _ _) fun t qt => ⟨t, rfl, ?_⟩⟩⟩⟩
    cases t with
    | false => exact ⟨false, rfl, qt F2 H2 (.refl s2.2.1)⟩
    | true =>
      simp only [bind_assoc] at qt
      exact ⟨F2, s, (R.step s1).step s2, okE.bind (wA Q) qt fun dz w F3 H3 s3 r3 q3 => ⟨F3, dy, dz, s3.2.1, Rep.mono s3.1 _ r2, r3, okA.cmp (by simpa only [bind_assoc] using q3) (cmpD_nx _ _ _) s3.2.1⟩⟩
theorem truth_nx (x : D) (c : Nat) : truth x ≠ .exc c := by
  unfold truth; split <;> simp
/-- the truth of a value, then the rest -/
theorem tru_then {B : Type} {W : Hp → Hp → R B → Prop} {F H : Hp} {dx : D} {v : V} {f : Bool → R B} {G : Bool → Prop} (w : Wish X.K EX W) (l : Le F H) (r : Rep X.K F v dx) (h : W F H ((truth dx).bind f)) (k : ∀ t, W F H (f t) → G t) : ∃ t, TruV X.K v H t ∧ G t := by
  cases e : truth dx with
  | ok t => rw [e] at h; exact ⟨t, tru_of l r e, k t h⟩
  | exc c => exact absurd e (truth_nx dx c)
  | fail => rw [e] at h; exact (w.fail h).elim
theorem s_and (ha : PE X x (tE X.K EX C a)) {rest : List Expr} (hb : PE X (.BoolOp .And (y :: rest) pos) (tE X.K EX C b)) : PE X (.BoolOp .And (x :: y :: rest) pos) (tE X.K EX C (.and a b)) :=
  (pe_andT ha hb).imp fun σ H Q ⟨F, s, R, q⟩ => by
    unfold ev at q
    refine ⟨F, s, R, okE.bind (wE Q) q fun dx v F1 H1 s1 r1 q1 => tru_then (wE Q) s1.2.1 r1 q1 fun t qt => ?_⟩
    cases t with
    | true => exact ⟨F1, s, R.step s1, qt⟩
    | false => exact qt _ F1 H1 (.refl s1.2.1) r1
theorem s_or (ha : PE X x (tE X.K EX C a)) {rest : List Expr} (hb : PE X (.BoolOp .Or (y :: rest) pos) (tE X.K EX C b)) : PE X (.BoolOp .Or (x :: y :: rest) pos) (tE X.K EX C (.or a b)) :=
  (pe_orT ha hb).imp fun σ H Q ⟨F, s, R, q⟩ => by
    unfold ev at q
    refine ⟨F, s, R, okE.bind (wE Q) q fun dx v F1 H1 s1 r1 q1 => tru_then (wE Q) s1.2.1 r1 q1 fun t qt => ?_⟩
    cases t with
    | false => exact ⟨F1, s, R.step s1, qt⟩
    | true => exact qt _ F1 H1 (.refl s1.2.1) r1
theorem s_not (ha : PE X x (tE X.K EX C a)) : PE X (.UnaryOp .Not x pos) (tE X.K EX C (.not a)) :=
  (pe_notT ha).imp fun σ H Q ⟨F, s, R, q⟩ => by
    unfold ev at q
    exact ⟨F, s, R, okE.bind (wE Q) q fun dx v F1 H1 s1 r1 q1 => tru_then (wE Q) s1.2.1 r1 q1 fun t qt => qt _ F1 H1 (.refl s1.2.1) (.bl _)⟩
/-- by truth, a plain expression -/
theorem t_plain (ha : PE X x (tE X.K EX C a)) (he : ∀ whole, isTrue x X.env whole = (do let v ← whole; standAt x.pos; holding [v] (truthy v))) : PT X x (tT X.K EX C a) :=
  (pt_truth ha he).imp fun σ H Q ⟨F, s, R, q⟩ =>
    ⟨F, s, R, okE.bind (wA Q) q fun dx v F1 H1 s1 r1 q1 => by
      cases e : truth dx with
      | ok t => rw [e] at q1; exact ⟨t, tru_of s1.2.1 r1 e, q1 F1 H1 (.refl s1.2.1)⟩
      | exc c => exact absurd e (truth_nx dx c)
      | fail => rw [e] at q1; exact q1.elim⟩
theorem okA.bindA {A B : Type} {F H : Hp} {r : R A} {f : A → R B} {Q : B → Hp → Prop} {G : A → Hp → Prop} (h : okA EX F H (r.bind f) Q) (k : ∀ t F1 H1, Stp F H F1 H1 → r = .ok t → okA EX F1 H1 (f t) Q → G t H1) : okA EX F H r G := by
  cases r with
  | ok t => exact fun F1 H1 s => k t F1 H1 s rfl (okA.mono h s)
  | exc c => exact h
  | fail => exact h
theorem and_truth (x : D) {b : E} {s : Sd} : (((truth x).bind fun t => match t with | true => ev C b s | false => R.ok x).bind truth) = (truth x).bind fun t => match t with | true => (ev C b s).bind truth | false => .ok false := by
  cases e : truth x with
  | ok t => cases t with
    | true => rfl
    | false => exact e
  | exc c => rfl
  | fail => rfl
theorem or_truth (x : D) {b : E} {s : Sd} : (((truth x).bind fun t => match t with | true => R.ok x | false => ev C b s).bind truth) = (truth x).bind fun t => match t with | false => (ev C b s).bind truth | true => .ok true := by
  cases e : truth x with
  | ok t => cases t with
    | true => exact e
    | false => rfl
  | exc c => rfl
  | fail => rfl
theorem t_and (ha : PT X x (tT X.K EX C a)) {rest : List Expr} (hb : PW X (.BoolOp .And (y :: rest) pos) (tT X.K EX C b)) : PW X (.BoolOp .And (x :: y :: rest) pos) (tT X.K EX C (.and a b)) :=
  (pw_and ha hb).imp fun σ H Q ⟨F, s, R, q⟩ => by
    unfold ev at q
    simp only [bind_assoc] at q
    have q' : okA EX F H (((ev C a s).bind truth).bind fun t => match t with | true => (ev C b s).bind truth | false => .ok false) Q := by
      rw [bind_assoc]
      simp only [← and_truth, bind_assoc]
      exact q
    refine ⟨F, s, R, okA.bindA q' fun t F1 H1 s1 _ q1 => ?_⟩
    cases t with
    | true => exact ⟨F1, s, R.step s1, q1⟩
    | false => exact q1 F1 H1 (.refl s1.2.1)
theorem t_or (ha : PT X x (tT X.K EX C a)) {rest : List Expr} (hb : PW X (.BoolOp .Or (y :: rest) pos) (tT X.K EX C b)) : PW X (.BoolOp .Or (x :: y :: rest) pos) (tT X.K EX C (.or a b)) :=
  (pw_or ha hb).imp fun σ H Q ⟨F, s, R, q⟩ => by
    unfold ev at q
    simp only [bind_assoc] at q
    have q' : okA EX F H (((ev C a s).bind truth).bind fun t => match t with | false => (ev C b s).bind truth | true => .ok true) Q := by
      rw [bind_assoc]
      simp only [← or_truth, bind_assoc]
      exact q
    refine ⟨F, s, R, okA.bindA q' fun t F1 H1 s1 _ q1 => ?_⟩
    cases t with
    | false => exact ⟨F1, s, R.step s1, q1⟩
    | true => exact q1 F1 H1 (.refl s1.2.1)
theorem t_not (ha : PT X x (tT X.K EX C a)) : PT X (.UnaryOp .Not x pos) (tT X.K EX C (.not a)) :=
  (pt_not ha).imp fun σ H Q ⟨F, s, R, q⟩ => by
    unfold ev at q
    simp only [bind_assoc] at q
    have q' : okA EX F H (((ev C a s).bind truth).bind fun t => .ok (!t)) Q := by
      rw [bind_assoc]
      exact q
    exact ⟨F, s, R, okA.bindA q' fun t F1 H1 s1 _ q1 => q1 F1 H1 (.refl s1.2.1)⟩
theorem s_ite {t : E} (ht : PT X x (tT X.K EX C t)) (ha : PE X y (tE X.K EX C a)) (hb : PE X z (tE X.K EX C b)) : PE X (.IfExp x y z pos) (tE X.K EX C (.ite t a b)) :=
  (pe_ifExp ht ha hb).imp fun σ H Q ⟨F, s, R, q⟩ => by
    unfold ev at q
    have q' : okE X.K EX F H (((ev C t s).bind truth).bind fun t => match t with | true => ev C a s | false => ev C b s) Q := by
      rw [bind_assoc]
      exact q
    refine ⟨F, s, R, okA.bind (wE Q) q' fun t F1 H1 s1 q1 => ?_⟩
    cases t with
    | true => exact ⟨F1, s, R.step s1, q1⟩
    | false => exact ⟨F1, s, R.step s1, q1⟩

/-! ### subscripts, calls, built-ins -/
theorem s_idx (ha : PE X x (tE X.K EX C a)) (hb : PE X y (tE X.K EX C b)) (hs : PlainIx y) : PE X (.Subscript x y pos) (tE X.K EX C (.idx a b)) :=
  (pe_ix ix_any ha hb hs).imp fun σ H Q ⟨F, s, R, q⟩ => by
    unfold ev at q
    exact ⟨F, s, R, okE.bind (wE Q) q fun dx v F1 H1 s1 r1 q1 => ⟨F1, s, R.step s1, okE.bind (wE Q) q1 fun dy u F2 H2 s2 r2 q2 => ⟨F2, dx, dy, s2.2.1, Rep.mono s2.1 _ r1, r2, okE.ans q2 (idxD_nx _ _)⟩⟩⟩
theorem s_slc {l u : Option Expr} {lo hi : Eo} (ha : PE X x (tE X.K EX C a)) (hl : PO X l (tO X.K EX C lo)) (hu : PO X u (tO X.K EX C hi)) : PE X (.Subscript x (.Slice l u none p2) pos) (tE X.K EX C (.slc a lo hi)) :=
  (pe_slice sl_any ha hl hu).imp fun σ H Q ⟨F, s, R, q⟩ => by
    unfold ev at q
    exact ⟨F, s, R, okE.bind (wE Q) q fun dx v F1 H1 s1 r1 q1 => ⟨F1, s, R.step s1, okA.bind (wE Q) q1 fun l F2 H2 s2 q2 => ⟨F2, s, (R.step s1).step s2, okA.bind (wE Q) q2 fun u F3 H3 s3 q3 =>
      ⟨F3, dx, s3.2.1, Rep.mono (s2.1.trans s3.1) _ r1, okE.ans q3 (slcD_nx _ _ _)⟩⟩⟩⟩
theorem o_no : PO X none (tO X.K EX C .no) := po_none.imp fun σ H Q ⟨F, s, R, q⟩ => q F H (.refl R.le)
theorem intOf_nx (x : D) (c : Nat) : intOf x ≠ .exc c := by
  unfold intOf; split <;> simp
theorem o_yes (ha : PE X x (tE X.K EX C a)) : PO X (some x) (tO X.K EX C (.yes a)) :=
  (po_some ha).imp fun σ H Q ⟨F, s, R, q⟩ => by
    unfold evo at q
    refine ⟨F, s, R, okE.bind (wA Q) q fun dx v F1 H1 s1 r1 q1 => ?_⟩
    cases r1 with
    | int i => exact ⟨i, rfl, q1 F1 H1 (.refl s1.2.1)⟩
    | _ => exact q1.elim
theorem es_nil : PA X [] (tEs X.K EX C .nil) := pa_nil.imp fun σ H Q ⟨F, s, R, q⟩ => q [] F H (.refl R.le) .nil
theorem es_cons {xs : List Expr} {es : Es} (ha : PE X x (tE X.K EX C a)) (hr : PA X xs (tEs X.K EX C es)) (hs : starEach (x :: xs) X.env = (false, eval x X.env) :: starEach xs X.env) : PA X (x :: xs) (tEs X.K EX C (.cons a es)) :=
  (pa_cons ha hr hs).imp fun σ H Q ⟨F, s, R, q⟩ => by
    unfold evs at q
    exact ⟨F, s, R, okE.bind (wEs Q) q fun dx v F1 H1 s1 r1 q1 => ⟨F1, s, R.step s1, okEs.bind (wEs Q) q1 fun ds vs F2 H2 s2 r2 q2 => q2 _ F2 H2 (.refl s2.2.1) (.cons (Rep.mono s2.1 _ r1) r2)⟩⟩
theorem s_call {c : Ck} {xv : Nat → Value} {k : Nat} (ok : CxOk c C xv k X EX) {f : Nat} {n : Str} {es : Es} {xs : List Expr} (hf : c.fns[f]? = some (some n)) (hg : Gl X n) (h1 : (n == ("__debug__" : Str)) = false) (ha : PA X xs (tEs X.K EX C es))
    (hs : ∀ e r, xs = e :: r → starEach (e :: r) X.env = (false, eval e X.env) :: starEach r X.env ∧ (backTo pos (starEach r X.env)).any (·.1) = false) (h0 : xs = [] → es = .nil) : PE X (.Call (.Name n p) xs [] pos) (tE X.K EX C (.call f es)) := by
  obtain ⟨ad, fd, ps, F1, hm, hk, hb⟩ := ok.amb.fn f n hf
  have imp : ∀ σ H Q, tE X.K EX C (.call f es) σ H Q → tCall (spR X.K xv (C.call f)) [] (xwish xv EX) (tEs X.K EX C es) σ H Q := fun σ H Q ⟨F, s, R, q⟩ => by
    unfold ev at q
    refine ⟨F, s, R, okEs.bind (wE Q) q fun ds vs F1 H1 s1 r1 q1 => ?_⟩
    rw [List.append_nil]
    refine ⟨F1, ds, s1.2.1, r1, ?_⟩
    cases e : C.call f ds with
    | ok d => rw [e] at q1; exact q1
    | exc c => rw [e] at q1; exact fun F' H' s' => ⟨c, rfl, rfl, q1 F' H' s'⟩
    | fail => rw [e] at q1; exact q1
  cases xs with
  | nil =>
    have e0 := h0 rfl
    subst e0
    refine (pe_call0 F1 ok.room hg hm hk hb .nil ok.pas h1).imp fun σ H Q q => ?_
    obtain ⟨F, s, R, q⟩ := imp σ H Q q
    exact q [] F H (.refl R.le) .nil
  | cons e r =>
    obtain ⟨h2, h3⟩ := hs e r rfl
    exact (pe_call F1 ok.room hg hm hk hb .nil ok.pas ha h1 h2 h3).imp imp

/-! ### built-ins -/
theorem nb {n : Str} (h : (n == ("__name__" : Str)) = false) : n ≠ "__name__" := fun e => by rw [e] at h; simp at h
theorem one_arg (ha : PE X x (tE X.K EX C a)) (hx : noStar x = true) : PA X [x] (tCons (tE X.K EX C a) tNil) := pa_cons ha pa_nil (starEach_cons hx)
theorem two_args (ha : PE X x (tE X.K EX C a)) (hx : noStar x = true) (hb : PE X y (tE X.K EX C b)) (hy : noStar y = true) : PA X [x, y] (tCons (tE X.K EX C a) (tCons (tE X.K EX C b) tNil)) := pa_cons ha (one_arg hb hy) (starEach_cons hx)
theorem backTo1 {y : Expr} (h : noStar y = true) (env : Env) : (backTo pos (starEach [y] env)).any (·.1) = false := by
  rw [starEach_cons h]; rfl
theorem s_bi {b' : Bi} (hc : X.calm = true) (hg : Gl X (biName b')) (hm : X.mg (biName b') = none) (ha : PE X x (tE X.K EX C a)) (hx : noStar x = true) : PE X (.Call (.Name (biName b') p) [x] [] pos) (tE X.K EX C (.bi b' a)) := by
  have imp : ∀ σ H Q, tE X.K EX C (.bi b' a) σ H Q → tCB (rBi X.K b') (tCons (tE X.K EX C a) tNil) σ H Q := fun σ H Q ⟨F, s, R, q⟩ => by
    unfold ev at q
    exact ⟨F, s, R, okE.bind (wE Q) q fun dx v F1 H1 s1 r1 q1 => ⟨v, F1, dx, rfl, s1.2.1, r1, okE.ans q1 (biD_nx _ _)⟩⟩
  cases b' with
  | len => exact (pe_callB (call_bi hc .len) hg hm (by decide +kernel) (one_arg ha hx) (by decide) (by decide) (starEach_cons hx) rfl).imp imp
  | all => exact (pe_callB (call_bi hc .all) hg hm (by decide +kernel) (one_arg ha hx) (by decide) (by decide) (starEach_cons hx) rfl).imp imp
  | any => exact (pe_callB (call_bi hc .any) hg hm (by decide +kernel) (one_arg ha hx) (by decide) (by decide) (starEach_cons hx) rfl).imp imp
  | sum => exact (pe_callB (call_bi hc .sum) hg hm (by decide +kernel) (one_arg ha hx) (by decide) (by decide) (starEach_cons hx) rfl).imp imp
  | tuple => exact (pe_callTy (call_bi hc .tuple) hg hm (by decide +kernel) (one_arg ha hx) (by decide) (by decide) (starEach_cons hx) rfl).imp imp
  | int => exact (pe_callTy (call_bi hc .int) hg hm (by decide +kernel) (one_arg ha hx) (by decide) (by decide) (starEach_cons hx) rfl).imp imp
theorem s_min2 (hc : X.calm = true) (hg : Gl X "min") (hm : X.mg "min" = none) (ha : PE X x (tE X.K EX C a)) (hx : noStar x = true) (hb : PE X y (tE X.K EX C b)) (hy : noStar y = true) : PE X (.Call (.Name "min" p) [x, y] [] pos) (tE X.K EX C (.min2 a b)) :=
  (pe_callB (call_mn hc) hg hm (by decide +kernel) (two_args ha hx hb hy) (by decide) (by decide) (starEach_cons hx) (backTo1 hy _)).imp fun σ H Q ⟨F, s, R, q⟩ => by
    unfold ev at q
    exact ⟨F, s, R, okE.bind (wE Q) q fun dx v F1 H1 s1 r1 q1 => ⟨F1, s, R.step s1, okE.bind (wE Q) q1 fun dy u F2 H2 s2 r2 q2 => ⟨v, u, F2, dx, dy, rfl, s2.2.1, Rep.mono s2.1 _ r1, r2, okE.ans q2 (min2D_nx _ _)⟩⟩⟩
theorem tyVal (t : Ty) : bootBuiltins (tyName t) = some (.type (tyName t)) := by
  cases t <;> decide +kernel
theorem tyName_ok (t : Ty) : ((tyName t : Str) == ("__debug__" : Str)) = false ∧ ((tyName t : Str) ≠ ("__name__" : Str)) := by
  cases t <;> (simp only [tyName]; decide)
theorem s_isi {t : Ty} (hg : Gl X "isinstance") (hm : X.mg "isinstance" = none) (hgt : Gl X (tyName t)) (hmt : X.mg (tyName t) = none) (ha : PE X x (tE X.K EX C a)) (hx : noStar x = true) : PE X (.Call (.Name "isinstance" p) [x, .Name (tyName t) p2] [] pos) (tE X.K EX C (.isi a t)) :=
  (pe_callB (call_isT t) hg hm (by decide +kernel) (pa_cons ha (pa_cons (pe_bltn (v := .ty (tyName t)) hgt hmt (tyVal t) rfl (tyName_ok t).2 (tyName_ok t).1) pa_nil rfl) (starEach_cons hx)) (by decide) (by decide) (starEach_cons hx) rfl).imp fun σ H Q ⟨F, s, R, q⟩ => by
    unfold ev at q
    exact ⟨F, s, R, okE.bind (wE Q) q fun dx v F1 H1 s1 r1 q1 => ⟨v, F1, dx, rfl, s1.2.1, r1, q1 _ F1 H1 (.refl s1.2.1) (.bl _)⟩⟩
theorem s_isi2 {t u : Ty} {j : Nat} {p4 : Pos} (hg : Gl X "isinstance") (hm : X.mg "isinstance" = none) (hgt : Gl X (tyName t)) (hmt : X.mg (tyName t) = none) (hgu : Gl X (tyName u)) (hmu : X.mg (tyName u) = none) (ha : PE X x (tE X.K EX C a)) (hx : noStar x = true) :
    PE X (.Call (.Name "isinstance" p) [x, .Tuple [.Name (tyName t) p2, .Name (tyName u) p3] j p4] [] pos) (tE X.K EX C (.isi2 a t u)) :=
  (pe_callB (call_isT2 t u) hg hm (by decide +kernel) (pa_cons ha (pa_cons (pe_tup (pa_cons (pe_bltn (v := .ty (tyName t)) hgt hmt (tyVal t) rfl (tyName_ok t).2 (tyName_ok t).1) (pa_cons (pe_bltn (v := .ty (tyName u)) hgu hmu (tyVal u) rfl (tyName_ok u).2 (tyName_ok u).1) pa_nil rfl) rfl)) pa_nil rfl) (starEach_cons hx)) (by decide) (by decide) (starEach_cons hx) rfl).imp fun σ H Q ⟨F, s, R, q⟩ => by
    unfold ev at q
    exact ⟨F, s, R, okE.bind (wE Q) q fun dx v F1 H1 s1 r1 q1 => ⟨by show 2 ≤ sizeLine; decide, fun tp htp => ⟨v, tp, F1, dx, rfl, upd_same, s1.2.1.updR (s1.2.1.non htp), r1, q1 _ F1 _ (.loose s1.2.1 htp) (.bl _)⟩⟩⟩

theorem s_rev {j : Nat} (ha : PE X x (tE X.K EX C a)) : PE X (.Subscript x (.Slice none none (some (.UnaryOp .USub (.Constant (.int 1) j p) p2)) p3) pos) (tE X.K EX C (.rev a)) :=
  (pe_revT ha).imp fun σ H Q ⟨F, s, R, q⟩ => by
    unfold ev at q
    refine ⟨F, s, R, okE.bind (wE Q) q fun dx v F1 H1 s1 r1 q1 => ?_⟩
    cases r1 with
    | tup h r => exact ⟨_, _, rfl, s1.2.1.sqT h, fun tp hp => ans.tup (K := X.K) (F := F1) q1 s1.2.1 r.reverse hp⟩
    | _ => exact q1.elim
theorem asc.upper {z : Str} (h : asc z) : asc ⟨z.cps.map PyProof.Rows.up1⟩ := by
  intro c hc
  have hc' : c ∈ z.cps.toList.map PyProof.Rows.up1 := by simpa using hc
  obtain ⟨d, hd, rfl⟩ := List.mem_map.mp hc'
  have := h d hd
  unfold PyProof.Rows.up1
  split <;> omega
theorem s_upper {apos : Pos} (hb : attributeBase x "upper" X.env (eval x X.env) = eval x X.env) (hl : (apos.endLine == pos.line) = true) (ha : PE X x (tE X.K EX C a)) : PE X (.Call (.Attribute x "upper" apos) [] [] pos) (tE X.K EX C (.upper a)) :=
  (pe_upper ha hb hl).imp fun σ H Q ⟨F, s, R, q⟩ => by
    unfold ev at q
    refine ⟨F, s, R, okE.bind (wE Q) q fun dx v F1 H1 s1 r1 q1 => ?_⟩
    cases r1 with
    | str z h =>
      simp only [upperD] at q1
      split at q1
      · rename_i hz
        refine ⟨⟨_, rfl⟩, z, rfl, rfl, Nat.le_trans hz (by decide), ?_⟩
        rw [PyProof.Rows.upper_ascii h]
        exact q1 _ F1 H1 (.refl s1.2.1) (.str _ h.upper)
      · exact q1.elim
    | _ => exact q1.elim
/-! ### owned lists, the script -/
theorem s_lenO {i : Nat} {n : Str} (hg : Gl X "len") (hm : X.mg "len" = none) (hN : X.N[i]? = some n) (hv : Vis X.env.scope n) (h1 : (n == ("__debug__" : Str)) = false) (h2 : (n == ("__classdict__" : Str)) = false) : PE X (.Call (.Name "len" p) [.Name n p2] [] pos) (tE X.K EX C (.lenO i)) :=
  (pe_callB call_len hg hm (by decide +kernel) (pa_cons (pe_var hN hv h1 h2) pa_nil rfl) (by decide) (by decide) rfl rfl).imp fun σ H Q ⟨F, s, R, q⟩ => by
    unfold ev at q
    split at q
    · rename_i h
      obtain ⟨v, e, ad, vs, rfl, n1, h3, r⟩ := R.sl i _ h
      refine ⟨_, e, _, _, rfl, .inl ⟨_, SqL.of h3, rfl⟩, ?_⟩
      rw [r.length]
      exact q _ F H (.refl R.le) (.int _)
    · exact q.elim
theorem s_inO {i : Nat} {n : Str} {neg : Bool} (hu : X.A.units + 200 < cLine) (ha : PE X x (tE X.K EX C a)) (hN : X.N[i]? = some n) (hv : Vis X.env.scope n) (h1 : (n == ("__debug__" : Str)) = false) (h2 : (n == ("__classdict__" : Str)) = false) :
    PE X (.Compare x [if neg then .NotIn else .In] [.Name n p2] pos) (tE X.K EX C (.inO neg a i)) := by
  have hm : behindInMarks (if neg then .NotIn else .In) (.Name n p2) = false := by cases neg <;> rfl
  refine (pe_cmpR (op_cmp hu _) ha (pe_var hN hv h1 h2) hm).imp fun σ H Q ⟨F, s, R, q⟩ => ?_
  unfold ev at q
  refine ⟨F, s, R, okE.bind (wE Q) q fun dx v F1 H1 s1 r1 q1 => ?_⟩
  split at q1
  · rename_i h
    obtain ⟨w, e, ad, vs, rfl, n1, h3, r⟩ := (R.step s1).sl i _ h
    split at q1
    · rename_i hz
      refine ⟨_, e, upd F1 ad (.lst vs), dx, .list _, fun b o hb => ?_, Rep.mono (.fresh n1) _ r1, .lst upd_same (RepA.mono (.fresh n1) _ r), ?_⟩
      · by_cases hb' : b = ad
        · subst hb'; rw [upd_same] at hb; cases hb; exact h3
        · rw [upd_ne hb'] at hb; exact s1.2.1 b o hb
      · cases neg with
        | true =>
          show ansB H1 (cmpD .NotIn dx (.list _)) Q
          simp only [cmpD, hz, if_true]
          exact q1 _ F1 H1 (.refl s1.2.1) (.bl _)
        | false =>
          show ansB H1 (cmpD .In dx (.list _)) Q
          simp only [cmpD, hz, if_true]
          exact q1 _ F1 H1 (.refl s1.2.1) (.bl _)
    · exact q1.elim
  · exact q1.elim
theorem t_inO {i : Nat} {n : Str} {neg : Bool} (hu : X.A.units + 200 < cLine) (ha : PE X x (tE X.K EX C a)) (hN : X.N[i]? = some n) (hv : Vis X.env.scope n) (h1 : (n == ("__debug__" : Str)) = false) (h2 : (n == ("__classdict__" : Str)) = false) :
    PT X (.Compare x [if neg then .NotIn else .In] [.Name n p2] pos) (tT X.K EX C (.inO neg a i)) := by
  have hm : behindInMarks (if neg then .NotIn else .In) (.Name n p2) = false := by cases neg <;> rfl
  refine (pt_cmpR (op_cmp hu _) ha (pe_var hN hv h1 h2) hm).imp fun σ H Q ⟨F, s, R, q⟩ => ?_
  unfold ev at q
  simp only [bind_assoc] at q
  refine ⟨F, s, R, okE.bind (wA Q) q fun dx v F1 H1 s1 r1 q1 => ?_⟩
  split at q1
  · rename_i h
    obtain ⟨w, e, ad, vs, rfl, n1, h3, r⟩ := (R.step s1).sl i _ h
    split at q1
    · rename_i hz
      refine ⟨_, e, upd F1 ad (.lst vs), dx, .list _, fun b o hb => ?_, Rep.mono (.fresh n1) _ r1, .lst upd_same (RepA.mono (.fresh n1) _ r), ?_⟩
      · by_cases hb' : b = ad
        · subst hb'; rw [upd_same] at hb; cases hb; exact h3
        · rw [upd_ne hb'] at hb; exact s1.2.1 b o hb
      · cases neg with
        | true =>
          show ansB H1 (cmpD .NotIn dx (.list _)) _
          simp only [cmpD, hz, if_true]
          exact ⟨_, rfl, q1 F1 H1 (.refl s1.2.1)⟩
        | false =>
          show ansB H1 (cmpD .In dx (.list _)) _
          simp only [cmpD, hz, if_true]
          exact ⟨_, rfl, q1 F1 H1 (.refl s1.2.1)⟩
    · exact q1.elim
  · exact q1.elim
theorem s_cell {c : Ck} {xv : Nat → Value} {k : Nat} (ok : CxOk c C xv k X EX) {i : Nat} {n : Str} (hg : Gl X "_law_cell") (hN : X.N[i]? = some n) (hv : Vis X.env.scope n) (h1 : (n == ("__debug__" : Str)) = false) (h2 : (n == ("__classdict__" : Str)) = false)
    (ha : PE X x (tE X.K EX C a)) (hx : noStar x = true) : PE X (.Call (.Name "_law_cell" p) [.Name n p2, x] [] pos) (tE X.K EX C (.cell i a)) := by
  obtain ⟨ad, fd, ps, F1, hm, hk, hb⟩ := ok.amb.cl
  refine (pe_call F1 ok.room hg hm hk hb .nil ok.pas (pa_cons (pe_var hN hv h1 h2) (one_arg ha hx) rfl) (by decide) rfl (backTo1 hx _)).imp fun σ H Q ⟨F, s, R, q⟩ => ?_
  unfold ev at q
  split at q
  · rename_i h
    obtain ⟨v, e, b, rfl, r⟩ := R.sl i _ h
    refine ⟨_, e, F, s, R, okE.bind (wE Q) q fun dx v F1 H1 s1 r1 q1 => ?_⟩
    cases r1 with
    | int k =>
      simp only at q1
      split at q1
      · rename_i hz
        exact ⟨b, _, k, rfl, (s1.1.trans s1.2.1).sqL r, hz, q1 _ F1 H1 (.refl s1.2.1) (.int _)⟩
      · exact q1.elim
    | _ => exact q1.elim
  · exact q.elim

theorem s_rows {c : Ck} {xv : Nat → Value} {k : Nat} (ok : CxOk c C xv k X EX) {n : Str} (hf : c.io = some n) (hg : Gl X n) (h1 : (n == ("__debug__" : Str)) = false) (ha : PE X x (tE X.K EX C a)) (hx : noStar x = true) (hb : PE X y (tE X.K EX C b)) (hy : noStar y = true) :
    PE X (.Call (.Name n p) [x, y, .List [] p2] [] pos) (tE X.K EX C (.rows a b)) := by
  obtain ⟨ad, fd, ps, F1, hm, hk, hbd⟩ := ok.amb.io n hf
  have h3 : (backTo pos (starEach [y, .List [] p2] X.env)).any (·.1) = false := by
    rw [starEach_cons hy]; rfl
  refine (pe_call F1 ok.room hg hm hk hbd .nil ok.pas (pa_cons ha (pa_cons hb (pa_cons (pe_lst pa_nil) pa_nil rfl) (starEach_cons hy)) (starEach_cons hx)) h1 (starEach_cons hx) h3).imp fun σ H Q ⟨F, s, R, q⟩ => ?_
  unfold ev at q
  refine ⟨F, s, R, okE.bind (wE Q) q fun dx v F1 H1 s1 r1 q1 => ⟨F1, s, R.step s1, okE.bind (wE Q) q1 fun dy u F2 H2 s2 r2 q2 => ⟨by show 0 ≤ sizeLine; exact Nat.zero_le _, fun ad hp => ?_⟩⟩⟩
  cases e : C.io dx dy [] with
  | none => rw [e] at q2; exact q2.elim
  | some es =>
    rw [e] at q2
    have hd : del (upd H2 ad (.lst [])) ad = H2 := by
      funext bb
      by_cases hbb : bb = ad
      · subst hbb; rw [del_same, hp]
      · rw [del_ne hbb, upd_ne hbb]
    have fn := s2.2.1.non hp
    refine ⟨F2, dx, dy, [], es, ad, v, u, [], rfl, s2.2.1.updR fn, fn, upd_same, Rep.mono s2.1 _ r1, r2, .nil, e, fun v' G1 G2 H' xs' t1 _ _ _ t2 rv => ?_⟩
    rw [hd] at t2
    exact q2 v' G2 H' t2 rv
/-! ### new lists -/
theorem l_disp {es : Es} {xs : List Expr} (h : PA X xs (tEs X.K EX C es)) (hl : xs.length ≤ 1000) (hk : ∀ s ds, evs C es s = .ok ds → ds.length = xs.length) : PE X (.List xs pos) (tL X.K EX C (.disp es)) :=
  (pe_lst h).imp fun σ H Q ⟨F, s, R, q⟩ => by
    unfold evL at q
    refine ⟨F, s, R, ?_⟩
    cases e : evs C es s with
    | ok ds =>
      rw [e] at q
      intro vs F1 H1 s1 r1
      refine ⟨?_, fun p hp => ?_⟩
      · rw [r1.length, hk s ds e, sizeLine_eq]; omega
      · exact q p vs F1 _ (s1.trans (.loose s1.2.1 hp)) (s1.2.2.1.non hp) (s1.2.1.non hp) upd_same r1
    | exc c => rw [e] at q; exact q
    | fail => rw [e] at q; exact q.elim
theorem l_cat (ha : PE X x (tE X.K EX C a)) (hb : PE X y (tE X.K EX C b)) : PE X (.BinOp x .Add y pos) (tL X.K EX C (.cat a b)) :=
  (pe_op op_catL ha hb).imp fun σ H Q ⟨F, s, R, q⟩ => by
    unfold evL at q
    exact ⟨F, s, R, okE.bind (wL Q) q fun dx v F1 H1 s1 r1 q1 => ⟨F1, s, R.step s1, okE.bind (wL Q) q1 fun dy u F2 H2 s2 r2 q2 => ⟨F2, dx, dy, s2.2.1, Rep.mono s2.1 _ r1, r2, okL.ans q2 (cat_nx _ _)⟩⟩⟩
theorem l_rep (ha : PE X x (tE X.K EX C a)) (hb : PE X y (tE X.K EX C b)) : PE X (.BinOp x .Mult y pos) (tL X.K EX C (.rep a b)) :=
  (pe_op op_repL ha hb).imp fun σ H Q ⟨F, s, R, q⟩ => by
    unfold evL at q
    exact ⟨F, s, R, okE.bind (wL Q) q fun dx v F1 H1 s1 r1 q1 => ⟨F1, s, R.step s1, okE.bind (wL Q) q1 fun dy u F2 H2 s2 r2 q2 => ⟨F2, dx, dy, s2.2.1, Rep.mono s2.1 _ r1, r2, okL.ans q2 (rep_nx _ _)⟩⟩⟩
theorem l_ofs (hg : Gl X "list") (hm : X.mg "list" = none) (ha : PE X x (tE X.K EX C a)) (hx : noStar x = true) : PE X (.Call (.Name "list" p) [x] [] pos) (tL X.K EX C (.ofs a)) :=
  (pe_callTy call_ofs hg hm (by decide +kernel) (one_arg ha hx) (by decide) (by decide) (starEach_cons hx) rfl).imp fun σ H Q ⟨F, s, R, q⟩ => by
    unfold evL at q
    exact ⟨F, s, R, okE.bind (wL Q) q fun dx v F1 H1 s1 r1 q1 => ⟨v, F1, dx, rfl, s1.2.1, r1, okL.ans q1 (seqOf_nx _)⟩⟩

/-! ### what is walked -/
section
variable {tg : Expr}
theorem i_seq (ha : PE X x (tE X.K EX C a)) : PI X tg x (tI X.K EX C (.seq a)) :=
  (pi_seq ha).imp fun σ H Q ⟨F, s, R, q⟩ => by
    unfold evI at q
    refine ⟨F, s, R, okE.bind (wI Q) q fun dx v F1 H1 s1 r1 q1 => ?_⟩
    cases r1 with
    | lst h r => exact .inl ⟨_, _, rfl, SqL.of (s1.2.1 _ _ h), q1 _ F1 H1 (.refl s1.2.1) (.list h r)⟩
    | tup h r => exact .inr (.inl ⟨_, _, rfl, s1.2.1.sqT h, q1 _ F1 H1 (.refl s1.2.1) (.tup h r)⟩)
    | str z h => exact .inr (.inr ⟨z, rfl, q1 _ F1 H1 (.refl s1.2.1) (.str h)⟩)
    | _ => exact q1.elim
theorem i_rng1 (hg : Gl X "range") (hm : X.mg "range" = none) (ha : PE X x (tE X.K EX C a)) (hx : noStar x = true) : PI X tg (.Call (.Name "range" p) [x] [] pos) (tI X.K EX C (.rng1 a)) :=
  (pi_range1 hg hm (one_arg ha hx) (starEach_cons hx)).imp fun σ H Q ⟨F, s, R, q⟩ => by
    unfold evI at q
    refine ⟨F, s, R, okE.bind (wI Q) q fun dx v F1 H1 s1 r1 q1 => ?_⟩
    cases r1 with
    | int i =>
      simp only [intOf, Tf.R.bind_ok, rng] at q1
      split at q1
      · rename_i hz
        refine ⟨i, rfl, hz.2.2.1, hz.2.2.2, ?_⟩
        rw [Int.sub_zero] at q1
        exact q1 _ F1 H1 (.refl s1.2.1) .rng
      · exact q1.elim
    | _ => exact q1.elim
theorem i_rng2 (hg : Gl X "range") (hm : X.mg "range" = none) (ha : PE X x (tE X.K EX C a)) (hx : noStar x = true) (hb : PE X y (tE X.K EX C b)) (hy : noStar y = true) : PI X tg (.Call (.Name "range" p) [x, y] [] pos) (tI X.K EX C (.rng2 a b)) :=
  (pi_range2 hg hm (two_args ha hx hb hy) (by rw [starEach_cons hx, starEach_cons hy]; rfl) (starEach_cons hy)).imp fun σ H Q ⟨F, s, R, q⟩ => by
    unfold evI at q
    refine ⟨F, s, R, okE.bind (wI Q) q fun dx v F1 H1 s1 r1 q1 => ⟨F1, s, R.step s1, okE.bind (wI Q) q1 fun dy u F2 H2 s2 r2 q2 => ?_⟩⟩
    cases r1 with
    | int i =>
      cases r2 with
      | int j =>
        simp only [intOf, Tf.R.bind_ok, rng] at q2
        split at q2
        · rename_i hz
          exact ⟨i, j, rfl, hz, q2 _ F2 H2 (.refl s2.2.1) .rng⟩
        · exact q2.elim
      | _ => exact q2.elim
    | _ => exact q2.elim
theorem i_enum {elts : List Expr} {kk : Nat} {tpos : Pos} (hg : Gl X "enumerate") (hm : X.mg "enumerate" = none) (ha : PE X x (tE X.K EX C a)) (hx : noStar x = true) : PI X (.Tuple elts kk tpos) (.Call (.Name "enumerate" p) [x] [] pos) (tI X.K EX C (.enum a)) :=
  (pi_enumA hg hm (one_arg ha hx) (starEach_cons hx)).imp fun σ H Q ⟨F, s, R, q⟩ => by
    unfold evI at q
    refine ⟨F, s, R, okE.bind (wI Q) q fun dx v F1 H1 s1 r1 q1 => ?_⟩
    cases r1 with
    | lst h r => exact .inl ⟨_, _, rfl, SqL.of (s1.2.1 _ _ h), q1 _ F1 H1 (.refl s1.2.1) (.enumL h r)⟩
    | tup h r => exact .inr ⟨_, _, rfl, s1.2.1.sqT h, q1 _ F1 H1 (.refl s1.2.1) (.enumT h r)⟩
    | _ => exact q1.elim
theorem i_zip {elts : List Expr} {kk : Nat} {tpos : Pos} (hg : Gl X "zip") (hm : X.mg "zip" = none) (ha : PE X x (tE X.K EX C a)) (hx : noStar x = true) (hb : PE X y (tE X.K EX C b)) (hy : noStar y = true) : PI X (.Tuple elts kk tpos) (.Call (.Name "zip" p) [x, y] [] pos) (tI X.K EX C (.zip a b)) :=
  (pi_zipT hg hm (two_args ha hx hb hy) (starEach_cons hx) (backTo1 hy _)).imp fun σ H Q ⟨F, s, R, q⟩ => by
    unfold evI at q
    refine ⟨F, s, R, okE.bind (wI Q) q fun dx v F1 H1 s1 r1 q1 => ⟨F1, s, R.step s1, okE.bind (wI Q) q1 fun dy u F2 H2 s2 r2 q2 => ?_⟩⟩
    cases r1 with
    | tup h r =>
      cases r2 with
      | tup h' r' => exact ⟨_, _, _, _, rfl, s2.2.1.sqT (s2.1.sqT h), s2.2.1.sqT h', q2 _ F2 H2 (.refl s2.2.1) (.zipT (s2.1.sqT h) (RepA.mono s2.1 _ r) h' r')⟩
      | _ => exact q2.elim
    | _ => exact q2.elim
end
theorem c_no : PTs X [] (tC1 X.K EX C .no) := ⟨fun pins s σ H Q I ⟨F, d, R, q⟩ => pts_nil.run pins s σ H Q I (q F H (.refl R.le))⟩
theorem c_yes (ha : PT X x (tT X.K EX C a)) : PTs X [x] (tC1 X.K EX C (.yes a)) := ⟨fun pins s σ H Q I ⟨F, d, R, q⟩ => (pts_one ha).run pins s σ H Q I ⟨F, d, R, by unfold evc at q; exact q⟩⟩
/-- a list comprehension's turns -/
theorem lc_aux {t : Tg} {f : Eo} {m : E} {σ : L2.St} {F H F1 H1 : Hp} {Q : VK} {s : Sd} {items : List D} {J : L2.It} {fb : D → R (Option D)} (RS : Rst X.K F H σ s) (s1 : Stp F H F1 H1) (wk : Wk X.K J F1 items) (hlen : items.length ≤ lim)
    (hfb : ∀ d o, fb d = .ok o → ∃ s', bindT t d (wipeD s (slotsT t)) = some s' ∧ ((evc C f s' = .ok false ∧ o = none) ∨ ∃ y, evc C f s' = .ok true ∧ ev C m s' = .ok y ∧ o = some y))
    (q1 : okL X.K EX F1 H1 (compGo fb items) Q) : ∀ D, H1 D = none → ∃ W : Nat → Nat → Hp → Prop, (∃ m, W 0 m (upd H1 D (.lst []))) ∧ ∀ i m' H, W i m' H →
  (J.stop i H ∧ Q (.ref D) H) ∨ (J.go i H ∧ ∃ Nx : Hp → Prop, (∀ H', Nx H' → ∃ n', n' < m' ∧ W (i + 1) n' H') ∧ ∀ x H', J.yld i H x H' → gTg X.K t x (L2.wipe σ (slotsT t)) H' fun σ2 H2 => L2.wipe σ2 (slotsT t) = L2.wipe σ (slotsT t) ∧ tC1 X.K (fun _ _ => False) C f σ2 H2 fun b H3 =>
    if b = true then tE X.K (fun _ _ => False) C m σ2 H3 fun y H4 => ∃ acc, H4 D = some (.lst acc) ∧ acc.length < sizeLine ∧ Nx (upd H4 D (.lst (acc ++ [y]))) else Nx H3) := by
  intro D hD
  refine ⟨fun i n H' => n = items.length - i ∧ i ≤ items.length ∧ ∃ F' vs done, Stp F1 H1 F' H' ∧ F' D = none ∧ H' D = some (.lst vs) ∧ RepA X.K F' vs done ∧ done.length ≤ i ∧
      (match compGo fb (items.drop i) with
        | .ok rs => ∀ vs' F'' H'', Stp F1 H1 F'' H'' → F'' D = none → H'' D = some (.lst vs') → RepA X.K F'' vs' (done ++ rs) → Q (.ref D) H''
        | _ => False), ⟨items.length, by simp, Nat.zero_le _, F1, [], [], .loose s1.2.1 hD, s1.2.1.non hD, upd_same, .nil, Nat.le_refl _, ?_⟩, ?_⟩
  · rw [List.drop_zero]
    cases e : compGo fb items with
    | ok rs => rw [e] at q1; exact fun vs' F'' H'' a b c r => q1 D vs' F'' H'' a hD b c r
    | exc c => exact absurd e (compGo_nx _ _ _)
    | fail => rw [e] at q1; exact q1
  · rintro i n H' ⟨rfl, hi, F', vs, done, sp, nF, hD', rp, hdl, hq⟩
    by_cases hlt : i < items.length
    · refine .inr ⟨wk.go i F' H' sp.1 sp.2.1 hlt, _, fun H'' z => ⟨items.length - (i + 1), by omega, z⟩, fun x H'' y => ?_⟩
      have hd : items[i]? = some items[i] := List.getElem?_eq_getElem hlt
      obtain ⟨F2, sp2, rx⟩ := wk.yld i F' H' x H'' _ sp.1 sp.2.1 y hd
      rw [List.drop_eq_getElem_cons hlt] at hq
      unfold compGo at hq
      cases e1 : fb items[i] with
      | exc c => rw [e1] at hq; exact hq.elim
      | fail => rw [e1] at hq; exact hq.elim
      | ok o =>
        rw [e1] at hq
        simp only [R.still_ok, R.bind_ok] at hq
        obtain ⟨s', e2, ho⟩ := hfb _ _ e1
        have keepD : ∀ {G G' K' K'' : Hp}, Stp G K' G' K'' → G D = none → K' D = some (.lst vs) → G' D = none := fun {G G' K' K''} sp n h => by
          cases z : G' D with
          | none => rfl
          | some o' =>
            rcases sp.2.2.2 D o' z with z' | z'
            · rw [n] at z'; cases z'
            · rw [h] at z'; cases z'
        have nF2 : F2 D = none := keepD sp2 nF hD'
        have hD2 : H'' D = some (.lst vs) := sp2.2.2.1 D _ hD'
        have R2 : Rst X.K F2 H'' (L2.wipe σ (slotsT t)) (wipeD s (slotsT t)) := (((RS.step s1).step sp).step sp2).wipe _
        refine bindT_ok t _ _ s' x _ _ e2 rx R2 fun σ2 R3 hw => ⟨?_, ?_⟩
        · rw [hw (slotsT t) fun i hi => hi]
          exact wipe_wipe σ (slotsT t)
        · refine ⟨F2, s', R3, ?_⟩
          rcases ho with ⟨e3, rfl⟩ | ⟨yd, e3, e5, rfl⟩
          · rw [e3]
            intro F3 H3 s3
            rw [if_neg (by decide)]
            refine ⟨rfl, hlt, F3, vs, done, (sp.trans sp2).trans s3, keepD s3 nF2 hD2, s3.2.2.1 D _ hD2, RepA.mono (sp2.1.trans s3.1) _ rp, Nat.le_succ_of_le hdl, ?_⟩
            cases e4 : compGo fb (items.drop (i + 1)) with
            | ok rs => rw [e4] at hq; exact hq
            | exc c => rw [e4] at hq; exact hq.elim
            | fail => rw [e4] at hq; exact hq.elim
          · rw [e3]
            intro F3 H3 s3
            have nF3 : F3 D = none := keepD s3 nF2 hD2
            have hD3 : H3 D = some (.lst vs) := s3.2.2.1 D _ hD2
            rw [if_pos rfl]
            refine ⟨F3, s', R3.step s3, ?_⟩
            rw [e5]
            intro yv F4 H4 s4 r4
            have nF4 : F4 D = none := keepD s4 nF3 hD3
            have hD4 : H4 D = some (.lst vs) := s4.2.2.1 D _ hD3
            have spA := ((sp.trans sp2).trans s3).trans s4
            refine ⟨vs, hD4, ?_, rfl, hlt, F4, vs ++ [yv], done ++ [yd], ⟨spA.1, spA.2.1.updR nF4, fun b o hb => ?_, spA.2.2.2⟩, nF4, upd_same, (RepA.mono ((sp2.1.trans s3.1).trans s4.1) _ rp).append (.cons r4 .nil), ?_, ?_⟩
            · have hl : lim = 1000000 := rfl
              rw [rp.length, sizeLine_eq]; omega
            · rw [upd_ne (ne_of_none hb hD)]; exact spA.2.2.1 b o hb
            · simp; omega
            · cases e4 : compGo fb (items.drop (i + 1)) with
              | ok rs =>
                rw [e4] at hq
                intro vs' F'' H'' a b c r
                refine hq vs' F'' H'' a b c ?_
                simpa using r
              | exc c => rw [e4] at hq; exact hq.elim
              | fail => rw [e4] at hq; exact hq.elim
    · have e : i = items.length := by omega
      subst e
      refine .inl ⟨wk.stop F' H' sp.1 sp.2.1, ?_⟩
      rw [List.drop_length] at hq
      simp only [compGo] at hq
      exact hq vs F' H' sp nF hD' (by rw [List.append_nil]; exact rp)
/-- a list comprehension -/
theorem lc_imp {t : Tg} {it : It} {f : Eo} {m : E} {σ : L2.St} {H : Hp} {Q : VK} (h : tL X.K EX C (.comp t it f m) σ H Q) :
    tLc (tI X.K EX C it) (gTg X.K t) (tC1 X.K (fun _ _ => False) C f) (tE X.K (fun _ _ => False) C m) (slotsT t) σ H Q := by
  obtain ⟨F, s, RS, q⟩ := h
  unfold evL at q
  refine ⟨F, s, RS, okI.bind (wL Q) q fun items J F1 H1 s1 wk q1 => ?_⟩
  split at q1
  · rename_i hlen
    refine lc_aux RS s1 wk hlen (fun d o h => ?_) q1
    cases e2 : bindT t d (wipeD s (slotsT t)) with
    | none => rw [e2] at h; cases h
    | some s' =>
      rw [e2] at h
      simp only at h
      refine ⟨s', rfl, ?_⟩
      cases e3 : evc C f s' with
      | exc c => rw [e3] at h; cases h
      | fail => rw [e3] at h; cases h
      | ok b =>
        rw [e3] at h
        cases b with
        | false => cases h; exact .inl ⟨rfl, rfl⟩
        | true =>
          cases e5 : ev C m s' with
          | exc c => simp only [R.bind_ok, e5] at h; cases h
          | fail => simp only [R.bind_ok, e5] at h; cases h
          | ok y => simp only [R.bind_ok, e5] at h; cases h; exact .inr ⟨y, rfl, rfl, rfl⟩
  · exact q1.elim
end
end Tf
/-! Tf2h: every expression that the check takes. -/
namespace Tf
open PySem L2
def lenEs : Es → Nat
  | .nil => 0
  | .cons _ r => lenEs r + 1
theorem evs_len (C : EvC) : ∀ (es : Es) (s : Sd) (ds : List D), evs C es s = .ok ds → ds.length = lenEs es
  | .nil, s, ds, h => by unfold evs at h; cases h; rfl
  | .cons e r, s, ds, h => by
    unfold evs at h
    cases h1 : ev C e s with
    | exc c => rw [h1] at h; cases h
    | fail => rw [h1] at h; cases h
    | ok x =>
      rw [h1] at h
      cases h2 : evs C r s with
      | exc c => simp only [R.bind_ok, h2] at h; cases h
      | fail => simp only [R.bind_ok, h2] at h; cases h
      | ok xs =>
        simp only [R.bind_ok, h2] at h
        cases h
        simp [lenEs, evs_len C r s xs h2]
theorem chkEs_len (c : Ck) : ∀ (m : Es) (sc : Scope) (fn : Str → Bool) (es : List Expr), chkEs c m sc fn es = true → lenEs m = es.length
  | .nil, sc, fn, es, h => by
    unfold chkEs at h
    cases es with
    | nil => rfl
    | cons e es => exact absurd h (by simp)
  | .cons m r, sc, fn, es, h => by
    unfold chkEs at h
    cases es with
    | nil => exact absurd h (by simp)
    | cons e es =>
      simp only [Bool.and_eq_true] at h
      simp [lenEs, chkEs_len c r sc fn es h.2]
def plainTest : Expr → Bool
  | .UnaryOp .Not _ _ => false
  | .BoolOp _ _ _ => false
  | .IfExp _ _ _ _ => false
  | .Compare _ _ _ _ => false
  | _ => true
theorem plain_isTrue {e : Expr} {env : Env} (h : plainTest e = true) : ∀ whole, isTrue e env whole = (do let v ← whole; standAt e.pos; holding [v] (truthy v)) := by
  intro whole
  cases e with
  | UnaryOp op x p => cases op <;> first | rfl | exact absurd h (by simp [plainTest])
  | BoolOp _ _ _ => exact absurd h (by simp [plainTest])
  | IfExp _ _ _ _ => exact absurd h (by simp [plainTest])
  | Compare _ _ _ _ => exact absurd h (by simp [plainTest])
  | _ => rfl
def special : E → Bool
  | .cmp _ _ _ => true
  | .cmp2 _ _ _ _ _ => true
  | .inO _ _ _ => true
  | .and _ _ => true
  | .or _ _ => true
  | .not _ => true
  | .ite _ _ _ => true
  | _ => false
theorem chkE_plain (c : Ck) (m : E) (sc : Scope) (fn : Str → Bool) (e : Expr) (hm : special m = false) (h : chkE c m sc fn e = true) : plainTest e = true := by
  cases m with
  | cmp _ _ _ => cases hm
  | cmp2 _ _ _ _ _ => cases hm
  | inO _ _ _ => cases hm
  | and _ _ => cases hm
  | or _ _ => cases hm
  | not _ => cases hm
  | ite _ _ _ => cases hm
  | lst l =>
    unfold chkE at h
    cases l <;> (unfold chkL at h; (try split at h) <;> first | rfl | cases h)
  | _ => unfold chkE at h; (try split at h) <;> first | rfl | cases h
theorem tst_of {m : E} (h : special m = false) : tst m = true := by
  cases m <;> first | rfl | cases h
theorem blName_of {X : Cx} {x y : Str} (h : blName x y X.env.scope = true) : x = y ∧ Gl X x := by
  unfold blName at h
  simp only [Bool.and_eq_true, decide_eq_true_eq] at h
  exact ⟨h.1, glo_of h.2⟩
theorem nmOk_of {x : Str} (h : nmOk x = true) : (x == ("__debug__" : Str)) = false ∧ (x == ("__classdict__" : Str)) = false := by
  unfold nmOk at h
  simp only [Bool.and_eq_true, Bool.not_eq_true'] at h
  exact h
theorem CxOk.units {c : Ck} {C : EvC} {xv : Nat → Value} {k : Nat} {X : Cx} {EX : Nat → Hp → Prop} (h : CxOk c C xv k X EX) : X.A.units + 200 < cLine := by
  have := h.room.un
  omega
theorem pw_one {X : Cx} {x : Expr} {op : BoolOp} {pos : Pos} {t : TT} (h : PT X x t) : PW X (.BoolOp op [x] pos) t := by
  cases op with
  | And => exact pw_and1 h
  | Or => exact pw_or1 h
theorem own_snd (c : Ck) (is : List Nat) : (ownOf c is).map (·.2) = is := by
  unfold ownOf
  rw [List.map_map]
  induction is with
  | nil => rfl
  | cons i is ih => simp only [List.map_cons, ih]; rfl
theorem mem_bnames {x : Str} (h : bnames.contains x = true) : x ∈ bnames := by
  simpa using h
section
variable {c : Ck} {C : EvC} {xv : Nat → Value} {k : Nat}
mutual
theorem sE : ∀ (m : E) (X : Cx) (EX : Nat → Hp → Prop) (ok : CxOk c C xv k X EX) (e : Expr), chkE c m X.env.scope X.fn e = true → PE X e (tE X.K EX C m)
  | .var i, X, EX, ok, e, h => by
    unfold chkE at h
    split at h
    · simp only [Bool.and_eq_true, decide_eq_true_eq] at h
      exact s_var (by rw [ok.nm]; exact h.1.1) (vis_of h.1.2) (nmOk_of h.2).1 (nmOk_of h.2).2
    · cases h
  | .con d, X, EX, ok, e, h => by
    unfold chkE at h
    split at h
    · exact s_con h
    · cases h
  | .glo g, X, EX, ok, e, h => by
    unfold chkE at h
    split at h
    · simp only [Bool.and_eq_true, decide_eq_true_eq] at h
      exact s_glo (glo_of h.1.2) (nmOk_of h.2).1 fun d hd => ok.amb.gv g _ d h.1.1 hd
    · cases h
  | .tup es, X, EX, ok, e, h => by
    unfold chkE at h
    split at h
    · simp only [Bool.and_eq_true, decide_eq_true_eq] at h
      refine s_tup (sEs es X EX ok _ h.1) h.2 fun s ds e => ?_
      rw [evs_len C es s ds e, chkEs_len c es _ _ _ h.1]
    · cases h
  | .lst l, X, EX, ok, e, h => by
    unfold chkE at h
    exact s_lst (sL l X EX ok e h)
  | .bin op a b, X, EX, ok, e, h => by
    unfold chkE at h
    split at h
    · simp only [Bool.and_eq_true, decide_eq_true_eq] at h
      rw [h.1.1]
      exact s_bin (sE a X EX ok _ h.1.2) (sE b X EX ok _ h.2)
    · cases h
  | .neg a, X, EX, ok, e, h => by
    unfold chkE at h
    split at h
    · exact s_neg (sE a X EX ok _ h)
    · cases h
  | .cmp op a b, X, EX, ok, e, h => by
    unfold chkE at h
    split at h
    · simp only [Bool.and_eq_true, decide_eq_true_eq, Bool.not_eq_true'] at h
      obtain ⟨⟨⟨rfl, h2⟩, h3⟩, h4⟩ := h
      exact s_cmp ok.units (sE a X EX ok _ h2) (sE b X EX ok _ h3) h4
    · cases h
  | .cmp2 o p a b d, X, EX, ok, e, h => by
    unfold chkE at h
    split at h
    · simp only [Bool.and_eq_true, decide_eq_true_eq] at h
      obtain ⟨⟨⟨⟨⟨⟨⟨⟨rfl, rfl⟩, h2⟩, h3⟩, h4⟩, _⟩, _⟩, h5⟩, h6⟩ := h
      exact s_cmp2 ok.units (sE a X EX ok _ h2) (sE b X EX ok _ h3) (sE d X EX ok _ h4) (marks2 h5 h6)
    · cases h
  | .and a b, X, EX, ok, e, h => by
    unfold chkE at h
    split at h
    · simp only [Bool.and_eq_true] at h
      obtain ⟨h1, h2⟩ := h
      split at h2
      · exact s_and (sE a X EX ok _ h1) (pe_one (sE b X EX ok _ h2))
      · exact s_and (sE a X EX ok _ h1) (sE b X EX ok _ h2)
    · cases h
  | .or a b, X, EX, ok, e, h => by
    unfold chkE at h
    split at h
    · simp only [Bool.and_eq_true] at h
      obtain ⟨h1, h2⟩ := h
      split at h2
      · exact s_or (sE a X EX ok _ h1) (pe_one (sE b X EX ok _ h2))
      · exact s_or (sE a X EX ok _ h1) (sE b X EX ok _ h2)
    · cases h
  | .not a, X, EX, ok, e, h => by
    unfold chkE at h
    split at h
    · exact s_not (sE a X EX ok _ h)
    · cases h
  | .ite t a b, X, EX, ok, e, h => by
    unfold chkE at h
    split at h
    · simp only [Bool.and_eq_true] at h
      exact s_ite (sT t X EX ok _ h.1.1.1 h.1.1.2).1 (sE a X EX ok _ h.1.2) (sE b X EX ok _ h.2)
    · cases h
  | .idx a i, X, EX, ok, e, h => by
    unfold chkE at h
    split at h
    · simp only [Bool.and_eq_true] at h
      exact s_idx (sE a X EX ok _ h.1.1) (sE i X EX ok _ h.1.2) (plainIx_of h.2)
    · cases h
  | .slc a lo hi, X, EX, ok, e, h => by
    unfold chkE at h
    split at h
    · simp only [Bool.and_eq_true] at h
      exact s_slc (sE a X EX ok _ h.1.1) (sO lo X EX ok _ h.1.2) (sO hi X EX ok _ h.2)
    · cases h
  | .rev a, X, EX, ok, e, h => by
    unfold chkE at h
    split at h
    · exact s_rev (sE a X EX ok _ h)
    · cases h
  | .call f es, X, EX, ok, e, h => by
    unfold chkE at h
    split at h
    · simp only [Bool.and_eq_true, decide_eq_true_eq] at h
      obtain ⟨⟨⟨h1, h2⟩, h3⟩, h4⟩ := h
      refine s_call ok h1 (glo_of h2) (nmOk_of h3).1 (sEs es X EX ok _ h4) (fun e r he => ?_) (fun he => ?_)
      · subst he
        cases es with
        | nil => unfold chkEs at h4; cases h4
        | cons m mr =>
          unfold chkEs at h4
          simp only [Bool.and_eq_true] at h4
          exact ⟨starEach_cons (chkE_noStar c m _ _ e h4.1), chkEs_stars c mr _ _ r X.env _ h4.2⟩
      · subst he
        cases es with
        | nil => rfl
        | cons m mr => unfold chkEs at h4; cases h4
    · cases h
  | .rows a b, X, EX, ok, e, h => by
    unfold chkE at h
    split at h
    · simp only [Bool.and_eq_true, decide_eq_true_eq] at h
      obtain ⟨⟨⟨⟨h1, h2⟩, h3⟩, h4⟩, h5⟩ := h
      exact s_rows ok h1 (glo_of h2) (nmOk_of h3).1 (sE a X EX ok _ h4) (chkE_noStar c a _ _ _ h4) (sE b X EX ok _ h5) (chkE_noStar c b _ _ _ h5)
    · cases h
  | .isi a t, X, EX, ok, e, h => by
    unfold chkE at h
    split at h
    · simp only [Bool.and_eq_true] at h
      obtain ⟨⟨h1, h2⟩, h3⟩ := h
      obtain ⟨rfl, g1⟩ := blName_of h1
      obtain ⟨rfl, g2⟩ := blName_of h2
      exact s_isi g1 (ok.amb.bl _ (by decide)) g2 (ok.amb.bl _ (by cases t <;> decide)) (sE a X EX ok _ h3) (chkE_noStar c a _ _ _ h3)
    · cases h
  | .isi2 a t u, X, EX, ok, e, h => by
    unfold chkE at h
    split at h
    · simp only [Bool.and_eq_true] at h
      obtain ⟨⟨⟨h1, h2⟩, h2'⟩, h3⟩ := h
      obtain ⟨rfl, g1⟩ := blName_of h1
      obtain ⟨rfl, g2⟩ := blName_of h2
      obtain ⟨rfl, g3⟩ := blName_of h2'
      exact s_isi2 g1 (ok.amb.bl _ (by decide)) g2 (ok.amb.bl _ (by cases t <;> decide)) g3 (ok.amb.bl _ (by cases u <;> decide)) (sE a X EX ok _ h3) (chkE_noStar c a _ _ _ h3)
    · cases h
  | .bi b a, X, EX, ok, e, h => by
    unfold chkE at h
    split at h
    · simp only [Bool.and_eq_true] at h
      obtain ⟨rfl, g1⟩ := blName_of h.1
      exact s_bi ok.calm g1 (ok.amb.bl _ (by cases b <;> decide)) (sE a X EX ok _ h.2) (chkE_noStar c a _ _ _ h.2)
    · cases h
  | .min2 a b, X, EX, ok, e, h => by
    unfold chkE at h
    split at h
    · simp only [Bool.and_eq_true] at h
      obtain ⟨rfl, g1⟩ := blName_of h.1.1
      exact s_min2 ok.calm g1 (ok.amb.bl _ (by decide)) (sE a X EX ok _ h.1.2) (chkE_noStar c a _ _ _ h.1.2) (sE b X EX ok _ h.2) (chkE_noStar c b _ _ _ h.2)
    · cases h
  | .lenO i, X, EX, ok, e, h => by
    unfold chkE at h
    split at h
    · simp only [Bool.and_eq_true, decide_eq_true_eq] at h
      obtain ⟨⟨⟨h1, h2⟩, h3⟩, h4⟩ := h
      obtain ⟨rfl, g1⟩ := blName_of h1
      exact s_lenO g1 (ok.amb.bl _ (by decide)) (by rw [ok.nm]; exact h2) (vis_of h3) (nmOk_of h4).1 (nmOk_of h4).2
    · cases h
  | .inO neg a i, X, EX, ok, e, h => by
    unfold chkE at h
    split at h
    · simp only [Bool.and_eq_true, decide_eq_true_eq] at h
      obtain ⟨⟨⟨⟨h1, h2⟩, h3⟩, h4⟩, h5⟩ := h
      rw [h1]
      exact s_inO ok.units (sE a X EX ok _ h2) (by rw [ok.nm]; exact h3) (vis_of h4) (nmOk_of h5).1 (nmOk_of h5).2
    · cases h
  | .cell i a, X, EX, ok, e, h => by
    unfold chkE at h
    split at h
    · simp only [Bool.and_eq_true, decide_eq_true_eq] at h
      obtain ⟨⟨⟨⟨⟨h1, h2⟩, h3⟩, h4⟩, h5⟩, h6⟩ := h
      subst h1
      exact s_cell ok (glo_of h2) (by rw [ok.nm]; exact h3) (vis_of h4) (nmOk_of h5).1 (nmOk_of h5).2 (sE a X EX ok _ h6) (chkE_noStar c a _ _ _ h6)
    · cases h
  | .upper a, X, EX, ok, e, h => by
    unfold chkE at h
    split at h
    · simp only [Bool.and_eq_true, decide_eq_true_eq] at h
      obtain ⟨⟨⟨h1, rfl⟩, h3⟩, h4⟩ := h
      refine s_upper ?_ h3 (sE a X EX ok _ h4)
      unfold isName at h1
      split at h1
      · rfl
      · cases h1
    · cases h
  | .join a b, X, EX, ok, e, h => by unfold chkE at h; cases h
theorem sT : ∀ (m : E) (X : Cx) (EX : Nat → Hp → Prop) (ok : CxOk c C xv k X EX) (e : Expr), tst m = true → chkE c m X.env.scope X.fn e = true →
    PT X e (tT X.K EX C m) ∧ (special m = true → (∃ op vs pos, e = .BoolOp op vs pos) → PW X e (tT X.K EX C m))
  | .cmp op a b, X, EX, ok, e, _, h => by
    unfold chkE at h
    split at h
    · simp only [Bool.and_eq_true, decide_eq_true_eq, Bool.not_eq_true'] at h
      obtain ⟨⟨⟨rfl, h2⟩, h3⟩, h4⟩ := h
      exact ⟨t_cmp ok.units (sE a X EX ok _ h2) (sE b X EX ok _ h3) h4, fun _ ⟨_, _, _, z⟩ => by cases z⟩
    · cases h
  | .cmp2 o p a b d, X, EX, ok, e, _, h => by
    unfold chkE at h
    split at h
    · simp only [Bool.and_eq_true, decide_eq_true_eq] at h
      obtain ⟨⟨⟨⟨⟨⟨⟨⟨rfl, rfl⟩, h2⟩, h3⟩, h4⟩, _⟩, _⟩, h5⟩, h6⟩ := h
      exact ⟨t_cmp2 ok.units (sE a X EX ok _ h2) (sE b X EX ok _ h3) (sE d X EX ok _ h4) (marks2 h5 h6), fun _ ⟨_, _, _, z⟩ => by cases z⟩
    · cases h
  | .inO neg a i, X, EX, ok, e, _, h => by
    have q := sE (.inO neg a i) X EX ok e h
    unfold chkE at h
    split at h
    · refine ⟨?_, fun _ ⟨_, _, _, z⟩ => by cases z⟩
      simp only [Bool.and_eq_true, decide_eq_true_eq] at h
      obtain ⟨⟨⟨⟨h1, h2⟩, h3⟩, h4⟩, h5⟩ := h
      subst h1
      exact t_inO ok.units (sE a X EX ok _ h2) (by rw [ok.nm]; exact h3) (vis_of h4) (nmOk_of h5).1 (nmOk_of h5).2
    · cases h
  | .and a b, X, EX, ok, e, ht, h => by
    unfold chkE at h
    unfold tst at ht
    simp only [Bool.and_eq_true] at ht
    split at h
    · rename_i x1 y1 r1 p1
      simp only [Bool.and_eq_true] at h
      obtain ⟨h1, h2⟩ := h
      have pa := (sT a X EX ok _ ht.1 h1).1
      have w : PW X (.BoolOp .And (x1 :: y1 :: r1) p1) (tT X.K EX C (.and a b)) := by
        split at h2
        · exact t_and pa (pw_one (sT b X EX ok _ ht.2 h2).1)
        · refine t_and pa ((sT b X EX ok _ ht.2 h2).2 ?_ ⟨_, _, _, rfl⟩)
          cases b with
          | and _ _ => rfl
          | or _ _ => rfl
          | not _ => rfl
          | cmp _ _ _ => rfl
          | cmp2 _ _ _ _ _ => rfl
          | inO _ _ _ => rfl
          | ite _ _ _ => rfl
          | _ => exact absurd (chkE_plain c _ _ _ _ rfl h2) (by simp [plainTest])
      exact ⟨w.pt, fun _ _ => w⟩
    · cases h
  | .or a b, X, EX, ok, e, ht, h => by
    unfold chkE at h
    unfold tst at ht
    simp only [Bool.and_eq_true] at ht
    split at h
    · rename_i x1 y1 r1 p1
      simp only [Bool.and_eq_true] at h
      obtain ⟨h1, h2⟩ := h
      have pa := (sT a X EX ok _ ht.1 h1).1
      have w : PW X (.BoolOp .Or (x1 :: y1 :: r1) p1) (tT X.K EX C (.or a b)) := by
        split at h2
        · exact t_or pa (pw_one (sT b X EX ok _ ht.2 h2).1)
        · refine t_or pa ((sT b X EX ok _ ht.2 h2).2 ?_ ⟨_, _, _, rfl⟩)
          cases b with
          | and _ _ => rfl
          | or _ _ => rfl
          | not _ => rfl
          | cmp _ _ _ => rfl
          | cmp2 _ _ _ _ _ => rfl
          | inO _ _ _ => rfl
          | ite _ _ _ => rfl
          | _ => exact absurd (chkE_plain c _ _ _ _ rfl h2) (by simp [plainTest])
      exact ⟨w.pt, fun _ _ => w⟩
    · cases h
  | .not a, X, EX, ok, e, ht, h => by
    unfold chkE at h
    unfold tst at ht
    split at h
    · exact ⟨t_not (sT a X EX ok _ ht h).1, fun _ ⟨_, _, _, z⟩ => by cases z⟩
    · cases h
  | .ite _ _ _, X, EX, ok, e, ht, h => by cases ht
  | .var i, X, EX, ok, e, ht, h => ⟨t_plain (sE (.var i) X EX ok e h) (plain_isTrue (chkE_plain c _ _ _ _ rfl h)), fun z => by cases z⟩
  | .con d, X, EX, ok, e, ht, h => ⟨t_plain (sE (.con d) X EX ok e h) (plain_isTrue (chkE_plain c _ _ _ _ rfl h)), fun z => by cases z⟩
  | .glo d, X, EX, ok, e, ht, h => ⟨t_plain (sE (.glo d) X EX ok e h) (plain_isTrue (chkE_plain c _ _ _ _ rfl h)), fun z => by cases z⟩
  | .tup d, X, EX, ok, e, ht, h => ⟨t_plain (sE (.tup d) X EX ok e h) (plain_isTrue (chkE_plain c _ _ _ _ rfl h)), fun z => by cases z⟩
  | .lst d, X, EX, ok, e, ht, h => ⟨t_plain (sE (.lst d) X EX ok e h) (plain_isTrue (chkE_plain c _ _ _ _ rfl h)), fun z => by cases z⟩
  | .bin o a b, X, EX, ok, e, ht, h => ⟨t_plain (sE (.bin o a b) X EX ok e h) (plain_isTrue (chkE_plain c _ _ _ _ rfl h)), fun z => by cases z⟩
  | .neg a, X, EX, ok, e, ht, h => ⟨t_plain (sE (.neg a) X EX ok e h) (plain_isTrue (chkE_plain c _ _ _ _ rfl h)), fun z => by cases z⟩
  | .idx a b, X, EX, ok, e, ht, h => ⟨t_plain (sE (.idx a b) X EX ok e h) (plain_isTrue (chkE_plain c _ _ _ _ rfl h)), fun z => by cases z⟩
  | .slc a b d, X, EX, ok, e, ht, h => ⟨t_plain (sE (.slc a b d) X EX ok e h) (plain_isTrue (chkE_plain c _ _ _ _ rfl h)), fun z => by cases z⟩
  | .rev a, X, EX, ok, e, ht, h => ⟨t_plain (sE (.rev a) X EX ok e h) (plain_isTrue (chkE_plain c _ _ _ _ rfl h)), fun z => by cases z⟩
  | .call a b, X, EX, ok, e, ht, h => ⟨t_plain (sE (.call a b) X EX ok e h) (plain_isTrue (chkE_plain c _ _ _ _ rfl h)), fun z => by cases z⟩
  | .isi a b, X, EX, ok, e, ht, h => ⟨t_plain (sE (.isi a b) X EX ok e h) (plain_isTrue (chkE_plain c _ _ _ _ rfl h)), fun z => by cases z⟩
  | .isi2 a b d, X, EX, ok, e, ht, h => ⟨t_plain (sE (.isi2 a b d) X EX ok e h) (plain_isTrue (chkE_plain c _ _ _ _ rfl h)), fun z => by cases z⟩
  | .bi a b, X, EX, ok, e, ht, h => ⟨t_plain (sE (.bi a b) X EX ok e h) (plain_isTrue (chkE_plain c _ _ _ _ rfl h)), fun z => by cases z⟩
  | .min2 a b, X, EX, ok, e, ht, h => ⟨t_plain (sE (.min2 a b) X EX ok e h) (plain_isTrue (chkE_plain c _ _ _ _ rfl h)), fun z => by cases z⟩
  | .lenO a, X, EX, ok, e, ht, h => ⟨t_plain (sE (.lenO a) X EX ok e h) (plain_isTrue (chkE_plain c _ _ _ _ rfl h)), fun z => by cases z⟩
  | .cell a b, X, EX, ok, e, ht, h => ⟨t_plain (sE (.cell a b) X EX ok e h) (plain_isTrue (chkE_plain c _ _ _ _ rfl h)), fun z => by cases z⟩
  | .upper a, X, EX, ok, e, ht, h => ⟨t_plain (sE (.upper a) X EX ok e h) (plain_isTrue (chkE_plain c _ _ _ _ rfl h)), fun z => by cases z⟩
  | .rows a b, X, EX, ok, e, ht, h => ⟨t_plain (sE (.rows a b) X EX ok e h) (plain_isTrue (chkE_plain c _ _ _ _ rfl h)), fun z => by cases z⟩
  | .join a b, X, EX, ok, e, ht, h => ⟨t_plain (sE (.join a b) X EX ok e h) (plain_isTrue (chkE_plain c _ _ _ _ rfl h)), fun z => by cases z⟩
theorem sEs : ∀ (m : Es) (X : Cx) (EX : Nat → Hp → Prop) (ok : CxOk c C xv k X EX) (es : List Expr), chkEs c m X.env.scope X.fn es = true → PA X es (tEs X.K EX C m)
  | .nil, X, EX, ok, es, h => by
    unfold chkEs at h
    cases es with
    | nil => exact es_nil
    | cons e es => cases h
  | .cons m r, X, EX, ok, es, h => by
    unfold chkEs at h
    cases es with
    | nil => cases h
    | cons e es =>
      simp only [Bool.and_eq_true] at h
      exact es_cons (sE m X EX ok e h.1) (sEs r X EX ok es h.2) (starEach_cons (chkE_noStar c m _ _ e h.1))
theorem sO : ∀ (m : Eo) (X : Cx) (EX : Nat → Hp → Prop) (ok : CxOk c C xv k X EX) (e : Option Expr), chkO c m X.env.scope X.fn e = true → PO X e (tO X.K EX C m)
  | .no, X, EX, ok, e, h => by
    unfold chkO at h
    cases e with
    | none => exact o_no
    | some e => cases h
  | .yes m, X, EX, ok, e, h => by
    unfold chkO at h
    cases e with
    | none => cases h
    | some e => exact o_yes (sE m X EX ok e h)
theorem sC : ∀ (m : Eo) (X : Cx) (EX : Nat → Hp → Prop) (ok : CxOk c C xv k X EX) (es : List Expr), chkC c m X.env.scope X.fn es = true → PTs X es (tC1 X.K EX C m)
  | .no, X, EX, ok, es, h => by
    unfold chkC at h
    cases es with
    | nil => exact c_no
    | cons e es => cases h
  | .yes m, X, EX, ok, es, h => by
    unfold chkC at h
    split at h
    · simp only [Bool.and_eq_true] at h
      exact c_yes (sT m X EX ok _ h.1 h.2).1
    · cases h
theorem sL : ∀ (m : L) (X : Cx) (EX : Nat → Hp → Prop) (ok : CxOk c C xv k X EX) (e : Expr), chkL c m X.env.scope X.fn e = true → PE X e (tL X.K EX C m)
  | .disp es, X, EX, ok, e, h => by
    unfold chkL at h
    split at h
    · simp only [Bool.and_eq_true, decide_eq_true_eq] at h
      refine l_disp (sEs es X EX ok _ h.1) h.2 fun s ds e => ?_
      rw [evs_len C es s ds e, chkEs_len c es _ _ _ h.1]
    · cases h
  | .comp t it f m, X, EX, ok, e, h => by
    unfold chkL at h
    split at h
    · rename_i elt tg iter ifs scope p
      simp only [Bool.and_eq_true] at h
      obtain ⟨⟨⟨⟨h1, h2⟩, h3⟩, h4⟩, h5⟩ := h
      have pi := sI it X EX ok (isTupTg t) iter tg (fun z => by
        cases t with
        | name i => cases z
        | tup ts =>
          unfold chkT at h3
          split at h3
          · exact ⟨_, _, _, rfl⟩
          · cases h3) h2
      have h1' : BlkOk X.N X.env.scope scope (ownOf c (slotsT t)) := blkOk_by (by rw [ok.nm]; exact h1)
      refine (pe_lc (g := gTg X.K t) (tt := tC1 X.K (fun _ _ => False) C f) (te := tE X.K (fun _ _ => False) C m) ok.calm ok.nd pi h1' (fun s H Cc cl fp => ?_) (fun s H Cc cl fp => ?_) (fun s H Cc cl fp => ?_) (folded_of h2)).imp fun σ H Q q => ?_
      · exact sTg (X := X.blk s H scope (compEnvC scope cl Cc X.env) fp) ok.nm ok.nd ok.calm t tg h3
      · exact sC f (X.blk s H scope (compEnvC scope cl Cc X.env) fp) _ (ok.blk s H scope _ fp) ifs h4
      · exact sE m (X.blk s H scope (compEnvC scope cl Cc X.env) fp) _ (ok.blk s H scope _ fp) elt h5
      · rw [own_snd]
        exact lc_imp q
    · cases h
  | .cat a b, X, EX, ok, e, h => by
    unfold chkL at h
    split at h
    · simp only [Bool.and_eq_true] at h
      exact l_cat (sE a X EX ok _ h.1) (sE b X EX ok _ h.2)
    · cases h
  | .rep a b, X, EX, ok, e, h => by
    unfold chkL at h
    split at h
    · simp only [Bool.and_eq_true] at h
      exact l_rep (sE a X EX ok _ h.1) (sE b X EX ok _ h.2)
    · cases h
  | .ofs a, X, EX, ok, e, h => by
    unfold chkL at h
    split at h
    · simp only [Bool.and_eq_true] at h
      obtain ⟨rfl, g1⟩ := blName_of h.1
      exact l_ofs g1 (ok.amb.bl _ (by decide)) (sE a X EX ok _ h.2) (chkE_noStar c a _ _ _ h.2)
    · cases h
  | .srt a, X, EX, ok, e, h => by unfold chkL at h; cases h
  | .sset a, X, EX, ok, e, h => by unfold chkL at h; cases h
theorem sI : ∀ (m : It) (X : Cx) (EX : Nat → Hp → Prop) (ok : CxOk c C xv k X EX) (tup : Bool) (e tg : Expr), (tup = true → ∃ elts kk p, tg = .Tuple elts kk p) → chkI c m tup X.env.scope X.fn e = true → PI X tg e (tI X.K EX C m)
  | .seq a, X, EX, ok, tup, e, tg, ht, h => by
    unfold chkI at h
    exact i_seq (sE a X EX ok _ h)
  | .rng1 a, X, EX, ok, tup, e, tg, ht, h => by
    unfold chkI at h
    split at h
    · simp only [Bool.and_eq_true] at h
      obtain ⟨rfl, g1⟩ := blName_of h.1
      exact i_rng1 g1 (ok.amb.bl _ (by decide)) (sE a X EX ok _ h.2) (chkE_noStar c a _ _ _ h.2)
    · cases h
  | .rng2 a b, X, EX, ok, tup, e, tg, ht, h => by
    unfold chkI at h
    split at h
    · simp only [Bool.and_eq_true] at h
      obtain ⟨rfl, g1⟩ := blName_of h.1.1
      exact i_rng2 g1 (ok.amb.bl _ (by decide)) (sE a X EX ok _ h.1.2) (chkE_noStar c a _ _ _ h.1.2) (sE b X EX ok _ h.2) (chkE_noStar c b _ _ _ h.2)
    · cases h
  | .enum a, X, EX, ok, tup, e, tg, ht, h => by
    unfold chkI at h
    split at h
    · simp only [Bool.and_eq_true] at h
      obtain ⟨rfl, g1⟩ := blName_of h.1.2
      obtain ⟨elts, kk, p, rfl⟩ := ht h.1.1
      exact i_enum g1 (ok.amb.bl _ (by decide)) (sE a X EX ok _ h.2) (chkE_noStar c a _ _ _ h.2)
    · cases h
  | .zip a b, X, EX, ok, tup, e, tg, ht, h => by
    unfold chkI at h
    split at h
    · simp only [Bool.and_eq_true] at h
      obtain ⟨rfl, g1⟩ := blName_of h.1.1.2
      obtain ⟨elts, kk, p, rfl⟩ := ht h.1.1.1
      exact i_zip g1 (ok.amb.bl _ (by decide)) (sE a X EX ok _ h.1.2) (chkE_noStar c a _ _ _ h.1.2) (sE b X EX ok _ h.2) (chkE_noStar c b _ _ _ h.2)
    · cases h
end
end
end Tf
/-! Tf2i: statements. -/
namespace Tf
open PySem L2

/-! ### the check -/
def noComp : Expr → Bool
  | .ListComp _ _ _ _ => false
  | .SetComp _ _ _ _ => false
  | .DictComp _ _ _ _ _ => false
  | _ => true
def noTup : Expr → Bool
  | .Tuple _ _ _ => false
  | _ => true
/-- x = [..] where the stores are exchanged -/
def swapC (sc : Scope) (x : Str) (px : Pos) (e : Expr) : Bool := match e with
  | .ListComp _ _ s p => isLoc sc x && (px.line == p.line) && !(s.names.any fun (n, k) => n == x && (k == .local || k == .cell))
  | _ => false
/-- a, b = v, w: both names local, stored from the right -/
def swapT (sc : Scope) (x y : Str) (px py : Pos) (a b : Expr) : Bool :=
  isLoc sc x && isLoc sc y && (py.line == px.line) && !(x == y) && !(foldedForSure 8 a && foldedForSure 8 b) && !(constantsAlone 8 a && constantsAlone 8 b)
mutual
def chkS (c : Ck) : S → Scope → (Str → Bool) → Stmt → Bool
  | .set i e, sc, fn, st => match st with
    | .Assign [.Name x px] v _ => decide (c.N[i]? = some x) && locB sc x && (fn x || isLoc sc x) && chkE c e sc fn v && (noComp v || swapC sc x px v)
    | _ => false
  | .setL i l, sc, fn, st => match st with
    | .Assign [.Name x px] v _ => decide (c.N[i]? = some x) && locB sc x && (fn x || isLoc sc x) && chkL c l sc fn v && (noComp v || swapC sc x px v)
    | _ => false
  | .frz _, _, _, _ => false
  | .unp ts e, sc, fn, st => match st with
    | .Assign [.Tuple es k p] v _ => chkTs c ts sc fn es && chkE c e sc fn v && noTup v && noComp v
    | _ => false
  | .par i j a b, sc, fn, st => match st with
    | .Assign [.Tuple [.Name x px, .Name y py] _ _] (.Tuple [v, w] _ _) _ => decide (c.N[i]? = some x) && decide (c.N[j]? = some y) && decide (i ≠ j) && locB sc x && locB sc y && (fn x || isLoc sc x) && (fn y || isLoc sc y) &&
        chkE c a sc fn v && chkE c b sc fn w && (swapT sc x y px py v w || (!isLoc sc x || !isLoc sc y))
    | _ => false
  | .parL i j a b, sc, fn, st => match st with
    | .Assign [.Tuple [.Name x px, .Name y py] _ _] (.Tuple [v, w] _ _) _ => decide (c.N[i]? = some x) && decide (c.N[j]? = some y) && decide (i ≠ j) && locB sc x && locB sc y && (fn x || isLoc sc x) && (fn y || isLoc sc y) &&
        chkL c a sc fn v && chkE c b sc fn w && swapT sc x y px py v w
    | _ => false
  | .parR i j a b, sc, fn, st => match st with
    | .Assign [.Tuple [.Name x px, .Name y py] _ _] (.Tuple [v, w] _ _) _ => decide (c.N[i]? = some x) && decide (c.N[j]? = some y) && decide (i ≠ j) && locB sc x && locB sc y && (fn x || isLoc sc x) && (fn y || isLoc sc y) &&
        chkE c a sc fn v && chkL c b sc fn w && swapT sc x y px py v w
    | _ => false
  | .app i e, sc, fn, st => match st with
    | .Expr (.Call (.Attribute (.Name x _) n p) [v] [] q) _ => decide (n = "append") && decide (c.N[i]? = some x) && visB sc x && nmOk x && (p.endLine == q.line) && chkE c e sc fn v
    | _ => false
  | .ext i e, sc, fn, st => match st with
    | .Expr (.Call (.Attribute (.Name x _) n p) [v] [] q) _ => decide (n = "extend") && decide (c.N[i]? = some x) && visB sc x && nmOk x && (p.endLine == q.line) && chkE c e sc fn v
    | _ => false
  | .ret e, sc, fn, st => match st with
    | .Return (some v) _ => chkE c e sc fn v
    | _ => false
  | .iff t a b, sc, fn, st => match st with
    | .If v x y _ => tst t && chkE c t sc fn v && chkSs c a sc fn x && chkSs c b sc fn y
    | _ => false
  | .for_ t it b, sc, fn, st => match st with
    | .For tg iter x [] _ => chkT c t sc fn tg && chkI c it (isTupTg t) sc fn iter && chkSs c b sc fn x
    | _ => false
  | .whl t b, sc, fn, st => match st with
    | .While v x [] _ => tst t && chkE c t sc fn v && chkSs c b sc fn x
    | _ => false
  | .exp e, sc, fn, st => match st with
    | .Expr v _ => chkE c e sc fn v && noComp v
    | _ => false
  | .rai n, sc, _, st => match st with
    | .Raise (some (.Call (.Name x _) [.Constant (.str _) _ _] [] _)) none _ => decide (c.xcs[n]? = some (some x)) && gloB sc x && nmOk x
    | _ => false
  | .io i a b, sc, fn, st => match st with
    | .Expr (.Call (.Name x _) [y, z, .Name u _] [] _) _ => decide (c.io = some x) && gloB sc x && nmOk x && chkE c a sc fn y && chkE c b sc fn z && decide (c.N[i]? = some u) && visB sc u && nmOk u
    | _ => false
def chkSs (c : Ck) : Ss → Scope → (Str → Bool) → List Stmt → Bool
  | .nil, _, _, sts => match sts with
    | [] => true
    | _ => false
  | .cons m r, sc, fn, sts => match m with
    | .frz _ => chkSs c r sc fn sts
    | _ => match sts with
      | st :: sts' => chkS c m sc fn st && chkSs c r sc fn sts'
      | [] => false
end

/-! ### readings -/
/-- as seen from the def's entry (F0, H0): what stood stands, what is known is new or was known, owned lists are new -/
structure Good (F0 H0 FL F H : Hp) (σ : L2.St) (d : Sd) : Prop where
  f0 : Le F0 F
  fl : Le FL F
  ex : Le H0 H
  nw : ∀ (a : Addr) (o : HO), F a = some o → F0 a = some o ∨ H0 a = none
  ow : ∀ (i : Nat) (ds : List D) (a : Addr), d[i]? = some (some (.ow ds)) → σ[i]? = some (some (.ref a)) → H0 a = none
section
variable {K : PySem.W.Frag} {F0 H0 FL F H F1 H1 : Hp} {σ : L2.St} {d : Sd}
theorem Good.stp (g : Good F0 H0 FL F H σ d) (l : Le F H) : Stp F0 H0 F H := ⟨g.f0, l, g.ex, g.nw⟩
theorem Good.step (g : Good F0 H0 FL F H σ d) (l : Le F H) (s : Stp F H F1 H1) : Good F0 H0 FL F1 H1 σ d :=
  let t := (g.stp l).trans s
  ⟨t.1, g.fl.trans s.1, t.2.2.1, t.2.2.2, g.ow⟩
theorem ow_set {i j : Nat} {x : Option Sl} {ds : List D} (h : (d.set i x)[j]? = some (some (.ow ds))) (hx : ∀ ys, x ≠ some (.ow ys)) : i ≠ j ∧ d[j]? = some (some (.ow ds)) := by
  by_cases hj : i = j
  · subst hj
    by_cases hi : i < d.length
    · rw [List.getElem?_set_self hi] at h
      exact absurd (Option.some.inj h) (hx ds)
    · rw [List.getElem?_eq_none (by simpa using hi)] at h; cases h
  · rw [List.getElem?_set_ne hj] at h
    exact ⟨hj, h⟩
theorem Good.setSh (g : Good F0 H0 FL F H σ d) (i : Nat) (v : V) (x : D) : Good F0 H0 FL F H (σ.set i (some v)) (d.set i (some (.sh x))) :=
  ⟨g.f0, g.fl, g.ex, g.nw, fun j ds a e1 e2 => by
    obtain ⟨hj, e1⟩ := ow_set e1 (fun ys z => by cases z)
    rw [List.getElem?_set_ne hj] at e2
    exact g.ow j ds a e1 e2⟩
theorem Good.setOw (g : Good F0 H0 FL F H σ d) (i : Nat) (a : Addr) (xs : List D) (hn : H0 a = none) : Good F0 H0 FL F H (σ.set i (some (.ref a))) (d.set i (some (.ow xs))) :=
  ⟨g.f0, g.fl, g.ex, g.nw, fun j ds b e1 e2 => by
    by_cases hj : i = j
    · subst hj
      have hi : i < σ.length := by
        have := List.getElem?_eq_some_iff.mp e2
        simpa using this.1
      rw [List.getElem?_set_self hi] at e2
      cases e2
      exact hn
    · rw [List.getElem?_set_ne hj] at e1 e2
      exact g.ow j ds b e1 e2⟩
/-- targets change no owned slot for the worse -/
theorem Good.of_bind {σ' : L2.St} {d' : Sd} (g : Good F0 H0 FL F H σ d) (h : ∀ (j : Nat) (ds : List D) (a : Addr), d'[j]? = some (some (.ow ds)) → σ'[j]? = some (some (.ref a)) → d[j]? = some (some (.ow ds)) ∧ σ[j]? = some (some (.ref a))) : Good F0 H0 FL F H σ' d' :=
  ⟨g.f0, g.fl, g.ex, g.nw, fun j ds a e1 e2 => let ⟨x, y⟩ := h j ds a e1 e2; g.ow j ds a x y⟩
end
section
variable (K : PySem.W.Frag) (EX : Nat → Hp → Prop) (C : EvC) (F0 H0 : Hp)
def Post (FL : Hp) (D : Ends) (r : Out) : Prop := match r with
  | .nx d' => ∀ σ' F' H', Rst K F' H' σ' d' → Good F0 H0 FL F' H' σ' d' → D.nx σ' H'
  | .rt y => ∀ v F' H', Stp F0 H0 F' H' → Rep K F' v y → D.rt v H'
  | .exc c => ∀ F' H', Stp F0 H0 F' H' → EX c H'
  | .fail => False
def tS (m : S) : TS := fun D σ H => ∃ FL F d, Rst K F H σ d ∧ Good F0 H0 FL F H σ d ∧ Post K EX F0 H0 FL D (evS C m d)
def tSs (m : Ss) : TS := fun D σ H => ∃ FL F d, Rst K F H σ d ∧ Good F0 H0 FL F H σ d ∧ Post K EX F0 H0 FL D (evSs C m d)
end
section
variable {K : PySem.W.Frag} {EX : Nat → Hp → Prop} {C : EvC} {F0 H0 FL F H : Hp} {σ : L2.St} {d : Sd} {D : Ends}
/-- an expression within a statement -/
theorem Post.outE {r : R Tf.D} {f : Tf.D → Out} {G : VK} (h : Post K EX F0 H0 FL D (r.out f)) (g : Good F0 H0 FL F H σ d) (l : Le F H)
    (k : ∀ y v F1 H1, Stp F H F1 H1 → Rep K F1 v y → Post K EX F0 H0 FL D (f y) → G v H1) : okE K EX F H r G := by
  cases r with
  | ok y => exact fun v F1 H1 s1 r1 => k y v F1 H1 s1 r1 h
  | exc c => exact fun F1 H1 s1 => h F1 H1 ((g.stp l).trans s1)
  | fail => exact h
theorem Post.outL {r : R (List Tf.D)} {f : List Tf.D → Out} {G : VK} (h : Post K EX F0 H0 FL D (r.out f)) (g : Good F0 H0 FL F H σ d) (l : Le F H)
    (k : ∀ ys p vs F1 H1, Stp F H F1 H1 → H p = none → F1 p = none → H1 p = some (.lst vs) → RepA K F1 vs ys → Post K EX F0 H0 FL D (f ys) → G (.ref p) H1) : okL K EX F H r G := by
  cases r with
  | ok y => exact fun p vs F1 H1 s1 a b c r1 => k y p vs F1 H1 s1 a b c r1 h
  | exc c => exact fun F1 H1 s1 => h F1 H1 ((g.stp l).trans s1)
  | fail => exact h
theorem Post.outA {A : Type} {r : R A} {f : A → Out} {G : A → Hp → Prop} (h : Post K EX F0 H0 FL D (r.out f)) (g : Good F0 H0 FL F H σ d) (l : Le F H)
    (k : ∀ y F1 H1, Stp F H F1 H1 → Post K EX F0 H0 FL D (f y) → G y H1) : okA EX F H r G := by
  cases r with
  | ok y => exact fun F1 H1 s1 => k y F1 H1 s1 h
  | exc c => exact fun F1 H1 s1 => h F1 H1 ((g.stp l).trans s1)
  | fail => exact h
theorem Post.outI {r : R (List Tf.D)} {f : List Tf.D → Out} {G : L2.It → Hp → Prop} (h : Post K EX F0 H0 FL D (r.out f)) (g : Good F0 H0 FL F H σ d) (l : Le F H)
    (k : ∀ ys J F1 H1, Stp F H F1 H1 → Wk K J F1 ys → Post K EX F0 H0 FL D (f ys) → G J H1) : okI K EX F H r G := by
  cases r with
  | ok y => exact fun J F1 H1 s1 wk => k y J F1 H1 s1 wk h
  | exc c => exact fun F1 H1 s1 => h F1 H1 ((g.stp l).trans s1)
  | fail => exact h
theorem Post.then {r : Out} {f : Sd → Out} {D' : Ends} (h : Post K EX F0 H0 FL D (r.then f)) (hr : ∀ v H, D.rt v H → D'.rt v H) (k : ∀ d' σ' F' H', Rst K F' H' σ' d' → Good F0 H0 FL F' H' σ' d' → Post K EX F0 H0 FL D (f d') → D'.nx σ' H') : Post K EX F0 H0 FL D' r := by
  cases r with
  | nx d' => exact fun σ' F' H' R g => k d' σ' F' H' R g h
  | rt y => exact fun v F' H' s r => hr _ _ (h v F' H' s r)
  | exc c => exact h
  | fail => exact h
end

/-- another floor -/
theorem Good.floor {F0 H0 FL FL' F H : Hp} {σ : L2.St} {d : Sd} (g : Good F0 H0 FL F H σ d) (l : Le FL' F) : Good F0 H0 FL' F H σ d := ⟨g.f0, l, g.ex, g.nw, g.ow⟩
theorem Post.thenF {K : PySem.W.Frag} {EX : Nat → Hp → Prop} {F0 H0 FL FL' : Hp} {D : Ends} {r : Out} {f : Sd → Out} {D' : Ends} (h : Post K EX F0 H0 FL D (r.then f)) (hr : ∀ v H, D.rt v H → D'.rt v H) (l : Le FL FL')
    (k : ∀ d' σ' F' H', Rst K F' H' σ' d' → Good F0 H0 FL' F' H' σ' d' → Post K EX F0 H0 FL D (f d') → D'.nx σ' H') : Post K EX F0 H0 FL' D' r := by
  cases r with
  | nx d' => exact fun σ' F' H' R g => k d' σ' F' H' R g h
  | rt y => exact fun v F' H' s r => hr _ _ (h v F' H' s r)
  | exc c => exact h
  | fail => exact h
/-! ### one statement at a time -/
section
variable {X : Cx} {EX : Nat → Hp → Prop} {C : EvC} {F0 H0 FL : Hp} {st : Stmt}
theorem st_set {i : Nat} {e : E} (h : PS X st (tAsg (tE X.K EX C e) (gName i))) : PS X st (tS X.K EX C F0 H0 (.set i e)) :=
  h.imp fun D σ H ⟨FL, F, d, R, g, q⟩ => by
    unfold evS at q
    exact ⟨F, d, R, Post.outE q g R.le fun y v F1 H1 s1 r1 q1 => q1 _ F1 H1 ((R.step s1).setSh i r1) ((g.step R.le s1).setSh i v y)⟩
/-- a new list's place is no owned one's -/
theorem Rst.fresh {K : PySem.W.Frag} {F H : Hp} {σ : L2.St} {d : Sd} (R : Rst K F H σ d) {p : Addr} (hp : H p = none) (j : Nat) (ys : List Tf.D) (e : d[j]? = some (some (.ow ys))) : σ[j]? ≠ some (some (.ref p)) := by
  intro z
  obtain ⟨v, e1, a, vs, rfl, _, hh, _⟩ := R.sl j _ e
  rw [e1] at z
  cases z
  rw [hp] at hh; cases hh
theorem st_setL {i : Nat} {l : L} (h : PS X st (tAsg (tL X.K EX C l) (gName i))) : PS X st (tS X.K EX C F0 H0 (.setL i l)) :=
  h.imp fun D σ H ⟨FL, F, d, R, g, q⟩ => by
    unfold evS at q
    exact ⟨F, d, R, Post.outL q g R.le fun ys p vs F1 H1 s1 a b c r1 q1 => q1 _ F1 H1 ((R.step s1).setOw i b c r1 fun j zs _ e => R.fresh a j zs e) ((g.step R.le s1).setOw i p ys (g.ex.non a))⟩
theorem st_setLE {i : Nat} {l : L} (h : PS X st (tAsg (tL X.K EX C l) (gName i))) : PS X st (tS X.K EX C F0 H0 (.set i (.lst l))) :=
  h.imp fun D σ H ⟨FL, F, d, R, g, q⟩ => by
    unfold evS ev at q
    have q' : Post X.K EX F0 H0 FL D ((evL C l d).out fun ds => .nx (d.set i (some (.sh (.list ds))))) := by
      cases e : evL C l d with
      | ok ds => rw [e] at q; exact q
      | exc c => rw [e] at q; exact q
      | fail => rw [e] at q; exact q
    exact ⟨F, d, R, Post.outL q' g R.le fun ys p vs F1 H1 s1 a b c r1 q1 =>
      let s2 := s1.know a c b
      q1 _ _ H1 ((R.step s2).setSh i (.lst upd_same (RepA.mono (.fresh b) _ r1))) ((g.step R.le s2).setSh i _ _)⟩
mutual
theorem bindT_ow : ∀ (t : Tg) (x : Tf.D) (s s' : Sd), bindT t x s = some s' → ∀ (j : Nat) (ds : List Tf.D), s'[j]? = some (some (.ow ds)) → s[j]? = some (some (.ow ds)) ∧ j ∉ slotsT t
  | .name i, x, s, s', e, j, ds, h => by
    unfold bindT at e
    cases e
    obtain ⟨hj, h⟩ := ow_set h (fun ys z => by cases z)
    exact ⟨h, by simp [slotsT]; exact fun z => hj z.symm⟩
  | .tup ts, x, s, s', e, j, ds, h => by
    unfold bindT at e
    split at e
    · have := bindTs_ow ts _ s s' e j ds h
      simpa [slotsT] using this
    · cases e
theorem bindTs_ow : ∀ (t : Tgs) (x : List Tf.D) (s s' : Sd), bindTs t x s = some s' → ∀ (j : Nat) (ds : List Tf.D), s'[j]? = some (some (.ow ds)) → s[j]? = some (some (.ow ds)) ∧ j ∉ slotsTs t
  | .nil, x, s, s', e, j, ds, h => by
    unfold bindTs at e
    cases x with
    | nil => cases e; exact ⟨h, by simp [slotsTs]⟩
    | cons _ _ => cases e
  | .cons t r, x, s, s', e, j, ds, h => by
    unfold bindTs at e
    cases x with
    | nil => cases e
    | cons y ys =>
      simp only at e
      split at e
      · rename_i s1 e1
        obtain ⟨h1, n1⟩ := bindTs_ow r ys s1 s' e j ds h
        obtain ⟨h2, n2⟩ := bindT_ow t y s s1 e1 j ds h1
        exact ⟨h2, by simp [slotsTs]; exact ⟨n2, n1⟩⟩
      · cases e
end
/-- behind a target's store the owned slots are as they were -/
theorem Good.bind {K : PySem.W.Frag} {F H : Hp} {σ σ' : L2.St} {d d' : Sd} {t : Tg} {x : Tf.D} (g : Good F0 H0 FL F H σ d) (e : bindT t x d = some d') (w : ∀ vs, (∀ i ∈ slotsT t, i ∈ vs) → L2.wipe σ' vs = L2.wipe σ vs) : Good F0 H0 FL F H σ' d' :=
  g.of_bind fun j ds a e1 e2 => by
    obtain ⟨h1, h2⟩ := bindT_ow t x d d' e j ds e1
    refine ⟨h1, ?_⟩
    have q : (L2.wipe σ' (slotsT t))[j]? = (L2.wipe σ (slotsT t))[j]? := by rw [w (slotsT t) fun _ h => h]
    rw [wipe_out h2, wipe_out h2] at q
    rw [← q]
    exact e2
theorem st_unp {ts : Tgs} {e : E} (h : PS X st (tAsg (tE X.K EX C e) (gTg X.K (.tup ts)))) : PS X st (tS X.K EX C F0 H0 (.unp ts e)) :=
  h.imp fun D σ H ⟨FL, F, d, R, g, q⟩ => by
    unfold evS at q
    refine ⟨F, d, R, Post.outE q g R.le fun y v F1 H1 s1 r1 q1 => ?_⟩
    cases e2 : bindT (.tup ts) y d with
    | none => rw [e2] at q1; exact q1.elim
    | some d' =>
      rw [e2] at q1
      exact bindT_ok (.tup ts) y d d' v σ _ e2 r1 (R.step s1) fun σ' R' w => q1 σ' F1 H1 R' ((g.step R.le s1).bind (K := X.K) e2 w)
theorem st_par {i j : Nat} {a b : E} (hij : i ≠ j) (h : PS X st (tPar i j (tCons (tE X.K EX C a) (tCons (tE X.K EX C b) tNil)))) : PS X st (tS X.K EX C F0 H0 (.par i j a b)) :=
  h.imp fun D σ H ⟨FL, F, d, R, g, q⟩ => by
    unfold evS at q
    exact ⟨F, d, R, Post.outE q g R.le fun y v F1 H1 s1 r1 q1 => ⟨F1, d, R.step s1, Post.outE q1 (g.step R.le s1) (R.step s1).le fun z u F2 H2 s2 r2 q2 =>
      ⟨v, u, rfl, q2 _ F2 H2 ((((R.step s1).step s2).setSh i (Rep.mono s2.1 _ r1)).setSh j r2) ((((g.step R.le s1).step (R.step s1).le s2).setSh i v y).setSh j u z)⟩⟩⟩
theorem st_parL {i j : Nat} {a : L} {b : E} (hij : i ≠ j) (h : PS X st (tPar i j (tCons (tL X.K EX C a) (tCons (tE X.K EX C b) tNil)))) : PS X st (tS X.K EX C F0 H0 (.parL i j a b)) :=
  h.imp fun D σ H ⟨FL, F, d, R, g, q⟩ => by
    unfold evS at q
    refine ⟨F, d, R, Post.outL q g R.le fun ys p vs F1 H1 s1 a1 a2 a3 r1 q1 => ⟨F1, d, R.step s1, Post.outE q1 (g.step R.le s1) (R.step s1).le fun z u F2 H2 s2 r2 q2 => ?_⟩⟩
    have n2 : F2 p = none := by
      cases q : F2 p with
      | none => rfl
      | some o =>
        rcases s2.2.2.2 p o q with z' | z'
        · rw [a2] at z'; cases z'
        · rw [a3] at z'; cases z'
    refine ⟨.ref p, u, rfl, q2 _ F2 H2 ((((R.step s1).step s2).setOw i n2 (s2.2.2.1 _ _ a3) (RepA.mono s2.1 _ r1) fun k zs _ e => R.fresh a1 k zs e).setSh j r2) ((((g.step R.le s1).step (R.step s1).le s2).setOw i p ys (g.ex.non a1)).setSh j u z)⟩
theorem st_parR {i j : Nat} {a : E} {b : L} (hij : i ≠ j) (h : PS X st (tPar i j (tCons (tE X.K EX C a) (tCons (tL X.K EX C b) tNil)))) : PS X st (tS X.K EX C F0 H0 (.parR i j a b)) :=
  h.imp fun D σ H ⟨FL, F, d, R, g, q⟩ => by
    unfold evS at q
    refine ⟨F, d, R, Post.outE q g R.le fun y v F1 H1 s1 r1 q1 => ⟨F1, d, R.step s1, Post.outL q1 (g.step R.le s1) (R.step s1).le fun ys p vs F2 H2 s2 a1 a2 a3 r2 q2 => ?_⟩⟩
    have Rs := (R.step s1).step s2
    have hp : H p = none := s1.2.2.1.non a1
    refine ⟨v, .ref p, rfl, q2 _ F2 H2 ((Rs.setSh i (Rep.mono s2.1 _ r1)).setOw j a2 a3 r2 fun k zs _ e => ?_) ((((g.step R.le s1).step (R.step s1).le s2).setSh i v y).setOw j p ys (g.ex.non hp))⟩
    obtain ⟨hk, e⟩ := ow_set e (fun ys z => by cases z)
    rw [List.getElem?_set_ne hk]
    exact R.fresh hp k zs e
/-- both sides built as a tuple, then unpacked -/
theorem st_parT {i j : Nat} {a b : E} (hij : i ≠ j) (h : PS X st (tAsg (tTup (tCons (tE X.K EX C a) (tCons (tE X.K EX C b) tNil))) (gTup X.K 2 (gCons (gName i) (gCons (gName j) gNil))))) : PS X st (tS X.K EX C F0 H0 (.par i j a b)) :=
  h.imp fun D σ H ⟨FL, F, d, R, g, q⟩ => by
    unfold evS at q
    refine ⟨F, d, R, Post.outE q g R.le fun y v F1 H1 s1 r1 q1 => ⟨F1, d, R.step s1, Post.outE q1 (g.step R.le s1) (R.step s1).le fun z u F2 H2 s2 r2 q2 =>
      ⟨by show 2 ≤ sizeLine; decide, fun p hp => ⟨p, [v, u], rfl, SqT.of upd_same, rfl, v, [u], rfl, u, [], rfl, rfl, ?_⟩⟩⟩⟩
    have s3 := s2.trans (.loose (o := .tup [v, u]) s2.2.1 hp)
    exact q2 _ F2 _ ((((R.step s1).step s3).setSh i (Rep.mono s3.1 _ r1)).setSh j r2) ((((g.step R.le s1).step (R.step s1).le s3).setSh i v y).setSh j u z)
theorem st_ret {e : E} (h : PS X st (tRet (tE X.K EX C e))) : PS X st (tS X.K EX C F0 H0 (.ret e)) :=
  h.imp fun D σ H ⟨FL, F, d, R, g, q⟩ => by
    unfold evS at q
    exact ⟨F, d, R, Post.outE q g R.le fun y v F1 H1 s1 r1 q1 => q1 v F1 H1 ((g.stp R.le).trans s1) r1⟩
theorem st_exp {e : E} (h : PS X st (tDrop (tE X.K EX C e))) : PS X st (tS X.K EX C F0 H0 (.exp e)) :=
  h.imp fun D σ H ⟨FL, F, d, R, g, q⟩ => by
    unfold evS at q
    exact ⟨F, d, R, Post.outE q g R.le fun y v F1 H1 s1 r1 q1 => q1 σ F1 H1 (R.step s1) (g.step R.le s1)⟩
/-- an owned list grows -/
theorem Rst.grow {K : PySem.W.Frag} {F H : Hp} {σ : L2.St} {d : Sd} (R : Rst K F H σ d) {i : Nat} {a : Addr} {xs ys : List Tf.D} {vs ws : List V} (e : d[i]? = some (some (.ow xs))) (es : σ[i]? = some (some (.ref a))) (hn : F a = none) (hh : H a = some (.lst vs)) (r : RepA K F ws ys) :
    Rst K F (upd H a (.lst ws)) σ (d.set i (some (.ow ys))) := by
  have hi : i < d.length := (List.getElem?_eq_some_iff.mp e).1
  refine ⟨by simp [R.len], R.le.updR hn, fun j y ej => ?_, fun j k zs ys' b hjk e1 e2 e3 => ?_⟩
  · by_cases hj : i = j
    · subst hj
      rw [List.getElem?_set_self hi] at ej
      cases ej
      exact ⟨_, es, a, ws, rfl, hn, upd_same, r⟩
    · rw [List.getElem?_set_ne hj] at ej
      obtain ⟨v, e1, q⟩ := R.sl j y ej
      refine ⟨v, e1, ?_⟩
      cases y with
      | sh x => exact q
      | scr ns => exact q
      | ow zs =>
        obtain ⟨b, us, rfl, n1, h1, r1⟩ := q
        refine ⟨b, us, rfl, n1, ?_, r1⟩
        rw [upd_ne]
        · exact h1
        · intro z
          subst z
          exact R.dj i j xs zs b hj e ej es e1
  · have back : ∀ (m : Nat) (us : List Tf.D), (d.set i (some (.ow ys)))[m]? = some (some (.ow us)) → ∃ us' : List Tf.D, d[m]? = some (some (.ow us')) := fun m us q => by
      by_cases hm : i = m
      · subst hm; exact ⟨xs, e⟩
      · rw [List.getElem?_set_ne hm] at q; exact ⟨us, q⟩
    obtain ⟨z1, q1⟩ := back j _ e1
    obtain ⟨z2, q2⟩ := back k _ e2
    exact R.dj j k z1 z2 b hjk q1 q2 e3
theorem Good.grow {F H : Hp} {σ : L2.St} {d : Sd} (g : Good F0 H0 FL F H σ d) {i : Nat} {a : Addr} {xs ys : List Tf.D} {ws : List V} (e : d[i]? = some (some (.ow xs))) (es : σ[i]? = some (some (.ref a))) : Good F0 H0 FL F (upd H a (.lst ws)) σ (d.set i (some (.ow ys))) := by
  have hn := g.ow i xs a e es
  refine ⟨g.f0, g.fl, g.ex.updR hn, g.nw, fun j ds b e1 e2 => ?_⟩
  by_cases hj : i = j
  · subst hj
    exact g.ow i xs b e e2
  · rw [List.getElem?_set_ne hj] at e1
    exact g.ow j ds b e1 e2
theorem st_app {i : Nat} {e : E} (h : PS X st (tDrop (tBM X.K "list" rAppend (tVar i) (tCons (tE X.K EX C e) tNil)))) : PS X st (tS X.K EX C F0 H0 (.app i e)) :=
  h.imp fun D σ H ⟨FL, F, d, R, g, q⟩ => by
    unfold evS at q
    split at q
    · rename_i ds hd
      obtain ⟨v, e1, a, vs, rfl, n1, h1, r1⟩ := R.sl i _ hd
      refine ⟨_, e1, .inl ⟨rfl, vs, SqL.of h1⟩, F, d, R, Post.outE q g R.le fun y u F2 H2 s2 r2 q2 => ?_⟩
      split at q2
      · rename_i hz
        have R2 := R.step s2
        obtain ⟨v', e1', a', vs', e2', n2, h2, r2'⟩ := R2.sl i _ hd
        cases (Option.some.inj (Option.some.inj (e1.symm.trans e1')))
        cases e2'
        refine ⟨a, vs', u, rfl, rfl, h2, ?_, q2 σ F2 _ (R2.grow hd e1 n2 h2 (r2'.append (.cons r2 .nil))) ((g.step R.le s2).grow hd e1)⟩
        have hl : lim = 1000000 := rfl
        rw [r2'.length, sizeLine_eq]
        omega
      · exact q2.elim
    · exact q.elim
theorem Post.outB {K : PySem.W.Frag} {F H : Hp} {σ : L2.St} {d : Sd} {D : Ends} {A : Type} {r : R Tf.D} {f : Tf.D → R A} {k : A → Out} {G : VK} (h : Post K EX F0 H0 FL D ((r.bind f).out k)) (g : Good F0 H0 FL F H σ d) (l : Le F H)
    (w : ∀ y v F1 H1, Stp F H F1 H1 → Rep K F1 v y → Post K EX F0 H0 FL D ((f y).out k) → G v H1) : okE K EX F H r G := by
  cases r with
  | ok y => exact fun v F1 H1 s1 r1 => w y v F1 H1 s1 r1 h
  | exc c => exact fun F1 H1 s1 => h F1 H1 ((g.stp l).trans s1)
  | fail => exact h
theorem st_ext {i : Nat} {e : E} (h : PS X st (tDrop (tBM X.K "list" rExtend (tVar i) (tCons (tE X.K EX C e) tNil)))) : PS X st (tS X.K EX C F0 H0 (.ext i e)) :=
  h.imp fun D σ H ⟨FL, F, d, R, g, q⟩ => by
    unfold evS at q
    split at q
    · rename_i ds hd
      obtain ⟨v, e1, a, vs, rfl, n1, h1, r1⟩ := R.sl i _ hd
      refine ⟨_, e1, .inl ⟨rfl, vs, SqL.of h1⟩, F, d, R, Post.outB q g R.le fun y u F2 H2 s2 r2 q2 => ?_⟩
      cases r2 with
      | lst hb rb =>
        simp only [listOf, Tf.R.out] at q2
        split at q2
        · rename_i hz
          have R2 := R.step s2
          obtain ⟨v', e1', a', vs', e2', n2, h2, r2'⟩ := R2.sl i _ hd
          cases (Option.some.inj (Option.some.inj (e1.symm.trans e1')))
          cases e2'
          refine ⟨a, _, vs', _, rfl, rfl, h2, s2.2.1 _ _ hb, ?_, q2 σ F2 _ (R2.grow hd e1 n2 h2 (r2'.append rb)) ((g.step R.le s2).grow hd e1)⟩
          have hl : lim = 1000000 := rfl
          rw [r2'.length, rb.length, sizeLine_eq]
          omega
        · exact q2.elim
      | _ => exact q2.elim
    · exact q.elim
/-- an owned list becomes known -/
theorem Rst.freeze {K : PySem.W.Frag} {F H : Hp} {σ : L2.St} {d : Sd} (R : Rst K F H σ d) {i : Nat} {a : Addr} {xs : List Tf.D} {vs : List V} (e : d[i]? = some (some (.ow xs))) (es : σ[i]? = some (some (.ref a))) (hn : F a = none) (hh : H a = some (.lst vs)) (r : RepA K F vs xs) :
    Rst K (upd F a (.lst vs)) H σ (d.set i (some (.sh (.list xs)))) := by
  have hi : i < d.length := (List.getElem?_eq_some_iff.mp e).1
  have lf : Le F (upd F a (.lst vs)) := .fresh hn
  refine ⟨by simp [R.len], fun b o hb => ?_, fun j y ej => ?_, fun j k zs ys' b hjk e1 e2 e3 => ?_⟩
  · by_cases hb' : b = a
    · subst hb'; rw [upd_same] at hb; cases hb; exact hh
    · rw [upd_ne hb'] at hb; exact R.le b o hb
  · by_cases hj : i = j
    · subst hj
      rw [List.getElem?_set_self hi] at ej
      cases ej
      exact ⟨_, es, .lst upd_same (RepA.mono lf _ r)⟩
    · rw [List.getElem?_set_ne hj] at ej
      obtain ⟨v, e1, q⟩ := R.sl j y ej
      refine ⟨v, e1, ?_⟩
      cases y with
      | sh x => exact Rep.mono lf _ q
      | scr ns =>
        obtain ⟨b, e2, q⟩ := q
        exact ⟨b, e2, lf.sqL q⟩
      | ow zs =>
        obtain ⟨b, us, rfl, n1, h1, r1⟩ := q
        refine ⟨b, us, rfl, ?_, h1, RepA.mono lf _ r1⟩
        rw [upd_ne]
        · exact n1
        · intro z
          subst z
          exact R.dj i j xs zs b hj e ej es e1
  · obtain ⟨h1, e1⟩ := ow_set e1 (fun ys z => by cases z)
    obtain ⟨h2, e2⟩ := ow_set e2 (fun ys z => by cases z)
    exact R.dj j k zs ys' b hjk e1 e2 e3
theorem Good.freeze {F H : Hp} {σ : L2.St} {d : Sd} (g : Good F0 H0 FL F H σ d) {i : Nat} {a : Addr} {xs : List Tf.D} {vs : List V} (e : d[i]? = some (some (.ow xs))) (es : σ[i]? = some (some (.ref a))) (hn : F a = none) : Good F0 H0 FL (upd F a (.lst vs)) H σ (d.set i (some (.sh (.list xs)))) := by
  refine ⟨g.f0.trans (.fresh hn), g.fl.trans (.fresh hn), g.ex, fun b o hb => ?_, fun j ds b e1 e2 => ?_⟩
  · by_cases hb' : b = a
    · subst hb'; exact .inr (g.ow i xs b e es)
    · rw [upd_ne hb'] at hb; exact g.nw b o hb
  · obtain ⟨h1, e1⟩ := ow_set e1 (fun ys z => by cases z)
    exact g.ow j ds b e1 e2
theorem sts_frz {i : Nat} {r : Ss} {sts : List Stmt} (h : PSs X sts (tSs X.K EX C F0 H0 r)) : PSs X sts (tSs X.K EX C F0 H0 (.cons (.frz i) r)) :=
  h.imp fun D σ H ⟨FL, F, d, R, g, q⟩ => by
    unfold evSs evS at q
    split at q
    · rename_i ds hd
      obtain ⟨v, e1, a, vs, rfl, n1, h1, r1⟩ := R.sl i _ hd
      exact ⟨FL, _, _, R.freeze hd e1 n1 h1 r1, g.freeze hd e1 n1, q⟩
    · exact ⟨FL, F, d, R, g, q⟩
theorem sts_nil : PSs X [] (tSs X.K EX C F0 H0 .nil) := pss_nil.imp fun D σ H ⟨FL, F, d, R, g, q⟩ => by
  unfold evSs at q
  exact q σ F H R g
theorem sts_cons {m : S} {r : Ss} {sts : List Stmt} (h1 : PS X st (tS X.K EX C F0 H0 m)) (h2 : PSs X sts (tSs X.K EX C F0 H0 r)) : PSs X (st :: sts) (tSs X.K EX C F0 H0 (.cons m r)) :=
  (pss_cons h1 h2).imp fun D σ H ⟨FL, F, d, R, g, q⟩ => by
    unfold evSs at q
    exact ⟨FL, F, d, R, g, Post.then q (fun _ _ z => z) fun d' σ' F' H' R' g' q' => ⟨FL, F', d', R', g', q'⟩⟩
theorem st_iff {t : E} {a b : Ss} {v : Expr} {x y : List Stmt} {pos : Pos} (ht : PT X v (tT X.K EX C t)) (ha : PSs X x (tSs X.K EX C F0 H0 a)) (hb : PSs X y (tSs X.K EX C F0 H0 b)) : PS X (.If v x y pos) (tS X.K EX C F0 H0 (.iff t a b)) :=
  (ps_if ht ha hb).imp fun D σ H ⟨FL, F, d, R, g, q⟩ => by
    unfold evS at q
    refine ⟨F, d, R, Post.outA q g R.le fun z F1 H1 s1 q1 => ?_⟩
    cases z with
    | true => exact ⟨FL, F1, d, R.step s1, g.step R.le s1, q1⟩
    | false => exact ⟨FL, F1, d, R.step s1, g.step R.le s1, q1⟩
theorem st_for {t : Tg} {it : It} {b : Ss} {tg iter : Expr} {x : List Stmt} {pos : Pos} (hp : PassesOwn (model X.prog X.w) X.A X.env X.xe) (hc : X.calm = true) (hi : PI X tg iter (tI X.K EX C it)) (hg : PG X tg (gTg X.K t)) (hb : PSs X x (tSs X.K EX C F0 H0 b))
    (hs : ∀ v, foldedSetIterable iter X.env v = pure v) : PS X (.For tg iter x [] pos) (tS X.K EX C F0 H0 (.for_ t it b)) :=
  (ps_for hp hc hi hg hb hs).imp fun D σ H ⟨FL, F, d, R, g, q⟩ => by
    unfold evS at q
    refine ⟨F, d, R, Post.outI q g R.le fun items J F1 H1 s1 wk q1 => ?_⟩
    have lfl : Le FL F1 := g.fl.trans s1.1
    refine ⟨fun i n σ' H' => n = items.length - i ∧ i ≤ items.length ∧ ∃ F' d', Rst X.K F' H' σ' d' ∧ Good F0 H0 F1 F' H' σ' d' ∧ Post X.K EX F0 H0 FL D (loopFor t (fun s' => evSs C b s') (items.drop i) d'),
      ⟨items.length, by simp, Nat.zero_le _, F1, d, R.step s1, (g.step R.le s1).floor (.refl _), by rw [List.drop_zero]; exact q1⟩, ?_⟩
    rintro i n σ' H' ⟨rfl, hi', F', d', R', g', q'⟩
    by_cases hlt : i < items.length
    · refine .inr ⟨wk.go i F' H' g'.fl R'.le hlt, _, fun σ'' H'' z => ⟨items.length - (i + 1), by omega, z⟩, fun v H'' y => ?_⟩
      obtain ⟨F2, s2, rv⟩ := wk.yld i F' H' v H'' _ g'.fl R'.le y (List.getElem?_eq_getElem hlt)
      rw [List.drop_eq_getElem_cons hlt] at q'
      unfold loopFor at q'
      cases e2 : bindT t items[i] d' with
      | none => rw [e2] at q'; exact q'.elim
      | some d2 =>
        rw [e2] at q'
        simp only at q'
        exact bindT_ok t _ d' d2 v σ' _ e2 rv (R'.step s2) fun σ2 R2 w => ⟨F1, F2, d2, R2, (g'.step R'.le s2).bind (K := X.K) e2 w, Post.thenF q' (fun _ _ z => z) lfl fun d3 σ3 F3 H3 R3 g3 q3 => ⟨rfl, hlt, F3, d3, R3, g3, q3⟩⟩
    · have e : i = items.length := by omega
      subst e
      rw [List.drop_length] at q'
      unfold loopFor at q'
      exact .inl ⟨wk.stop F' H' g'.fl R'.le, q' σ' F' H' R' (g'.floor (lfl.trans g'.fl))⟩
theorem st_whl {t : E} {b : Ss} {v : Expr} {x : List Stmt} {pos : Pos} (hp : PassesOwn (model X.prog X.w) X.A X.env X.xe) (ht : PT X v (tT X.K EX C t)) (hb : PSs X x (tSs X.K EX C F0 H0 b)) : PS X (.While v x [] pos) (tS X.K EX C F0 H0 (.whl t b)) :=
  (ps_while hp ht hb).imp fun D σ H ⟨FL, F, d, R, g, q⟩ => by
    unfold evS at q
    refine ⟨fun n σ' H' => ∃ F' d', Rst X.K F' H' σ' d' ∧ Good F0 H0 FL F' H' σ' d' ∧ Post X.K EX F0 H0 FL D (loopWhile (fun s' => (ev C t s').bind truth) (fun s' => evSs C b s') n d'), ⟨C.wf, F, d, R, g, q⟩, ?_⟩
    rintro n σ' H' ⟨F', d', R', g', q'⟩
    cases n with
    | zero => exact q'.elim
    | succ n =>
      unfold loopWhile at q'
      refine ⟨F', d', R', Post.outA q' g' R'.le fun z F1 H1 s1 q1 => ?_⟩
      cases z with
      | true =>
        rw [if_pos rfl]
        exact ⟨_, fun σ'' H'' z => ⟨n, Nat.lt_succ_self n, z⟩, FL, F1, d', R'.step s1, g'.step R'.le s1, Post.then q1 (fun _ _ z => z) fun d3 σ3 F3 H3 R3 g3 q3 => ⟨F3, d3, R3, g3, q3⟩⟩
      | false =>
        rw [if_neg (by decide)]
        exact q1 σ' F1 H1 (R'.step s1) (g'.step R'.le s1)
theorem st_rai {n : Nat} {xv : Nat → Value} {a : Addr} {x : Str} {m : Str} {j : Nat} {p p2 p3 pos : Pos} (hc : X.calm = true) (tk : Takes X (fun cls d _ H => xwish xv EX cls d H)) (e1 : xv n = .ref a) (e2 : X.mg x = some (.ref a))
    (e3 : PySem.W.excIn X.K a [.type "ValueError", .type "Exception", .type "BaseException", .type "object"] "ValueError.__new__" = true) (e4 : PySem.W.keepIn X.K (.ref a) = true) (e5 : PySem.W.subIn X.K (.ref a) (.type "BaseException") = some true)
    (e6 : PySem.W.typeIn X.K (.ref a) = some (.type "type")) (hg : Gl X x) (hd : (x == ("__debug__" : Str)) = false) : PS X (.Raise (some (.Call (.Name x p) [.Constant (.str m) j p2] [] p3)) none pos) (tS X.K EX C F0 H0 (.rai n)) :=
  (ps_raise hc tk (pmk_own PySem.F.excBase_ValueError e3 e2 e4 (raises_own e5 e6) hg hd)).imp fun D σ H ⟨FL, F, d, R, g, q⟩ => by
    unfold evS at q
    exact ⟨n, e1.symm, rfl, q F H (g.stp R.le)⟩
/-- behind a call that makes an owned list longer -/
theorem Rst.io {K : PySem.W.Frag} {F H F1 H' : Hp} {σ : L2.St} {d : Sd} (R : Rst K F H σ d) {i : Nat} {a : Addr} {xs ys : List Tf.D} {ws : List V} (e : d[i]? = some (some (.ow xs))) (es : σ[i]? = some (some (.ref a))) (s : Stp F (del H a) F1 H') (hn : F1 a = none) (hh : H' a = some (.lst ws)) (r : RepA K F1 ws ys) :
    Rst K F1 H' σ (d.set i (some (.ow ys))) := by
  have hi : i < d.length := (List.getElem?_eq_some_iff.mp e).1
  refine ⟨by simp [R.len], s.2.1, fun j y ej => ?_, fun j k zs ys' b hjk e1 e2 e3 => ?_⟩
  · by_cases hj : i = j
    · subst hj
      rw [List.getElem?_set_self hi] at ej
      cases ej
      exact ⟨_, es, a, ws, rfl, hn, hh, r⟩
    · rw [List.getElem?_set_ne hj] at ej
      obtain ⟨v, e1, q⟩ := R.sl j y ej
      refine ⟨v, e1, ?_⟩
      cases y with
      | sh x => exact Rep.mono s.1 _ q
      | scr ns =>
        obtain ⟨b, e2, q⟩ := q
        exact ⟨b, e2, s.1.sqL q⟩
      | ow zs =>
        obtain ⟨b, us, rfl, n1, h1, r1⟩ := q
        have hb : b ≠ a := fun z => by
          subst z
          exact R.dj i j xs zs b hj e ej es e1
        refine ⟨b, us, rfl, ?_, s.2.2.1 _ _ (by rw [del_ne hb]; exact h1), RepA.mono s.1 _ r1⟩
        cases q : F1 b with
        | none => rfl
        | some o =>
          rcases s.2.2.2 b o q with z | z
          · rw [n1] at z; cases z
          · rw [del_ne hb, h1] at z; cases z
  · have back : ∀ (m : Nat) (us : List Tf.D), (d.set i (some (.ow ys)))[m]? = some (some (.ow us)) → ∃ us' : List Tf.D, d[m]? = some (some (.ow us')) := fun m us q => by
      by_cases hm : i = m
      · subst hm; exact ⟨xs, e⟩
      · rw [List.getElem?_set_ne hm] at q; exact ⟨us, q⟩
    obtain ⟨z1, q1⟩ := back j _ e1
    obtain ⟨z2, q2⟩ := back k _ e2
    exact R.dj j k z1 z2 b hjk q1 q2 e3
theorem Good.io {F H F1 H' : Hp} {σ : L2.St} {d : Sd} (g : Good F0 H0 FL F H σ d) {i : Nat} {a : Addr} {xs ys : List Tf.D} (e : d[i]? = some (some (.ow xs))) (es : σ[i]? = some (some (.ref a))) (s : Stp F (del H a) F1 H') : Good F0 H0 FL F1 H' σ (d.set i (some (.ow ys))) := by
  have hn := g.ow i xs a e es
  refine ⟨g.f0.trans s.1, g.fl.trans s.1, (g.ex.toDel hn).trans s.2.2.1, fun b o hb => ?_, fun j ds b e1 e2 => ?_⟩
  · rcases s.2.2.2 b o hb with z | z
    · exact g.nw b o z
    · by_cases hb' : b = a
      · subst hb'; exact .inr hn
      · rw [del_ne hb'] at z; exact .inr (g.ex.non z)
  · by_cases hj : i = j
    · subst hj
      exact g.ow i xs b e e2
    · rw [List.getElem?_set_ne hj] at e1
      exact g.ow j ds b e1 e2
theorem st_io {n : Str} {x y : Expr} {u : Str} {pu p pos pos2 : Pos} {a b : E} {i : Nat} {c : Ck} {xv : Nat → Value} {k : Nat} (ok : CxOk c C xv k X EX) (hsw : ∀ tg l, swapsWith (.Call (.Name n p) [x, y, .Name u pu] [] pos) tg l X.env = pure false) (hf : c.io = some n) (hg : Gl X n) (h1 : (n == ("__debug__" : Str)) = false) (ha : PE X x (tE X.K EX C a)) (hx : noStar x = true) (hb : PE X y (tE X.K EX C b)) (hy : noStar y = true)
    (hN : X.N[i]? = some u) (hv : Vis X.env.scope u) (h4 : (u == ("__debug__" : Str)) = false) (h5 : (u == ("__classdict__" : Str)) = false) :
    PS X (.Expr (.Call (.Name n p) [x, y, .Name u pu] [] pos) pos2) (tS X.K EX C F0 H0 (.io i a b)) := by
  obtain ⟨ad, fd, ps, F1, hm, hk, hbd⟩ := ok.amb.io n hf
  have h3 : (backTo pos (starEach [y, .Name u pu] X.env)).any (·.1) = false := by
    rw [starEach_cons hy]; rfl
  refine (ps_expr (pe_call F1 ok.room hg hm hk hbd .nil ok.pas (pa_cons ha (pa_cons hb (pa_cons (pe_var hN hv h4 h5) pa_nil rfl) (starEach_cons hy)) (starEach_cons hx)) h1 (starEach_cons hx) h3) (hsw _ _)).imp fun D σ H ⟨FL, F, d, R, g, q⟩ => ?_
  unfold evS at q
  split at q
  · rename_i ds hd
    obtain ⟨v0, e1, a0, vs0, rfl, n1, hh1, r1⟩ := R.sl i _ hd
    refine ⟨F, d, R, Post.outE q g R.le fun dx v1 F2 H2 s2 r2 q2 => ⟨F2, d, R.step s2, Post.outE q2 (g.step R.le s2) (R.step s2).le fun dy v2 F3 H3 s3 r3 q3 => ⟨_, e1, ?_⟩⟩⟩
    have R3 := (R.step s2).step s3
    have g3 := (g.step R.le s2).step (R.step s2).le s3
    obtain ⟨v', e1', a', vs', e2', n2, h2, r2'⟩ := R3.sl i _ hd
    cases (Option.some.inj (Option.some.inj (e1.symm.trans e1')))
    cases e2'
    cases e : C.io dx dy ds with
    | none => rw [e] at q3; exact q3.elim
    | some es =>
      rw [e] at q3
      exact ⟨F3, dx, dy, ds, es, a0, v1, v2, vs', rfl, R3.le, n2, h2, Rep.mono s3.1 _ r2, r3, r2', e, fun v G1 G2 H' xs' t1 z1 z2 z3 _ _ => q3 σ G1 H' (R3.io hd e1 t1 z1 z2 z3) (g3.io hd e1 t1)⟩
  · exact q.elim
end
end Tf
/-! Tf2j: every statement that the check takes; a def; a whole program. -/
namespace Tf
open PySem L2

theorem swaps_no {v : Expr} (h : noComp v = true) (tg : Option Expr) (l : Nat) (env : Env) : swapsWith v tg l env = pure false := by
  cases v <;> first | rfl | exact absurd h (by simp [noComp])
theorem swaps_sole {v tg : Expr} (h : noComp v = true) (l : Nat) (env : Env) : swapsWithSole [tg] v l env = pure false := swaps_no h (some tg) l env
theorem blockFn {env : Env} (hk : env.scope.kind = .function) : env.blockKind = .function := by
  unfold Env.blockKind; rw [hk]; rfl
theorem stores_no {v : Expr} (h : noTup v = true) (tg : Expr) (env : Env) : swappedStores [tg] v env = pure none := by
  unfold swappedStores
  cases v <;> first | (cases tg <;> rfl) | exact absurd h (by simp [noTup])
theorem noStar_any {a b : Expr} (na : noStar a = true) (nb : noStar b = true) : ([a, b].any fun | .Starred .. => true | _ => false) = false := by
  have e : ∀ {x : Expr}, noStar x = true → (match x with | .Starred .. => true | _ => false) = false := by
    intro x h
    cases x <;> first | rfl | exact absurd h (by simp [noStar])
  simp only [List.any_cons, List.any_nil, Bool.or_false]
  rw [e na, e nb]; rfl
theorem stores_two {x y : Str} {px py pt pt2 : Pos} {kt k2 : Nat} {a b : Expr} {env : Env} (hk : env.scope.kind = .function) (h : swapT env.scope x y px py a b = true) (na : noStar a = true) (nb : noStar b = true) :
    swappedStores [.Tuple [.Name x px, .Name y py] kt pt] (.Tuple [a, b] k2 pt2) env = pure (some [x, y]) := by
  unfold swapT at h
  simp only [Bool.and_eq_true, Bool.not_eq_true', beq_iff_eq] at h
  obtain ⟨⟨⟨⟨⟨h1, h2⟩, h3⟩, h4⟩, h5⟩, h6⟩ := h
  have k1 : env.kindOf x = some .local := isLoc_of h1
  have k2' : env.kindOf y = some .local := isLoc_of h2
  have e5 : ([a, b].all (foldedForSure 8)) = false := by simpa using h5
  have e6 : ([a, b].all (constantsAlone 8)) = false := by simpa using h6
  unfold swappedStores
  simp only [List.length_cons, List.length_nil, blockFn hk, noStar_any na nb, e5, e6, k1, k2', List.filterMap_cons, List.filterMap_nil, List.head?_cons, Option.map_some, Option.getD_some, Expr.pos, h3]
  have hd : (some NameKind.local == some NameKind.local && px.line == px.line) = true := by simp
  have hyx : (y == x) = false := by
    rw [beq_eq_false_iff_ne] at h4 ⊢
    exact fun z => h4 z.symm
  simp only [hd, if_true]
  rw [if_neg (by decide)]
  refine Eq.trans (if_neg (by exact Bool.eq_false_iff.mp (noStar_any na nb))) ?_
  rw [if_neg (by simp [List.eraseDups_cons, hyx]), if_neg (by decide), if_neg (by decide)]
theorem stores_cell {x y : Str} {px py pt pt2 : Pos} {kt k2 : Nat} {a b : Expr} {env : Env} (hk : env.scope.kind = .function) (h : isLoc env.scope x = false ∨ isLoc env.scope y = false) (na : noStar a = true) (nb : noStar b = true) :
    swappedStores [.Tuple [.Name x px, .Name y py] kt pt] (.Tuple [a, b] k2 pt2) env = pure none := by
  have nl : ∀ {z : Str}, isLoc env.scope z = false → (env.kindOf z == some .local) = false := by
    intro z hz
    unfold isLoc at hz
    rw [beq_eq_false_iff_ne]
    intro e
    have e' : env.scope.names.lookup z = some .local := e
    rw [e'] at hz
    cases hz
  unfold swappedStores
  simp only [List.length_cons, List.length_nil, blockFn hk, List.filterMap_cons, List.filterMap_nil, List.head?_cons, Option.map_some, Option.getD_some, Expr.pos]
  rw [if_neg (by decide)]
  refine Eq.trans (if_neg (by exact Bool.eq_false_iff.mp (noStar_any na nb))) ?_
  rcases h with h | h
  · simp only [nl h, Bool.false_and, if_neg (show ¬ (false = true) by decide)]
    rw [if_pos]
    split <;> simp
  · simp only [nl h, Bool.false_and, if_neg (show ¬ (false = true) by decide)]
    rw [if_pos]
    split <;> simp

structure SxOk (c : Ck) (C : EvC) (xv : Nat → Value) (k : Nat) (X : Cx) (EX : Nat → Hp → Prop) : Prop where
  cx : CxOk c C xv k X EX
  kind : X.env.scope.kind = .function
  po : PassesOwn (model X.prog X.w) X.A X.env X.xe
  tk : Takes X (fun cls d _ H => xwish xv EX cls d H)
section
variable {c : Ck} {C : EvC} {xv : Nat → Value} {k : Nat} {X : Cx} {EX : Nat → Hp → Prop}
/-- x = [..], the stores exchanged or not -/
theorem asgL (ok : SxOk c C xv k X EX) {i : Nat} {x : Str} {px pos : Pos} {v : Expr} {l : L} (h1 : c.N[i]? = some x) (h2 : locB X.env.scope x = true) (h3 : X.fn x = true ∨ isLoc X.env.scope x = true) (h4 : chkL c l X.env.scope X.fn v = true) (h5 : noComp v = true ∨ swapC X.env.scope x px v = true) :
    PS X (.Assign [.Name x px] v pos) (tAsg (tL X.K EX C l) (gName i)) := by
  rcases h5 with h5 | h5
  · exact ps_set ok.cx.nd (by rw [ok.cx.nm]; exact h1) (loc_of h2) (sL l X EX ok.cx v h4) (swaps_no h5 _ _ _) (h3.imp (fun z => z) isLoc_of)
  · unfold swapC at h5
    split at h5
    · rename_i elt gs scope p
      simp only [Bool.and_eq_true, Bool.not_eq_true'] at h5
      obtain ⟨⟨h6, h7⟩, h8⟩ := h5
      cases l with
      | comp t it f m =>
        unfold chkL at h4
        split at h4
        · rename_i elt' tg iter ifs scope' p' e1
          cases e1
          simp only [Bool.and_eq_true] at h4
          obtain ⟨⟨⟨⟨g1, g2⟩, g3⟩, g4⟩, g5⟩ := h4
          have pi := sI it X EX ok.cx (isTupTg t) iter tg (fun z => by
            cases t with
            | name i => cases z
            | tup ts =>
              unfold chkT at g3
              split at g3
              · exact ⟨_, _, _, rfl⟩
              · cases g3) g2
          have g1' : BlkOk X.N X.env.scope scope (ownOf c (slotsT t)) := blkOk_by (by rw [ok.cx.nm]; exact g1)
          refine (ps_setLc (g := gTg X.K t) (tt := tC1 X.K (fun _ _ => False) C f) (te := tE X.K (fun _ _ => False) C m) ok.cx.calm ok.cx.nd (by rw [ok.cx.nm]; exact h1) (isLoc_of h6) (sw_true ok.kind (isLoc_of h6) h7 h8) pi g1' (fun s H Cc cl fp => ?_) (fun s H Cc cl fp => ?_) (fun s H Cc cl fp => ?_) (folded_of g2)).imp fun D σ H q => ?_
          · exact sTg (X := X.blk s H scope (compEnvC scope cl Cc X.env) fp) ok.cx.nm ok.cx.nd ok.cx.calm t tg g3
          · exact sC f (X.blk s H scope (compEnvC scope cl Cc X.env) fp) _ (ok.cx.blk s H scope _ fp) ifs g4
          · exact sE m (X.blk s H scope (compEnvC scope cl Cc X.env) fp) _ (ok.cx.blk s H scope _ fp) elt g5
          · rw [own_snd]
            exact lc_imp q
        · cases h4
      | _ => unfold chkL at h4; cases h4
    · cases h5
variable {F0 H0 : Hp}
theorem meth_few {v : Expr} {p : Pos} {env : Env} (h : noStar v = true) : ((backTo p (starEach [v] env)).all (fun x => !x.1) && (backToKw p (keywordEach [] env)).all (fun x => x.1.isSome) && decide ([v].length + ([] : List Keyword).length + (if ([] : List Keyword).isEmpty then 0 else 1) < 30)) = true := by
  rw [starEach_cons h]; rfl
mutual
theorem sS (ok : SxOk c C xv k X EX) : ∀ (m : S) (st : Stmt), chkS c m X.env.scope X.fn st = true → PS X st (tS X.K EX C F0 H0 m)
  | .set i e, st, h => by
    unfold chkS at h
    split at h
    · simp only [Bool.and_eq_true, Bool.or_eq_true, decide_eq_true_eq] at h
      obtain ⟨⟨⟨⟨h1, h2⟩, h3⟩, h4⟩, h5⟩ := h
      rcases h5 with h5 | h5
      · exact st_set (ps_set ok.cx.nd (by rw [ok.cx.nm]; exact h1) (loc_of h2) (sE e X EX ok.cx _ h4) (swaps_no h5 _ _ _) (h3.imp (fun z => z) isLoc_of))
      · cases e with
        | lst l =>
          unfold chkE at h4
          exact st_setLE (asgL ok h1 h2 h3 h4 (.inr h5))
        | _ =>
          exfalso
          unfold swapC at h5
          split at h5
          · unfold chkE at h4; cases h4
          · cases h5
    · cases h
  | .setL i l, st, h => by
    unfold chkS at h
    split at h
    · simp only [Bool.and_eq_true, Bool.or_eq_true, decide_eq_true_eq] at h
      obtain ⟨⟨⟨⟨h1, h2⟩, h3⟩, h4⟩, h5⟩ := h
      exact st_setL (asgL ok h1 h2 h3 h4 h5)
    · cases h
  | .frz i, st, h => by unfold chkS at h; cases h
  | .unp ts e, st, h => by
    unfold chkS at h
    split at h
    · rename_i es kk p v pos
      simp only [Bool.and_eq_true] at h
      obtain ⟨⟨⟨h1, h2⟩, h3⟩, h4⟩ := h
      have hT : chkT c (.tup ts) X.env.scope X.fn (.Tuple es kk p) = true := by unfold chkT; exact h1
      exact st_unp (ps_asg (sE e X EX ok.cx _ h2) (sTg ok.cx.nm ok.cx.nd ok.cx.calm (.tup ts) _ hT) (swaps_sole h4 _ _) (stores_no h3 _ _) rfl)
    · cases h
  | .par i j a b, st, h => by
    unfold chkS at h
    split at h
    · rename_i x px y py k1 p1 v w k2 p2 pos
      simp only [Bool.and_eq_true, Bool.or_eq_true, decide_eq_true_eq, Bool.not_eq_true'] at h
      obtain ⟨⟨⟨⟨⟨⟨⟨⟨⟨h1, h2⟩, h3⟩, h4⟩, h5⟩, h6⟩, h7⟩, h8⟩, h9⟩, h10⟩ := h
      have na := chkE_noStar c a _ _ _ h8
      have nb := chkE_noStar c b _ _ _ h9
      have pa := two_args (sE a X EX ok.cx _ h8) na (sE b X EX ok.cx _ h9) nb
      rcases h10 with h10 | h10
      · have z := h10
        unfold swapT at z
        simp only [Bool.and_eq_true] at z
        exact st_par h3 (ps_par ok.cx.calm ok.cx.nd (by rw [ok.cx.nm]; exact h1) (by rw [ok.cx.nm]; exact h2) h3 (isLoc_of z.1.1.1.1.1) (isLoc_of z.1.1.1.1.2) pa (stores_two ok.kind h10 na nb) rfl)
      · refine st_parT h3 (ps_asg (pe_tup pa) (pg_tup ok.cx.calm (pgs_cons (pg_name ok.cx.nd (by rw [ok.cx.nm]; exact h1) (loc_of h4) (h6.imp (fun z => z) isLoc_of)) (pgs_cons (pg_name ok.cx.nd (by rw [ok.cx.nm]; exact h2) (loc_of h5) (h7.imp (fun z => z) isLoc_of)) pgs_nil))) rfl (stores_cell ok.kind h10 na nb) rfl)
    · cases h
  | .parL i j a b, st, h => by
    unfold chkS at h
    split at h
    · rename_i x px y py k1 p1 v w k2 p2 pos
      simp only [Bool.and_eq_true, Bool.or_eq_true, decide_eq_true_eq, Bool.not_eq_true'] at h
      obtain ⟨⟨⟨⟨⟨⟨⟨⟨⟨h1, h2⟩, h3⟩, h4⟩, h5⟩, h6⟩, h7⟩, h8⟩, h9⟩, h10⟩ := h
      have na : noStar v = true := chkE_noStar c (.lst a) X.env.scope X.fn v (by unfold chkE; exact h8)
      have nb := chkE_noStar c b _ _ _ h9
      have pa : PA X [v, w] (tCons (tL X.K EX C a) (tCons (tE X.K EX C b) tNil)) := pa_cons (sL a X EX ok.cx _ h8) (one_arg (sE b X EX ok.cx _ h9) nb) (starEach_cons na)
      have z := h10
      unfold swapT at z
      simp only [Bool.and_eq_true] at z
      exact st_parL h3 (ps_par ok.cx.calm ok.cx.nd (by rw [ok.cx.nm]; exact h1) (by rw [ok.cx.nm]; exact h2) h3 (isLoc_of z.1.1.1.1.1) (isLoc_of z.1.1.1.1.2) pa (stores_two ok.kind h10 na nb) rfl)
    · cases h
  | .parR i j a b, st, h => by
    unfold chkS at h
    split at h
    · rename_i x px y py k1 p1 v w k2 p2 pos
      simp only [Bool.and_eq_true, Bool.or_eq_true, decide_eq_true_eq, Bool.not_eq_true'] at h
      obtain ⟨⟨⟨⟨⟨⟨⟨⟨⟨h1, h2⟩, h3⟩, h4⟩, h5⟩, h6⟩, h7⟩, h8⟩, h9⟩, h10⟩ := h
      have na := chkE_noStar c a _ _ _ h8
      have nb : noStar w = true := chkE_noStar c (.lst b) X.env.scope X.fn w (by unfold chkE; exact h9)
      have pa : PA X [v, w] (tCons (tE X.K EX C a) (tCons (tL X.K EX C b) tNil)) := pa_cons (sE a X EX ok.cx _ h8) (pa_cons (sL b X EX ok.cx _ h9) pa_nil (starEach_cons nb)) (starEach_cons na)
      have z := h10
      unfold swapT at z
      simp only [Bool.and_eq_true] at z
      exact st_parR h3 (ps_par ok.cx.calm ok.cx.nd (by rw [ok.cx.nm]; exact h1) (by rw [ok.cx.nm]; exact h2) h3 (isLoc_of z.1.1.1.1.1) (isLoc_of z.1.1.1.1.2) pa (stores_two ok.kind h10 na nb) rfl)
    · cases h
  | .app i e, st, h => by
    unfold chkS at h
    split at h
    · simp only [Bool.and_eq_true, decide_eq_true_eq] at h
      obtain ⟨⟨⟨⟨⟨rfl, h2⟩, h3⟩, h4⟩, h5⟩, h6⟩ := h
      have nv := chkE_noStar c e _ _ _ h6
      exact st_app (ps_expr (pe_bm PySem.F.plainAttrs_list PySem.F.slot_list_append PySem.F.type_list_append mt_append (pe_var (by rw [ok.cx.nm]; exact h2) (vis_of h3) (nmOk_of h4).1 (nmOk_of h4).2) (one_arg (sE e X EX ok.cx _ h6) nv) rfl (meth_few nv) h5 (starEach_cons nv) rfl) rfl)
    · cases h
  | .ext i e, st, h => by
    unfold chkS at h
    split at h
    · simp only [Bool.and_eq_true, decide_eq_true_eq] at h
      obtain ⟨⟨⟨⟨⟨rfl, h2⟩, h3⟩, h4⟩, h5⟩, h6⟩ := h
      have nv := chkE_noStar c e _ _ _ h6
      exact st_ext (ps_expr (pe_bm PySem.F.plainAttrs_list PySem.F.slot_list_extend PySem.F.type_list_extend mt_extend (pe_var (by rw [ok.cx.nm]; exact h2) (vis_of h3) (nmOk_of h4).1 (nmOk_of h4).2) (one_arg (sE e X EX ok.cx _ h6) nv) rfl (meth_few nv) h5 (starEach_cons nv) rfl) rfl)
    · cases h
  | .ret e, st, h => by
    unfold chkS at h
    split at h
    · exact st_ret (ps_ret (sE e X EX ok.cx _ h))
    · cases h
  | .iff t a b, st, h => by
    unfold chkS at h
    split at h
    · simp only [Bool.and_eq_true] at h
      exact st_iff (sT t X EX ok.cx _ h.1.1.1 h.1.1.2).1 (sSs ok a _ h.1.2) (sSs ok b _ h.2)
    · cases h
  | .for_ t it b, st, h => by
    unfold chkS at h
    split at h
    · simp only [Bool.and_eq_true] at h
      obtain ⟨⟨h1, h2⟩, h3⟩ := h
      refine st_for ok.po ok.cx.calm (sI it X EX ok.cx (isTupTg t) _ _ (fun z => ?_) h2) (sTg ok.cx.nm ok.cx.nd ok.cx.calm t _ h1) (sSs ok b _ h3) (folded_of h2)
      cases t with
      | name i => cases z
      | tup ts =>
        unfold chkT at h1
        split at h1
        · exact ⟨_, _, _, rfl⟩
        · cases h1
    · cases h
  | .whl t b, st, h => by
    unfold chkS at h
    split at h
    · simp only [Bool.and_eq_true] at h
      exact st_whl ok.po (sT t X EX ok.cx _ h.1.1 h.1.2).1 (sSs ok b _ h.2)
    · cases h
  | .exp e, st, h => by
    unfold chkS at h
    split at h
    · simp only [Bool.and_eq_true] at h
      exact st_exp (ps_expr (sE e X EX ok.cx _ h.1) (swaps_no h.2 _ _ _))
    · cases h
  | .rai n, st, h => by
    unfold chkS at h
    split at h
    · simp only [Bool.and_eq_true, decide_eq_true_eq] at h
      obtain ⟨⟨h1, h2⟩, h3⟩ := h
      obtain ⟨a, e1, e2, e3, e4, e5, e6⟩ := ok.cx.amb.xc n _ h1
      exact st_rai ok.cx.calm ok.tk e1 e2 e3 e4 e5 e6 (glo_of h2) (nmOk_of h3).1
    · cases h
  | .io i a b, st, h => by
    unfold chkS at h
    split at h
    · simp only [Bool.and_eq_true, decide_eq_true_eq] at h
      obtain ⟨⟨⟨⟨⟨⟨⟨h1, h2⟩, h3⟩, h4⟩, h5⟩, h6⟩, h7⟩, h8⟩ := h
      exact st_io ok.cx (fun _ _ => rfl) h1 (glo_of h2) (nmOk_of h3).1 (sE a X EX ok.cx _ h4) (chkE_noStar c a _ _ _ h4) (sE b X EX ok.cx _ h5) (chkE_noStar c b _ _ _ h5) (by rw [ok.cx.nm]; exact h6) (vis_of h7) (nmOk_of h8).1 (nmOk_of h8).2
    · cases h
theorem sSs (ok : SxOk c C xv k X EX) : ∀ (m : Ss) (sts : List Stmt), chkSs c m X.env.scope X.fn sts = true → PSs X sts (tSs X.K EX C F0 H0 m)
  | .nil, sts, h => by
    unfold chkSs at h
    cases sts with
    | nil => exact sts_nil
    | cons st sts => cases h
  | .cons m r, sts, h => by
    unfold chkSs at h
    split at h
    · exact sts_frz (sSs ok r sts h)
    · cases sts with
      | nil => cases h
      | cons st sts =>
        simp only [Bool.and_eq_true] at h
        exact sts_cons (sS ok m st h.1) (sSs ok r sts h.2)
end
end

/-! ### a def -/
theorem rep_start {K : PySem.W.Frag} {F H : Hp} {N : List Str} {vs : List V} {ds : List D} (l : Le F H) (r : RepA K F vs ds) (f : Fn) (hn : f.nn - f.np = N.length - vs.length) : Rst K F H (start N vs) (start0 f (ds.map fun d => some (.sh d))) := by
  have hl := r.length
  have get : ∀ (i : Nat) (x : Sl), (start0 f (ds.map fun d => some (Sl.sh d)))[i]? = some (some x) → ∃ d, ds[i]? = some d ∧ x = .sh d := fun i x e => by
    unfold start0 at e
    by_cases hi : i < ds.length
    · rw [List.getElem?_append_left (by simpa using hi), List.getElem?_map] at e
      rw [List.getElem?_eq_getElem hi] at e ⊢
      cases e
      exact ⟨_, rfl, rfl⟩
    · rw [List.getElem?_append_right (by simpa using hi), List.getElem?_replicate] at e
      split at e <;> cases e
  refine ⟨?_, l, fun i x e => ?_, fun i j xs ys a hij e1 e2 e3 => ?_⟩
  · unfold L2.start start0
    simp [hn, hl]
  · obtain ⟨d, h1, rfl⟩ := get i x e
    obtain ⟨v, h2, h3⟩ := r.get h1
    refine ⟨v, ?_, h3⟩
    unfold L2.start
    rw [List.getElem?_append_left (by simpa using (List.getElem?_eq_some_iff.mp h2).1), List.getElem?_map, h2]
    rfl
  · obtain ⟨d, _, h⟩ := get i _ e1
    cases h
theorem Amb.at {c : Ck} {C : EvC} {xv : Nat → Value} {P : Program} {w : World} {K : PySem.W.Frag} {mg : Str → Option Value} {base : Heap} {k : Nat} (h : Amb c C xv P w K mg base k) (N : List Str) : Amb { c with N := N } C xv P w K mg base k := ⟨h.fn, h.gv, h.bl, h.xc, h.cl, h.io⟩
section
variable {P : Program} {w : World} {K : PySem.W.Frag} {mg : Str → Option Value} {base : Heap}
theorem sx_of {c : Ck} {C : EvC} {xv : Nat → Value} {k : Nat} {N ps : List Str} {qual : Str} {sc : Scope} {f : Addr} {cdv : Value} {A : Around} {outer : List Env} {s : Shared} {H : Hp} {E : XK} (amb : Amb c C xv P w K mg base k) (S : FnScope N ps sc) (hr : Room k (A.deeper (PyProof.Rows.envOfC qual sc s.heap.objs.size f cdv))) :
    SxOk { c with N := N } C xv k (cxOf (L2.CX P w) P w K mg base N qual sc f cdv A outer s H E) (fun n H' => E (xv n) none H') := by
  have tk : Takes (cxOf (L2.CX P w) P w K mg base N qual sc f cdv A outer s H E) (fun cls d _ H => E cls d H) := takes_of rfl rfl rfl rfl
  have imp : ∀ cls d H', xwish xv (fun n H' => E (xv n) none H') cls d H' → E cls d H' := fun cls d H' ⟨n, e1, e2, h⟩ => by subst e1 e2; exact h
  exact ⟨⟨amb.at N, rfl, S.nd, rfl, hr, passes_call tk fun cls d _ H' h => imp cls d H' h⟩, S.kind, passes_of rfl, tk.imp fun cls d _ H' h => imp cls d H' h⟩
theorem fn_ok {c : Ck} {C : EvC} {xv : Nat → Value} {k : Nat} {x qual : Str} {st : Stmt} {f : Addr} {fd : FuncData} {N ps : List Str} (F : Fun K x qual st f fd) (S : FnScope N ps (defScope st)) (amb : Amb c C xv P w K mg base k) (fn : Fn)
    (hp : fn.np = ps.length) (hn : fn.nn = N.length) (hc : chkSs { c with N := N } fn.body (defScope st) (fun _ => true) (defBody st) = true) : FnOk P w K mg base (L2.CX P w) (k + 1) f fd ps (spR K xv (runF C fn)) := by
  refine F.okX S (fun vs H Q E h => ?_) (fun cdv A outer s H vs Q E hr h => ?_)
  · obtain ⟨F, ds, l, r, h⟩ := h
    rw [r.length, ← hp]
    unfold runF at h
    by_cases e : ds.length = fn.np
    · exact e
    · rw [if_neg e] at h; exact h.elim
  · obtain ⟨F, ds, l, r, h⟩ := h
    unfold runF at h
    by_cases e : ds.length = fn.np
    · rw [if_pos e] at h
      have ok := sx_of (outer := outer) (H := H) (E := E) amb S hr
      refine ⟨_, sSs (F0 := F) (H0 := H) ok fn.body _ hc, F, F, _, rep_start l r fn (by rw [r.length, e, hn]), ⟨.refl _, .refl _, .refl _, fun a o q => .inl q, fun i xs a e1 _ => ?_⟩, ?_⟩
      · exfalso
        unfold start0 at e1
        by_cases hi : i < ds.length
        · rw [List.getElem?_append_left (by simpa using hi), List.getElem?_map, List.getElem?_eq_getElem hi] at e1
          cases e1
        · rw [List.getElem?_append_right (by simpa using hi), List.getElem?_replicate] at e1
          split at e1 <;> cases e1
      · cases e2 : evSs C fn.body (start0 fn (ds.map fun d => some (.sh d))) with
        | nx d' => rw [e2] at h; exact fun σ' F' H' R g => h _ F' H' (g.stp R.le) .non
        | rt y => rw [e2] at h; exact h
        | exc n => rw [e2] at h; exact h
        | fail => rw [e2] at h; exact h
    · rw [if_neg e] at h; exact h.elim
/-- the law itself: True -/
def spLaw (K : PySem.W.Frag) : Sp := fun vs H Q _ => ∃ (a : Addr) (ns : List Int), vs = [.ref a] ∧ SqL K H a (ns.map V.int) ∧ ns.length ≤ 63 ∧ ∀ H', Q (.bl true) H'
theorem law_ok {c : Ck} {C : EvC} {xv : Nat → Value} {k : Nat} {x qual : Str} {st : Stmt} {f : Addr} {fd : FuncData} {N ps : List Str} (F : Fun K x qual st f fd) (S : FnScope N ps (defScope st)) (amb : Amb c C xv P w K mg base k) (fn : Fn)
    (hp : fn.np = 1) (hps : ps.length = 1) (hn : fn.nn = N.length) (hc : chkSs { c with N := N } fn.body (defScope st) (fun _ => true) (defBody st) = true)
    (law : ∀ ns : List Int, ns.length ≤ 63 → (evSs C fn.body (start0 fn [some (.scr ns)])).res = .ok (.bool true)) : FnOk P w K mg base (L2.CX P w) (k + 1) f fd ps (spLaw K) := by
  refine F.okX S (fun vs H Q E h => ?_) (fun cdv A outer s H vs Q E hr h => ?_)
  · obtain ⟨a, ns, rfl, _⟩ := h
    exact hps.symm
  · obtain ⟨a, ns, rfl, hS, h63, q⟩ := h
    have ok := sx_of (outer := outer) (H := H) (E := E) amb S hr
    have hl := law ns h63
    have get : ∀ (i : Nat) (x : Sl), (start0 fn [some (Sl.scr ns)])[i]? = some (some x) → i = 0 ∧ x = .scr ns := fun i x e => by
      unfold start0 at e
      cases i with
      | zero => simp at e; exact ⟨rfl, e.symm⟩
      | succ i =>
        rw [List.getElem?_append_right (by simp), List.getElem?_replicate] at e
        split at e <;> cases e
    refine ⟨_, sSs (F0 := H) (H0 := H) ok fn.body _ hc, H, H, start0 fn [some (.scr ns)], ⟨?_, .refl _, fun i x e => ?_, fun i j xs ys a hij e1 e2 e3 => ?_⟩, ⟨.refl _, .refl _, .refl _, fun a o q => .inl q, fun i xs a e1 _ => ?_⟩, ?_⟩
    · unfold L2.start start0
      simp [hp, hn]
    · obtain ⟨rfl, rfl⟩ := get i x e
      exact ⟨_, rfl, a, rfl, hS⟩
    · obtain ⟨_, h⟩ := get i _ e1
      cases h
    · obtain ⟨_, h⟩ := get i _ e1
      cases h
    · cases e2 : evSs C fn.body (start0 fn [some (.scr ns)]) with
      | nx d' => rw [e2] at hl; cases hl
      | rt y =>
        rw [e2] at hl
        cases hl
        intro v F' H' s r
        cases r
        exact q H'
      | exc n => rw [e2] at hl; cases hl
      | fail => rw [e2] at hl; cases hl
end
end Tf
/-! Tf2l: a def whose third parameter is a list that it makes longer: the name keeps its list. -/
namespace Tf
open PySem L2
mutual
def pinS : S → Bool
  | .set i e => i != 2 && (match e with | .lst _ => false | _ => true)
  | .app _ _ => true
  | .io _ _ _ => true
  | .for_ t _ b => !(slotsT t).contains 2 && pinSs b
  | _ => false
def pinSs : Ss → Bool
  | .nil => true
  | .cons m r => pinS m && pinSs r
end
section
variable (K : PySem.W.Frag) (C : EvC) (F0 H0 : Hp) (a : Addr)
def PostP (FL : Hp) (D : Ends) (r : Out) : Prop := match r with
  | .nx d' => ∀ σ' F' H', Rst K F' H' σ' d' → Good F0 H0 FL F' H' σ' d' → σ'[2]? = some (some (.ref a)) → D.nx σ' H'
  | _ => False
def tP (m : S) : TS := fun D σ H => ∃ FL F d, Rst K F H σ d ∧ Good F0 H0 FL F H σ d ∧ σ[2]? = some (some (.ref a)) ∧ PostP K F0 H0 a FL D (evS C m d)
def tPs (m : Ss) : TS := fun D σ H => ∃ FL F d, Rst K F H σ d ∧ Good F0 H0 FL F H σ d ∧ σ[2]? = some (some (.ref a)) ∧ PostP K F0 H0 a FL D (evSs C m d)
end
section
variable {K : PySem.W.Frag} {EX : Nat → Hp → Prop} {C : EvC} {F0 H0 FL F H : Hp} {σ : L2.St} {d : Sd} {D : Ends} {a : Addr}
theorem PostP.outE {r : R Tf.D} {f : Tf.D → Out} {G : VK} (h : PostP K F0 H0 a FL D (r.out f))
    (k : ∀ y v F1 H1, Stp F H F1 H1 → Rep K F1 v y → PostP K F0 H0 a FL D (f y) → G v H1) : okE K EX F H r G := by
  cases r with
  | ok y => exact fun v F1 H1 s1 r1 => k y v F1 H1 s1 r1 h
  | exc c => exact h.elim
  | fail => exact h
theorem PostP.outI {r : R (List Tf.D)} {f : List Tf.D → Out} {G : L2.It → Hp → Prop} (h : PostP K F0 H0 a FL D (r.out f))
    (k : ∀ ys J F1 H1, Stp F H F1 H1 → Wk K J F1 ys → PostP K F0 H0 a FL D (f ys) → G J H1) : okI K EX F H r G := by
  cases r with
  | ok y => exact fun J F1 H1 s1 wk => k y J F1 H1 s1 wk h
  | exc c => exact h.elim
  | fail => exact h
theorem PostP.thenF {FL' : Hp} {r : Out} {f : Sd → Out} {D' : Ends} (h : PostP K F0 H0 a FL D (r.then f)) (l : Le FL FL')
    (k : ∀ d' σ' F' H', Rst K F' H' σ' d' → Good F0 H0 FL' F' H' σ' d' → σ'[2]? = some (some (.ref a)) → PostP K F0 H0 a FL D (f d') → D'.nx σ' H') : PostP K F0 H0 a FL' D' r := by
  cases r with
  | nx d' => exact fun σ' F' H' R g p => k d' σ' F' H' R g p h
  | rt y => exact h.elim
  | exc c => exact h
  | fail => exact h
end
section
variable {X : Cx} {EX : Nat → Hp → Prop} {C : EvC} {F0 H0 FL : Hp} {st : Stmt} {a : Addr}
theorem pin_set {σ : L2.St} {i : Nat} {v : Option V} (hi : i ≠ 2) (h : σ[2]? = some (some (.ref a))) : (σ.set i v)[2]? = some (some (.ref a)) := by
  rw [List.getElem?_set_ne hi]; exact h
theorem sp_set {i : Nat} {e : E} (hi : i ≠ 2) (h : PS X st (tAsg (tE X.K EX C e) (gName i))) : PS X st (tP X.K C F0 H0 a (.set i e)) :=
  h.imp fun D σ H ⟨FL, F, d, R, g, pn, q⟩ => by
    unfold evS at q
    exact ⟨F, d, R, PostP.outE q fun y v F1 H1 s1 r1 q1 => q1 _ F1 H1 ((R.step s1).setSh i r1) ((g.step R.le s1).setSh i v y) (pin_set hi pn)⟩
theorem sp_app {i : Nat} {e : E} (h : PS X st (tDrop (tBM X.K "list" rAppend (tVar i) (tCons (tE X.K EX C e) tNil)))) : PS X st (tP X.K C F0 H0 a (.app i e)) :=
  h.imp fun D σ H ⟨FL, F, d, R, g, pn, q⟩ => by
    unfold evS at q
    split at q
    · rename_i ds hd
      obtain ⟨v, e1, a, vs, rfl, n1, h1, r1⟩ := R.sl i _ hd
      refine ⟨_, e1, .inl ⟨rfl, vs, SqL.of h1⟩, F, d, R, PostP.outE q fun y u F2 H2 s2 r2 q2 => ?_⟩
      split at q2
      · rename_i hz
        have R2 := R.step s2
        obtain ⟨v', e1', a', vs', e2', n2, h2, r2'⟩ := R2.sl i _ hd
        cases (Option.some.inj (Option.some.inj (e1.symm.trans e1')))
        cases e2'
        refine ⟨a, vs', u, rfl, rfl, h2, ?_, q2 σ F2 _ (R2.grow hd e1 n2 h2 (r2'.append (.cons r2 .nil))) ((g.step R.le s2).grow hd e1) pn⟩
        have hl : lim = 1000000 := rfl
        rw [r2'.length, sizeLine_eq]
        omega
      · exact q2.elim
    · exact q.elim
theorem sp_io {n : Str} {x y : Expr} {u : Str} {pu p pos pos2 : Pos} {ea eb : E} {i : Nat} {c : Ck} {xv : Nat → Value} {k : Nat} (ok : CxOk c C xv k X EX) (hsw : ∀ tg l, swapsWith (.Call (.Name n p) [x, y, .Name u pu] [] pos) tg l X.env = pure false) (hf : c.io = some n) (hg : Gl X n) (h1 : (n == ("__debug__" : Str)) = false) (ha : PE X x (tE X.K EX C ea)) (hx : noStar x = true) (hb : PE X y (tE X.K EX C eb)) (hy : noStar y = true)
    (hN : X.N[i]? = some u) (hv : Vis X.env.scope u) (h4 : (u == ("__debug__" : Str)) = false) (h5 : (u == ("__classdict__" : Str)) = false) :
    PS X (.Expr (.Call (.Name n p) [x, y, .Name u pu] [] pos) pos2) (tP X.K C F0 H0 a (.io i ea eb)) := by
  obtain ⟨ad, fd, ps, F1, hm, hk, hbd⟩ := ok.amb.io n hf
  have h3 : (backTo pos (starEach [y, .Name u pu] X.env)).any (·.1) = false := by
    rw [starEach_cons hy]; rfl
  refine (ps_expr (pe_call F1 ok.room hg hm hk hbd .nil ok.pas (pa_cons ha (pa_cons hb (pa_cons (pe_var hN hv h4 h5) pa_nil rfl) (starEach_cons hy)) (starEach_cons hx)) h1 (starEach_cons hx) h3) (hsw _ _)).imp fun D σ H ⟨FL, F, d, R, g, pn, q⟩ => ?_
  unfold evS at q
  split at q
  · rename_i ds hd
    obtain ⟨v0, e1, a0, vs0, rfl, n1, hh1, r1⟩ := R.sl i _ hd
    refine ⟨F, d, R, PostP.outE q fun dx v1 F2 H2 s2 r2 q2 => ⟨F2, d, R.step s2, PostP.outE q2 fun dy v2 F3 H3 s3 r3 q3 => ⟨_, e1, ?_⟩⟩⟩
    have R3 := (R.step s2).step s3
    have g3 := (g.step R.le s2).step (R.step s2).le s3
    obtain ⟨v', e1', a', vs', e2', n2, h2, r2'⟩ := R3.sl i _ hd
    cases (Option.some.inj (Option.some.inj (e1.symm.trans e1')))
    cases e2'
    cases e : C.io dx dy ds with
    | none => rw [e] at q3; exact q3.elim
    | some es =>
      rw [e] at q3
      exact ⟨F3, dx, dy, ds, es, a0, v1, v2, vs', rfl, R3.le, n2, h2, Rep.mono s3.1 _ r2, r3, r2', e, fun v G1 G2 H' xs' t1 z1 z2 z3 _ _ => q3 σ G1 H' (R3.io hd e1 t1 z1 z2 z3) (g3.io hd e1 t1) pn⟩
  · exact q.elim
theorem sps_nil : PSs X [] (tPs X.K C F0 H0 a .nil) := pss_nil.imp fun D σ H ⟨FL, F, d, R, g, pn, q⟩ => by
  unfold evSs at q
  exact q σ F H R g pn
theorem sps_cons {m : S} {r : Ss} {sts : List Stmt} (h1 : PS X st (tP X.K C F0 H0 a m)) (h2 : PSs X sts (tPs X.K C F0 H0 a r)) : PSs X (st :: sts) (tPs X.K C F0 H0 a (.cons m r)) :=
  (pss_cons h1 h2).imp fun D σ H ⟨FL, F, d, R, g, pn, q⟩ => by
    unfold evSs at q
    exact ⟨FL, F, d, R, g, pn, PostP.thenF q (.refl _) fun d' σ' F' H' R' g' p' q' => ⟨FL, F', d', R', g', p', q'⟩⟩
theorem sp_for {t : Tg} {it : It} {b : Ss} {tg iter : Expr} {x : List Stmt} {pos : Pos} (ht : 2 ∉ slotsT t) (hp : PassesOwn (model X.prog X.w) X.A X.env X.xe) (hc : X.calm = true) (hi : PI X tg iter (tI X.K EX C it)) (hg : PG X tg (gTg X.K t)) (hb : PSs X x (tPs X.K C F0 H0 a b))
    (hs : ∀ v, foldedSetIterable iter X.env v = pure v) : PS X (.For tg iter x [] pos) (tP X.K C F0 H0 a (.for_ t it b)) :=
  (ps_for hp hc hi hg hb hs).imp fun D σ H ⟨FL, F, d, R, g, pn, q⟩ => by
    unfold evS at q
    refine ⟨F, d, R, PostP.outI q fun items J F1 H1 s1 wk q1 => ?_⟩
    have lfl : Le FL F1 := g.fl.trans s1.1
    refine ⟨fun i n σ' H' => n = items.length - i ∧ i ≤ items.length ∧ ∃ F' d', Rst X.K F' H' σ' d' ∧ Good F0 H0 F1 F' H' σ' d' ∧ σ'[2]? = some (some (.ref a)) ∧ PostP X.K F0 H0 a FL D (loopFor t (fun s' => evSs C b s') (items.drop i) d'),
      ⟨items.length, by simp, Nat.zero_le _, F1, d, R.step s1, (g.step R.le s1).floor (.refl _), pn, by rw [List.drop_zero]; exact q1⟩, ?_⟩
    rintro i n σ' H' ⟨rfl, hi', F', d', R', g', pn', q'⟩
    by_cases hlt : i < items.length
    · refine .inr ⟨wk.go i F' H' g'.fl R'.le hlt, _, fun σ'' H'' z => ⟨items.length - (i + 1), by omega, z⟩, fun v H'' y => ?_⟩
      obtain ⟨F2, s2, rv⟩ := wk.yld i F' H' v H'' _ g'.fl R'.le y (List.getElem?_eq_getElem hlt)
      rw [List.drop_eq_getElem_cons hlt] at q'
      unfold loopFor at q'
      cases e2 : bindT t items[i] d' with
      | none => rw [e2] at q'; exact q'.elim
      | some d2 =>
        rw [e2] at q'
        simp only at q'
        refine bindT_ok t _ d' d2 v σ' _ e2 rv (R'.step s2) fun σ2 R2 w => ⟨F1, F2, d2, R2, (g'.step R'.le s2).bind (K := X.K) e2 w, ?_, PostP.thenF q' lfl fun d3 σ3 F3 H3 R3 g3 p3 q3 => ⟨rfl, hlt, F3, d3, R3, g3, p3, q3⟩⟩
        have qq : (L2.wipe σ2 (slotsT t))[2]? = (L2.wipe σ' (slotsT t))[2]? := by rw [w (slotsT t) fun _ h => h]
        rw [wipe_out ht, wipe_out ht] at qq
        rw [qq]; exact pn'
    · have e : i = items.length := by omega
      subst e
      rw [List.drop_length] at q'
      unfold loopFor at q'
      exact .inl ⟨wk.stop F' H' g'.fl R'.le, q' σ' F' H' R' (g'.floor (lfl.trans g'.fl)) pn'⟩
end
section
variable {c : Ck} {C : EvC} {xv : Nat → Value} {k : Nat} {X : Cx} {EX : Nat → Hp → Prop} {F0 H0 : Hp} {a : Addr}
mutual
theorem sP (ok : SxOk c C xv k X EX) : ∀ (m : S) (st : Stmt), pinS m = true → chkS c m X.env.scope X.fn st = true → PS X st (tP X.K C F0 H0 a m)
  | .set i e, st, hp, h => by
    unfold pinS at hp
    simp only [Bool.and_eq_true, bne_iff_ne] at hp
    unfold chkS at h
    split at h
    · simp only [Bool.and_eq_true, Bool.or_eq_true, decide_eq_true_eq] at h
      obtain ⟨⟨⟨⟨h1, h2⟩, h3⟩, h4⟩, h5⟩ := h
      rcases h5 with h5 | h5
      · exact sp_set hp.1 (ps_set ok.cx.nd (by rw [ok.cx.nm]; exact h1) (loc_of h2) (sE e X EX ok.cx _ h4) (swaps_no h5 _ _ _) (h3.imp (fun z => z) isLoc_of))
      · cases e with
        | lst l => cases hp.2
        | _ =>
          exfalso
          unfold swapC at h5
          split at h5
          · unfold chkE at h4; cases h4
          · cases h5
    · cases h
  | .app i e, st, hp, h => by
    unfold chkS at h
    split at h
    · simp only [Bool.and_eq_true, decide_eq_true_eq] at h
      obtain ⟨⟨⟨⟨⟨rfl, h2⟩, h3⟩, h4⟩, h5⟩, h6⟩ := h
      have nv := chkE_noStar c e _ _ _ h6
      exact sp_app (ps_expr (pe_bm PySem.F.plainAttrs_list PySem.F.slot_list_append PySem.F.type_list_append mt_append (pe_var (by rw [ok.cx.nm]; exact h2) (vis_of h3) (nmOk_of h4).1 (nmOk_of h4).2) (one_arg (sE e X EX ok.cx _ h6) nv) rfl (meth_few nv) h5 (starEach_cons nv) rfl) rfl)
    · cases h
  | .for_ t it b, st, hp, h => by
    unfold pinS at hp
    simp only [Bool.and_eq_true, Bool.not_eq_true'] at hp
    unfold chkS at h
    split at h
    · simp only [Bool.and_eq_true] at h
      obtain ⟨⟨h1, h2⟩, h3⟩ := h
      refine sp_for (EX := EX) (fun z => ?_) ok.po ok.cx.calm (sI it X EX ok.cx (isTupTg t) _ _ (fun z => ?_) h2) (sTg ok.cx.nm ok.cx.nd ok.cx.calm t _ h1) (sPs ok b _ hp.2 h3) (folded_of h2)
      · have := hp.1
        rw [List.contains_eq_mem, decide_eq_false_iff_not] at this
        exact this z
      · cases t with
        | name i => cases z
        | tup ts =>
          unfold chkT at h1
          split at h1
          · exact ⟨_, _, _, rfl⟩
          · cases h1
    · cases h
  | .io i ea eb, st, hp, h => by
    unfold chkS at h
    split at h
    · simp only [Bool.and_eq_true, decide_eq_true_eq] at h
      obtain ⟨⟨⟨⟨⟨⟨⟨h1, h2⟩, h3⟩, h4⟩, h5⟩, h6⟩, h7⟩, h8⟩ := h
      exact sp_io ok.cx (fun _ _ => rfl) h1 (glo_of h2) (nmOk_of h3).1 (sE ea X EX ok.cx _ h4) (chkE_noStar c ea _ _ _ h4) (sE eb X EX ok.cx _ h5) (chkE_noStar c eb _ _ _ h5) (by rw [ok.cx.nm]; exact h6) (vis_of h7) (nmOk_of h8).1 (nmOk_of h8).2
    · cases h
  | .setL _ _, _, hp, _ => by cases hp
  | .frz _, _, hp, _ => by cases hp
  | .unp _ _, _, hp, _ => by cases hp
  | .par _ _ _ _, _, hp, _ => by cases hp
  | .parL _ _ _ _, _, hp, _ => by cases hp
  | .parR _ _ _ _, _, hp, _ => by cases hp
  | .ext _ _, _, hp, _ => by cases hp
  | .ret _, _, hp, _ => by cases hp
  | .iff _ _ _, _, hp, _ => by cases hp
  | .whl _ _, _, hp, _ => by cases hp
  | .exp _, _, hp, _ => by cases hp
  | .rai _, _, hp, _ => by cases hp
theorem sPs (ok : SxOk c C xv k X EX) : ∀ (m : Ss) (sts : List Stmt), pinSs m = true → chkSs c m X.env.scope X.fn sts = true → PSs X sts (tPs X.K C F0 H0 a m)
  | .nil, sts, _, h => by
    unfold chkSs at h
    cases sts with
    | nil => exact sps_nil
    | cons st sts => cases h
  | .cons m r, sts, hp, h => by
    unfold pinSs at hp
    simp only [Bool.and_eq_true] at hp
    unfold chkSs at h
    split at h
    · cases hp.1
    · cases sts with
      | nil => cases h
      | cons st sts =>
        simp only [Bool.and_eq_true] at h
        exact sps_cons (sP ok m st hp.1 h.1) (sPs ok r sts hp.2 h.2)
end
end
section
variable {P : Program} {w : World} {K : PySem.W.Frag} {mg : Str → Option Value} {base : Heap}
/-- for ..: ..; return tuple(found) -/
theorem io_ok {c : Ck} {C : EvC} {xv : Nat → Value} {k : Nat} {x qual : Str} {st : Stmt} {f : Addr} {fd : FuncData} {N ps : List Str} (F : Fun K x qual st f fd) (S : FnScope N ps (defScope st)) (amb : Amb c C xv P w K mg base k) {m : Tf.S} {s1 : Stmt} {r : Expr} {pr : Pos}
    (hps : ps.length = 3) (hN : 3 ≤ N.length) (hb : defBody st = [s1, .Return (some r) pr]) (hpin : pinS m = true) (hc : chkS { c with N := N } m (defScope st) (fun _ => true) s1 = true) (hr : chkE { c with N := N } (.bi .tuple (.var 2)) (defScope st) (fun _ => true) r = true)
    {io : D → D → List D → Option (List D)} (hio : ∀ x y ds es, io x y ds = some es → ioF C N.length m x y ds = some es) : FnOk P w K mg base (L2.CX P w) (k + 1) f fd ps (spIo K io) := by
  refine F.okX S (fun vs H Q E h => ?_) (fun cdv A outer s H vs Q E hroom h => ?_)
  · obtain ⟨_, _, _, _, _, _, _, _, _, rfl, _⟩ := h
    exact hps.symm
  · obtain ⟨F, x, y, ds, es, a, v1, v2, xs, rfl, l, hn, hh, r1, r2, r3, hm, q⟩ := h
    have hm := hio _ _ _ _ hm
    rw [hb]
    have ok := sx_of (outer := outer) (H := H) (E := E) amb S hroom
    have hs := sP (F0 := F) (H0 := del H a) (a := a) ok m s1 hpin hc
    have hre := sE (.bi .tuple (.var 2)) _ _ ok.cx r hr
    refine ⟨_, pss_cons hs (pss_one (ps_ret hre)), F, F, [some (.sh x), some (.sh y), some (.ow ds)] ++ List.replicate (N.length - 3) none, ?_, ?_, ?_, ?_⟩
    · have get : ∀ (i : Nat) (z : Sl), ([some (Sl.sh x), some (.sh y), some (.ow ds)] ++ List.replicate (N.length - 3) none)[i]? = some (some z) → (i = 0 ∧ z = .sh x) ∨ (i = 1 ∧ z = .sh y) ∨ (i = 2 ∧ z = .ow ds) := fun i z e => by
        match i with
        | 0 => simp at e; exact .inl ⟨rfl, e.symm⟩
        | 1 => simp at e; exact .inr (.inl ⟨rfl, e.symm⟩)
        | 2 => simp at e; exact .inr (.inr ⟨rfl, e.symm⟩)
        | i + 3 =>
          rw [List.getElem?_append_right (by simp), List.getElem?_replicate] at e
          split at e <;> cases e
      refine ⟨?_, l, fun i z e => ?_, fun i j xs' ys' b hij e1 e2 e3 => ?_⟩
      · unfold L2.start
        simp
      · rcases get i z e with ⟨rfl, rfl⟩ | ⟨rfl, rfl⟩ | ⟨rfl, rfl⟩
        · exact ⟨_, rfl, r1⟩
        · exact ⟨_, rfl, r2⟩
        · exact ⟨_, rfl, a, xs, rfl, hn, hh, r3⟩
      · rcases get i _ e1 with ⟨rfl, z⟩ | ⟨rfl, z⟩ | ⟨rfl, z⟩
        · cases z
        · cases z
        · rcases get j _ e2 with ⟨rfl, z⟩ | ⟨rfl, z⟩ | ⟨rfl, z⟩
          · cases z
          · cases z
          · exact absurd rfl hij
    · refine ⟨.refl _, .refl _, .del, fun b o z => .inl z, fun i zs b e1 e2 => ?_⟩
      match i with
      | 0 => simp at e1
      | 1 => simp at e1
      | 2 =>
        have : L2.start N [v1, v2, .ref a] = some v1 :: some v2 :: some (.ref a) :: List.replicate (N.length - 3) none := rfl
        rw [this] at e2
        cases e2
        exact del_same
      | i + 3 =>
        rw [List.getElem?_append_right (by simp), List.getElem?_replicate] at e1
        split at e1 <;> cases e1
    · rfl
    · unfold ioF at hm
      split at hm
      · rename_i d' e
        rw [e]
        split at hm
        · rename_i es' hd
          cases hm
          intro σ' F' H' R g pn
          obtain ⟨v', e1', a', vs', e2', n2, h2, r2'⟩ := R.sl 2 _ hd
          cases (Option.some.inj (Option.some.inj (pn.symm.trans e1')))
          cases e2'
          refine ⟨upd F' a (.lst vs'), d'.set 2 (some (.sh (.list es))), R.freeze hd pn n2 h2 r2', ?_⟩
          have hlen : 2 < d'.length := (List.getElem?_eq_some_iff.mp hd).1
          have ee : ev C (.bi .tuple (.var 2)) (d'.set 2 (some (.sh (.list es)))) = .ok (.tuple es) := by
            simp [ev, biD, hlen]
          rw [ee]
          intro v F2 H2 t2 rv
          have t1 := g.stp R.le
          have hF2 := t2.1 a _ upd_same
          have tF : Stp F (del H a) F' H2 := ⟨t1.1, (Le.trans (.fresh n2) t2.1).trans t2.2.1, t1.2.2.1.trans t2.2.2.1, t1.2.2.2⟩
          have tG : Stp F (del H a) F2 H2 := ⟨t1.1.trans ((Le.fresh n2).trans t2.1), t2.2.1, t1.2.2.1.trans t2.2.2.1, fun b o z => by
            rcases t2.2.2.2 b o z with z | z
            · by_cases hba : b = a
              · subst hba; exact .inr del_same
              · rw [upd_ne hba] at z; exact t1.2.2.2 b o z
            · exact .inr (t1.2.2.1.non z)⟩
          exact q v F' F2 H2 vs' tF n2 (t2.2.1 _ _ hF2) r2' tG rv
        · cases hm
      · cases hm
end
end Tf
/-! Tf2k: a whole program: all defs by one induction over the level. -/
namespace Tf
open PySem L2
section
variable {P : Program} {w : World} {K : PySem.W.Frag} {mg : Str → Option Value} {base : Heap}
/-- a def of the text stands at its name -/
structure DefAt (K : PySem.W.Frag) (mg : Str → Option Value) (x : Str) (st : Stmt) (ps : List Str) : Prop where
  ex : ∃ (a : Addr) (fd : FuncData), Fun K x x st a fd ∧ mg x = some (.ref a) ∧ Binds K fd ps []
theorem defAt_mk {h : Heap} (X : K.In h) (G : h.Ns mainGlobals mg) {x : Str} {st : Stmt} {ps : List Str} {f : Addr} {oc : Value} {od an : Option Addr} {osl : Array (Option Value)} {kV doc pm cdv ct : Value}
    (a : PySem.W.nsIn K mainGlobals x = some (some (.ref f))) (l : K.lookup f = some ⟨oc, od, .func (PySem.W.fnOf x x (defArgs st) (defBody st) (defScope st) .none kV doc pm an cdv ct), osl⟩)
    (c : PySem.W.codeIn K cdv x = true) (k : PySem.W.keepIn K (.ref f) = true)
    (b : ∀ (kV doc pm : Value) (an : Option Addr) (cdv ct : Value) (us : List Value), us.length = ps.length → bindArgs (PySem.W.fnOf x x (defArgs st) (defBody st) (defScope st) .none kV doc pm an cdv ct) ⟨us, []⟩ = pure (ps.zip us)) : DefAt K mg x st ps :=
  ⟨f, _, fun_mk l c k, PySem.W.mg_of X G a, Binds.all fun us hl => b kV doc pm an cdv ct us hl⟩
/-- an entry of the table keeps to the text -/
def EntOk (c : Ck) (xv : Nat → Value) (tbl : List Fk) (gv : Nat → Option D) (io : Io) (P : Program) (w : World) (K : PySem.W.Frag) (mg : Str → Option Value) (base : Heap) (f : Nat) (x : Str) : Prop :=
  (∃ fn st N ps, tbl[f]? = some (.fn fn) ∧ DefAt K mg x st ps ∧ FnScope N ps (defScope st) ∧ fn.np = ps.length ∧ fn.nn = N.length ∧ chkSs { c with N := N } fn.body (defScope st) (fun _ => true) (defBody st) = true) ∨
  (∃ m a fd ps, tbl[f]? = some (.prim m) ∧ mg x = some (.ref a) ∧ PySem.W.keepIn K (.ref a) = true ∧ Binds K fd ps [] ∧ ∀ n, Amb c ⟨run tbl gv io n, gv, 1000, io n⟩ xv P w K mg base (n + 1) → FnOk P w K mg base (L2.CX P w) (n + 2) a fd ps (spR K xv (m n)))
theorem fn_fail {k : Nat} {a : Addr} {fd : FuncData} {ps : List Str} {xv : Nat → Value} {m : List D → R D} (h : ∀ ds, m ds = .fail) : FnOk P w K mg base (L2.CX P w) k a fd ps (spR K xv m) := by
  have no : ∀ vs H Q E, ¬ spR K xv m vs H Q E := fun vs H Q E ⟨F, ds, _, _, q⟩ => by rw [h ds] at q; exact q
  exact ⟨fun vs H Q E q => absurd q (no vs H Q E), fun A outer s H args us vs Q E _ _ _ _ q => absurd q (no vs H Q E)⟩
/-- the def with a list that it makes longer keeps to the text -/
def IoOk (c : Ck) (tbl : List Fk) (gv : Nat → Option D) (io : Io) (K : PySem.W.Frag) (mg : Str → Option Value) (x : Str) : Prop :=
  (∀ x y ds, io 0 x y ds = none) ∧ ∃ (m : S) (st : Stmt) (N ps : List Str) (s1 : Stmt) (r : Expr) (pr : Pos), DefAt K mg x st ps ∧ FnScope N ps (defScope st) ∧ ps.length = 3 ∧ 3 ≤ N.length ∧ defBody st = [s1, .Return (some r) pr] ∧ pinS m = true ∧
    chkS { c with N := N } m (defScope st) (fun _ => true) s1 = true ∧ chkE { c with N := N } (.bi .tuple (.var 2)) (defScope st) (fun _ => true) r = true ∧
    ∀ n x y ds es, io (n + 1) x y ds = some es → ioF ⟨run tbl gv io n, gv, 1000, io n⟩ N.length m x y ds = some es
theorem fn_failIo {k : Nat} {a : Addr} {fd : FuncData} {ps : List Str} {m : D → D → List D → Option (List D)} (h : ∀ x y ds, m x y ds = none) : FnOk P w K mg base (L2.CX P w) k a fd ps (spIo K m) := by
  have no : ∀ vs H Q E, ¬ spIo K m vs H Q E := fun vs H Q E ⟨_, _, _, _, _, _, _, _, _, _, _, _, _, _, _, _, q, _⟩ => by rw [h] at q; cases q
  exact ⟨fun vs H Q E q => absurd q (no vs H Q E), fun A outer s H args us vs Q E _ _ _ _ q => absurd q (no vs H Q E)⟩
theorem amb_all {c : Ck} {xv : Nat → Value} {tbl : List Fk} {gv : Nat → Option D} {io : Io} (ent : ∀ (f : Nat) (x : Str), c.fns[f]? = some (some x) → EntOk c xv tbl gv io P w K mg base f x)
    (hg : ∀ (g : Nat) (x : Str) (d : D), c.gls[g]? = some (some x) → gv g = some d → ∃ u v, mg x = some u ∧ RelV v u ∧ Rep K (fun _ => none) v d)
    (hb : ∀ x ∈ bnames, mg x = none)
    (hx : ∀ (n : Nat) (x : Str), c.xcs[n]? = some (some x) → ∃ a, xv n = .ref a ∧ mg x = some (.ref a) ∧ PySem.W.excIn K a [.type "ValueError", .type "Exception", .type "BaseException", .type "object"] "ValueError.__new__" = true ∧
      PySem.W.keepIn K (.ref a) = true ∧ PySem.W.subIn K (.ref a) (.type "BaseException") = some true ∧ PySem.W.typeIn K (.ref a) = some (.type "type"))
    (hc : ∃ a fd ps, FnOk P w K mg base (L2.CX P w) 1 a fd ps (spCell K) ∧ mg "_law_cell" = some (.ref a) ∧ PySem.W.keepIn K (.ref a) = true ∧ Binds K fd ps [])
    (hi : ∀ x, c.io = some x → IoOk c tbl gv io K mg x) :
    ∀ n, Amb c ⟨run tbl gv io n, gv, 1000, io n⟩ xv P w K mg base (n + 1)
  | 0 => ⟨fun f x e => by
      rcases ent f x e with ⟨fn, st, N, ps, h1, ⟨a, fd, F, hm, hbd⟩, h3⟩ | ⟨m, a, fd, ps, h1, hm, hk, hbd, _⟩
      · exact ⟨a, fd, ps, fn_fail fun ds => rfl, hm, F.kp, hbd⟩
      · exact ⟨a, fd, ps, fn_fail fun ds => rfl, hm, hk, hbd⟩, hg, hb, hx, hc, fun x e => by
      obtain ⟨h0, m, st, N, ps, s1, r, pr, ⟨a, fd, F, hm, hbd⟩, _⟩ := hi x e
      exact ⟨a, fd, ps, fn_failIo h0, hm, F.kp, hbd⟩⟩
  | n + 1 => by
    have ih := amb_all ent hg hb hx hc hi n
    refine ⟨fun f x e => ?_, hg, hb, hx, let ⟨a, fd, ps, h, r⟩ := hc; ⟨a, fd, ps, h.mono (by omega), r⟩, fun x e => by
      obtain ⟨_, m, st, N, ps, s1, r, pr, ⟨a, fd, F, hm, hbd⟩, h1, h2, h3, h4, h5, h6, h7, h8⟩ := hi x e
      exact ⟨a, fd, ps, io_ok F h1 ih h2 h3 h4 h5 h6 h7 (h8 n), hm, F.kp, hbd⟩⟩
    rcases ent f x e with ⟨fn, st, N, ps, h1, ⟨a, fd, F, hm, hbd⟩, h3, h4, h5, h6⟩ | ⟨m, a, fd, ps, h1, hm, hk, hbd, h2⟩
    · refine ⟨a, fd, ps, ?_, hm, F.kp, hbd⟩
      have e : (fun ds => run tbl gv io (n + 1) f ds) = runF ⟨run tbl gv io n, gv, 1000, io n⟩ fn := by
        funext ds
        unfold run
        rw [h1]
      show FnOk P w K mg base (L2.CX P w) (n + 1 + 1) a fd ps (spR K xv (fun ds => run tbl gv io (n + 1) f ds))
      rw [e]
      exact fn_ok F h3 ih fn h4 h5 h6
    · refine ⟨a, fd, ps, ?_, hm, hk, hbd⟩
      have e : (fun ds => run tbl gv io (n + 1) f ds) = m n := by
        funext ds
        unfold run
        rw [h1]
      show FnOk P w K mg base (L2.CX P w) (n + 1 + 1) a fd ps (spR K xv (fun ds => run tbl gv io (n + 1) f ds))
      rw [e]
      exact h2 n ih

theorem asc_by {x : Str} (h : x.cps.all (fun c => decide (c < 128)) = true) : asc x := fun c hc => by
  rw [← Array.all_toList, List.all_eq_true] at h
  simpa using h c hc
/-! ### _law_cell -/
def cellBody : Expr := .Name "k" ⟨0, 0, 0, 0⟩
theorem cell_ok {st : Stmt} {f : Addr} {fd : FuncData} {x : Str} (F : Fun K x x st f fd) (S : FnScope ["script", "k"] ["script", "k"] (defScope st)) (ml : mg "len" = none)
    (gl : (defScope st).names.lookup ("len" : Str) = some NameKind.globalImplicit) (vs0 : Vis (defScope st) "script") (vs1 : Vis (defScope st) "k")
    {p1 p2 p3 p4 p5 p6 p7 p8 p9 p10 p11 p12 : Pos} {j : Nat}
    (hb : defBody st = [.If (.Compare (.Name "k" p1) [.Lt] [.Call (.Name "len" p2) [.Name "script" p3] [] p4] p5) [.Return (some (.Subscript (.Name "script" p6) (.Name "k" p7) p8)) p9] [] p10, .Return (some (.Constant (.int 0) j p11)) p12]) :
    FnOk P w K mg base (L2.CX P w) 1 f fd ["script", "k"] (spCell K) := by
  refine F.okX S (fun vs H Q E h => ?_) (fun cdv A outer s H vs Q E hr h => ?_)
  · obtain ⟨a, ns, k, rfl, _⟩ := h
    rfl
  · obtain ⟨a, ns, k, rfl, hS, hk, q⟩ := h
    rw [hb]
    have v0 : PE (cxOf (L2.CX P w) P w K mg base ["script", "k"] x (defScope st) f cdv A outer s H E) (.Name "script" p3) (tVar 0) := pe_var rfl vs0
    have v0' : PE (cxOf (L2.CX P w) P w K mg base ["script", "k"] x (defScope st) f cdv A outer s H E) (.Name "script" p6) (tVar 0) := pe_var rfl vs0
    have v1 : PE (cxOf (L2.CX P w) P w K mg base ["script", "k"] x (defScope st) f cdv A outer s H E) (.Name "k" p1) (tVar 1) := pe_var rfl vs1
    have v1' : PE (cxOf (L2.CX P w) P w K mg base ["script", "k"] x (defScope st) f cdv A outer s H E) (.Name "k" p7) (tVar 1) := pe_var rfl vs1
    refine ⟨_, pss_cons (ps_if (pt_cmpR op_lt v1 (pe_callB call_len_seq gl ml PySem.boot_len (pa_cons v0 pa_nil)) (nomark _)) (pss_one (ps_ret (pe_ix ix_list v0' v1' (fun _ _ => rfl)))) pss_nil) (pss_one (ps_ret pe_int)), ?_⟩
    refine ⟨_, rfl, _, rfl, a, _, rfl, .inl hS, _, _, rfl, rfl, _, rfl, ?_⟩
    refine ite2 (fun c => ?_) (fun c => ?_)
    · have c' : k < (((ns.map V.int).length : Nat) : Int) := of_decide_eq_true c
      rw [List.length_map] at c'
      have hlt : k.toNat < ns.length := by omega
      have ek : ((k.toNat : Nat) : Int) = k := by omega
      have e : atI (ns.map V.int) ((k.toNat : Nat) : Int) = some (.int ns[k.toNat]) := atI_nat (by rw [List.getElem?_map, List.getElem?_eq_getElem hlt]; rfl)
      rw [ek] at e
      have e2 : ns.getD k.toNat 0 = ns[k.toNat] := by simp [List.getD, hlt]
      rw [e2] at q
      exact ⟨_, rfl, _, rfl, a, _, _, _, rfl, rfl, hS, e, q⟩
    · have c' : ¬ k < (((ns.map V.int).length : Nat) : Int) := of_decide_eq_false (Bool.eq_false_iff.mpr c)
      rw [List.length_map] at c'
      have hle : ns.length ≤ k.toNat := by omega
      have e2 : ns.getD k.toNat 0 = 0 := by simp [List.getD, hle]
      rw [e2] at q
      exact q
end
/-- the end: a law's row from the evaluator's answer -/
theorem walk_law {l : PySem.W.OpenLaw} {q : Program} {loose : List Str} {XP : (Str → Option Value) → Heap → Prop} {YP : World → Heap → Prop} {d : DefRec} {K : Params → PySem.W.Frag} {k : Nat} (hn : l.most = some 63) (hdf : d.params.defaults = [])
    (hr : Room k callerA) (hY : ∀ (w : World) (h : Heap), YP w h → (K w.params).In h)
    (F : ∀ (w : World) (mg : Str → Option Value) (fa : Addr) (h : Heap), (K w.params).In h → h.Ns mainGlobals mg → mg d.name = some (.ref fa) →
      ∃ fd : FuncData, (∀ (s : Shared) (u : Value), BindsTo s fd ⟨[u], []⟩ [("script", u)]) ∧ ∀ base : Heap, (K w.params).In base → base.Ns mainGlobals mg → FnOk l.prog w (K w.params) mg base (L2.CX l.prog w) k fa fd ["script"] (spLaw (K w.params))) :
    PySem.W.WalkO q loose XP YP l.row.toRowW d [] (fun f vs => PySem.call f vs) :=
  L2.walk_of (n := 63) (k := k) (x := "script") (CX := fun w => L2.CX l.prog w) (sp := fun w => spLaw (K w.params)) hn (by decide) hdf hr hY F (fun _ _ a ns hl _ hS => ⟨a, ns, rfl, hS, hl, fun _ => rfl⟩)
    fun _ _ _ _ _ z => by
      obtain ⟨_, _, _, _, _, _, _, _, _, _, _, _, z⟩ := z
      exact z
end Tf
namespace Tf
open PySem
def N_is_letter : List Str := ["thing", "letters"]
def P_is_letter : List Str := ["thing", "letters"]
def b_is_letter : Ss := (.cons (.ret (.and (.isi (.var 0) .str) (.and (.cmp .Eq (.bi .len (.var 0)) (.con (.int 1))) (.cmp .In (.var 0) (.var 1)))))
    .nil)
def f_is_letter : Fn := ⟨2, 2, b_is_letter⟩
def N_is_any_tree : List Str := ["thing", "kid"]
def P_is_any_tree : List Str := ["thing"]
def b_is_any_tree : Ss := (.cons (.iff (.or (.not (.isi (.var 0) .tuple)) (.or (.cmp .NotEq (.bi .len (.var 0)) (.con (.int 2))) (.not (.call 0 (.cons (.idx (.var 0) (.con (.int 0))) (.cons (.glo 0) .nil)))))) (.cons (.ret (.con (.bool false)))
    .nil) .nil)
    (.cons (.ret (.and (.isi (.idx (.var 0) (.con (.int 1))) .tuple) (.bi .all (.lst (.comp (.name 1) (.seq (.idx (.var 0) (.con (.int 1)))) .no (.call 1 (.cons (.var 1) .nil)))))))
    .nil))
def f_is_any_tree : Fn := ⟨1, 2, b_is_any_tree⟩
def N_nodes : List Str := ["tree", "found", "k", "kid", "node"]
def P_nodes : List Str := ["tree"]
def b_nodes_1 : Ss := (.cons (.ext 1 (.lst (.comp (.name 4) (.seq (.call 2 (.cons (.var 3) .nil))) .no (.bin .Add (.tup (.cons (.var 2) .nil)) (.var 4)))))
    .nil)
def b_nodes : Ss := (.cons (.setL 1 (.disp (.cons (.tup .nil) .nil)))
    (.cons (.for_ (.tup (.cons (.name 2) (.cons (.name 3) .nil))) (.enum (.idx (.var 0) (.con (.int 1)))) b_nodes_1)
    (.cons (.frz 1)
    (.cons (.ret (.bi .tuple (.var 1)))
    .nil))))
def f_nodes : Fn := ⟨1, 5, b_nodes⟩
def N_is_tree : List Str := ["thing"]
def P_is_tree : List Str := ["thing"]
def b_is_tree : Ss := (.cons (.ret (.and (.call 1 (.cons (.var 0) .nil)) (.cmp .LtE (.bi .len (.call 2 (.cons (.var 0) .nil))) (.glo 1))))
    .nil)
def f_is_tree : Fn := ⟨1, 1, b_is_tree⟩
def N_tree_at : List Str := ["tree", "node", "k"]
def P_tree_at : List Str := ["tree", "node"]
def b_tree_at_1 : Ss := (.cons (.iff (.not (.cmp2 .LtE .Lt (.con (.int 0)) (.var 2) (.bi .len (.idx (.var 0) (.con (.int 1)))))) (.cons (.rai 0)
    .nil) .nil)
    (.cons (.set 0 (.idx (.idx (.var 0) (.con (.int 1))) (.var 2)))
    .nil))
def b_tree_at : Ss := (.cons (.for_ (.name 2) (.seq (.var 1)) b_tree_at_1)
    (.cons (.ret (.var 0))
    .nil))
def f_tree_at : Fn := ⟨2, 3, b_tree_at⟩
def N_law_mix : List Str := ["cell", "prime", "many", "blend"]
def P_law_mix : List Str := ["cell", "prime", "many"]
def b_law_mix : Ss := (.cons (.set 3 (.bin .Mod (.bin .Mult (.var 0) (.con (.int 48271))) (.var 1)))
    (.cons (.ret (.bin .Mod (.bin .Mod (.bin .Mult (.var 3) (.bin .Add (.var 3) (.con (.int 7)))) (.var 1)) (.var 2)))
    .nil))
def f_law_mix : Fn := ⟨3, 4, b_law_mix⟩
def N_law_same : List Str := ["found", "due", "one", "other"]
def P_law_same : List Str := ["found", "due"]
def b_law_same : Ss := (.cons (.iff (.isi (.var 1) .tuple) (.cons (.iff (.or (.not (.isi (.var 0) .tuple)) (.cmp .NotEq (.bi .len (.var 0)) (.bi .len (.var 1)))) (.cons (.ret (.con (.bool false)))
    .nil) .nil)
    (.cons (.ret (.bi .all (.lst (.comp (.tup (.cons (.name 2) (.cons (.name 3) .nil))) (.zip (.var 0) (.var 1)) .no (.call 6 (.cons (.var 2) (.cons (.var 3) .nil)))))))
    .nil)) .nil)
    (.cons (.iff (.cmp .Is (.var 1) (.con .none)) (.cons (.ret (.cmp .Is (.var 0) (.con .none)))
    .nil) .nil)
    (.cons (.iff (.or (.isi (.var 1) .bool) (.isi (.var 0) .bool)) (.cons (.ret (.and (.isi (.var 1) .bool) (.and (.isi (.var 0) .bool) (.cmp .Eq (.var 0) (.var 1)))))
    .nil) .nil)
    (.cons (.ret (.and (.isi2 (.var 0) .int .str) (.cmp .Eq (.var 0) (.var 1))))
    .nil))))
def f_law_same : Fn := ⟨2, 4, b_law_same⟩
def N_law_tree : List Str := ["cell", "many", "letter", "kids", "left", "seed", "size"]
def P_law_tree : List Str := ["cell", "many"]
def b_law_tree_1 : Ss := (.cons (.set 5 (.bin .Add (.var 0) (.bin .Mult (.con (.int 13)) (.var 4))))
    (.cons (.set 6 (.bin .Add (.con (.int 1)) (.call 5 (.cons (.var 5) (.cons (.con (.int 9967)) (.cons (.var 4) .nil))))))
    (.cons (.iff (.cmp .Eq (.call 5 (.cons (.var 5) (.cons (.con (.int 9949)) (.cons (.con (.int 3)) .nil)))) (.con (.int 0))) (.cons (.set 6 (.var 4))
    .nil) .nil)
    (.cons (.app 3 (.call 7 (.cons (.bin .Add (.var 5) (.con (.int 7))) (.cons (.var 6) .nil))))
    (.cons (.set 4 (.bin .Sub (.var 4) (.var 6)))
    .nil)))))
def b_law_tree : Ss := (.cons (.set 2 (.idx (.con (.str "abcdab")) (.call 5 (.cons (.var 0) (.cons (.con (.int 9973)) (.cons (.con (.int 6)) .nil))))))
    (.cons (.parL 3 4 (.disp .nil) (.bin .Sub (.var 1) (.con (.int 1))))
    (.cons (.whl (.cmp .Gt (.var 4) (.con (.int 0))) b_law_tree_1)
    (.cons (.frz 3)
    (.cons (.ret (.tup (.cons (.var 2) (.cons (.bi .tuple (.var 3)) .nil))))
    .nil)))))
def f_law_tree : Fn := ⟨2, 7, b_law_tree⟩
def N_law_path : List Str := ["cell", "most", "many", "left", "found", "k", "seed", "tests", "j", "way", "test"]
def P_law_path : List Str := ["cell", "most"]
def b_law_path_1 : Ss := (.cons (.iff (.cmp .Gt (.var 3) (.con (.int 0))) (.cons (.set 10 (.call 8 (.cons (.bin .Add (.bin .Add (.var 6) (.bin .Mult (.con (.int 29)) (.var 8))) (.con (.int 5))) (.cons (.bin .Add (.con (.int 1)) (.call 5 (.cons (.var 6) (.cons (.con (.int 9929)) (.cons (.var 3) .nil))))) .nil))))
    (.cons (.set 3 (.bin .Sub (.var 3) (.call 9 (.cons (.var 10) .nil))))
    (.cons (.app 7 (.var 10))
    .nil))) .nil)
    .nil)
def b_law_path_2 : Ss := (.cons (.set 6 (.bin .Add (.var 0) (.bin .Mult (.con (.int 17)) (.var 5))))
    (.cons (.setL 7 (.disp .nil))
    (.cons (.for_ (.name 8) (.rng1 (.call 5 (.cons (.var 6) (.cons (.con (.int 9931)) (.cons (.con (.int 3)) .nil))))) b_law_path_1)
    (.cons (.set 9 (.idx (.tup (.cons (.con (.str "in")) (.cons (.con (.str "deep")) .nil))) (.call 5 (.cons (.var 6) (.cons (.con (.int 9923)) (.cons (.con (.int 2)) .nil))))))
    (.cons (.frz 7)
    (.cons (.app 4 (.tup (.cons (.var 9) (.cons (.idx (.con (.str "abcab")) (.call 5 (.cons (.var 6) (.cons (.con (.int 9907)) (.cons (.con (.int 5)) .nil))))) (.cons (.bi .tuple (.var 7)) .nil)))))
    .nil))))))
def b_law_path : Ss := (.cons (.set 2 (.bin .Add (.con (.int 1)) (.call 5 (.cons (.var 0) (.cons (.con (.int 9941)) (.cons (.min2 (.con (.int 3)) (.var 1)) .nil))))))
    (.cons (.set 3 (.bin .Sub (.var 1) (.var 2)))
    (.cons (.setL 4 (.disp .nil))
    (.cons (.for_ (.name 5) (.rng1 (.var 2)) b_law_path_2)
    (.cons (.frz 4)
    (.cons (.ret (.bi .tuple (.var 4)))
    .nil))))))
def f_law_path : Fn := ⟨2, 11, b_law_path⟩
def N_law_steps : List Str := ["path", "step", "test"]
def P_law_steps : List Str := ["path"]
def b_law_steps : Ss := (.cons (.ret (.bi .sum (.lst (.comp (.name 1) (.seq (.var 0)) .no (.bin .Add (.con (.int 1)) (.bi .sum (.lst (.comp (.name 2) (.seq (.idx (.var 1) (.con (.int 2)))) .no (.call 9 (.cons (.var 2) .nil))))))))))
    .nil)
def f_law_steps : Fn := ⟨1, 3, b_law_steps⟩
def N_law_odd : List Str := ["thing", "cell", "some", "at"]
def P_law_odd : List Str := ["thing", "cell"]
def b_law_odd : Ss := (.cons (.iff (.and (.isi (.var 0) .tuple) (.and (.cmp .NotEq (.var 0) (.tup .nil)) (.cmp .Gt (.call 5 (.cons (.var 1) (.cons (.con (.int 9781)) (.cons (.con (.int 5)) .nil)))) (.con (.int 0))))) (.cons (.set 3 (.call 5 (.cons (.var 1) (.cons (.con (.int 9769)) (.cons (.bi .len (.var 0)) .nil)))))
    (.cons (.ret (.bin .Add (.bin .Add (.slc (.var 0) .no (.yes (.var 3))) (.tup (.cons (.call 10 (.cons (.idx (.var 0) (.var 3)) (.cons (.bin .Add (.bin .Add (.var 1) (.bin .Mult (.con (.int 31)) (.var 3))) (.con (.int 7))) .nil))) .nil))) (.slc (.var 0) (.yes (.bin .Add (.var 3) (.con (.int 1)))) .no)))
    .nil)) .nil)
    (.cons (.set 2 (.lst (.disp (.cons (.con .none) (.cons (.con (.bool true)) (.cons (.con (.bool false)) (.cons (.con (.int 0)) (.cons (.con (.int 1)) (.cons (.neg (.con (.int 1))) (.cons (.con (.int 2)) (.cons (.con (.int 7)) (.cons (.con (.int 10)) (.cons (.con (.int 1000)) (.cons (.con (.str "")) (.cons (.con (.str "a")) (.cons (.con (.str "A")) (.cons (.tup .nil) (.cons (.tup (.cons (.con (.str "a")) .nil)) (.cons (.lst (.disp (.cons (.con (.int 1)) .nil))) .nil)))))))))))))))))))
    (.cons (.iff (.isi (.var 0) .tuple) (.cons (.set 2 (.lst (.cat (.var 2) (.lst (.rep (.lst (.disp (.cons (.lst (.ofs (.var 0))) (.cons (.bin .Add (.var 0) (.slc (.var 0) (.yes (.neg (.con (.int 1)))) .no)) (.cons (.slc (.var 0) .no (.yes (.neg (.con (.int 1))))) (.cons (.rev (.var 0)) (.cons (.slc (.var 0) (.yes (.con (.int 1))) .no) (.cons (.tup (.cons (.var 0) .nil)) .nil)))))))) (.con (.int 2)))))))
    .nil) (.cons (.iff (.isi (.var 0) .str) (.cons (.set 2 (.lst (.cat (.var 2) (.lst (.rep (.lst (.disp (.cons (.bin .Add (.var 0) (.con (.str "a"))) (.cons (.slc (.var 0) .no (.yes (.neg (.con (.int 1))))) (.cons (.upper (.var 0)) (.cons (.bin .Add (.var 0) (.con (.str " "))) (.cons (.bin .Mult (.var 0) (.con (.int 2))) (.cons (.lst (.disp (.cons (.var 0) .nil))) (.cons (.bin .Add (.var 0) (.slc (.var 0) .no (.yes (.con (.int 1))))) .nil))))))))) (.con (.int 2)))))))
    .nil) (.cons (.iff (.isi (.var 0) .int) (.cons (.set 2 (.lst (.cat (.var 2) (.lst (.rep (.lst (.disp (.cons (.bin .Add (.var 0) (.con (.int 1))) (.cons (.bin .Sub (.var 0) (.con (.int 1))) (.cons (.bin .Sub (.con (.int 0)) (.var 0)) (.cons (.tup (.cons (.var 0) .nil)) (.cons (.bin .Add (.var 0) (.con (.int 2))) (.cons (.bin .Mult (.var 0) (.con (.int 2))) .nil)))))))) (.con (.int 2)))))))
    .nil) .nil)
    .nil))
    .nil))
    (.cons (.ret (.idx (.var 2) (.call 5 (.cons (.var 1) (.cons (.con (.int 9749)) (.cons (.bi .len (.var 2)) .nil))))))
    .nil))))
def f_law_odd : Fn := ⟨2, 4, b_law_odd⟩
-- by hand: law_word: isinstance isinstance(kept, NoText)
def P_law_word : List Str := ["kept"]
def p_law_word : Nat → List D → R D := fun _ _ => .fail
def N_law_count_k01 : List Str := ["thing", "some", "kid"]
def P_law_count_k01 : List Str := ["thing"]
def b_law_count_k01 : Ss := (.cons (.iff (.or (.not (.isi (.var 0) .tuple)) (.or (.cmp .NotEq (.bi .len (.var 0)) (.con (.int 2))) (.not (.isi (.idx (.var 0) (.con (.int 0))) .str)))) (.cons (.ret (.con (.int 0)))
    .nil) .nil)
    (.cons (.iff (.not (.isi (.idx (.var 0) (.con (.int 1))) .tuple)) (.cons (.ret (.con (.int 0)))
    .nil) .nil)
    (.cons (.iff (.or (.cmp .NotEq (.bi .len (.idx (.var 0) (.con (.int 0)))) (.con (.int 1))) (.cmp .NotIn (.idx (.var 0) (.con (.int 0))) (.con (.str "abcd")))) (.cons (.ret (.con (.int 0)))
    .nil) .nil)
    (.cons (.set 1 (.lst (.comp (.name 2) (.seq (.idx (.var 0) (.con (.int 1)))) .no (.call 12 (.cons (.var 2) .nil)))))
    (.cons (.ret (.ite (.cmp .In (.con (.int 0)) (.var 1)) (.con (.int 0)) (.bin .Add (.con (.int 1)) (.bi .sum (.var 1)))))
    .nil)))))
def f_law_count_k01 : Fn := ⟨1, 3, b_law_count_k01⟩
-- by hand: law_told_k01: stmt Try
def P_law_told_k01 : List Str := ["tree", "node"]
def p_law_told_k01 : Nat → List D → R D := fun _ _ => .fail
def N_law_all_k01 : List Str := ["tree", "node", "found", "k", "kid"]
def P_law_all_k01 : List Str := ["tree", "node"]
def b_law_all_k01_1 : Ss := (.cons (.ext 2 (.call 14 (.cons (.var 4) (.cons (.bin .Add (.var 1) (.tup (.cons (.var 3) .nil))) .nil))))
    .nil)
def b_law_all_k01 : Ss := (.cons (.setL 2 (.disp (.cons (.tup (.cons (.var 1) (.cons (.var 0) .nil))) .nil)))
    (.cons (.for_ (.tup (.cons (.name 3) (.cons (.name 4) .nil))) (.enum (.idx (.var 0) (.con (.int 1)))) b_law_all_k01_1)
    (.cons (.frz 2)
    (.cons (.ret (.var 2))
    .nil))))
def f_law_all_k01 : Fn := ⟨2, 5, b_law_all_k01⟩
def N_is_step : List Str := ["thing", "test"]
def P_is_step : List Str := ["thing"]
def b_is_step : Ss := (.cons (.iff (.or (.not (.isi (.var 0) .tuple)) (.or (.cmp .NotEq (.bi .len (.var 0)) (.con (.int 3))) (.or (.not (.isi (.idx (.var 0) (.con (.int 0))) .str)) (.cmp .NotIn (.idx (.var 0) (.con (.int 0))) (.glo 2))))) (.cons (.ret (.con (.bool false)))
    .nil) .nil)
    (.cons (.iff (.or (.not (.call 0 (.cons (.idx (.var 0) (.con (.int 1))) (.cons (.glo 3) .nil)))) (.or (.not (.isi (.idx (.var 0) (.con (.int 2))) .tuple)) (.cmp .Gt (.bi .len (.idx (.var 0) (.con (.int 2)))) (.con (.int 2))))) (.cons (.ret (.con (.bool false)))
    .nil) .nil)
    (.cons (.ret (.bi .all (.lst (.comp (.name 1) (.seq (.idx (.var 0) (.con (.int 2)))) .no (.call 16 (.cons (.var 1) .nil))))))
    .nil)))
def f_is_step : Fn := ⟨1, 2, b_is_step⟩
def N_is_any_path : List Str := ["thing", "one"]
def P_is_any_path : List Str := ["thing"]
def b_is_any_path : Ss := (.cons (.ret (.and (.isi (.var 0) .tuple) (.and (.cmp2 .LtE .LtE (.con (.int 1)) (.bi .len (.var 0)) (.con (.int 3))) (.bi .all (.lst (.comp (.name 1) (.seq (.var 0)) .no (.call 15 (.cons (.var 1) .nil))))))))
    .nil)
def f_is_any_path : Fn := ⟨1, 2, b_is_any_path⟩
def N_steps_in : List Str := ["path", "step", "test"]
def P_steps_in : List Str := ["path"]
def b_steps_in : Ss := (.cons (.ret (.bin .Add (.bi .len (.var 0)) (.bi .sum (.lst (.comp (.name 1) (.seq (.var 0)) .no (.bi .sum (.lst (.comp (.name 2) (.seq (.idx (.var 1) (.con (.int 2)))) .no (.call 17 (.cons (.var 2) .nil))))))))))
    .nil)
def f_steps_in : Fn := ⟨1, 3, b_steps_in⟩
def N_is_path : List Str := ["thing"]
def P_is_path : List Str := ["thing"]
def b_is_path : Ss := (.cons (.ret (.and (.call 16 (.cons (.var 0) .nil)) (.cmp .LtE (.call 17 (.cons (.var 0) .nil)) (.glo 4))))
    .nil)
def f_is_path : Fn := ⟨1, 1, b_is_path⟩
def N_rows_of : List Str := ["path", "ahead", "first", "found", "last", "way", "letter", "tests", "number", "test"]
def P_rows_of : List Str := ["path", "ahead", "first"]
def b_rows_of_1 : Ss := (.cons (.ext 3 (.idx (.call 19 (.cons (.var 9) (.cons (.var 8) (.cons (.bin .Add (.var 2) (.lenO 3)) .nil)))) (.con (.int 0))))
    .nil)
def b_rows_of_2 : Ss := (.cons (.set 8 (.bin .Add (.var 2) (.lenO 3)))
    (.cons (.app 3 (.tup (.cons (.var 4) (.cons (.var 5) (.cons (.var 6) .nil)))))
    (.cons (.for_ (.name 9) (.seq (.var 7)) b_rows_of_1)
    (.cons (.set 4 (.var 8))
    .nil))))
def b_rows_of : Ss := (.cons (.setL 3 (.disp .nil))
    (.cons (.set 4 (.var 1))
    (.cons (.for_ (.tup (.cons (.name 5) (.cons (.name 6) (.cons (.name 7) .nil)))) (.seq (.var 0)) b_rows_of_2)
    (.cons (.frz 3)
    (.cons (.ret (.tup (.cons (.var 3) (.cons (.var 4) .nil))))
    .nil)))))
def f_rows_of : Fn := ⟨3, 10, b_rows_of⟩
def N_numbered : List Str := ["path"]
def P_numbered : List Str := ["path"]
def b_numbered : Ss := (.cons (.ret (.bi .tuple (.idx (.call 19 (.cons (.var 0) (.cons (.con .none) (.cons (.con (.int 0)) .nil)))) (.con (.int 0)))))
    .nil)
def f_numbered : Fn := ⟨1, 1, b_numbered⟩
def N_law_count_k02 : List Str := ["thing", "many", "step", "some", "test"]
def P_law_count_k02 : List Str := ["thing"]
def b_law_count_k02_1 : Ss := (.cons (.iff (.or (.not (.isi (.var 2) .tuple)) (.or (.cmp .NotEq (.bi .len (.var 2)) (.con (.int 3))) (.cmp .NotIn (.idx (.var 2) (.con (.int 0))) (.tup (.cons (.con (.str "in")) (.cons (.con (.str "deep")) .nil)))))) (.cons (.ret (.con (.int 0)))
    .nil) .nil)
    (.cons (.iff (.cmp .NotIn (.idx (.var 2) (.con (.int 1))) (.tup (.cons (.con (.str "a")) (.cons (.con (.str "b")) (.cons (.con (.str "c")) .nil))))) (.cons (.ret (.con (.int 0)))
    .nil) .nil)
    (.cons (.iff (.or (.not (.isi (.idx (.var 2) (.con (.int 2))) .tuple)) (.cmp .Gt (.bi .len (.idx (.var 2) (.con (.int 2)))) (.con (.int 2)))) (.cons (.ret (.con (.int 0)))
    .nil) .nil)
    (.cons (.set 3 (.lst (.comp (.name 4) (.seq (.idx (.var 2) (.con (.int 2)))) .no (.call 21 (.cons (.var 4) .nil)))))
    (.cons (.iff (.cmp .In (.con (.int 0)) (.var 3)) (.cons (.ret (.con (.int 0)))
    .nil) .nil)
    (.cons (.set 1 (.bin .Add (.bin .Add (.var 1) (.con (.int 1))) (.bi .sum (.var 3))))
    .nil))))))
def b_law_count_k02 : Ss := (.cons (.iff (.or (.not (.isi (.var 0) .tuple)) (.not (.cmp2 .Lt .Lt (.con (.int 0)) (.bi .len (.var 0)) (.con (.int 4))))) (.cons (.ret (.con (.int 0)))
    .nil) .nil)
    (.cons (.set 1 (.con (.int 0)))
    (.cons (.for_ (.name 2) (.seq (.var 0)) b_law_count_k02_1)
    (.cons (.ret (.var 1))
    .nil))))
def f_law_count_k02 : Fn := ⟨1, 5, b_law_count_k02⟩
def N_law_rows : List Str := ["path", "ahead", "found", "way", "letter", "tests", "number", "test"]
def P_law_rows : List Str := ["path", "ahead", "found"]
def b_law_rows_1 : Ss := (.cons (.io 2 (.var 7) (.var 6))
    .nil)
def b_law_rows_2 : Ss := (.cons (.set 6 (.lenO 2))
    (.cons (.app 2 (.tup (.cons (.var 1) (.cons (.var 3) (.cons (.var 4) .nil)))))
    (.cons (.for_ (.name 7) (.seq (.var 5)) b_law_rows_1)
    (.cons (.set 1 (.var 6))
    .nil))))
def m_law_rows : S := (.for_ (.tup (.cons (.name 3) (.cons (.name 4) (.cons (.name 5) .nil)))) (.seq (.var 0)) b_law_rows_2)
def N_kids_of : List Str := ["tree", "node", "k"]
def P_kids_of : List Str := ["tree", "node"]
def b_kids_of : Ss := (.cons (.ret (.lst (.comp (.name 2) (.rng1 (.bi .len (.idx (.call 4 (.cons (.var 0) (.cons (.var 1) .nil))) (.con (.int 1))))) .no (.bin .Add (.var 1) (.tup (.cons (.var 2) .nil))))))
    .nil)
def f_kids_of : Fn := ⟨2, 3, b_kids_of⟩
def N_all_below : List Str := ["tree", "node", "other"]
def P_all_below : List Str := ["tree", "node"]
def b_all_below : Ss := (.cons (.ret (.lst (.comp (.name 2) (.seq (.call 2 (.cons (.call 4 (.cons (.var 0) (.cons (.var 1) .nil))) .nil))) (.yes (.cmp .NotEq (.var 2) (.tup .nil))) (.bin .Add (.var 1) (.var 2)))))
    .nil)
def f_all_below : Fn := ⟨2, 3, b_all_below⟩
def N_places : List Str := ["step", "tree", "node"]
def P_places : List Str := ["step", "tree", "node"]
def b_places : Ss := (.cons (.iff (.cmp .Is (.var 2) (.con .none)) (.cons (.ret (.ite (.cmp .Eq (.idx (.var 0) (.con (.int 0))) (.con (.str "in"))) (.lst (.disp (.cons (.tup .nil) .nil))) (.lst (.ofs (.call 2 (.cons (.var 1) .nil))))))
    .nil) .nil)
    (.cons (.ret (.ite (.cmp .Eq (.idx (.var 0) (.con (.int 0))) (.con (.str "in"))) (.call 22 (.cons (.var 1) (.cons (.var 2) .nil))) (.call 23 (.cons (.var 1) (.cons (.var 2) .nil)))))
    .nil))
def f_places : Fn := ⟨3, 3, b_places⟩
def N_by_step : List Str := ["step", "tree", "node", "found", "place", "test"]
def P_by_step : List Str := ["step", "tree", "node"]
def b_by_step_1 : Ss := (.cons (.iff (.and (.cmp .Eq (.idx (.call 4 (.cons (.var 1) (.cons (.var 4) .nil))) (.con (.int 0))) (.idx (.var 0) (.con (.int 1)))) (.bi .all (.lst (.comp (.name 5) (.seq (.idx (.var 0) (.con (.int 2)))) .no (.cmp .NotEq (.call 26 (.cons (.var 5) (.cons (.var 1) (.cons (.var 4) .nil)))) (.lst (.disp .nil))))))) (.cons (.app 3 (.var 4))
    .nil) .nil)
    .nil)
def b_by_step : Ss := (.cons (.setL 3 (.disp .nil))
    (.cons (.for_ (.name 4) (.seq (.call 24 (.cons (.var 0) (.cons (.var 1) (.cons (.var 2) .nil))))) b_by_step_1)
    (.cons (.frz 3)
    (.cons (.ret (.var 3))
    .nil))))
def f_by_step : Fn := ⟨3, 6, b_by_step⟩
def N_ways_from : List Str := ["path", "tree", "node", "rows", "step", "longer", "row", "here", "place"]
def P_ways_from : List Str := ["path", "tree", "node"]
def b_ways_from_1 : Ss := (.cons (.set 7 (.ite (.var 6) (.idx (.var 6) (.neg (.con (.int 1)))) (.var 2)))
    (.cons (.ext 5 (.lst (.comp (.name 8) (.seq (.call 25 (.cons (.var 4) (.cons (.var 1) (.cons (.var 7) .nil))))) .no (.bin .Add (.var 6) (.tup (.cons (.var 8) .nil))))))
    .nil))
def b_ways_from_2 : Ss := (.cons (.setL 5 (.disp .nil))
    (.cons (.for_ (.name 6) (.seq (.var 3)) b_ways_from_1)
    (.cons (.frz 5)
    (.cons (.set 3 (.var 5))
    .nil))))
def b_ways_from : Ss := (.cons (.set 3 (.lst (.disp (.cons (.tup .nil) .nil))))
    (.cons (.for_ (.name 4) (.seq (.var 0)) b_ways_from_2)
    (.cons (.ret (.var 3))
    .nil)))
def f_ways_from : Fn := ⟨3, 9, b_ways_from⟩
def N_ways : List Str := ["path", "tree"]
def P_ways : List Str := ["path", "tree"]
def b_ways : Ss := (.cons (.ret (.bi .tuple (.lst (.srt (.call 26 (.cons (.var 0) (.cons (.var 1) (.cons (.con .none) .nil))))))))
    .nil)
def f_ways : Fn := ⟨2, 2, b_ways⟩
def N_finds : List Str := ["path", "tree", "row"]
def P_finds : List Str := ["path", "tree"]
def b_finds : Ss := (.cons (.ret (.bi .tuple (.lst (.sset (.lst (.comp (.name 2) (.seq (.call 26 (.cons (.var 0) (.cons (.var 1) (.cons (.con .none) .nil))))) .no (.idx (.var 2) (.neg (.con (.int 1))))))))))
    .nil)
def f_finds : Fn := ⟨2, 3, b_finds⟩
def N_has_find : List Str := ["path", "tree"]
def P_has_find : List Str := ["path", "tree"]
def b_has_find : Ss := (.cons (.ret (.cmp .NotEq (.call 26 (.cons (.var 0) (.cons (.var 1) (.cons (.con .none) .nil)))) (.lst (.disp .nil))))
    .nil)
def f_has_find : Fn := ⟨2, 2, b_has_find⟩
def N_finds_from : List Str := ["path", "tree", "node", "row"]
def P_finds_from : List Str := ["path", "tree", "node"]
def b_finds_from : Ss := (.cons (.exp (.call 4 (.cons (.var 1) (.cons (.var 2) .nil))))
    (.cons (.ret (.bi .tuple (.lst (.sset (.lst (.comp (.name 3) (.seq (.call 26 (.cons (.var 0) (.cons (.var 1) (.cons (.var 2) .nil))))) .no (.idx (.var 3) (.neg (.con (.int 1))))))))))
    .nil))
def f_finds_from : Fn := ⟨3, 4, b_finds_from⟩
def N_law_nodes : List Str := ["tree", "node", "found", "k", "kid"]
def P_law_nodes : List Str := ["tree", "node"]
def b_law_nodes_1 : Ss := (.cons (.ext 2 (.call 31 (.cons (.var 4) (.cons (.bin .Add (.var 1) (.tup (.cons (.var 3) .nil))) .nil))))
    .nil)
def b_law_nodes : Ss := (.cons (.setL 2 (.disp (.cons (.tup (.cons (.var 1) (.cons (.var 0) .nil))) .nil)))
    (.cons (.for_ (.tup (.cons (.name 3) (.cons (.name 4) .nil))) (.enum (.idx (.var 0) (.con (.int 1)))) b_law_nodes_1)
    (.cons (.frz 2)
    (.cons (.ret (.var 2))
    .nil))))
def f_law_nodes : Fn := ⟨2, 5, b_law_nodes⟩
def N_law_ways : List Str := ["path", "kids", "some", "found", "way", "letter", "tests", "node", "tree", "here", "k", "kid", "test", "row"]
def P_law_ways : List Str := ["path", "kids"]
def b_law_ways_1 : Ss := (.cons (.ext 2 (.ite (.cmp .Eq (.var 4) (.con (.str "deep"))) (.call 31 (.cons (.var 8) (.cons (.var 7) .nil))) (.lst (.disp (.cons (.tup (.cons (.var 7) (.cons (.var 8) .nil))) .nil)))))
    .nil)
def b_law_ways_2 : Ss := (.cons (.set 9 (.lst (.comp (.tup (.cons (.name 10) (.cons (.name 11) .nil))) (.enum (.idx (.var 8) (.con (.int 1)))) .no (.tup (.cons (.bin .Add (.var 7) (.tup (.cons (.var 10) .nil))) (.cons (.var 11) .nil))))))
    (.cons (.iff (.and (.cmp .Eq (.idx (.var 8) (.con (.int 0))) (.var 5)) (.cmp .Eq (.lst (.comp (.name 12) (.seq (.var 6)) (.yes (.cmp .Eq (.call 32 (.cons (.var 12) (.cons (.var 9) .nil))) (.lst (.disp .nil)))) (.var 12))) (.lst (.disp .nil)))) (.cons (.iff (.cmp .Eq (.bi .len (.var 0)) (.con (.int 1))) (.cons (.app 3 (.tup (.cons (.var 7) .nil)))
    .nil) (.cons (.ext 3 (.lst (.comp (.name 13) (.seq (.call 32 (.cons (.slc (.var 0) (.yes (.con (.int 1))) .no) (.cons (.var 9) .nil)))) .no (.bin .Add (.tup (.cons (.var 7) .nil)) (.var 13)))))
    .nil))
    .nil) .nil)
    .nil))
def b_law_ways : Ss := (.cons (.unp (.cons (.name 4) (.cons (.name 5) (.cons (.name 6) .nil))) (.idx (.var 0) (.con (.int 0))))
    (.cons (.setL 2 (.disp .nil))
    (.cons (.for_ (.tup (.cons (.name 7) (.cons (.name 8) .nil))) (.seq (.var 1)) b_law_ways_1)
    (.cons (.setL 3 (.disp .nil))
    (.cons (.frz 2)
    (.cons (.for_ (.tup (.cons (.name 7) (.cons (.name 8) .nil))) (.seq (.var 2)) b_law_ways_2)
    (.cons (.frz 3)
    (.cons (.ret (.var 3))
    .nil))))))))
def f_law_ways : Fn := ⟨2, 14, b_law_ways⟩
def N_law_finds : List Str := ["path", "tree", "row"]
def P_law_finds : List Str := ["path", "tree"]
def b_law_finds : Ss := (.cons (.ret (.bi .tuple (.lst (.sset (.lst (.comp (.name 2) (.seq (.call 32 (.cons (.var 0) (.cons (.lst (.disp (.cons (.tup (.cons (.tup .nil) (.cons (.var 1) .nil))) .nil))) .nil)))) .no (.idx (.var 2) (.neg (.con (.int 1))))))))))
    .nil)
def f_law_finds : Fn := ⟨2, 3, b_law_finds⟩
def N_law_plain : List Str := ["path", "kids", "node", "found", "way", "letter", "tests", "test", "tree", "rest"]
def P_law_plain : List Str := ["path"]
def b_law_plain : Ss := (.cons (.unp (.cons (.name 4) (.cons (.name 5) (.cons (.name 6) .nil))) (.idx (.var 0) (.con (.int 0))))
    (.cons (.setL 1 (.comp (.name 7) (.seq (.var 6)) .no (.idx (.call 34 (.cons (.var 7) .nil)) (.con (.int 0)))))
    (.cons (.set 2 (.tup .nil))
    (.cons (.iff (.cmp .Gt (.bi .len (.var 0)) (.con (.int 1))) (.cons (.unp (.cons (.name 8) (.cons (.name 9) .nil)) (.call 34 (.cons (.slc (.var 0) (.yes (.con (.int 1))) .no) .nil)))
    (.cons (.set 2 (.bin .Add (.tup (.cons (.lenO 1) .nil)) (.var 9)))
    (.cons (.app 1 (.var 8))
    .nil))) .nil)
    (.cons (.frz 1)
    (.cons (.set 3 (.tup (.cons (.var 5) (.cons (.bi .tuple (.var 1)) .nil))))
    (.cons (.ret (.ite (.cmp .Eq (.var 4) (.con (.str "in"))) (.tup (.cons (.var 3) (.cons (.var 2) .nil))) (.tup (.cons (.tup (.cons (.con (.str "d")) (.cons (.tup (.cons (.var 3) .nil)) .nil))) (.cons (.bin .Add (.tup (.cons (.con (.int 0)) .nil)) (.var 2)) .nil)))))
    .nil)))))))
def f_law_plain : Fn := ⟨1, 10, b_law_plain⟩
-- by hand: law_told_k03: stmt Try
def P_law_told_k03 : List Str := ["path", "tree", "node"]
def p_law_told_k03 : Nat → List D → R D := fun _ _ => .fail
def N_law_bare : List Str := ["path", "way", "letter", "tests"]
def P_law_bare : List Str := ["path"]
def b_law_bare : Ss := (.cons (.ret (.bi .tuple (.lst (.comp (.tup (.cons (.name 1) (.cons (.name 2) (.cons (.name 3) .nil)))) (.seq (.var 0)) .no (.tup (.cons (.var 1) (.cons (.var 2) (.cons (.tup .nil) .nil))))))))
    .nil)
def f_law_bare : Fn := ⟨1, 4, b_law_bare⟩
def N_law_turned : List Str := ["tree", "kid"]
def P_law_turned : List Str := ["tree"]
def b_law_turned : Ss := (.cons (.ret (.tup (.cons (.idx (.var 0) (.con (.int 0))) (.cons (.bi .tuple (.lst (.comp (.name 1) (.seq (.rev (.idx (.var 0) (.con (.int 1))))) .no (.call 37 (.cons (.var 1) .nil))))) .nil))))
    .nil)
def f_law_turned : Fn := ⟨1, 2, b_law_turned⟩
def N_law_leads : List Str := ["path", "tree", "letters", "row", "ahead", "step", "node", "bad", "test"]
def P_law_leads : List Str := ["path", "tree", "letters", "row"]
def b_law_leads_1 : Ss := (.cons (.set 7 (.lst (.comp (.name 8) (.seq (.idx (.var 5) (.con (.int 2)))) (.yes (.cmp .Eq (.call 30 (.cons (.var 8) (.cons (.var 1) (.cons (.var 6) .nil)))) (.tup .nil))) (.var 8))))
    (.cons (.iff (.or (.cmp .NotEq (.idx (.var 2) (.var 6)) (.idx (.var 5) (.con (.int 1)))) (.cmp .NotEq (.var 7) (.lst (.disp .nil)))) (.cons (.ret (.con (.bool false)))
    .nil) .nil)
    (.cons (.iff (.and (.cmp .Eq (.idx (.var 5) (.con (.int 0))) (.con (.str "in"))) (.and (.cmp .Is (.var 4) (.con .none)) (.cmp .NotEq (.var 6) (.tup .nil)))) (.cons (.ret (.con (.bool false)))
    .nil) .nil)
    (.cons (.iff (.and (.cmp .IsNot (.var 4) (.con .none)) (.or (.cmp .NotEq (.slc (.var 6) .no (.yes (.bi .len (.var 4)))) (.var 4)) (.cmp .Eq (.var 6) (.var 4)))) (.cons (.ret (.con (.bool false)))
    .nil) .nil)
    (.cons (.iff (.and (.cmp .Eq (.idx (.var 5) (.con (.int 0))) (.con (.str "in"))) (.and (.cmp .IsNot (.var 4) (.con .none)) (.cmp .NotEq (.bi .len (.var 6)) (.bin .Add (.bi .len (.var 4)) (.con (.int 1)))))) (.cons (.ret (.con (.bool false)))
    .nil) .nil)
    (.cons (.set 4 (.var 6))
    .nil))))))
def b_law_leads : Ss := (.cons (.set 4 (.con .none))
    (.cons (.for_ (.tup (.cons (.name 5) (.cons (.name 6) .nil))) (.zip (.var 0) (.var 3)) b_law_leads_1)
    (.cons (.ret (.con (.bool true)))
    .nil)))
def f_law_leads : Fn := ⟨4, 9, b_law_leads⟩
def N_last_number : List Str := ["path"]
def P_last_number : List Str := ["path"]
def b_last_number : Ss := (.cons (.ret (.idx (.call 19 (.cons (.var 0) (.cons (.con .none) (.cons (.con (.int 0)) .nil)))) (.con (.int 1))))
    .nil)
def f_last_number : Fn := ⟨1, 1, b_last_number⟩
def N_comes_back : List Str := ["rows", "number", "goal", "here"]
def P_comes_back : List Str := ["rows", "number", "goal"]
def b_comes_back_1 : Ss := (.cons (.set 3 (.idx (.idx (.var 0) (.var 3)) (.con (.int 0))))
    .nil)
def b_comes_back : Ss := (.cons (.set 3 (.idx (.idx (.var 0) (.var 1)) (.con (.int 0))))
    (.cons (.whl (.and (.cmp .IsNot (.var 3) (.con .none)) (.cmp .NotEq (.var 3) (.var 2))) b_comes_back_1)
    (.cons (.ret (.cmp .Eq (.var 3) (.var 2)))
    .nil)))
def f_comes_back : Fn := ⟨3, 4, b_comes_back⟩
def N_fits : List Str := ["rows", "others", "row", "number", "target", "goal", "ahead", "way", "letter"]
def P_fits : List Str := ["rows", "others", "row", "number", "target"]
def b_fits : Ss := (.cons (.unp (.cons (.name 6) (.cons (.name 7) (.cons (.name 8) .nil))) (.idx (.var 1) (.var 3)))
    (.cons (.iff (.cmp .NotEq (.idx (.idx (.var 0) (.var 4)) (.con (.int 2))) (.var 8)) (.cons (.ret (.con (.bool false)))
    .nil) .nil)
    (.cons (.set 5 (.ite (.cmp .Is (.var 6) (.con .none)) (.con .none) (.idx (.var 2) (.var 6))))
    (.cons (.iff (.cmp .Eq (.var 7) (.con (.str "in"))) (.cons (.ret (.and (.cmp .Eq (.idx (.idx (.var 0) (.var 4)) (.con (.int 0))) (.var 5)) (.cmp .Eq (.idx (.idx (.var 0) (.var 4)) (.con (.int 1))) (.con (.str "in")))))
    .nil) .nil)
    (.cons (.ret (.or (.cmp .Is (.var 5) (.con .none)) (.call 40 (.cons (.var 0) (.cons (.var 4) (.cons (.var 5) .nil))))))
    .nil)))))
def f_fits : Fn := ⟨5, 9, b_fits⟩
def N_leadings_from : List Str := ["rows", "others", "row", "ends", "number", "target", "found"]
def P_leadings_from : List Str := ["rows", "others", "row", "ends"]
def b_leadings_from_1 : Ss := (.cons (.iff (.and (.or (.cmp .NotEq (.var 4) (.idx (.var 3) (.con (.int 1)))) (.cmp .Eq (.var 5) (.idx (.var 3) (.con (.int 0))))) (.call 41 (.cons (.var 0) (.cons (.var 1) (.cons (.var 2) (.cons (.var 4) (.cons (.var 5) .nil))))))) (.cons (.set 6 (.call 42 (.cons (.var 0) (.cons (.var 1) (.cons (.bin .Add (.var 2) (.tup (.cons (.var 5) .nil))) (.cons (.var 3) .nil))))))
    (.cons (.iff (.cmp .IsNot (.var 6) (.con .none)) (.cons (.ret (.var 6))
    .nil) .nil)
    .nil)) .nil)
    .nil)
def b_leadings_from : Ss := (.cons (.set 4 (.bi .len (.var 2)))
    (.cons (.iff (.cmp .Eq (.var 4) (.bi .len (.var 1))) (.cons (.ret (.var 2))
    .nil) .nil)
    (.cons (.for_ (.name 5) (.rng1 (.bi .len (.var 0))) b_leadings_from_1)
    (.cons (.ret (.con .none))
    .nil))))
def f_leadings_from : Fn := ⟨4, 7, b_leadings_from⟩
def N_leading : List Str := ["one", "other"]
def P_leading : List Str := ["one", "other"]
def b_leading : Ss := (.cons (.ret (.call 42 (.cons (.call 20 (.cons (.var 0) .nil)) (.cons (.call 20 (.cons (.var 1) .nil)) (.cons (.tup .nil) (.cons (.tup (.cons (.call 39 (.cons (.var 0) .nil)) (.cons (.call 39 (.cons (.var 1) .nil)) .nil))) .nil))))))
    .nil)
def f_leading : Fn := ⟨2, 2, b_leading⟩
def N_is_leading : List Str := ["one", "other", "thing", "target", "rows", "others", "number"]
def P_is_leading : List Str := ["one", "other", "thing"]
def b_is_leading_1 : Ss := (.cons (.iff (.or (.not (.isi (.var 3) .int)) (.or (.isi (.var 3) .bool) (.not (.cmp2 .LtE .Lt (.con (.int 0)) (.var 3) (.bi .len (.var 4)))))) (.cons (.ret (.con (.bool false)))
    .nil) .nil)
    .nil)
def b_is_leading : Ss := (.cons (.par 4 5 (.call 20 (.cons (.var 0) .nil)) (.call 20 (.cons (.var 1) .nil)))
    (.cons (.iff (.or (.not (.isi (.var 2) .tuple)) (.cmp .NotEq (.bi .len (.var 2)) (.bi .len (.var 5)))) (.cons (.ret (.con (.bool false)))
    .nil) .nil)
    (.cons (.for_ (.name 3) (.seq (.var 2)) b_is_leading_1)
    (.cons (.iff (.cmp .NotEq (.idx (.var 2) (.call 39 (.cons (.var 1) .nil))) (.call 39 (.cons (.var 0) .nil))) (.cons (.ret (.con (.bool false)))
    .nil) .nil)
    (.cons (.ret (.bi .all (.lst (.comp (.tup (.cons (.name 6) (.cons (.name 3) .nil))) (.enum (.var 2)) .no (.call 41 (.cons (.var 4) (.cons (.var 5) (.cons (.slc (.var 2) .no (.yes (.var 6))) (.cons (.var 6) (.cons (.var 3) .nil))))))))))
    .nil)))))
def f_is_leading : Fn := ⟨3, 7, b_is_leading⟩
def N_is_within : List Str := ["one", "other"]
def P_is_within : List Str := ["one", "other"]
def b_is_within : Ss := (.cons (.ret (.cmp .IsNot (.call 43 (.cons (.var 0) (.cons (.var 1) .nil))) (.con .none)))
    .nil)
def f_is_within : Fn := ⟨2, 2, b_is_within⟩
def N_law_is_within : List Str := ["one", "other", "tree", "node"]
def P_law_is_within : List Str := ["one", "other"]
def b_law_is_within : Ss := (.cons (.unp (.cons (.name 2) (.cons (.name 3) .nil)) (.call 34 (.cons (.var 0) .nil)))
    (.cons (.ret (.cmp .In (.var 3) (.call 33 (.cons (.var 1) (.cons (.var 2) .nil)))))
    .nil))
def f_law_is_within : Fn := ⟨2, 4, b_law_is_within⟩
def N_law_last : List Str := ["path", "step"]
def P_law_last : List Str := ["path"]
def b_law_last : Ss := (.cons (.ret (.bi .sum (.lst (.comp (.name 1) (.seq (.slc (.var 0) .no (.yes (.neg (.con (.int 1)))))) .no (.call 9 (.cons (.tup (.cons (.var 1) .nil)) .nil))))))
    .nil)
def f_law_last : Fn := ⟨1, 2, b_law_last⟩
def N_law_is_leading : List Str := ["one", "other", "thing", "rows", "others", "number", "row", "goal", "ahead", "way", "letter", "here", "back"]
def P_law_is_leading : List Str := ["one", "other", "thing"]
def b_law_is_leading_1 : Ss := (.cons (.app 12 (.var 11))
    (.cons (.set 11 (.idx (.idx (.var 3) (.var 11)) (.con (.int 0))))
    .nil))
def b_law_is_leading_2 : Ss := (.cons (.unp (.cons (.name 8) (.cons (.name 9) (.cons (.name 10) .nil))) (.var 6))
    (.cons (.iff (.cmp .NotEq (.idx (.idx (.var 3) (.idx (.var 2) (.var 5))) (.con (.int 2))) (.var 10)) (.cons (.ret (.con (.bool false)))
    .nil) .nil)
    (.cons (.set 7 (.ite (.cmp .Is (.var 8) (.con .none)) (.con .none) (.idx (.var 2) (.var 8))))
    (.cons (.parR 11 12 (.idx (.idx (.var 3) (.idx (.var 2) (.var 5))) (.con (.int 0))) (.disp .nil))
    (.cons (.whl (.cmp .IsNot (.var 11) (.con .none)) b_law_is_leading_1)
    (.cons (.iff (.and (.cmp .Eq (.var 9) (.con (.str "in"))) (.cmp .NotEq (.slc (.idx (.var 3) (.idx (.var 2) (.var 5))) .no (.yes (.con (.int 2)))) (.tup (.cons (.var 7) (.cons (.con (.str "in")) .nil))))) (.cons (.ret (.con (.bool false)))
    .nil) .nil)
    (.cons (.iff (.and (.cmp .Eq (.var 9) (.con (.str "deep"))) (.and (.cmp .IsNot (.var 7) (.con .none)) (.inO true (.var 7) 12))) (.cons (.ret (.con (.bool false)))
    .nil) .nil)
    .nil)))))))
def b_law_is_leading : Ss := (.cons (.par 3 4 (.rows (.var 0) (.con .none)) (.rows (.var 1) (.con .none)))
    (.cons (.iff (.or (.not (.isi (.var 2) .tuple)) (.cmp .NotEq (.bi .len (.var 2)) (.bi .len (.var 4)))) (.cons (.ret (.con (.bool false)))
    .nil) .nil)
    (.cons (.iff (.cmp .NotEq (.lst (.comp (.name 7) (.seq (.var 2)) (.yes (.or (.not (.isi (.var 7) .int)) (.isi (.var 7) .bool))) (.var 7))) (.lst (.disp .nil))) (.cons (.ret (.con (.bool false)))
    .nil) .nil)
    (.cons (.iff (.cmp .NotEq (.lst (.comp (.name 7) (.seq (.var 2)) (.yes (.not (.cmp2 .LtE .Lt (.con (.int 0)) (.var 7) (.bi .len (.var 3))))) (.var 7))) (.lst (.disp .nil))) (.cons (.ret (.con (.bool false)))
    .nil) .nil)
    (.cons (.iff (.cmp .NotEq (.idx (.var 2) (.call 47 (.cons (.var 1) .nil))) (.call 47 (.cons (.var 0) .nil))) (.cons (.ret (.con (.bool false)))
    .nil) .nil)
    (.cons (.for_ (.tup (.cons (.name 5) (.cons (.name 6) .nil))) (.enum (.var 4)) b_law_is_leading_2)
    (.cons (.ret (.con (.bool true)))
    .nil)))))))
def f_law_is_leading : Fn := ⟨3, 13, b_law_is_leading⟩
def N_law_near : List Str := ["path", "cell", "way", "at", "some", "old", "letter", "tests"]
def P_law_near : List Str := ["path", "cell"]
def b_law_near : Ss := (.cons (.set 2 (.call 5 (.cons (.var 1) (.cons (.con (.int 9871)) (.cons (.con (.int 7)) .nil)))))
    (.cons (.set 3 (.call 5 (.cons (.var 1) (.cons (.con (.int 9859)) (.cons (.bi .len (.var 0)) .nil)))))
    (.cons (.unp (.cons (.name 5) (.cons (.name 6) (.cons (.name 7) .nil))) (.idx (.var 0) (.var 3)))
    (.cons (.iff (.cmp .Eq (.var 2) (.con (.int 0))) (.cons (.ret (.bin .Add (.bin .Add (.slc (.var 0) .no (.yes (.var 3))) (.tup (.cons (.tup (.cons (.con (.str "deep")) (.cons (.var 6) (.cons (.var 7) .nil)))) .nil))) (.slc (.var 0) (.yes (.bin .Add (.var 3) (.con (.int 1)))) .no)))
    .nil) .nil)
    (.cons (.iff (.cmp .Eq (.var 2) (.con (.int 1))) (.cons (.ret (.bin .Add (.bin .Add (.slc (.var 0) .no (.yes (.var 3))) (.tup (.cons (.tup (.cons (.var 5) (.cons (.var 6) (.cons (.slc (.var 7) .no (.yes (.neg (.con (.int 1))))) .nil)))) .nil))) (.slc (.var 0) (.yes (.bin .Add (.var 3) (.con (.int 1)))) .no)))
    .nil) .nil)
    (.cons (.iff (.and (.cmp .Eq (.var 2) (.con (.int 2))) (.cmp .Gt (.bi .len (.var 0)) (.con (.int 1)))) (.cons (.ret (.bin .Add (.slc (.var 0) .no (.yes (.var 3))) (.slc (.var 0) (.yes (.bin .Add (.var 3) (.con (.int 1)))) .no)))
    .nil) .nil)
    (.cons (.iff (.cmp .Eq (.var 2) (.con (.int 3))) (.cons (.ret (.bin .Add (.bin .Add (.slc (.var 0) .no (.yes (.var 3))) (.tup (.cons (.tup (.cons (.var 5) (.cons (.var 6) (.cons (.rev (.var 7)) .nil)))) .nil))) (.slc (.var 0) (.yes (.bin .Add (.var 3) (.con (.int 1)))) .no)))
    .nil) .nil)
    (.cons (.set 4 (.var 7))
    (.cons (.iff (.and (.cmp .Eq (.var 2) (.con (.int 4))) (.cmp .NotEq (.var 7) (.tup .nil))) (.cons (.set 4 (.bin .Add (.tup (.cons (.call 50 (.cons (.idx (.var 7) (.con (.int 0))) (.cons (.bin .Add (.var 1) (.con (.int 1))) .nil))) .nil)) (.slc (.var 7) (.yes (.con (.int 1))) .no)))
    .nil) .nil)
    (.cons (.iff (.and (.cmp .Eq (.var 2) (.con (.int 5))) (.and (.cmp .Eq (.bi .len (.var 7)) (.con (.int 1))) (.cmp .Lt (.bin .Add (.call 9 (.cons (.var 0) .nil)) (.call 9 (.cons (.idx (.var 7) (.con (.int 0))) .nil))) (.con (.int 8))))) (.cons (.set 4 (.bin .Add (.var 7) (.tup (.cons (.call 50 (.cons (.idx (.var 7) (.con (.int 0))) (.cons (.bin .Add (.var 1) (.con (.int 1))) .nil))) .nil))))
    .nil) .nil)
    (.cons (.iff (.and (.cmp .In (.var 2) (.tup (.cons (.con (.int 4)) (.cons (.con (.int 5)) .nil)))) (.cmp .NotEq (.var 4) (.var 7))) (.cons (.ret (.bin .Add (.bin .Add (.slc (.var 0) .no (.yes (.var 3))) (.tup (.cons (.tup (.cons (.var 5) (.cons (.var 6) (.cons (.var 4) .nil)))) .nil))) (.slc (.var 0) (.yes (.bin .Add (.var 3) (.con (.int 1)))) .no)))
    .nil) .nil)
    (.cons (.ret (.call 8 (.cons (.bin .Add (.var 1) (.con (.int 1))) (.cons (.con (.int 7)) .nil))))
    .nil))))))))))))
def f_law_near : Fn := ⟨2, 8, b_law_near⟩
def N_law_short_near : List Str := ["path", "cell"]
def P_law_short_near : List Str := ["path", "cell"]
def b_law_short_near : Ss := (.cons (.iff (.cmp .Eq (.call 5 (.cons (.var 1) (.cons (.con (.int 9829)) (.cons (.con (.int 2)) .nil)))) (.con (.int 0))) (.cons (.ret (.bin .Add (.tup (.cons (.bin .Add (.tup (.cons (.con (.str "deep")) .nil)) (.slc (.idx (.var 0) (.con (.int 0))) (.yes (.con (.int 1))) .no)) .nil)) (.slc (.var 0) (.yes (.con (.int 1))) .no)))
    .nil) .nil)
    (.cons (.ret (.ite (.cmp .Gt (.bi .len (.var 0)) (.con (.int 1))) (.slc (.var 0) .no (.yes (.neg (.con (.int 1))))) (.var 0)))
    .nil))
def f_law_short_near : Fn := ⟨2, 2, b_law_short_near⟩
def N_grown : List Str := ["rows", "number", "goal", "kids", "way", "other", "row", "kid", "part"]
def P_grown : List Str := ["rows", "number", "goal"]
def b_grown_1 : Ss := (.cons (.iff (.cmp .Eq (.idx (.var 6) (.con (.int 0))) (.var 1)) (.cons (.unp (.cons (.name 7) (.cons (.name 8) .nil)) (.call 51 (.cons (.var 0) (.cons (.var 5) (.cons (.var 2) .nil)))))
    (.cons (.iff (.cmp .Eq (.idx (.var 6) (.con (.int 1))) (.con (.str "deep"))) (.cons (.par 7 8 (.tup (.cons (.con (.str "d")) (.cons (.tup (.cons (.var 7) .nil)) .nil))) (.ite (.cmp .Is (.var 8) (.con .none)) (.con .none) (.bin .Add (.tup (.cons (.con (.int 0)) .nil)) (.var 8))))
    .nil) .nil)
    (.cons (.iff (.cmp .IsNot (.var 8) (.con .none)) (.cons (.set 4 (.bin .Add (.tup (.cons (.lenO 3) .nil)) (.var 8)))
    .nil) .nil)
    (.cons (.app 3 (.var 7))
    .nil)))) .nil)
    .nil)
def b_grown : Ss := (.cons (.setL 3 (.disp .nil))
    (.cons (.set 4 (.ite (.cmp .Eq (.var 1) (.var 2)) (.tup .nil) (.con .none)))
    (.cons (.for_ (.tup (.cons (.name 5) (.cons (.name 6) .nil))) (.enum (.var 0)) b_grown_1)
    (.cons (.frz 3)
    (.cons (.ret (.tup (.cons (.tup (.cons (.idx (.idx (.var 0) (.var 1)) (.con (.int 2))) (.cons (.bi .tuple (.var 3)) .nil))) (.cons (.var 4) .nil))))
    .nil)))))
def f_grown : Fn := ⟨3, 9, b_grown⟩
def N_plain_tree : List Str := ["path", "rows", "tree", "way"]
def P_plain_tree : List Str := ["path"]
def b_plain_tree : Ss := (.cons (.set 1 (.call 20 (.cons (.var 0) .nil)))
    (.cons (.unp (.cons (.name 2) (.cons (.name 3) .nil)) (.call 51 (.cons (.var 1) (.cons (.con (.int 0)) (.cons (.call 39 (.cons (.var 0) .nil)) .nil)))))
    (.cons (.iff (.cmp .Eq (.idx (.idx (.var 1) (.con (.int 0))) (.con (.int 1))) (.con (.str "deep"))) (.cons (.ret (.tup (.cons (.tup (.cons (.con (.str "d")) (.cons (.tup (.cons (.var 2) .nil)) .nil))) (.cons (.bin .Add (.tup (.cons (.con (.int 0)) .nil)) (.var 3)) .nil))))
    .nil) .nil)
    (.cons (.ret (.tup (.cons (.var 2) (.cons (.var 3) .nil))))
    .nil))))
def f_plain_tree : Fn := ⟨1, 4, b_plain_tree⟩
def N_parting : List Str := ["one", "other"]
def P_parting : List Str := ["one", "other"]
def b_parting : Ss := (.cons (.iff (.call 45 (.cons (.var 0) (.cons (.var 1) .nil))) (.cons (.ret (.con .none))
    .nil) .nil)
    (.cons (.ret (.call 52 (.cons (.var 0) .nil)))
    .nil))
def f_parting : Fn := ⟨2, 2, b_parting⟩
def N_is_parting : List Str := ["one", "other", "thing", "tree", "node", "k"]
def P_is_parting : List Str := ["one", "other", "thing"]
def b_is_parting : Ss := (.cons (.iff (.or (.not (.isi (.var 2) .tuple)) (.or (.cmp .NotEq (.bi .len (.var 2)) (.con (.int 2))) (.or (.not (.call 1 (.cons (.idx (.var 2) (.con (.int 0))) .nil))) (.not (.isi (.idx (.var 2) (.con (.int 1))) .tuple))))) (.cons (.ret (.con (.bool false)))
    .nil) .nil)
    (.cons (.unp (.cons (.name 3) (.cons (.name 4) .nil)) (.var 2))
    (.cons (.iff (.not (.bi .all (.lst (.comp (.name 5) (.seq (.var 4)) .no (.and (.isi (.var 5) .int) (.not (.isi (.var 5) .bool))))))) (.cons (.ret (.con (.bool false)))
    .nil) .nil)
    (.cons (.ret (.and (.cmp .In (.var 4) (.call 28 (.cons (.var 0) (.cons (.var 3) .nil)))) (.cmp .NotIn (.var 4) (.call 28 (.cons (.var 1) (.cons (.var 3) .nil))))))
    .nil))))
def f_is_parting : Fn := ⟨3, 6, b_is_parting⟩
def N_law_is_tree : List Str := ["thing", "kid"]
def P_law_is_tree : List Str := ["thing"]
def b_law_is_tree : Ss := (.cons (.iff (.or (.not (.isi (.var 0) .tuple)) (.or (.cmp .NotEq (.bi .len (.var 0)) (.con (.int 2))) (.cmp .NotIn (.idx (.var 0) (.con (.int 0))) (.tup (.cons (.con (.str "a")) (.cons (.con (.str "b")) (.cons (.con (.str "c")) (.cons (.con (.str "d")) .nil)))))))) (.cons (.ret (.con (.bool false)))
    .nil) .nil)
    (.cons (.iff (.not (.isi (.idx (.var 0) (.con (.int 1))) .tuple)) (.cons (.ret (.con (.bool false)))
    .nil) .nil)
    (.cons (.ret (.cmp .Eq (.lst (.comp (.name 1) (.seq (.idx (.var 0) (.con (.int 1)))) (.yes (.not (.call 55 (.cons (.var 1) .nil)))) (.var 1))) (.lst (.disp .nil))))
    .nil)))
def f_law_is_tree : Fn := ⟨1, 2, b_law_is_tree⟩
def N_law_parts : List Str := ["one", "other", "thing", "k"]
def P_law_parts : List Str := ["one", "other", "thing"]
def b_law_parts : Ss := (.cons (.iff (.or (.not (.isi (.var 2) .tuple)) (.or (.cmp .NotEq (.bi .len (.var 2)) (.con (.int 2))) (.or (.not (.call 55 (.cons (.idx (.var 2) (.con (.int 0))) .nil))) (.not (.isi (.idx (.var 2) (.con (.int 1))) .tuple))))) (.cons (.ret (.con (.bool false)))
    .nil) .nil)
    (.cons (.iff (.cmp .NotEq (.lst (.comp (.name 3) (.seq (.idx (.var 2) (.con (.int 1)))) (.yes (.or (.not (.isi (.var 3) .int)) (.isi (.var 3) .bool))) (.var 3))) (.lst (.disp .nil))) (.cons (.ret (.con (.bool false)))
    .nil) .nil)
    (.cons (.ret (.and (.cmp .In (.idx (.var 2) (.con (.int 1))) (.call 33 (.cons (.var 0) (.cons (.idx (.var 2) (.con (.int 0))) .nil)))) (.cmp .NotIn (.idx (.var 2) (.con (.int 1))) (.call 33 (.cons (.var 1) (.cons (.idx (.var 2) (.con (.int 0))) .nil))))))
    .nil)))
def f_law_parts : Fn := ⟨3, 4, b_law_parts⟩
def N_rows_of_trees : List Str := ["many", "found", "first", "rest", "tree", "row"]
def P_rows_of_trees : List Str := ["many"]
def b_rows_of_trees_1 : Ss := (.cons (.ext 1 (.lst (.comp (.name 5) (.seq (.var 3)) .no (.bin .Add (.tup (.cons (.var 4) .nil)) (.var 5)))))
    .nil)
def b_rows_of_trees_2 : Ss := (.cons (.set 3 (.call 57 (.cons (.bin .Sub (.var 0) (.var 2)) .nil)))
    (.cons (.for_ (.name 4) (.seq (.call 58 (.cons (.var 2) .nil))) b_rows_of_trees_1)
    .nil))
def b_rows_of_trees : Ss := (.cons (.iff (.cmp .Eq (.var 0) (.con (.int 0))) (.cons (.ret (.lst (.disp (.cons (.tup .nil) .nil))))
    .nil) .nil)
    (.cons (.setL 1 (.disp .nil))
    (.cons (.for_ (.name 2) (.rng2 (.con (.int 1)) (.bin .Add (.var 0) (.con (.int 1)))) b_rows_of_trees_2)
    (.cons (.frz 1)
    (.cons (.ret (.var 1))
    .nil)))))
def f_rows_of_trees : Fn := ⟨1, 6, b_rows_of_trees⟩
def N_trees_of : List Str := ["many", "found", "letter", "kids"]
def P_trees_of : List Str := ["many"]
def b_trees_of_1 : Ss := (.cons (.ext 1 (.lst (.comp (.name 3) (.seq (.call 57 (.cons (.bin .Sub (.var 0) (.con (.int 1))) .nil))) .no (.tup (.cons (.var 2) (.cons (.var 3) .nil))))))
    .nil)
def b_trees_of : Ss := (.cons (.setL 1 (.disp .nil))
    (.cons (.for_ (.name 2) (.seq (.glo 0)) b_trees_of_1)
    (.cons (.frz 1)
    (.cons (.ret (.var 1))
    .nil))))
def f_trees_of : Fn := ⟨1, 4, b_trees_of⟩
def N_least_tree : List Str := ["one", "other", "most", "many", "tree", "some", "node"]
def P_least_tree : List Str := ["one", "other", "most"]
def b_least_tree_1 : Ss := (.cons (.set 5 (.call 28 (.cons (.var 1) (.cons (.var 4) .nil))))
    (.cons (.iff (.bi .any (.lst (.comp (.name 6) (.seq (.call 28 (.cons (.var 0) (.cons (.var 4) .nil)))) .no (.cmp .NotIn (.var 6) (.var 5))))) (.cons (.ret (.var 4))
    .nil) .nil)
    .nil))
def b_least_tree_2 : Ss := (.cons (.for_ (.name 4) (.seq (.lst (.srt (.call 58 (.cons (.var 3) .nil))))) b_least_tree_1)
    .nil)
def b_least_tree : Ss := (.cons (.for_ (.name 3) (.rng2 (.con (.int 1)) (.bin .Add (.var 2) (.con (.int 1)))) b_least_tree_2)
    (.cons (.ret (.con .none))
    .nil))
def f_least_tree : Fn := ⟨3, 7, b_least_tree⟩
def N_law_all_trees : List Str := ["many", "found", "letter", "first", "kid", "second"]
def P_law_all_trees : List Str := ["many"]
def b_law_all_trees_1 : Ss := (.cons (.ext 1 (.lst (.comp (.name 5) (.seq (.con (.str "abcd"))) .no (.tup (.cons (.var 2) (.cons (.tup (.cons (.tup (.cons (.var 3) (.cons (.tup .nil) .nil))) (.cons (.tup (.cons (.var 5) (.cons (.tup .nil) .nil))) .nil))) .nil))))))
    .nil)
def b_law_all_trees_2 : Ss := (.cons (.iff (.cmp .Eq (.var 0) (.con (.int 1))) (.cons (.app 1 (.tup (.cons (.var 2) (.cons (.tup .nil) .nil))))
    .nil) .nil)
    (.cons (.iff (.cmp .Gt (.var 0) (.con (.int 1))) (.cons (.ext 1 (.lst (.comp (.name 4) (.seq (.call 60 (.cons (.bin .Sub (.var 0) (.con (.int 1))) .nil))) .no (.tup (.cons (.var 2) (.cons (.tup (.cons (.var 4) .nil)) .nil))))))
    .nil) .nil)
    (.cons (.iff (.cmp .Eq (.var 0) (.con (.int 3))) (.cons (.for_ (.name 3) (.seq (.con (.str "abcd"))) b_law_all_trees_1)
    .nil) .nil)
    .nil)))
def b_law_all_trees : Ss := (.cons (.setL 1 (.disp .nil))
    (.cons (.for_ (.name 2) (.seq (.con (.str "abcd"))) b_law_all_trees_2)
    (.cons (.frz 1)
    (.cons (.ret (.lst (.srt (.var 1))))
    .nil))))
def f_law_all_trees : Fn := ⟨1, 6, b_law_all_trees⟩
def N_are_alike : List Str := ["one", "other"]
def P_are_alike : List Str := ["one", "other"]
def b_are_alike : Ss := (.cons (.ret (.and (.call 45 (.cons (.var 0) (.cons (.var 1) .nil))) (.call 45 (.cons (.var 1) (.cons (.var 0) .nil)))))
    .nil)
def f_are_alike : Fn := ⟨2, 2, b_are_alike⟩
def N_cut_tests : List Str := ["tests", "found", "k", "test", "rest", "new"]
def P_cut_tests : List Str := ["tests"]
def b_cut_tests_1 : Ss := (.cons (.set 4 (.bin .Add (.slc (.var 0) .no (.yes (.var 2))) (.slc (.var 0) (.yes (.bin .Add (.var 2) (.con (.int 1)))) .no)))
    (.cons (.iff (.and (.cmp .Eq (.idx (.idx (.var 3) (.neg (.con (.int 1)))) (.con (.int 2))) (.tup .nil)) (.cmp .Eq (.bi .len (.var 3)) (.con (.int 1)))) (.cons (.app 1 (.var 4))
    .nil) (.cons (.iff (.cmp .Eq (.idx (.idx (.var 3) (.neg (.con (.int 1)))) (.con (.int 2))) (.tup .nil)) (.cons (.app 1 (.bin .Add (.bin .Add (.slc (.var 0) .no (.yes (.var 2))) (.tup (.cons (.slc (.var 3) .no (.yes (.neg (.con (.int 1))))) .nil))) (.slc (.var 0) (.yes (.bin .Add (.var 2) (.con (.int 1)))) .no)))
    .nil) .nil)
    .nil))
    (.cons (.ext 1 (.lst (.comp (.name 5) (.seq (.call 63 (.cons (.var 3) .nil))) .no (.bin .Add (.bin .Add (.slc (.var 0) .no (.yes (.var 2))) (.tup (.cons (.var 5) .nil))) (.slc (.var 0) (.yes (.bin .Add (.var 2) (.con (.int 1)))) .no)))))
    .nil)))
def b_cut_tests : Ss := (.cons (.setL 1 (.disp .nil))
    (.cons (.for_ (.tup (.cons (.name 2) (.cons (.name 3) .nil))) (.enum (.var 0)) b_cut_tests_1)
    (.cons (.frz 1)
    (.cons (.ret (.var 1))
    .nil))))
def f_cut_tests : Fn := ⟨1, 6, b_cut_tests⟩
def N_cut_paths : List Str := ["path", "found", "k", "step", "tests"]
def P_cut_paths : List Str := ["path"]
def b_cut_paths_1 : Ss := (.cons (.ext 1 (.lst (.comp (.name 4) (.seq (.call 62 (.cons (.idx (.var 3) (.con (.int 2))) .nil))) .no (.bin .Add (.bin .Add (.slc (.var 0) .no (.yes (.var 2))) (.tup (.cons (.bin .Add (.slc (.var 3) .no (.yes (.con (.int 2)))) (.tup (.cons (.var 4) .nil))) .nil))) (.slc (.var 0) (.yes (.bin .Add (.var 2) (.con (.int 1)))) .no)))))
    .nil)
def b_cut_paths : Ss := (.cons (.setL 1 (.disp .nil))
    (.cons (.for_ (.tup (.cons (.name 2) (.cons (.name 3) .nil))) (.enum (.var 0)) b_cut_paths_1)
    (.cons (.frz 1)
    (.cons (.ret (.var 1))
    .nil))))
def f_cut_paths : Fn := ⟨1, 5, b_cut_paths⟩
def N_one_step : List Str := ["test", "way", "letter", "tests"]
def P_one_step : List Str := ["test"]
def b_one_step : Ss := (.cons (.unp (.cons (.name 1) (.cons (.name 2) (.cons (.name 3) .nil))) (.idx (.var 0) (.con (.int 0))))
    (.cons (.iff (.cmp .Gt (.bi .len (.var 0)) (.con (.int 1))) (.cons (.set 3 (.bin .Add (.var 3) (.tup (.cons (.slc (.var 0) (.yes (.con (.int 1))) .no) .nil))))
    .nil) .nil)
    (.cons (.ret (.tup (.cons (.tup (.cons (.var 1) (.cons (.var 2) (.cons (.call 65 (.cons (.var 3) .nil)) .nil)))) .nil)))
    .nil)))
def f_one_step : Fn := ⟨1, 4, b_one_step⟩
-- by hand: in_order: expr Dict(keys=[], values=[])
def P_in_order : List Str := ["tests"]
def p_in_order : Nat → List D → R D := fun _ _ => .fail
def N_short : List Str := ["path", "is_done", "some", "new", "way", "letter", "tests"]
def P_short : List Str := ["path"]
def b_short_1 : Ss := (.cons (.set 2 (.lst (.comp (.name 3) (.seq (.call 63 (.cons (.var 0) .nil))) (.yes (.call 45 (.cons (.var 3) (.cons (.var 0) .nil)))) (.var 3))))
    (.cons (.set 1 (.cmp .Eq (.var 2) (.lst (.disp .nil))))
    (.cons (.iff (.var 2) (.cons (.set 0 (.idx (.var 2) (.con (.int 0))))
    .nil) .nil)
    .nil)))
def b_short : Ss := (.cons (.set 1 (.con (.bool false)))
    (.cons (.whl (.not (.var 1)) b_short_1)
    (.cons (.ret (.bi .tuple (.lst (.comp (.tup (.cons (.name 4) (.cons (.name 5) (.cons (.name 6) .nil)))) (.seq (.var 0)) .no (.tup (.cons (.var 4) (.cons (.var 5) (.cons (.call 65 (.cons (.var 6) .nil)) .nil))))))))
    .nil)))
def f_short : Fn := ⟨1, 7, b_short⟩
def N_law_less : List Str := ["path", "found", "at", "way", "letter", "tests", "k", "test", "some", "new", "step"]
def P_law_less : List Str := ["path"]
def b_law_less_1 : Ss := (.cons (.set 10 (.tup (.cons (.var 3) (.cons (.var 4) (.cons (.bin .Add (.bin .Add (.slc (.var 5) .no (.yes (.var 6))) (.var 9)) (.slc (.var 5) (.yes (.bin .Add (.var 6) (.con (.int 1)))) .no)) .nil)))))
    (.cons (.app 1 (.bin .Add (.bin .Add (.slc (.var 0) .no (.yes (.var 2))) (.tup (.cons (.var 10) .nil))) (.slc (.var 0) (.yes (.bin .Add (.var 2) (.con (.int 1)))) .no)))
    .nil))
def b_law_less_2 : Ss := (.cons (.setL 8 (.comp (.name 9) (.seq (.call 67 (.cons (.var 7) .nil))) .no (.tup (.cons (.var 9) .nil))))
    (.cons (.iff (.cmp .Eq (.idx (.idx (.var 7) (.neg (.con (.int 1)))) (.con (.int 2))) (.tup .nil)) (.cons (.app 8 (.ite (.cmp .Gt (.bi .len (.var 7)) (.con (.int 1))) (.tup (.cons (.slc (.var 7) .no (.yes (.neg (.con (.int 1))))) .nil)) (.tup .nil)))
    .nil) .nil)
    (.cons (.frz 8)
    (.cons (.for_ (.name 9) (.seq (.var 8)) b_law_less_1)
    .nil))))
def b_law_less_3 : Ss := (.cons (.for_ (.tup (.cons (.name 6) (.cons (.name 7) .nil))) (.enum (.var 5)) b_law_less_2)
    .nil)
def b_law_less : Ss := (.cons (.setL 1 (.disp .nil))
    (.cons (.for_ (.tup (.cons (.name 2) (.cons (.tup (.cons (.name 3) (.cons (.name 4) (.cons (.name 5) .nil)))) .nil))) (.enum (.var 0)) b_law_less_3)
    (.cons (.frz 1)
    (.cons (.ret (.var 1))
    .nil))))
def f_law_less : Fn := ⟨1, 11, b_law_less⟩
def N_law_sorted : List Str := ["path", "way", "letter", "tests"]
def P_law_sorted : List Str := ["path"]
def b_law_sorted : Ss := (.cons (.ret (.bi .tuple (.lst (.comp (.tup (.cons (.name 1) (.cons (.name 2) (.cons (.name 3) .nil)))) (.seq (.var 0)) .no (.tup (.cons (.var 1) (.cons (.var 2) (.cons (.call 69 (.cons (.var 3) .nil)) .nil))))))))
    .nil)
def f_law_sorted : Fn := ⟨1, 4, b_law_sorted⟩
def N_law_tests : List Str := ["tests", "found", "test", "rest", "way", "letter", "more"]
def P_law_tests : List Str := ["tests"]
def b_law_tests_1 : Ss := (.cons (.unp (.cons (.name 4) (.cons (.name 5) (.cons (.name 6) .nil))) (.idx (.var 2) (.con (.int 0))))
    (.cons (.set 3 (.call 69 (.cons (.bin .Add (.var 6) (.bin .Mult (.tup (.cons (.slc (.var 2) (.yes (.con (.int 1))) .no) .nil)) (.bi .int (.cmp .Gt (.bi .len (.var 2)) (.con (.int 1)))))) .nil)))
    (.cons (.iff (.inO true (.tup (.cons (.tup (.cons (.var 4) (.cons (.var 5) (.cons (.var 3) .nil)))) .nil)) 1) (.cons (.app 1 (.tup (.cons (.tup (.cons (.var 4) (.cons (.var 5) (.cons (.var 3) .nil)))) .nil)))
    .nil) .nil)
    .nil)))
def b_law_tests : Ss := (.cons (.setL 1 (.disp .nil))
    (.cons (.for_ (.name 2) (.seq (.var 0)) b_law_tests_1)
    (.cons (.frz 1)
    (.cons (.ret (.bi .tuple (.lst (.srt (.var 1)))))
    .nil))))
def f_law_tests : Fn := ⟨1, 7, b_law_tests⟩
def N_law_short : List Str := ["path", "some", "new"]
def P_law_short : List Str := ["path"]
def b_law_short_1 : Ss := (.cons (.set 1 (.lst (.comp (.name 2) (.seq (.call 67 (.cons (.var 0) .nil))) (.yes (.call 46 (.cons (.var 2) (.cons (.var 0) .nil)))) (.var 2))))
    (.cons (.iff (.cmp .Eq (.var 1) (.lst (.disp .nil))) (.cons (.ret (.call 68 (.cons (.var 0) .nil)))
    .nil) .nil)
    (.cons (.set 0 (.idx (.var 1) (.neg (.con (.int 1)))))
    .nil)))
def b_law_short : Ss := (.cons (.whl (.con (.bool true)) b_law_short_1)
    .nil)
def f_law_short : Fn := ⟨1, 3, b_law_short⟩
def N_law_otherwise : List Str := ["path", "found", "way", "letter", "tests", "some", "test"]
def P_law_otherwise : List Str := ["path"]
def b_law_otherwise_1 : Ss := (.cons (.set 5 (.lst (.comp (.name 6) (.seq (.rev (.var 4))) .no (.call 73 (.cons (.var 6) .nil)))))
    (.cons (.app 1 (.tup (.cons (.var 2) (.cons (.var 3) (.cons (.bi .tuple (.bin .Add (.var 5) (.bin .Mult (.slc (.var 5) .no (.yes (.con (.int 1)))) (.bi .int (.cmp .Eq (.bi .len (.var 5)) (.con (.int 1))))))) .nil)))))
    .nil))
def b_law_otherwise : Ss := (.cons (.setL 1 (.disp .nil))
    (.cons (.for_ (.tup (.cons (.name 2) (.cons (.name 3) (.cons (.name 4) .nil)))) (.seq (.var 0)) b_law_otherwise_1)
    (.cons (.frz 1)
    (.cons (.ret (.bi .tuple (.var 1)))
    .nil))))
def f_law_otherwise : Fn := ⟨1, 7, b_law_otherwise⟩
def N_law_fits : List Str := ["path", "way", "letter", "tests", "test"]
def P_law_fits : List Str := ["path"]
def b_law_fits_1 : Ss := (.cons (.iff (.or (.cmp .Gt (.bi .len (.var 3)) (.con (.int 2))) (.cmp .NotEq (.lst (.comp (.name 4) (.seq (.var 3)) (.yes (.not (.call 72 (.cons (.var 4) .nil)))) (.var 4))) (.lst (.disp .nil)))) (.cons (.ret (.con (.bool false)))
    .nil) .nil)
    .nil)
def b_law_fits : Ss := (.cons (.for_ (.tup (.cons (.name 1) (.cons (.name 2) (.cons (.name 3) .nil)))) (.seq (.var 0)) b_law_fits_1)
    (.cons (.ret (.con (.bool true)))
    .nil))
def f_law_fits : Fn := ⟨1, 5, b_law_fits⟩
def N_law_split : List Str := ["test", "some", "way", "letter", "tests", "each"]
def P_law_split : List Str := ["test"]
def b_law_split : Ss := (.cons (.unp (.cons (.name 2) (.cons (.name 3) (.cons (.name 4) .nil))) (.idx (.var 0) (.con (.int 0))))
    (.cons (.set 1 (.bi .tuple (.lst (.comp (.name 5) (.seq (.var 4)) .no (.call 73 (.cons (.var 5) .nil))))))
    (.cons (.iff (.cmp .Gt (.bi .len (.var 0)) (.con (.int 1))) (.cons (.set 1 (.bin .Add (.tup (.cons (.call 73 (.cons (.slc (.var 0) (.yes (.con (.int 1))) .no) .nil)) .nil)) (.var 1)))
    .nil) .nil)
    (.cons (.ret (.tup (.cons (.tup (.cons (.var 2) (.cons (.var 3) (.cons (.var 1) .nil)))) .nil)))
    .nil))))
def f_law_split : Fn := ⟨1, 6, b_law_split⟩
def N_behind : List Str := ["one", "other"]
def P_behind : List Str := ["one", "other"]
def b_behind : Ss := (.cons (.ret (.bin .Add (.var 0) (.var 1)))
    .nil)
def f_behind : Fn := ⟨2, 2, b_behind⟩
def N_with_test : List Str := ["path", "other", "way", "letter", "tests"]
def P_with_test : List Str := ["path", "other"]
def b_with_test : Ss := (.cons (.unp (.cons (.name 2) (.cons (.name 3) (.cons (.name 4) .nil))) (.idx (.var 0) (.neg (.con (.int 1)))))
    (.cons (.ret (.bin .Add (.slc (.var 0) .no (.yes (.neg (.con (.int 1))))) (.tup (.cons (.tup (.cons (.var 2) (.cons (.var 3) (.cons (.bi .tuple (.lst (.srt (.bin .Add (.var 4) (.tup (.cons (.var 1) .nil)))))) .nil)))) .nil))))
    .nil))
def f_with_test : Fn := ⟨2, 5, b_with_test⟩
def N_turned_in : List Str := ["path", "way", "letter", "tests", "test"]
def P_turned_in : List Str := ["path"]
def b_turned_in : Ss := (.cons (.ret (.bi .tuple (.lst (.comp (.tup (.cons (.name 1) (.cons (.name 2) (.cons (.name 3) .nil)))) (.seq (.var 0)) .no (.tup (.cons (.con (.str "deep")) (.cons (.var 2) (.cons (.bi .tuple (.lst (.comp (.name 4) (.seq (.var 3)) .no (.call 76 (.cons (.var 4) .nil))))) .nil))))))))
    .nil)
def f_turned_in : Fn := ⟨1, 5, b_turned_in⟩
def N_law_deep : List Str := ["path", "found", "way", "letter", "tests", "test"]
def P_law_deep : List Str := ["path"]
def b_law_deep_1 : Ss := (.cons (.app 1 (.tup (.cons (.con (.str "deep")) (.cons (.var 3) (.cons (.bi .tuple (.lst (.comp (.name 5) (.seq (.var 4)) .no (.call 77 (.cons (.var 5) .nil))))) .nil)))))
    .nil)
def b_law_deep : Ss := (.cons (.setL 1 (.disp .nil))
    (.cons (.for_ (.tup (.cons (.name 2) (.cons (.name 3) (.cons (.name 4) .nil)))) (.seq (.var 0)) b_law_deep_1)
    (.cons (.frz 1)
    (.cons (.ret (.bi .tuple (.var 1)))
    .nil))))
def f_law_deep : Fn := ⟨1, 6, b_law_deep⟩
-- by hand: law_from: call dict(_law_nodes(tree, ()))
def P_law_from : List Str := ["path", "tree", "node"]
def p_law_from : Nat → List D → R D := fun _ _ => .fail
def N_plain_paths : List Str := ["steps", "way", "found", "first", "step", "letter", "second"]
def P_plain_paths : List Str := []
def b_plain_paths_1 : Ss := (.cons (.ext 0 (.lst (.comp (.name 5) (.seq (.glo 3)) .no (.tup (.cons (.var 1) (.cons (.var 5) (.cons (.tup .nil) .nil)))))))
    .nil)
def b_plain_paths_2 : Ss := (.cons (.frz 0)
    (.cons (.ext 2 (.lst (.comp (.name 6) (.seq (.var 0)) .no (.tup (.cons (.var 3) (.cons (.var 6) .nil))))))
    .nil))
def b_plain_paths : Ss := (.cons (.setL 0 (.disp .nil))
    (.cons (.for_ (.name 1) (.seq (.glo 2)) b_plain_paths_1)
    (.cons (.frz 0)
    (.cons (.setL 2 (.comp (.name 4) (.seq (.var 0)) .no (.tup (.cons (.var 4) .nil))))
    (.cons (.frz 0)
    (.cons (.for_ (.name 3) (.seq (.var 0)) b_plain_paths_2)
    (.cons (.frz 2)
    (.cons (.ret (.bi .tuple (.lst (.srt (.var 2)))))
    .nil))))))))
def f_plain_paths : Fn := ⟨0, 7, b_plain_paths⟩
def N_by_finds : List Str := ["tree", "some", "path"]
def P_by_finds : List Str := ["tree", "some"]
def b_by_finds : Ss := (.cons (.ret (.bi .tuple (.lst (.comp (.name 2) (.seq (.call 79 .nil)) (.yes (.cmp .Eq (.call 28 (.cons (.var 2) (.cons (.var 0) .nil))) (.var 1))) (.var 2)))))
    .nil)
def f_by_finds : Fn := ⟨2, 3, b_by_finds⟩
-- by hand: told_apart: call set([tuple([finds(path, tree) for tree in trees]) for path in plain_paths()])
def P_told_apart : List Str := ["trees"]
def p_told_apart : Nat → List D → R D := fun _ _ => .fail
def N_law_all_k14 : List Str := ["steps", "way", "found", "first", "letter", "second", "step"]
def P_law_all_k14 : List Str := []
def b_law_all_k14_1 : Ss := (.cons (.app 0 (.tup (.cons (.var 1) (.cons (.var 4) (.cons (.tup .nil) .nil)))))
    .nil)
def b_law_all_k14_2 : Ss := (.cons (.for_ (.name 4) (.seq (.con (.str "abc"))) b_law_all_k14_1)
    .nil)
def b_law_all_k14_3 : Ss := (.cons (.app 2 (.tup (.cons (.var 3) (.cons (.var 5) .nil))))
    .nil)
def b_law_all_k14_4 : Ss := (.cons (.frz 0)
    (.cons (.for_ (.name 5) (.seq (.var 0)) b_law_all_k14_3)
    .nil))
def b_law_all_k14 : Ss := (.cons (.setL 0 (.disp .nil))
    (.cons (.for_ (.name 1) (.seq (.tup (.cons (.con (.str "in")) (.cons (.con (.str "deep")) .nil)))) b_law_all_k14_2)
    (.cons (.frz 0)
    (.cons (.setL 2 (.comp (.name 6) (.seq (.var 0)) .no (.tup (.cons (.var 6) .nil))))
    (.cons (.frz 0)
    (.cons (.for_ (.name 3) (.seq (.var 0)) b_law_all_k14_4)
    (.cons (.frz 2)
    (.cons (.ret (.lst (.srt (.var 2))))
    .nil))))))))
def f_law_all_k14 : Fn := ⟨0, 7, b_law_all_k14⟩
def N_with_kids : List Str := ["tree", "node", "kids", "place", "new"]
def P_with_kids : List Str := ["tree", "node", "kids"]
def b_with_kids : Ss := (.cons (.iff (.cmp .Eq (.var 1) (.tup .nil)) (.cons (.ret (.tup (.cons (.idx (.var 0) (.con (.int 0))) (.cons (.var 2) .nil))))
    .nil) .nil)
    (.cons (.set 3 (.idx (.var 1) (.con (.int 0))))
    (.cons (.set 4 (.call 83 (.cons (.idx (.idx (.var 0) (.con (.int 1))) (.var 3)) (.cons (.slc (.var 1) (.yes (.con (.int 1))) .no) (.cons (.var 2) .nil)))))
    (.cons (.ret (.tup (.cons (.idx (.var 0) (.con (.int 0))) (.cons (.bin .Add (.bin .Add (.slc (.idx (.var 0) (.con (.int 1))) .no (.yes (.var 3))) (.tup (.cons (.var 4) .nil))) (.slc (.idx (.var 0) (.con (.int 1))) (.yes (.bin .Add (.var 3) (.con (.int 1)))) .no)) .nil))))
    .nil))))
def f_with_kids : Fn := ⟨3, 5, b_with_kids⟩
def N_put : List Str := ["tree", "node", "kid"]
def P_put : List Str := ["tree", "node", "kid"]
def b_put : Ss := (.cons (.ret (.call 83 (.cons (.var 0) (.cons (.var 1) (.cons (.bin .Add (.idx (.call 4 (.cons (.var 0) (.cons (.var 1) .nil))) (.con (.int 1))) (.tup (.cons (.var 2) .nil))) .nil)))))
    .nil)
def f_put : Fn := ⟨3, 3, b_put⟩
def N_cut : List Str := ["tree", "node", "kids"]
def P_cut : List Str := ["tree", "node"]
def b_cut : Ss := (.cons (.exp (.call 4 (.cons (.var 0) (.cons (.var 1) .nil))))
    (.cons (.iff (.cmp .Eq (.var 1) (.tup .nil)) (.cons (.rai 0)
    .nil) .nil)
    (.cons (.set 2 (.idx (.call 4 (.cons (.var 0) (.cons (.slc (.var 1) .no (.yes (.neg (.con (.int 1))))) .nil))) (.con (.int 1))))
    (.cons (.ret (.call 83 (.cons (.var 0) (.cons (.slc (.var 1) .no (.yes (.neg (.con (.int 1))))) (.cons (.bin .Add (.slc (.var 2) .no (.yes (.idx (.var 1) (.neg (.con (.int 1)))))) (.slc (.var 2) (.yes (.bin .Add (.idx (.var 1) (.neg (.con (.int 1)))) (.con (.int 1)))) .no)) .nil)))))
    .nil))))
def f_cut : Fn := ⟨2, 3, b_cut⟩
def N_come : List Str := ["path", "tree", "node", "kid", "ahead", "one"]
def P_come : List Str := ["path", "tree", "node", "kid"]
def b_come : Ss := (.cons (.set 4 (.call 28 (.cons (.var 0) (.cons (.var 1) .nil))))
    (.cons (.ret (.bi .tuple (.lst (.comp (.name 5) (.seq (.call 28 (.cons (.var 0) (.cons (.call 84 (.cons (.var 1) (.cons (.var 2) (.cons (.var 3) .nil)))) .nil)))) (.yes (.cmp .NotIn (.var 5) (.var 4))) (.var 5)))))
    .nil))
def f_come : Fn := ⟨4, 6, b_come⟩
def N_called_then : List Str := ["one", "node", "deep"]
def P_called_then : List Str := ["one", "node"]
def b_called_then : Ss := (.cons (.set 2 (.bi .len (.var 1)))
    (.cons (.iff (.or (.cmp .NotEq (.slc (.var 0) .no (.yes (.bin .Sub (.var 2) (.con (.int 1))))) (.slc (.var 1) .no (.yes (.neg (.con (.int 1)))))) (.or (.cmp .Lt (.bi .len (.var 0)) (.var 2)) (.cmp .Lt (.idx (.var 0) (.bin .Sub (.var 2) (.con (.int 1)))) (.idx (.var 1) (.neg (.con (.int 1))))))) (.cons (.ret (.var 0))
    .nil) .nil)
    (.cons (.iff (.cmp .Eq (.idx (.var 0) (.bin .Sub (.var 2) (.con (.int 1)))) (.idx (.var 1) (.neg (.con (.int 1))))) (.cons (.ret (.con .none))
    .nil) .nil)
    (.cons (.ret (.bin .Add (.bin .Add (.slc (.var 0) .no (.yes (.bin .Sub (.var 2) (.con (.int 1))))) (.tup (.cons (.bin .Sub (.idx (.var 0) (.bin .Sub (.var 2) (.con (.int 1)))) (.con (.int 1))) .nil))) (.slc (.var 0) (.yes (.var 2)) .no)))
    .nil))))
def f_called_then : Fn := ⟨2, 3, b_called_then⟩
def N_gone : List Str := ["path", "tree", "node", "later", "one"]
def P_gone : List Str := ["path", "tree", "node"]
def b_gone : Ss := (.cons (.set 3 (.call 28 (.cons (.var 0) (.cons (.call 85 (.cons (.var 1) (.cons (.var 2) .nil))) .nil))))
    (.cons (.ret (.bi .tuple (.lst (.comp (.name 4) (.seq (.call 28 (.cons (.var 0) (.cons (.var 1) .nil)))) (.yes (.cmp .NotIn (.call 87 (.cons (.var 4) (.cons (.var 2) .nil))) (.var 3))) (.var 4)))))
    .nil))
def f_gone : Fn := ⟨3, 5, b_gone⟩
-- by hand: law_told_k15: stmt Try
def P_law_told_k15 : List Str := ["deed", "path", "tree", "node", "kid"]
def p_law_told_k15 : Nat → List D → R D := fun _ _ => .fail
def N_law_put : List Str := ["tree", "node", "kid", "j", "one"]
def P_law_put : List Str := ["tree", "node", "kid"]
def b_law_put : Ss := (.cons (.iff (.cmp .Eq (.var 1) (.tup .nil)) (.cons (.ret (.tup (.cons (.idx (.var 0) (.con (.int 0))) (.cons (.bin .Add (.idx (.var 0) (.con (.int 1))) (.tup (.cons (.var 2) .nil))) .nil))))
    .nil) .nil)
    (.cons (.ret (.tup (.cons (.idx (.var 0) (.con (.int 0))) (.cons (.bi .tuple (.lst (.comp (.tup (.cons (.name 3) (.cons (.name 4) .nil))) (.enum (.idx (.var 0) (.con (.int 1)))) .no (.ite (.cmp .Eq (.var 3) (.idx (.var 1) (.con (.int 0)))) (.call 90 (.cons (.var 4) (.cons (.slc (.var 1) (.yes (.con (.int 1))) .no) (.cons (.var 2) .nil)))) (.var 4))))) .nil))))
    .nil))
def f_law_put : Fn := ⟨3, 5, b_law_put⟩
def N_law_cut : List Str := ["tree", "node", "j", "one"]
def P_law_cut : List Str := ["tree", "node"]
def b_law_cut : Ss := (.cons (.iff (.cmp .Eq (.bi .len (.var 1)) (.con (.int 1))) (.cons (.ret (.tup (.cons (.idx (.var 0) (.con (.int 0))) (.cons (.bi .tuple (.lst (.comp (.tup (.cons (.name 2) (.cons (.name 3) .nil))) (.enum (.idx (.var 0) (.con (.int 1)))) (.yes (.cmp .NotEq (.var 2) (.idx (.var 1) (.con (.int 0))))) (.var 3)))) .nil))))
    .nil) .nil)
    (.cons (.ret (.tup (.cons (.idx (.var 0) (.con (.int 0))) (.cons (.bi .tuple (.lst (.comp (.tup (.cons (.name 2) (.cons (.name 3) .nil))) (.enum (.idx (.var 0) (.con (.int 1)))) .no (.ite (.cmp .Eq (.var 2) (.idx (.var 1) (.con (.int 0)))) (.call 91 (.cons (.var 3) (.cons (.slc (.var 1) (.yes (.con (.int 1))) .no) .nil))) (.var 3))))) .nil))))
    .nil))
def f_law_cut : Fn := ⟨2, 4, b_law_cut⟩
-- by hand: path_text: name SIGNS
def P_path_text : List Str := ["path"]
def p_path_text : Nat → List D → R D := fun _ _ => .fail
def N_tree_text : List Str := ["tree", "kid"]
def P_tree_text : List Str := ["tree"]
def b_tree_text : Ss := (.cons (.iff (.not (.idx (.var 0) (.con (.int 1)))) (.cons (.ret (.idx (.var 0) (.con (.int 0))))
    .nil) .nil)
    (.cons (.ret (.bin .Add (.bin .Add (.bin .Add (.idx (.var 0) (.con (.int 0))) (.con (.str "("))) (.join (.con (.str ",")) (.lst (.comp (.name 1) (.seq (.idx (.var 0) (.con (.int 1)))) .no (.call 93 (.cons (.var 1) .nil)))))) (.con (.str ")"))))
    .nil))
def f_tree_text : Fn := ⟨1, 2, b_tree_text⟩
-- by hand: read_path: call Reader(text).path()
def P_read_path : List Str := ["text"]
def p_read_path : Nat → List D → R D := fun _ _ => .fail
-- by hand: read_tree: call Reader(text).tree()
def P_read_tree : List Str := ["text"]
def p_read_tree : Nat → List D → R D := fun _ _ => .fail
def N_law_path_text : List Str := ["path", "found", "way", "letter", "tests", "test"]
def P_law_path_text : List Str := ["path"]
def b_law_path_text_1 : Ss := (.cons (.set 1 (.bin .Add (.bin .Add (.bin .Add (.var 1) (.con (.str "["))) (.call 96 (.cons (.var 5) .nil))) (.con (.str "]"))))
    .nil)
def b_law_path_text_2 : Ss := (.cons (.set 1 (.bin .Add (.bin .Add (.var 1) (.bin .Mult (.con (.str "/")) (.bin .Add (.con (.int 1)) (.bi .int (.cmp .Eq (.var 2) (.con (.str "deep"))))))) (.var 3)))
    (.cons (.for_ (.name 5) (.seq (.var 4)) b_law_path_text_1)
    .nil))
def b_law_path_text : Ss := (.cons (.set 1 (.con (.str "")))
    (.cons (.for_ (.tup (.cons (.name 2) (.cons (.name 3) (.cons (.name 4) .nil)))) (.seq (.var 0)) b_law_path_text_2)
    (.cons (.ret (.var 1))
    .nil)))
def f_law_path_text : Fn := ⟨1, 6, b_law_path_text⟩
def N_law_tree_text : List Str := ["tree", "kid"]
def P_law_tree_text : List Str := ["tree"]
def b_law_tree_text : Ss := (.cons (.iff (.cmp .Eq (.idx (.var 0) (.con (.int 1))) (.tup .nil)) (.cons (.ret (.idx (.var 0) (.con (.int 0))))
    .nil) .nil)
    (.cons (.ret (.bin .Add (.bin .Add (.bin .Add (.idx (.var 0) (.con (.int 0))) (.con (.str "("))) (.join (.con (.str ",")) (.lst (.comp (.name 1) (.seq (.idx (.var 0) (.con (.int 1)))) .no (.call 97 (.cons (.var 1) .nil)))))) (.con (.str ")"))))
    .nil))
def f_law_tree_text : Fn := ⟨1, 2, b_law_tree_text⟩
-- by hand: law_read: stmt Try
def P_law_read : List Str := ["kind", "text"]
def p_law_read : Nat → List D → R D := fun _ _ => .fail
-- by hand: law_told_k18: stmt Try
def P_law_told_k18 : List Str := ["kind", "text"]
def p_law_told_k18 : Nat → List D → R D := fun _ _ => .fail
def N_law_path_at : List Str := ["text", "place", "found", "way", "letter", "tests", "test"]
def P_law_path_at : List Str := ["text", "place"]
def b_law_path_at_1 : Ss := (.cons (.set 6 (.call 100 (.cons (.var 0) (.cons (.bin .Add (.var 1) (.con (.int 1))) .nil))))
    (.cons (.iff (.or (.cmp .Is (.var 6) (.con .none)) (.or (.cmp .Eq (.idx (.var 6) (.con (.int 0))) (.tup .nil)) (.cmp .NotEq (.slc (.var 0) (.yes (.idx (.var 6) (.con (.int 1)))) (.yes (.bin .Add (.idx (.var 6) (.con (.int 1))) (.con (.int 1))))) (.con (.str "]"))))) (.cons (.ret (.con .none))
    .nil) .nil)
    (.cons (.app 5 (.idx (.var 6) (.con (.int 0))))
    (.cons (.set 1 (.bin .Add (.idx (.var 6) (.con (.int 1))) (.con (.int 1))))
    .nil))))
def b_law_path_at_2 : Ss := (.cons (.set 3 (.ite (.cmp .Eq (.slc (.var 0) (.yes (.bin .Add (.var 1) (.con (.int 1)))) (.yes (.bin .Add (.var 1) (.con (.int 2))))) (.con (.str "/"))) (.con (.str "deep")) (.con (.str "in"))))
    (.cons (.set 1 (.bin .Add (.bin .Add (.var 1) (.con (.int 1))) (.bi .int (.cmp .Eq (.var 3) (.con (.str "deep"))))))
    (.cons (.parR 4 5 (.slc (.var 0) (.yes (.var 1)) (.yes (.bin .Add (.var 1) (.con (.int 1))))) (.disp .nil))
    (.cons (.set 1 (.bin .Add (.var 1) (.con (.int 1))))
    (.cons (.whl (.cmp .Eq (.slc (.var 0) (.yes (.var 1)) (.yes (.bin .Add (.var 1) (.con (.int 1))))) (.con (.str "["))) b_law_path_at_1)
    (.cons (.iff (.or (.cmp .NotIn (.var 4) (.tup (.cons (.con (.str "a")) (.cons (.con (.str "b")) (.cons (.con (.str "c")) .nil))))) (.cmp .Gt (.lenO 5) (.con (.int 2)))) (.cons (.ret (.con .none))
    .nil) .nil)
    (.cons (.frz 5)
    (.cons (.app 2 (.tup (.cons (.var 3) (.cons (.var 4) (.cons (.bi .tuple (.var 5)) .nil)))))
    .nil))))))))
def b_law_path_at : Ss := (.cons (.setL 2 (.disp .nil))
    (.cons (.whl (.cmp .Eq (.slc (.var 0) (.yes (.var 1)) (.yes (.bin .Add (.var 1) (.con (.int 1))))) (.con (.str "/"))) b_law_path_at_2)
    (.cons (.frz 2)
    (.cons (.ret (.ite (.cmp .Lt (.bi .len (.var 2)) (.con (.int 4))) (.tup (.cons (.bi .tuple (.var 2)) (.cons (.var 1) .nil))) (.con .none)))
    .nil))))
def f_law_path_at : Fn := ⟨2, 7, b_law_path_at⟩
def N_law_tree_at : List Str := ["text", "place", "letter", "kids", "kid"]
def P_law_tree_at : List Str := ["text", "place"]
def b_law_tree_at_1 : Ss := (.cons (.set 4 (.call 101 (.cons (.var 0) (.cons (.bin .Add (.var 1) (.con (.int 1))) .nil))))
    (.cons (.iff (.cmp .Is (.var 4) (.con .none)) (.cons (.ret (.con .none))
    .nil) .nil)
    (.cons (.app 3 (.idx (.var 4) (.con (.int 0))))
    (.cons (.set 1 (.idx (.var 4) (.con (.int 1))))
    .nil))))
def b_law_tree_at : Ss := (.cons (.parR 2 3 (.slc (.var 0) (.yes (.var 1)) (.yes (.bin .Add (.var 1) (.con (.int 1))))) (.disp .nil))
    (.cons (.iff (.cmp .NotIn (.var 2) (.tup (.cons (.con (.str "a")) (.cons (.con (.str "b")) (.cons (.con (.str "c")) (.cons (.con (.str "d")) .nil)))))) (.cons (.ret (.con .none))
    .nil) .nil)
    (.cons (.set 1 (.bin .Add (.var 1) (.con (.int 1))))
    (.cons (.iff (.cmp .Eq (.slc (.var 0) (.yes (.var 1)) (.yes (.bin .Add (.var 1) (.con (.int 1))))) (.con (.str "("))) (.cons (.frz 3)
    (.cons (.whl (.and (.cmp .In (.slc (.var 0) (.yes (.var 1)) (.yes (.bin .Add (.var 1) (.con (.int 1))))) (.tup (.cons (.con (.str "(")) (.cons (.con (.str ",")) .nil)))) (.cmp .Eq (.cmp .Eq (.idx (.var 0) (.var 1)) (.con (.str ","))) (.cmp .NotEq (.var 3) (.lst (.disp .nil))))) b_law_tree_at_1)
    (.cons (.iff (.cmp .NotEq (.slc (.var 0) (.yes (.var 1)) (.yes (.bin .Add (.var 1) (.con (.int 1))))) (.con (.str ")"))) (.cons (.ret (.con .none))
    .nil) .nil)
    (.cons (.set 1 (.bin .Add (.var 1) (.con (.int 1))))
    .nil)))) .nil)
    (.cons (.frz 3)
    (.cons (.ret (.tup (.cons (.tup (.cons (.var 2) (.cons (.bi .tuple (.var 3)) .nil))) (.cons (.var 1) .nil))))
    .nil))))))
def f_law_tree_at : Fn := ⟨2, 5, b_law_tree_at⟩
def N_law_due : List Str := ["kind", "text", "found", "sign"]
def P_law_due : List Str := ["kind", "text"]
def b_law_due : Ss := (.cons (.set 2 (.ite (.cmp .Eq (.var 0) (.con (.str "path"))) (.call 100 (.cons (.var 1) (.cons (.con (.int 0)) .nil))) (.call 101 (.cons (.var 1) (.cons (.con (.int 0)) .nil)))))
    (.cons (.iff (.or (.cmp .Is (.var 2) (.con .none)) (.or (.cmp .Lt (.idx (.var 2) (.con (.int 1))) (.bi .len (.var 1))) (.cmp .Eq (.idx (.var 2) (.con (.int 0))) (.tup .nil)))) (.cons (.ret (.con (.str "no text")))
    .nil) .nil)
    (.cons (.iff (.cmp .Eq (.var 0) (.con (.str "path"))) (.cons (.ret (.ite (.cmp .Lt (.call 9 (.cons (.idx (.var 2) (.con (.int 0))) .nil)) (.con (.int 8))) (.idx (.var 2) (.con (.int 0))) (.con (.str "no text"))))
    .nil) .nil)
    (.cons (.ret (.ite (.cmp .Lt (.bi .len (.lst (.comp (.name 3) (.seq (.var 1)) (.yes (.cmp .In (.var 3) (.con (.str "abcd")))) (.var 3)))) (.con (.int 31))) (.idx (.var 2) (.con (.int 0))) (.con (.str "no text"))))
    .nil))))
def f_law_due : Fn := ⟨2, 4, b_law_due⟩
def tbl : List Fk := [.fn f_is_letter, .fn f_is_any_tree, .fn f_nodes, .fn f_is_tree, .fn f_tree_at, .fn f_law_mix, .fn f_law_same, .fn f_law_tree, .fn f_law_path, .fn f_law_steps, .fn f_law_odd, .prim p_law_word, .fn f_law_count_k01, .prim p_law_told_k01, .fn f_law_all_k01, .fn f_is_step, .fn f_is_any_path, .fn f_steps_in, .fn f_is_path, .fn f_rows_of, .fn f_numbered, .fn f_law_count_k02, .fn f_kids_of, .fn f_all_below, .fn f_places, .fn f_by_step, .fn f_ways_from, .fn f_ways, .fn f_finds, .fn f_has_find, .fn f_finds_from, .fn f_law_nodes, .fn f_law_ways, .fn f_law_finds, .fn f_law_plain, .prim p_law_told_k03, .fn f_law_bare, .fn f_law_turned, .fn f_law_leads, .fn f_last_number, .fn f_comes_back, .fn f_fits, .fn f_leadings_from, .fn f_leading, .fn f_is_leading, .fn f_is_within, .fn f_law_is_within, .fn f_law_last, .fn f_law_is_leading, .fn f_law_near, .fn f_law_short_near, .fn f_grown, .fn f_plain_tree, .fn f_parting, .fn f_is_parting, .fn f_law_is_tree, .fn f_law_parts, .fn f_rows_of_trees, .fn f_trees_of, .fn f_least_tree, .fn f_law_all_trees, .fn f_are_alike, .fn f_cut_tests, .fn f_cut_paths, .fn f_one_step, .prim p_in_order, .fn f_short, .fn f_law_less, .fn f_law_sorted, .fn f_law_tests, .fn f_law_short, .fn f_law_otherwise, .fn f_law_fits, .fn f_law_split, .fn f_behind, .fn f_with_test, .fn f_turned_in, .fn f_law_deep, .prim p_law_from, .fn f_plain_paths, .fn f_by_finds, .prim p_told_apart, .fn f_law_all_k14, .fn f_with_kids, .fn f_put, .fn f_cut, .fn f_come, .fn f_called_then, .fn f_gone, .prim p_law_told_k15, .fn f_law_put, .fn f_law_cut, .prim p_path_text, .fn f_tree_text, .prim p_read_path, .prim p_read_tree, .fn f_law_path_text, .fn f_law_tree_text, .prim p_law_read, .prim p_law_told_k18, .fn f_law_path_at, .fn f_law_tree_at, .fn f_law_due]
def gv : Nat → Option D
  | 0 => some (.str "abcd")
  | 1 => some (.int 30)
  | 2 => some (.tuple [.str "in", .str "deep"])
  | 3 => some (.str "abc")
  | 4 => some (.int 7)
  | _ => none
def io : Io
  | 0, _, _, _ => none
  | n + 1, x, y, ds => ioF ⟨fun _ _ => .fail, gv, 1000, io n⟩ N_law_rows.length m_law_rows x y ds
theorem io_any (n : Nat) (f : Nat → List D → R D) (x y : D) (ds es : List D) (q : io (n + 1) x y ds = some es) : ioF ⟨f, gv, 1000, io n⟩ N_law_rows.length m_law_rows x y ds = some es := q
abbrev so (x : Str) : Option Str := some x
abbrev LV : Nat := 150
abbrev rn (n : Nat) : Nat → List D → R D := run tbl gv io n
abbrev Cn (n : Nat) : EvC := ⟨rn n, gv, 1000, io n⟩
theorem rn_is_letter (n : Nat) (a0 a1 : D) : rn (n + 1) 0 [a0, a1] = (evSs (Cn n) b_is_letter [some (.sh a0), some (.sh a1)]).res := rfl
theorem rn_is_any_tree (n : Nat) (a0 : D) : rn (n + 1) 1 [a0] = (evSs (Cn n) b_is_any_tree [some (.sh a0), none]).res := rfl
theorem rn_nodes (n : Nat) (a0 : D) : rn (n + 1) 2 [a0] = (evSs (Cn n) b_nodes [some (.sh a0), none, none, none, none]).res := rfl
theorem rn_is_tree (n : Nat) (a0 : D) : rn (n + 1) 3 [a0] = (evSs (Cn n) b_is_tree [some (.sh a0)]).res := rfl
theorem rn_tree_at (n : Nat) (a0 a1 : D) : rn (n + 1) 4 [a0, a1] = (evSs (Cn n) b_tree_at [some (.sh a0), some (.sh a1), none]).res := rfl
theorem rn_law_mix (n : Nat) (a0 a1 a2 : D) : rn (n + 1) 5 [a0, a1, a2] = (evSs (Cn n) b_law_mix [some (.sh a0), some (.sh a1), some (.sh a2), none]).res := rfl
theorem rn_law_same (n : Nat) (a0 a1 : D) : rn (n + 1) 6 [a0, a1] = (evSs (Cn n) b_law_same [some (.sh a0), some (.sh a1), none, none]).res := rfl
theorem rn_law_tree (n : Nat) (a0 a1 : D) : rn (n + 1) 7 [a0, a1] = (evSs (Cn n) b_law_tree [some (.sh a0), some (.sh a1), none, none, none, none, none]).res := rfl
theorem rn_law_path (n : Nat) (a0 a1 : D) : rn (n + 1) 8 [a0, a1] = (evSs (Cn n) b_law_path [some (.sh a0), some (.sh a1), none, none, none, none, none, none, none, none, none]).res := rfl
theorem rn_law_steps (n : Nat) (a0 : D) : rn (n + 1) 9 [a0] = (evSs (Cn n) b_law_steps [some (.sh a0), none, none]).res := rfl
theorem rn_law_odd (n : Nat) (a0 a1 : D) : rn (n + 1) 10 [a0, a1] = (evSs (Cn n) b_law_odd [some (.sh a0), some (.sh a1), none, none]).res := rfl
theorem rn_law_count_k01 (n : Nat) (a0 : D) : rn (n + 1) 12 [a0] = (evSs (Cn n) b_law_count_k01 [some (.sh a0), none, none]).res := rfl
theorem rn_law_all_k01 (n : Nat) (a0 a1 : D) : rn (n + 1) 14 [a0, a1] = (evSs (Cn n) b_law_all_k01 [some (.sh a0), some (.sh a1), none, none, none]).res := rfl
theorem rn_is_step (n : Nat) (a0 : D) : rn (n + 1) 15 [a0] = (evSs (Cn n) b_is_step [some (.sh a0), none]).res := rfl
theorem rn_is_any_path (n : Nat) (a0 : D) : rn (n + 1) 16 [a0] = (evSs (Cn n) b_is_any_path [some (.sh a0), none]).res := rfl
theorem rn_steps_in (n : Nat) (a0 : D) : rn (n + 1) 17 [a0] = (evSs (Cn n) b_steps_in [some (.sh a0), none, none]).res := rfl
theorem rn_is_path (n : Nat) (a0 : D) : rn (n + 1) 18 [a0] = (evSs (Cn n) b_is_path [some (.sh a0)]).res := rfl
theorem rn_rows_of (n : Nat) (a0 a1 a2 : D) : rn (n + 1) 19 [a0, a1, a2] = (evSs (Cn n) b_rows_of [some (.sh a0), some (.sh a1), some (.sh a2), none, none, none, none, none, none, none]).res := rfl
theorem rn_numbered (n : Nat) (a0 : D) : rn (n + 1) 20 [a0] = (evSs (Cn n) b_numbered [some (.sh a0)]).res := rfl
theorem rn_law_count_k02 (n : Nat) (a0 : D) : rn (n + 1) 21 [a0] = (evSs (Cn n) b_law_count_k02 [some (.sh a0), none, none, none, none]).res := rfl
theorem rn_kids_of (n : Nat) (a0 a1 : D) : rn (n + 1) 22 [a0, a1] = (evSs (Cn n) b_kids_of [some (.sh a0), some (.sh a1), none]).res := rfl
theorem rn_all_below (n : Nat) (a0 a1 : D) : rn (n + 1) 23 [a0, a1] = (evSs (Cn n) b_all_below [some (.sh a0), some (.sh a1), none]).res := rfl
theorem rn_places (n : Nat) (a0 a1 a2 : D) : rn (n + 1) 24 [a0, a1, a2] = (evSs (Cn n) b_places [some (.sh a0), some (.sh a1), some (.sh a2)]).res := rfl
theorem rn_by_step (n : Nat) (a0 a1 a2 : D) : rn (n + 1) 25 [a0, a1, a2] = (evSs (Cn n) b_by_step [some (.sh a0), some (.sh a1), some (.sh a2), none, none, none]).res := rfl
theorem rn_ways_from (n : Nat) (a0 a1 a2 : D) : rn (n + 1) 26 [a0, a1, a2] = (evSs (Cn n) b_ways_from [some (.sh a0), some (.sh a1), some (.sh a2), none, none, none, none, none, none]).res := rfl
theorem rn_ways (n : Nat) (a0 a1 : D) : rn (n + 1) 27 [a0, a1] = (evSs (Cn n) b_ways [some (.sh a0), some (.sh a1)]).res := rfl
theorem rn_finds (n : Nat) (a0 a1 : D) : rn (n + 1) 28 [a0, a1] = (evSs (Cn n) b_finds [some (.sh a0), some (.sh a1), none]).res := rfl
theorem rn_has_find (n : Nat) (a0 a1 : D) : rn (n + 1) 29 [a0, a1] = (evSs (Cn n) b_has_find [some (.sh a0), some (.sh a1)]).res := rfl
theorem rn_finds_from (n : Nat) (a0 a1 a2 : D) : rn (n + 1) 30 [a0, a1, a2] = (evSs (Cn n) b_finds_from [some (.sh a0), some (.sh a1), some (.sh a2), none]).res := rfl
theorem rn_law_nodes (n : Nat) (a0 a1 : D) : rn (n + 1) 31 [a0, a1] = (evSs (Cn n) b_law_nodes [some (.sh a0), some (.sh a1), none, none, none]).res := rfl
theorem rn_law_ways (n : Nat) (a0 a1 : D) : rn (n + 1) 32 [a0, a1] = (evSs (Cn n) b_law_ways [some (.sh a0), some (.sh a1), none, none, none, none, none, none, none, none, none, none, none, none]).res := rfl
theorem rn_law_finds (n : Nat) (a0 a1 : D) : rn (n + 1) 33 [a0, a1] = (evSs (Cn n) b_law_finds [some (.sh a0), some (.sh a1), none]).res := rfl
theorem rn_law_plain (n : Nat) (a0 : D) : rn (n + 1) 34 [a0] = (evSs (Cn n) b_law_plain [some (.sh a0), none, none, none, none, none, none, none, none, none]).res := rfl
theorem rn_law_bare (n : Nat) (a0 : D) : rn (n + 1) 36 [a0] = (evSs (Cn n) b_law_bare [some (.sh a0), none, none, none]).res := rfl
theorem rn_law_turned (n : Nat) (a0 : D) : rn (n + 1) 37 [a0] = (evSs (Cn n) b_law_turned [some (.sh a0), none]).res := rfl
theorem rn_law_leads (n : Nat) (a0 a1 a2 a3 : D) : rn (n + 1) 38 [a0, a1, a2, a3] = (evSs (Cn n) b_law_leads [some (.sh a0), some (.sh a1), some (.sh a2), some (.sh a3), none, none, none, none, none]).res := rfl
theorem rn_last_number (n : Nat) (a0 : D) : rn (n + 1) 39 [a0] = (evSs (Cn n) b_last_number [some (.sh a0)]).res := rfl
theorem rn_comes_back (n : Nat) (a0 a1 a2 : D) : rn (n + 1) 40 [a0, a1, a2] = (evSs (Cn n) b_comes_back [some (.sh a0), some (.sh a1), some (.sh a2), none]).res := rfl
theorem rn_fits (n : Nat) (a0 a1 a2 a3 a4 : D) : rn (n + 1) 41 [a0, a1, a2, a3, a4] = (evSs (Cn n) b_fits [some (.sh a0), some (.sh a1), some (.sh a2), some (.sh a3), some (.sh a4), none, none, none, none]).res := rfl
theorem rn_leadings_from (n : Nat) (a0 a1 a2 a3 : D) : rn (n + 1) 42 [a0, a1, a2, a3] = (evSs (Cn n) b_leadings_from [some (.sh a0), some (.sh a1), some (.sh a2), some (.sh a3), none, none, none]).res := rfl
theorem rn_leading (n : Nat) (a0 a1 : D) : rn (n + 1) 43 [a0, a1] = (evSs (Cn n) b_leading [some (.sh a0), some (.sh a1)]).res := rfl
theorem rn_is_leading (n : Nat) (a0 a1 a2 : D) : rn (n + 1) 44 [a0, a1, a2] = (evSs (Cn n) b_is_leading [some (.sh a0), some (.sh a1), some (.sh a2), none, none, none, none]).res := rfl
theorem rn_is_within (n : Nat) (a0 a1 : D) : rn (n + 1) 45 [a0, a1] = (evSs (Cn n) b_is_within [some (.sh a0), some (.sh a1)]).res := rfl
theorem rn_law_is_within (n : Nat) (a0 a1 : D) : rn (n + 1) 46 [a0, a1] = (evSs (Cn n) b_law_is_within [some (.sh a0), some (.sh a1), none, none]).res := rfl
theorem rn_law_last (n : Nat) (a0 : D) : rn (n + 1) 47 [a0] = (evSs (Cn n) b_law_last [some (.sh a0), none]).res := rfl
theorem rn_law_is_leading (n : Nat) (a0 a1 a2 : D) : rn (n + 1) 48 [a0, a1, a2] = (evSs (Cn n) b_law_is_leading [some (.sh a0), some (.sh a1), some (.sh a2), none, none, none, none, none, none, none, none, none, none]).res := rfl
theorem rn_law_near (n : Nat) (a0 a1 : D) : rn (n + 1) 49 [a0, a1] = (evSs (Cn n) b_law_near [some (.sh a0), some (.sh a1), none, none, none, none, none, none]).res := rfl
theorem rn_law_short_near (n : Nat) (a0 a1 : D) : rn (n + 1) 50 [a0, a1] = (evSs (Cn n) b_law_short_near [some (.sh a0), some (.sh a1)]).res := rfl
theorem rn_grown (n : Nat) (a0 a1 a2 : D) : rn (n + 1) 51 [a0, a1, a2] = (evSs (Cn n) b_grown [some (.sh a0), some (.sh a1), some (.sh a2), none, none, none, none, none, none]).res := rfl
theorem rn_plain_tree (n : Nat) (a0 : D) : rn (n + 1) 52 [a0] = (evSs (Cn n) b_plain_tree [some (.sh a0), none, none, none]).res := rfl
theorem rn_parting (n : Nat) (a0 a1 : D) : rn (n + 1) 53 [a0, a1] = (evSs (Cn n) b_parting [some (.sh a0), some (.sh a1)]).res := rfl
theorem rn_is_parting (n : Nat) (a0 a1 a2 : D) : rn (n + 1) 54 [a0, a1, a2] = (evSs (Cn n) b_is_parting [some (.sh a0), some (.sh a1), some (.sh a2), none, none, none]).res := rfl
theorem rn_law_is_tree (n : Nat) (a0 : D) : rn (n + 1) 55 [a0] = (evSs (Cn n) b_law_is_tree [some (.sh a0), none]).res := rfl
theorem rn_law_parts (n : Nat) (a0 a1 a2 : D) : rn (n + 1) 56 [a0, a1, a2] = (evSs (Cn n) b_law_parts [some (.sh a0), some (.sh a1), some (.sh a2), none]).res := rfl
theorem rn_rows_of_trees (n : Nat) (a0 : D) : rn (n + 1) 57 [a0] = (evSs (Cn n) b_rows_of_trees [some (.sh a0), none, none, none, none, none]).res := rfl
theorem rn_trees_of (n : Nat) (a0 : D) : rn (n + 1) 58 [a0] = (evSs (Cn n) b_trees_of [some (.sh a0), none, none, none]).res := rfl
theorem rn_least_tree (n : Nat) (a0 a1 a2 : D) : rn (n + 1) 59 [a0, a1, a2] = (evSs (Cn n) b_least_tree [some (.sh a0), some (.sh a1), some (.sh a2), none, none, none, none]).res := rfl
theorem rn_law_all_trees (n : Nat) (a0 : D) : rn (n + 1) 60 [a0] = (evSs (Cn n) b_law_all_trees [some (.sh a0), none, none, none, none, none]).res := rfl
theorem rn_are_alike (n : Nat) (a0 a1 : D) : rn (n + 1) 61 [a0, a1] = (evSs (Cn n) b_are_alike [some (.sh a0), some (.sh a1)]).res := rfl
theorem rn_cut_tests (n : Nat) (a0 : D) : rn (n + 1) 62 [a0] = (evSs (Cn n) b_cut_tests [some (.sh a0), none, none, none, none, none]).res := rfl
theorem rn_cut_paths (n : Nat) (a0 : D) : rn (n + 1) 63 [a0] = (evSs (Cn n) b_cut_paths [some (.sh a0), none, none, none, none]).res := rfl
theorem rn_one_step (n : Nat) (a0 : D) : rn (n + 1) 64 [a0] = (evSs (Cn n) b_one_step [some (.sh a0), none, none, none]).res := rfl
theorem rn_short (n : Nat) (a0 : D) : rn (n + 1) 66 [a0] = (evSs (Cn n) b_short [some (.sh a0), none, none, none, none, none, none]).res := rfl
theorem rn_law_less (n : Nat) (a0 : D) : rn (n + 1) 67 [a0] = (evSs (Cn n) b_law_less [some (.sh a0), none, none, none, none, none, none, none, none, none, none]).res := rfl
theorem rn_law_sorted (n : Nat) (a0 : D) : rn (n + 1) 68 [a0] = (evSs (Cn n) b_law_sorted [some (.sh a0), none, none, none]).res := rfl
theorem rn_law_tests (n : Nat) (a0 : D) : rn (n + 1) 69 [a0] = (evSs (Cn n) b_law_tests [some (.sh a0), none, none, none, none, none, none]).res := rfl
theorem rn_law_short (n : Nat) (a0 : D) : rn (n + 1) 70 [a0] = (evSs (Cn n) b_law_short [some (.sh a0), none, none]).res := rfl
theorem rn_law_otherwise (n : Nat) (a0 : D) : rn (n + 1) 71 [a0] = (evSs (Cn n) b_law_otherwise [some (.sh a0), none, none, none, none, none, none]).res := rfl
theorem rn_law_fits (n : Nat) (a0 : D) : rn (n + 1) 72 [a0] = (evSs (Cn n) b_law_fits [some (.sh a0), none, none, none, none]).res := rfl
theorem rn_law_split (n : Nat) (a0 : D) : rn (n + 1) 73 [a0] = (evSs (Cn n) b_law_split [some (.sh a0), none, none, none, none, none]).res := rfl
theorem rn_behind (n : Nat) (a0 a1 : D) : rn (n + 1) 74 [a0, a1] = (evSs (Cn n) b_behind [some (.sh a0), some (.sh a1)]).res := rfl
theorem rn_with_test (n : Nat) (a0 a1 : D) : rn (n + 1) 75 [a0, a1] = (evSs (Cn n) b_with_test [some (.sh a0), some (.sh a1), none, none, none]).res := rfl
theorem rn_turned_in (n : Nat) (a0 : D) : rn (n + 1) 76 [a0] = (evSs (Cn n) b_turned_in [some (.sh a0), none, none, none, none]).res := rfl
theorem rn_law_deep (n : Nat) (a0 : D) : rn (n + 1) 77 [a0] = (evSs (Cn n) b_law_deep [some (.sh a0), none, none, none, none, none]).res := rfl
theorem rn_plain_paths (n : Nat) : rn (n + 1) 79 [] = (evSs (Cn n) b_plain_paths [none, none, none, none, none, none, none]).res := rfl
theorem rn_by_finds (n : Nat) (a0 a1 : D) : rn (n + 1) 80 [a0, a1] = (evSs (Cn n) b_by_finds [some (.sh a0), some (.sh a1), none]).res := rfl
theorem rn_law_all_k14 (n : Nat) : rn (n + 1) 82 [] = (evSs (Cn n) b_law_all_k14 [none, none, none, none, none, none, none]).res := rfl
theorem rn_with_kids (n : Nat) (a0 a1 a2 : D) : rn (n + 1) 83 [a0, a1, a2] = (evSs (Cn n) b_with_kids [some (.sh a0), some (.sh a1), some (.sh a2), none, none]).res := rfl
theorem rn_put (n : Nat) (a0 a1 a2 : D) : rn (n + 1) 84 [a0, a1, a2] = (evSs (Cn n) b_put [some (.sh a0), some (.sh a1), some (.sh a2)]).res := rfl
theorem rn_cut (n : Nat) (a0 a1 : D) : rn (n + 1) 85 [a0, a1] = (evSs (Cn n) b_cut [some (.sh a0), some (.sh a1), none]).res := rfl
theorem rn_come (n : Nat) (a0 a1 a2 a3 : D) : rn (n + 1) 86 [a0, a1, a2, a3] = (evSs (Cn n) b_come [some (.sh a0), some (.sh a1), some (.sh a2), some (.sh a3), none, none]).res := rfl
theorem rn_called_then (n : Nat) (a0 a1 : D) : rn (n + 1) 87 [a0, a1] = (evSs (Cn n) b_called_then [some (.sh a0), some (.sh a1), none]).res := rfl
theorem rn_gone (n : Nat) (a0 a1 a2 : D) : rn (n + 1) 88 [a0, a1, a2] = (evSs (Cn n) b_gone [some (.sh a0), some (.sh a1), some (.sh a2), none, none]).res := rfl
theorem rn_law_put (n : Nat) (a0 a1 a2 : D) : rn (n + 1) 90 [a0, a1, a2] = (evSs (Cn n) b_law_put [some (.sh a0), some (.sh a1), some (.sh a2), none, none]).res := rfl
theorem rn_law_cut (n : Nat) (a0 a1 : D) : rn (n + 1) 91 [a0, a1] = (evSs (Cn n) b_law_cut [some (.sh a0), some (.sh a1), none, none]).res := rfl
theorem rn_tree_text (n : Nat) (a0 : D) : rn (n + 1) 93 [a0] = (evSs (Cn n) b_tree_text [some (.sh a0), none]).res := rfl
theorem rn_law_path_text (n : Nat) (a0 : D) : rn (n + 1) 96 [a0] = (evSs (Cn n) b_law_path_text [some (.sh a0), none, none, none, none, none]).res := rfl
theorem rn_law_tree_text (n : Nat) (a0 : D) : rn (n + 1) 97 [a0] = (evSs (Cn n) b_law_tree_text [some (.sh a0), none]).res := rfl
theorem rn_law_path_at (n : Nat) (a0 a1 : D) : rn (n + 1) 100 [a0, a1] = (evSs (Cn n) b_law_path_at [some (.sh a0), some (.sh a1), none, none, none, none, none]).res := rfl
theorem rn_law_tree_at (n : Nat) (a0 a1 : D) : rn (n + 1) 101 [a0, a1] = (evSs (Cn n) b_law_tree_at [some (.sh a0), some (.sh a1), none, none, none]).res := rfl
theorem rn_law_due (n : Nat) (a0 a1 : D) : rn (n + 1) 102 [a0, a1] = (evSs (Cn n) b_law_due [some (.sh a0), some (.sh a1), none, none]).res := rfl
end Tf
namespace Tf
open PySem
/-! Tm1: rules to run the evaluator by simp. -/
section
variable (C : EvC) (s : Sd)
@[simp] theorem e_var (i : Nat) : ev C (.var i) s = match s[i]? with
    | some (some (.sh d)) => .ok d
    | _ => .fail := by rw [ev] <;> rfl
@[simp] theorem e_con (d : D) : ev C (.con d) s = .ok d := by rw [ev]
@[simp] theorem e_glo (g : Nat) : ev C (.glo g) s = match C.gv g with
    | some d => .ok d
    | none => .fail := by rw [ev] <;> rfl
@[simp] theorem e_tup (es : Es) : ev C (.tup es) s = (evs C es s).bind fun ds => .ok (.tuple ds) := by rw [ev]
@[simp] theorem e_lst (l : L) : ev C (.lst l) s = (evL C l s).bind fun ds => .ok (.list ds) := by rw [ev]
@[simp] theorem e_bin (op : Operator) (a b : E) : ev C (.bin op a b) s = (ev C a s).bind fun x => (ev C b s).bind fun y => binD op x y := by rw [ev]
@[simp] theorem e_neg (a : E) : ev C (.neg a) s = (ev C a s).bind negD := by rw [ev]
@[simp] theorem e_cmp (op : CmpOp) (a b : E) : ev C (.cmp op a b) s = (ev C a s).bind fun x => (ev C b s).bind fun y => (cmpD op x y).bind fun t => .ok (.bool t) := by rw [ev]
@[simp] theorem e_idx (a i : E) : ev C (.idx a i) s = (ev C a s).bind fun x => (ev C i s).bind fun y => idxD x y := by rw [ev]
@[simp] theorem e_slc (a : E) (lo hi : Eo) : ev C (.slc a lo hi) s = (ev C a s).bind fun x => (evo C lo s).bind fun l => (evo C hi s).bind fun h => slcD l h x := by rw [ev]
@[simp] theorem e_rev (a : E) : ev C (.rev a) s = (ev C a s).bind revD := by rw [ev]
@[simp] theorem e_call (f : Nat) (es : Es) : ev C (.call f es) s = (evs C es s).bind fun ds => C.call f ds := by rw [ev]
@[simp] theorem e_isi (a : E) (t : Ty) : ev C (.isi a t) s = (ev C a s).bind fun x => .ok (.bool (isTy t x)) := by rw [ev]
@[simp] theorem e_isi2 (a : E) (t u : Ty) : ev C (.isi2 a t u) s = (ev C a s).bind fun x => .ok (.bool (isTy t x || isTy u x)) := by rw [ev]
@[simp] theorem e_bi (b : Bi) (a : E) : ev C (.bi b a) s = (ev C a s).bind fun x => biD b x := by rw [ev]
@[simp] theorem e_min2 (a b : E) : ev C (.min2 a b) s = (ev C a s).bind fun x => (ev C b s).bind fun y => min2D x y := by rw [ev]
@[simp] theorem e_upper (a : E) : ev C (.upper a) s = (ev C a s).bind upperD := by rw [ev]
@[simp] theorem e_not (a : E) : ev C (.not a) s = (ev C a s).bind fun x => (truth x).bind fun t => .ok (.bool (!t)) := by rw [ev]
@[simp] theorem e_and (a b : E) : ev C (.and a b) s = (ev C a s).bind fun x => (truth x).bind fun t => match t with
    | true => ev C b s
    | false => .ok x := by rw [ev] <;> rfl
@[simp] theorem e_or (a b : E) : ev C (.or a b) s = (ev C a s).bind fun x => (truth x).bind fun t => match t with
    | true => .ok x
    | false => ev C b s := by rw [ev] <;> rfl
@[simp] theorem e_ite (c a b : E) : ev C (.ite c a b) s = (ev C c s).bind fun x => (truth x).bind fun t => match t with
    | true => ev C a s
    | false => ev C b s := by rw [ev] <;> rfl
@[simp] theorem e_cmp2 (o p : CmpOp) (a b c : E) : ev C (.cmp2 o p a b c) s = (ev C a s).bind fun x => (ev C b s).bind fun y => (cmpD o x y).bind fun t => match t with
    | true => (ev C c s).bind fun z => (cmpD p y z).bind fun t => .ok (.bool t)
    | false => .ok (.bool false) := by rw [ev] <;> rfl
@[simp] theorem e_lenO (i : Nat) : ev C (.lenO i) s = match s[i]? with
    | some (some (.ow ds)) => .ok (.int ds.length)
    | _ => .fail := by rw [ev] <;> rfl
@[simp] theorem e_rows (a b : E) : ev C (.rows a b) s = (ev C a s).bind fun x => (ev C b s).bind fun y => match C.io x y [] with
    | some es => .ok (.tuple es)
    | none => .fail := by rw [ev] <;> rfl
@[simp] theorem e_cell (i : Nat) (e : E) : ev C (.cell i e) s = match s[i]? with
    | some (some (.scr ns)) => (ev C e s).bind fun x => match x with
      | .int k => if 0 ≤ k then .ok (.int (ns.getD k.toNat 0)) else .fail
      | _ => .fail
    | _ => .fail := by rw [ev] <;> rfl
@[simp] theorem es_nil' : evs C .nil s = .ok [] := by rw [evs]
@[simp] theorem es_cons' (e : E) (r : Es) : evs C (.cons e r) s = (ev C e s).bind fun x => (evs C r s).bind fun xs => .ok (x :: xs) := by rw [evs]
@[simp] theorem eo_no : evo C .no s = .ok none := by rw [evo]
@[simp] theorem eo_yes (e : E) : evo C (.yes e) s = (ev C e s).bind fun x => (intOf x).bind fun i => .ok (some i) := by rw [evo]
@[simp] theorem ec_no : evc C .no s = .ok true := by rw [evc]
@[simp] theorem ec_yes (e : E) : evc C (.yes e) s = (ev C e s).bind truth := by rw [evc]
@[simp] theorem el_disp (es : Es) : evL C (.disp es) s = evs C es s := by rw [evL]
@[simp] theorem el_cat (a b : E) : evL C (.cat a b) s = (ev C a s).bind fun x => (ev C b s).bind fun y => (listOf x).bind fun xs => (listOf y).bind fun ys => catD xs ys := by rw [evL]
@[simp] theorem el_rep (a k : E) : evL C (.rep a k) s = (ev C a s).bind fun x => (ev C k s).bind fun y => (listOf x).bind fun xs => repD xs y := by rw [evL]
@[simp] theorem el_ofs (a : E) : evL C (.ofs a) s = (ev C a s).bind seqOf := by rw [evL]
@[simp] theorem ei_seq (a : E) : evI C (.seq a) s = (ev C a s).bind itemsOf := by rw [evI]
@[simp] theorem ei_rng1 (a : E) : evI C (.rng1 a) s = (ev C a s).bind fun x => (intOf x).bind fun i => rng 0 i := by rw [evI]
@[simp] theorem ei_rng2 (a b : E) : evI C (.rng2 a b) s = (ev C a s).bind fun x => (ev C b s).bind fun y => (intOf x).bind fun i => (intOf y).bind fun j => rng i j := by rw [evI]
@[simp] theorem ei_enum (a : E) : evI C (.enum a) s = (ev C a s).bind fun x => (seqOf x).bind fun xs => .ok (enumD 0 xs) := by rw [evI]
@[simp] theorem ei_zip (a b : E) : evI C (.zip a b) s = (ev C a s).bind fun x => (ev C b s).bind fun y => (tupOf x).bind fun xs => (tupOf y).bind fun ys => .ok (zipD xs ys) := by rw [evI]
@[simp] theorem s_nil' : evSs C .nil s = .nx s := by rw [evSs]
@[simp] theorem s_cons' (x : S) (r : Ss) : evSs C (.cons x r) s = (evS C x s).then fun s' => evSs C r s' := by rw [evSs]
@[simp] theorem s_set' (i : Nat) (e : E) : evS C (.set i e) s = (ev C e s).out fun d => .nx (s.set i (some (.sh d))) := by rw [evS]
@[simp] theorem s_setL' (i : Nat) (l : L) : evS C (.setL i l) s = (evL C l s).out fun ds => .nx (s.set i (some (.ow ds))) := by rw [evS]
@[simp] theorem s_frz' (i : Nat) : evS C (.frz i) s = match s[i]? with
    | some (some (.ow ds)) => .nx (s.set i (some (.sh (.list ds))))
    | _ => .nx s := by rw [evS] <;> rfl
@[simp] theorem s_unp' (t : Tgs) (e : E) : evS C (.unp t e) s = (ev C e s).out fun d => match bindT (.tup t) d s with
    | some s' => .nx s'
    | none => .fail := by rw [evS] <;> rfl
@[simp] theorem s_par' (i j : Nat) (a b : E) : evS C (.par i j a b) s = (ev C a s).out fun x => (ev C b s).out fun y => .nx ((s.set i (some (.sh x))).set j (some (.sh y))) := by rw [evS]
@[simp] theorem s_app' (i : Nat) (e : E) : evS C (.app i e) s = match s[i]? with
    | some (some (.ow ds)) => (ev C e s).out fun d => if ds.length < lim then .nx (s.set i (some (.ow (ds ++ [d])))) else .fail
    | _ => .fail := by rw [evS] <;> rfl
@[simp] theorem s_ext' (i : Nat) (e : E) : evS C (.ext i e) s = match s[i]? with
    | some (some (.ow ds)) => ((ev C e s).bind listOf).out fun es => if ds.length + es.length ≤ lim then .nx (s.set i (some (.ow (ds ++ es)))) else .fail
    | _ => .fail := by rw [evS] <;> rfl
@[simp] theorem s_ret' (e : E) : evS C (.ret e) s = (ev C e s).out fun d => .rt d := by rw [evS]
@[simp] theorem s_exp' (e : E) : evS C (.exp e) s = (ev C e s).out fun _ => .nx s := by rw [evS]
@[simp] theorem s_rai' (c : Nat) : evS C (.rai c) s = .exc c := by rw [evS]
@[simp] theorem s_iff' (c : E) (a b : Ss) : evS C (.iff c a b) s = ((ev C c s).bind truth).out fun t => match t with
    | true => evSs C a s
    | false => evSs C b s := by rw [evS] <;> rfl
@[simp] theorem s_for' (t : Tg) (it : It) (b : Ss) : evS C (.for_ t it b) s = (evI C it s).out fun items => loopFor t (fun s' => evSs C b s') items s := by rw [evS]
@[simp] theorem b_name (i : Nat) (d : D) : bindT (.name i) d s = some (s.set i (some (.sh d))) := by rw [bindT]
@[simp] theorem b_tg (ts : Tgs) (ds : List D) : bindT (.tup ts) (.tuple ds) s = bindTs ts ds s := by rw [bindT]
@[simp] theorem bs_nil : bindTs .nil [] s = some s := by rw [bindTs]
@[simp] theorem bs_cons (t : Tg) (r : Tgs) (d : D) (ds : List D) : bindTs (.cons t r) (d :: ds) s = match bindT t d s with
    | some s' => bindTs r ds s'
    | none => none := by rw [bindTs] <;> rfl
@[simp] theorem sl_name (i : Nat) : slotsT (.name i) = [i] := by rw [slotsT]
@[simp] theorem sl_tg (ts : Tgs) : slotsT (.tup ts) = slotsTs ts := by rw [slotsT]
@[simp] theorem sls_nil : slotsTs .nil = [] := by rw [slotsTs]
@[simp] theorem sls_cons (t : Tg) (r : Tgs) : slotsTs (.cons t r) = slotsT t ++ slotsTs r := by rw [slotsTs]
@[simp] theorem w_nil : wipeD s [] = s := rfl
@[simp] theorem w_cons (v : Nat) (vs : List Nat) : wipeD s (v :: vs) = (wipeD s vs).set v none := rfl
end
@[simp] theorem i_lst (xs : List D) : itemsOf (.list xs) = .ok xs := rfl
@[simp] theorem i_tup (xs : List D) : itemsOf (.tuple xs) = .ok xs := rfl
@[simp] theorem sq_lst (xs : List D) : seqOf (.list xs) = .ok xs := rfl
@[simp] theorem sq_tup (xs : List D) : seqOf (.tuple xs) = .ok xs := rfl
@[simp] theorem l_of (xs : List D) : listOf (.list xs) = .ok xs := rfl
@[simp] theorem tu_of (xs : List D) : tupOf (.tuple xs) = .ok xs := rfl
@[simp] theorem i_of (i : Int) : intOf (.int i) = .ok i := rfl
@[simp] theorem bi_lenT (xs : List D) : biD .len (.tuple xs) = .ok (.int xs.length) := rfl
@[simp] theorem bi_lenL (xs : List D) : biD .len (.list xs) = .ok (.int xs.length) := rfl
@[simp] theorem bi_tup (xs : List D) : biD .tuple (.list xs) = .ok (.tuple xs) := rfl
@[simp] theorem m2 (i j : Int) : min2D (.int i) (.int j) = .ok (.int (if j < i then j else i)) := rfl
@[simp] theorem isT_tup (xs : List D) : isTy .tuple (.tuple xs) = true := rfl
theorem runF_ok {C : EvC} {f : Fn} {ds : List D} (h : ds.length = f.np) : runF C f ds = (evSs C f.body (start0 f (ds.map fun d => some (.sh d)))).res := by
  unfold runF; rw [if_pos h]
@[simp] theorem res_rt (d : D) : (Out.rt d).res = .ok d := rfl
@[simp] theorem res_nx (s : Sd) : (Out.nx s).res = .ok .none := rfl
@[simp] theorem res_exc (c : Nat) : (Out.exc c).res = .exc c := rfl
@[simp] theorem out_exc {A : Type} (c : Nat) (f : A → Out) : (R.exc c : R A).out f = .exc c := rfl
@[simp] theorem then_exc (c : Nat) (f : Sd → Out) : (Out.exc c).then f = .exc c := rfl
@[simp] theorem b_add (i j : Int) : binD .Add (.int i) (.int j) = .ok (.int (i + j)) := rfl
@[simp] theorem b_sub (i j : Int) : binD .Sub (.int i) (.int j) = .ok (.int (i - j)) := rfl
@[simp] theorem b_mod (i j : Int) (h : 0 < j) : binD .Mod (.int i) (.int j) = .ok (.int (i % j)) := if_pos h
theorem b_mul (i j : Int) (h : (-(2 ^ 64) < i ∧ i < 2 ^ 64) ∨ (-(2 ^ 64) < j ∧ j < 2 ^ 64)) : binD .Mult (.int i) (.int j) = .ok (.int (i * j)) := if_pos h
@[simp] theorem b_tup (xs ys : List D) (h : xs.length + ys.length ≤ lim) : binD .Add (.tuple xs) (.tuple ys) = .ok (.tuple (xs ++ ys)) := if_pos h
@[simp] theorem b_str (x y : Str) (h : x.length + y.length ≤ lim) : binD .Add (.str x) (.str y) = .ok (.str (x ++ y)) := if_pos h
@[simp] theorem t_bool (b : Bool) : truth (.bool b) = .ok b := rfl
@[simp] theorem t_none : truth .none = .ok false := rfl
@[simp] theorem t_int (i : Int) : truth (.int i) = .ok (i != 0) := rfl
@[simp] theorem t_tup (xs : List D) : truth (.tuple xs) = .ok (!xs.isEmpty) := rfl
@[simp] theorem t_lst (xs : List D) : truth (.list xs) = .ok (!xs.isEmpty) := rfl
@[simp] theorem c_lt (i j : Int) : cmpD .Lt (.int i) (.int j) = .ok (decide (i < j)) := rfl
@[simp] theorem c_le (i j : Int) : cmpD .LtE (.int i) (.int j) = .ok (decide (i ≤ j)) := rfl
@[simp] theorem c_gt (i j : Int) : cmpD .Gt (.int i) (.int j) = .ok (decide (j < i)) := rfl
@[simp] theorem c_ge (i j : Int) : cmpD .GtE (.int i) (.int j) = .ok (decide (j ≤ i)) := rfl
theorem eqv_int (i j : Int) : PyData.eqv (.int i) (.int j) = decide (i = j) := by
  simp only [PyData.eqv]; rfl
theorem eqv_str (x y : Str) : PyData.eqv (.str x) (.str y) = (x == y) := by
  simp only [PyData.eqv]
theorem near_int (i j : Int) : near (.int i) (.int j) = true := by
  simp [near, PyData.depth]
theorem near_str (i : Str) (d : D) : near (.str i) d = true := by
  simp [near, PyData.depth]
@[simp] theorem c_eqi (i j : Int) : cmpD .Eq (.int i) (.int j) = .ok (decide (i = j)) := by
  rw [cmpD, if_pos (near_int i j), eqv_int]
@[simp] theorem c_nei (i j : Int) : cmpD .NotEq (.int i) (.int j) = .ok (!decide (i = j)) := by
  rw [cmpD, if_pos (near_int i j), eqv_int]
theorem ev_and {C : EvC} {a b : E} {s : Sd} {p q : Bool} (ha : ev C a s = .ok (.bool p)) (hb : p = true → ev C b s = .ok (.bool q)) : ev C (.and a b) s = .ok (.bool (p && q)) := by
  unfold ev; rw [ha]
  cases p with
  | true => simp [hb rfl]
  | false => simp
theorem ev_or {C : EvC} {a b : E} {s : Sd} {p q : Bool} (ha : ev C a s = .ok (.bool p)) (hb : p = false → ev C b s = .ok (.bool q)) : ev C (.or a b) s = .ok (.bool (p || q)) := by
  unfold ev; rw [ha]
  cases p with
  | true => simp
  | false => simp [hb rfl]
/-! ### step by step -/
theorem ss_nx {C : EvC} {x : S} {r : Ss} {s s' : Sd} (h : evS C x s = .nx s') : evSs C (.cons x r) s = evSs C r s' := by rw [evSs, h]; rfl
theorem ss_rt {C : EvC} {x : S} {r : Ss} {s : Sd} {d : D} (h : evS C x s = .rt d) : evSs C (.cons x r) s = .rt d := by rw [evSs, h]; rfl
theorem ss_exc {C : EvC} {x : S} {r : Ss} {s : Sd} {d : Nat} (h : evS C x s = .exc d) : evSs C (.cons x r) s = .exc d := by rw [evSs, h]; rfl
theorem iff_t {C : EvC} {c : E} {a b : Ss} {s : Sd} {d : D} (h : ev C c s = .ok d) (ht : truth d = .ok true) : evS C (.iff c a b) s = evSs C a s := by rw [evS, h, R.bind_ok, ht]; rfl
theorem iff_f {C : EvC} {c : E} {a b : Ss} {s : Sd} {d : D} (h : ev C c s = .ok d) (ht : truth d = .ok false) : evS C (.iff c a b) s = evSs C b s := by rw [evS, h, R.bind_ok, ht]; rfl
theorem set_ok {C : EvC} {i : Nat} {e : E} {s : Sd} {d : D} (h : ev C e s = .ok d) : evS C (.set i e) s = .nx (s.set i (some (.sh d))) := by rw [evS, h]; rfl
theorem ret_ok {C : EvC} {e : E} {s : Sd} {d : D} (h : ev C e s = .ok d) : evS C (.ret e) s = .rt d := by rw [evS, h]; rfl
theorem for_ok {C : EvC} {t : Tg} {it : It} {b : Ss} {s : Sd} {ds : List D} (h : evI C it s = .ok ds) : evS C (.for_ t it b) s = loopFor t (fun s' => evSs C b s') ds s := by rw [evS, h]; rfl
theorem and_f {C : EvC} {a b : E} {s : Sd} (h : ev C a s = .ok (.bool false)) : ev C (.and a b) s = .ok (.bool false) := by rw [ev, h]; rfl
theorem and_t {C : EvC} {a b : E} {s : Sd} (h : ev C a s = .ok (.bool true)) : ev C (.and a b) s = ev C b s := by rw [ev, h]; rfl
theorem or_t {C : EvC} {a b : E} {s : Sd} (h : ev C a s = .ok (.bool true)) : ev C (.or a b) s = .ok (.bool true) := by rw [ev, h]; rfl
theorem or_f {C : EvC} {a b : E} {s : Sd} (h : ev C a s = .ok (.bool false)) : ev C (.or a b) s = ev C b s := by rw [ev, h]; rfl
theorem res_of {o o' : Out} {r : R D} (h : o = o') (h2 : o'.res = r) : o.res = r := by rw [h]; exact h2
/-! ### comprehensions and loops -/
theorem compGo_map {f : D → R (Option D)} {g : D → D} : ∀ {xs : List D}, (∀ d ∈ xs, f d = .ok (some (g d))) → compGo f xs = .ok (xs.map g)
  | [], _ => rfl
  | x :: xs, h => by
    have h1 := h x (by simp)
    have h2 := compGo_map (xs := xs) fun d hd => h d (by simp [hd])
    simp [compGo, h1, h2]
theorem compGo_filter {f : D → R (Option D)} {p : D → Bool} {g : D → D} : ∀ {xs : List D}, (∀ d ∈ xs, f d = .ok (if p d then some (g d) else none)) → compGo f xs = .ok ((xs.filter p).map g)
  | [], _ => rfl
  | x :: xs, h => by
    have h1 := h x (by simp)
    have h2 := compGo_filter (xs := xs) fun d hd => h d (by simp [hd])
    simp only [compGo, h1, h2, R.still_ok, R.bind_ok, List.filter_cons]
    cases p x <;> simp
theorem boolsOf_map (xs : List D) (g : D → Bool) : boolsOf (xs.map fun d => .bool (g d)) = some (xs.map g) := by
  induction xs with
  | nil => rfl
  | cons x xs ih => simp [boolsOf, ih]
theorem intsOf_map (xs : List D) (g : D → Int) : intsOf (xs.map fun d => .int (g d)) = some (xs.map g) := by
  induction xs with
  | nil => rfl
  | cons x xs ih => simp [intsOf, ih]
theorem loopFor_inv {t : Tg} {f : Sd → Out} (I : List D → Sd → Prop) (step : ∀ d r s, I (d :: r) s → ∃ s1 s2, bindT t d s = some s1 ∧ f s1 = .nx s2 ∧ I r s2) : ∀ (ds : List D) (s : Sd), I ds s → ∃ s', loopFor t f ds s = .nx s' ∧ I [] s'
  | [], s, h => ⟨s, rfl, h⟩
  | d :: r, s, h => by
    obtain ⟨s1, s2, e1, e2, h2⟩ := step d r s h
    obtain ⟨s', e3, h3⟩ := loopFor_inv I step r s2 h2
    refine ⟨s', ?_, h3⟩
    unfold loopFor
    rw [e1]
    show (f s1).then _ = _
    rw [e2]
    exact e3
theorem rangeD_eq (lo : Int) (n : Nat) : rangeD lo n = (List.range n).map fun i => .int (lo + (i : Nat)) := by
  induction n generalizing lo with
  | zero => rfl
  | succ n ih =>
    rw [rangeD, ih, List.range_succ_eq_map]
    simp [Function.comp_def]
    intro a _
    omega
theorem rng_ok {lo hi : Int} (h1 : -(2 ^ 62) ≤ lo) (h2 : lo < 2 ^ 62) (h3 : -(2 ^ 62) ≤ hi) (h4 : hi < 2 ^ 62) : rng lo hi = .ok (rangeD lo (hi - lo).toNat) := if_pos ⟨h1, h2, h3, h4⟩

/-! ### the mix -/
def mix (c p m : Int) : Int := (c * 48271 % p) * (c * 48271 % p + 7) % p % m
theorem mix_lo (c p m : Int) (h : 0 < m) : 0 ≤ mix c p m := Int.emod_nonneg _ (by omega)
theorem mix_hi (c p m : Int) (h : 0 < m) : mix c p m < m := Int.emod_lt_of_pos _ h
theorem r_mix (n : Nat) (c p m : Int) (hp : 0 < p) (hp2 : p < 2 ^ 60) (hm : 0 < m) : rn (n + 1) 5 [.int c, .int p, .int m] = .ok (.int (mix c p m)) := by
  have h1 : 0 ≤ c * 48271 % p := Int.emod_nonneg _ (by omega)
  have h2 : c * 48271 % p < p := Int.emod_lt_of_pos _ hp
  rw [rn_law_mix]
  have g1 : binD .Mult (.int c) (.int 48271) = .ok (.int (c * 48271)) := b_mul _ _ (.inr (by decide))
  have g2 : binD .Mult (.int (c * 48271 % p)) (.int (c * 48271 % p + 7)) = .ok (.int ((c * 48271 % p) * (c * 48271 % p + 7))) := b_mul _ _ (.inl ⟨by omega, by omega⟩)
  simp [b_law_mix, g1, g2, hp, hm, mix]
end Tf
namespace Tf
open PySem
/-! Tm2: paths, typed; what _law_steps and _law_path tell. -/
theorem compGo_enc {A : Type} {f : D → R (Option D)} {enc g : A → D} : ∀ {xs : List A}, (∀ x ∈ xs, f (enc x) = .ok (some (g x))) → compGo f (xs.map enc) = .ok (xs.map g)
  | [], _ => rfl
  | x :: xs, h => by
    have h1 := h x (by simp)
    have h2 := compGo_enc (xs := xs) fun d hd => h d (by simp [hd])
    simp [compGo, h1, h2]
theorem boolsOf_enc {A : Type} (xs : List A) (g : A → Bool) : boolsOf (xs.map fun d => .bool (g d)) = some (xs.map g) := by
  induction xs with
  | nil => rfl
  | cons x xs ih => simp [boolsOf, ih]
theorem intsOf_enc {A : Type} (xs : List A) (g : A → Int) : intsOf (xs.map fun d => .int (g d)) = some (xs.map g) := by
  induction xs with
  | nil => rfl
  | cons x xs ih => simp [intsOf, ih]
inductive St where
  | mk (w : Bool) (l : Fin 3) (ts : List (List St))
def wayS (w : Bool) : Str := if w then "deep" else "in"
def letS : Fin 3 → Str
  | 0 => "a"
  | 1 => "b"
  | 2 => "c"
mutual
def encS : St → D
  | .mk w l ts => .tuple [.str (wayS w), .str (letS l), .tuple (encPs ts)]
def encL : List St → List D
  | [] => []
  | s :: r => encS s :: encL r
def encPs : List (List St) → List D
  | [] => []
  | p :: r => .tuple (encL p) :: encPs r
end
abbrev Pa := List St
def encP (p : Pa) : D := .tuple (encL p)
theorem encL_eq (p : Pa) : encL p = p.map encS := by
  induction p with
  | nil => rw [encL]; rfl
  | cons s r ih => rw [encL, ih]; rfl
theorem encPs_eq (p : List Pa) : encPs p = p.map encP := by
  induction p with
  | nil => rw [encPs]; rfl
  | cons s r ih => rw [encPs, ih]; rfl
theorem encS_eq (w : Bool) (l : Fin 3) (ts : List Pa) : encS (.mk w l ts) = .tuple [.str (wayS w), .str (letS l), .tuple (ts.map encP)] := by
  rw [encS, encPs_eq]
theorem encP_eq (p : Pa) : encP p = .tuple (p.map encS) := by rw [encP, encL_eq]
def St.ts : St → List Pa
  | .mk _ _ ts => ts
def St.w : St → Bool
  | .mk w _ _ => w
def St.l : St → Fin 3
  | .mk _ l _ => l
mutual
def stS : St → Nat
  | .mk _ _ ts => 1 + stPs ts
def stL : List St → Nat
  | [] => 0
  | s :: r => stS s + stL r
def stPs : List (List St) → Nat
  | [] => 0
  | p :: r => stL p + stPs r
end
theorem stL_eq (p : Pa) : stL p = (p.map stS).sum := by
  induction p with
  | nil => rw [stL]; rfl
  | cons s r ih => rw [stL, ih]; rfl
theorem stPs_eq (p : List Pa) : stPs p = (p.map stL).sum := by
  induction p with
  | nil => rw [stPs]; rfl
  | cons s r ih => rw [stPs, ih]; rfl
theorem stS_eq (s : St) : stS s = 1 + (s.ts.map stL).sum := by
  cases s with
  | mk w l ts => rw [stS, stPs_eq]; rfl
mutual
def wfS : St → Bool
  | .mk _ _ ts => decide (ts.length ≤ 2) && wfPs ts
def wfL : List St → Bool
  | [] => true
  | s :: r => wfS s && wfL r
def wfPs : List (List St) → Bool
  | [] => true
  | p :: r => (decide (1 ≤ p.length) && decide (p.length ≤ 3) && wfL p) && wfPs r
end
def wfP (p : Pa) : Bool := decide (1 ≤ p.length) && decide (p.length ≤ 3) && wfL p
theorem wfL_eq (p : Pa) : wfL p = p.all wfS := by
  induction p with
  | nil => rw [wfL]; rfl
  | cons s r ih => rw [wfL, ih]; rfl
theorem wfPs_eq (p : List Pa) : wfPs p = p.all wfP := by
  induction p with
  | nil => rw [wfPs]; rfl
  | cons s r ih => rw [wfPs, ih]; rfl
theorem wfS_eq (s : St) : wfS s = (decide (s.ts.length ≤ 2) && s.ts.all wfP) := by
  cases s with
  | mk w l ts => rw [wfS, wfPs_eq]; rfl
theorem mem_le_sum {A : Type} {f : A → Nat} {xs : List A} {x : A} (h : x ∈ xs) : f x ≤ (xs.map f).sum := by
  induction xs with
  | nil => cases h
  | cons y ys ih =>
    simp only [List.map_cons, List.sum_cons]
    rcases List.mem_cons.mp h with rfl | h
    · omega
    · have := ih h; omega
theorem one_le_stS (s : St) : 1 ≤ stS s := by rw [stS_eq]; omega
theorem len_le_sum {A : Type} {f : A → Nat} {xs : List A} (h : ∀ x ∈ xs, 1 ≤ f x) : xs.length ≤ (xs.map f).sum := by
  induction xs with
  | nil => simp
  | cons y ys ih =>
    have h1 := h y (by simp)
    have h2 := ih fun x hx => h x (by simp [hx])
    simp only [List.length_cons, List.map_cons, List.sum_cons]; omega
theorem len_le_st (p : Pa) : p.length ≤ stL p := by
  rw [stL_eq]; exact len_le_sum fun s _ => one_le_stS s
theorem encS_tests (s : St) : idxD (encS s) (.int 2) = .ok (.tuple (s.ts.map encP)) := by
  cases s with
  | mk w l ts => rw [encS_eq]; rfl
theorem sum_cast {A : Type} (f : A → Nat) (xs : List A) : (((xs.map f).sum : Nat) : Int) = (xs.map fun x => (f x : Int)).sum := by
  induction xs with
  | nil => rfl
  | cons x xs ih => simp [ih]
theorem r_steps : ∀ (n : Nat) (p : Pa), stL p < n → wfL p = true → stL p ≤ 1000 → rn n 9 [encP p] = .ok (.int (stL p))
  | 0, p, h, _, _ => by omega
  | n + 1, p, h, hw, hb => by
    have hl := len_le_st p
    rw [rn_law_steps, encP_eq]
    have hlim : lim = 1000000 := rfl
    have hin : ∀ s ∈ p, ∀ t ∈ s.ts, rn n 9 [encP t] = .ok (.int (stL t)) := by
      intro s hs t ht
      have h1 : stL t ≤ (s.ts.map stL).sum := mem_le_sum ht
      have h2 : stS s ≤ (p.map stS).sum := mem_le_sum hs
      rw [stS_eq] at h2
      rw [stL_eq p] at h hb
      have hw1 : wfS s = true := by rw [wfL_eq] at hw; exact List.all_eq_true.mp hw s hs
      rw [wfS_eq] at hw1
      simp only [Bool.and_eq_true] at hw1
      have hw2 := List.all_eq_true.mp hw1.2 t ht
      unfold wfP at hw2
      simp only [Bool.and_eq_true] at hw2
      exact r_steps n t (by omega) hw2.2 (by omega)
    have hts : ∀ s ∈ p, s.ts.length ≤ 2 := by
      intro s hs
      have hw1 : wfS s = true := by rw [wfL_eq] at hw; exact List.all_eq_true.mp hw s hs
      rw [wfS_eq] at hw1
      simp only [Bool.and_eq_true, decide_eq_true_eq] at hw1
      exact hw1.1
    have hpl : p.length ≤ lim := by omega
    have hcall : (Cn n).call = rn n := rfl
    simp [b_law_steps, evL, hpl]
    rw [compGo_enc (g := fun s => .int (stS s))]
    · simp [biD, intsOf_enc]
      rw [stL_eq, sum_cast]
    · intro s hs
      have hl2 : s.ts.length ≤ lim := by have := hts s hs; omega
      simp [encS_tests, hl2]
      rw [compGo_enc (g := fun t => .int (stL t))]
      · simp [biD, intsOf_enc]
        rw [stS_eq, ← sum_cast]; omega
      · intro t ht
        rw [hin s hs t ht]; rfl
end Tf
namespace Tf
open PySem
/-! Tm3: what _law_path draws is a path of at most so many steps. -/
theorem ways_idx (i : Int) (h0 : 0 ≤ i) (h1 : i < 2) : ∃ w, idxD (.tuple [.str "in", .str "deep"]) (.int i) = .ok (.str (wayS w)) := by
  have : i = 0 ∨ i = 1 := by omega
  rcases this with rfl | rfl
  · exact ⟨false, rfl⟩
  · exact ⟨true, rfl⟩
theorem abcab_idx (i : Int) (h0 : 0 ≤ i) (h1 : i < 5) : ∃ l, idxD (.str "abcab") (.int i) = .ok (.str (letS l)) := by
  have : i = 0 ∨ i = 1 ∨ i = 2 ∨ i = 3 ∨ i = 4 := by omega
  rcases this with rfl | rfl | rfl | rfl | rfl
  · exact ⟨0, rfl⟩
  · exact ⟨1, rfl⟩
  · exact ⟨2, rfl⟩
  · exact ⟨0, rfl⟩
  · exact ⟨1, rfl⟩
theorem stPs_app (ts : List Pa) (p : Pa) : stPs (ts ++ [p]) = stPs ts + stL p := by
  rw [stPs_eq, stPs_eq]; simp
theorem stL_app (q : Pa) (s : St) : stL (q ++ [s]) = stL q + stS s := by
  rw [stL_eq, stL_eq]; simp
theorem wfL_app (q : Pa) (s : St) : wfL (q ++ [s]) = (wfL q && wfS s) := by
  rw [wfL_eq, wfL_eq]; simp
theorem mem_range {lo : Int} {n : Nat} {d : D} (h : d ∈ rangeD lo n) : ∃ i : Int, d = .int i ∧ lo ≤ i ∧ i < lo + n := by
  rw [rangeD_eq] at h
  obtain ⟨i, hi, rfl⟩ := List.mem_map.mp h
  rw [List.mem_range] at hi
  exact ⟨_, rfl, by omega, by omega⟩
theorem rng0 {hi : Int} (h3 : 0 ≤ hi) (h4 : hi < 2 ^ 62) : rng 0 hi = .ok (rangeD 0 hi.toNat) := by
  rw [rng_ok (by omega) (by omega) (by omega) h4]; simp
theorem rangeD_len (lo : Int) (n : Nat) : (rangeD lo n).length = n := by rw [rangeD_eq]; simp
def J1 (c m M : Int) (q : List St) (k seed : Int) (a9 : Option Sl) (left0 : Int) (ds : List D) (s : Sd) : Prop :=
  ∃ (left : Int) (ts : List Pa) (a8 a10 : Option Sl), s = [some (.sh (.int c)), some (.sh (.int m)), some (.sh (.int (1 + M))), some (.sh (.int left)), some (.ow (q.map encS)), some (.sh (.int k)), some (.sh (.int seed)), some (.ow (ts.map encP)), a8, a9, a10] ∧
    0 ≤ left ∧ ts.all wfP = true ∧ (stPs ts : Int) + left = left0 ∧ ts.length + ds.length ≤ 2 ∧ ∀ d ∈ ds, ∃ j : Int, d = .int j
def J2 (c m M : Int) (ds : List D) (s : Sd) : Prop :=
  ∃ (left : Int) (q : List St) (a5 a6 a7 a8 a9 a10 : Option Sl), s = [some (.sh (.int c)), some (.sh (.int m)), some (.sh (.int (1 + M))), some (.sh (.int left)), some (.ow (q.map encS)), a5, a6, a7, a8, a9, a10] ∧
    0 ≤ left ∧ wfL q = true ∧ (stL q : Int) + left + ds.length = m ∧ (q.length : Int) + ds.length = 1 + M ∧ ∀ d ∈ ds, ∃ j : Int, d = .int j
theorem r_path : ∀ (n : Nat) (c m : Int), 1 ≤ m → m ≤ 100 → m < n → ∃ p : Pa, rn n 8 [.int c, .int m] = .ok (encP p) ∧ wfP p = true ∧ (stL p : Int) ≤ m
  | 0, c, m, h1, _, h2 => by omega
  | n + 1, c, m, h1, h100, h2 => by
    have hlim : lim = 1000000 := rfl
    obtain ⟨n', rfl⟩ : ∃ n', n = n' + 1 := ⟨n - 1, by omega⟩
    have hmn : 0 < (if m < 3 then m else 3) := by split <;> omega
    have ha := mix_lo c 9941 _ hmn
    have hb := mix_hi c 9941 _ hmn
    have hmix : rn (n' + 1) 5 [.int c, .int 9941, .int (if m < 3 then m else 3)] = .ok (.int (mix c 9941 (if m < 3 then m else 3))) := r_mix n' _ _ _ (by omega) (by omega) hmn
    generalize hM : mix c 9941 (if m < 3 then m else 3) = M at ha hb hmix
    have hM3 : 1 + M ≤ 3 ∧ 1 + M ≤ m := by split at hb <;> omega
    have inner : ∀ (q : List St) (k seed : Int) (a9 : Option Sl) (left0 : Int), left0 < m → ∀ (ds : List D) (s : Sd), J1 c m M q k seed a9 left0 ds s →
        ∃ s', loopFor (.name 8) (fun s' => evSs (Cn (n' + 1)) b_law_path_1 s') ds s = .nx s' ∧ J1 c m M q k seed a9 left0 [] s' := by
      intro q k seed a9 left0 hl0 ds s h
      refine loopFor_inv (J1 c m M q k seed a9 left0) ?_ ds s h
      rintro d r s ⟨left, ts, a8, a10, rfl, g1, g2, g3, g4, g5⟩
      obtain ⟨j, rfl⟩ := g5 d (by simp)
      simp only [List.length_cons] at g4
      by_cases hpos : 0 < left
      · have m1 := mix_lo seed 9929 left hpos
        have m2 := mix_hi seed 9929 left hpos
        obtain ⟨p, e1, e2, e3⟩ := r_path (n' + 1) (seed + 29 * j + 5) (1 + mix seed 9929 left) (by omega) (by omega) (by omega)
        have e4 := r_steps (n' + 1) p (by omega) (by unfold wfP at e2; simp only [Bool.and_eq_true] at e2; exact e2.2) (by omega)
        have e5 := r_mix n' seed 9929 left (by omega) (by omega) hpos
        have e6 := b_mul 29 j (.inl ⟨by decide, by decide⟩)
        have e7 : ts.length < lim := by omega
        refine ⟨_, [some (.sh (.int c)), some (.sh (.int m)), some (.sh (.int (1 + M))), some (.sh (.int (left - stL p))), some (.ow (q.map encS)), some (.sh (.int k)), some (.sh (.int seed)), some (.ow ((ts ++ [p]).map encP)), some (.sh (.int j)), a9, some (.sh (encP p))], b_name _ _ _, by simp [b_law_path_1, hpos, e1, e4, e5, e6, e7], ?_⟩
        refine ⟨left - stL p, ts ++ [p], _, _, rfl, by omega, by simp only [List.all_append, g2, Bool.true_and, List.all_cons, e2, List.all_nil], ?_, ?_, fun d hd => g5 d (by simp [hd])⟩
        · rw [stPs_app]; push_cast; omega
        · simp; omega
      · refine ⟨_, [some (.sh (.int c)), some (.sh (.int m)), some (.sh (.int (1 + M))), some (.sh (.int left)), some (.ow (q.map encS)), some (.sh (.int k)), some (.sh (.int seed)), some (.ow (ts.map encP)), some (.sh (.int j)), a9, a10], b_name _ _ _, by simp [b_law_path_1, hpos], ?_⟩
        exact ⟨left, ts, _, _, rfl, g1, g2, g3, by omega, fun d hd => g5 d (by simp [hd])⟩
    have outer : ∀ (ds : List D) (s : Sd), J2 c m M ds s → ∃ s', loopFor (.name 5) (fun s' => evSs (Cn (n' + 1)) b_law_path_2 s') ds s = .nx s' ∧ J2 c m M [] s' := by
      refine loopFor_inv (J2 c m M) ?_
      rintro d r s ⟨left, q, a5, a6, a7, a8, a9, a10, rfl, g1, g2, g3, g4, g5⟩
      obtain ⟨j, rfl⟩ := g5 d (by simp)
      simp only [List.length_cons] at g3 g4
      have e6 := b_mul 17 j (.inl ⟨by decide, by decide⟩)
      have e5 := r_mix n' (c + 17 * j) 9931 3 (by omega) (by omega) (by omega)
      have e7 := r_mix n' (c + 17 * j) 9923 2 (by omega) (by omega) (by omega)
      have e8 := r_mix n' (c + 17 * j) 9907 5 (by omega) (by omega) (by omega)
      have k1 := mix_lo (c + 17 * j) 9931 3 (by omega)
      have k2 := mix_hi (c + 17 * j) 9931 3 (by omega)
      obtain ⟨w, hw⟩ := ways_idx _ (mix_lo (c + 17 * j) 9923 2 (by omega)) (mix_hi (c + 17 * j) 9923 2 (by omega))
      obtain ⟨l, hl⟩ := abcab_idx _ (mix_lo (c + 17 * j) 9907 5 (by omega)) (mix_hi (c + 17 * j) 9907 5 (by omega))
      obtain ⟨s', x1, left', ts, b8, b10, rfl, x2, x3, x4, x5, _⟩ := inner q j (c + 17 * j) a9 left (by omega) (rangeD 0 (mix (c + 17 * j) 9931 3).toNat) [some (.sh (.int c)), some (.sh (.int m)), some (.sh (.int (1 + M))), some (.sh (.int left)), some (.ow (q.map encS)), some (.sh (.int j)), some (.sh (.int (c + 17 * j))), some (.ow []), a8, a9, a10]
        ⟨left, [], a8, a10, rfl, g1, rfl, by simp [stPs], by rw [rangeD_len]; simp; omega, fun d hd => by obtain ⟨i, hi, _⟩ := mem_range hd; exact ⟨i, hi⟩⟩
      have e9 := rng0 (hi := mix (c + 17 * j) 9931 3) (by omega) (by omega)
      have e10 : q.length < lim := by omega
      refine ⟨_, [some (.sh (.int c)), some (.sh (.int m)), some (.sh (.int (1 + M))), some (.sh (.int left')), some (.ow ((q ++ [St.mk w l ts]).map encS)), some (.sh (.int j)), some (.sh (.int (c + 17 * j))), some (.sh (.list (ts.map encP))), b8, some (.sh (.str (wayS w))), b10], b_name _ _ _, ?_, ?_⟩
      · simp [b_law_path_2, e6, e5, e9, x1, e7, hw, e8, hl, e10, encS_eq]
      · have hs : stS (St.mk w l ts) = 1 + stPs ts := by rw [stS]
        refine ⟨left', q ++ [St.mk w l ts], _, _, _, _, _, _, rfl, x2, ?_, ?_, ?_, fun d hd => g5 d (by simp [hd])⟩
        · rw [wfL_app, g2, wfS_eq]
          simp only [St.ts, x3, Bool.true_and, Bool.and_true, decide_eq_true_eq]
          simp at x5; exact decide_eq_true x5
        · rw [stL_app, hs]; push_cast; omega
        · simp; omega
    obtain ⟨s', x1, left', q, b5, b6, b7, b8, b9, b10, rfl, x2, x3, x4, x5, _⟩ := outer (rangeD 0 (1 + M).toNat) [some (.sh (.int c)), some (.sh (.int m)), some (.sh (.int (1 + M))), some (.sh (.int (m - (1 + M)))), some (.ow []), none, none, none, none, none, none]
      ⟨m - (1 + M), [], none, none, none, none, none, none, rfl, by omega, by simp [wfL], by rw [rangeD_len]; simp [stL]; omega, by rw [rangeD_len]; simp; omega, fun d hd => by obtain ⟨i, hi, _⟩ := mem_range hd; exact ⟨i, hi⟩⟩
    have e9 := rng0 (hi := 1 + M) (by omega) (by omega)
    refine ⟨q, ?_, ?_, by simp at x4; omega⟩
    · rw [rn_law_path]
      simp [b_law_path, hmix, e9, x1, encP_eq]
    · unfold wfP
      simp at x5
      simp only [x3, Bool.and_true, Bool.and_eq_true, decide_eq_true_eq]
      omega
end Tf
namespace Tf
open PySem
/-! Tm4: things of small size; what _law_odd makes. -/
/-- at most n deep, every text and row at most k long -/
def fit (k : Nat) : Nat → D → Prop
  | 0, _ => False
  | n + 1, d => match d with
    | .none => True
    | .bool _ => True
    | .int _ => True
    | .str x => x.length ≤ k
    | .list xs => xs.length ≤ k ∧ ∀ x ∈ xs, fit k n x
    | .tuple xs => xs.length ≤ k ∧ ∀ x ∈ xs, fit k n x
    | .dict _ => False
/-- of tuples, texts and numbers alone -/
def tsi (k : Nat) : Nat → D → Prop
  | 0, _ => False
  | n + 1, d => match d with
    | .int _ => True
    | .str x => x.length ≤ k
    | .tuple xs => xs.length ≤ k ∧ ∀ x ∈ xs, tsi k n x
    | _ => False
theorem fit_mono {k k' : Nat} (hk : k ≤ k') : ∀ {n m : Nat} {d : D}, n ≤ m → fit k n d → fit k' m d
  | 0, _, _, _, h => h.elim
  | n + 1, 0, _, hm, _ => by omega
  | n + 1, m + 1, d, hm, h => by
    cases d with
    | str x => exact Nat.le_trans h hk
    | list xs => exact ⟨Nat.le_trans h.1 hk, fun x hx => fit_mono hk (by omega) (h.2 x hx)⟩
    | tuple xs => exact ⟨Nat.le_trans h.1 hk, fun x hx => fit_mono hk (by omega) (h.2 x hx)⟩
    | dict _ => exact h.elim
    | _ => trivial
theorem tsi_fit {k : Nat} : ∀ {n : Nat} {d : D}, tsi k n d → fit k n d
  | 0, _, h => h.elim
  | n + 1, d, h => by
    cases d with
    | str x => exact h
    | int x => trivial
    | tuple xs => exact ⟨h.1, fun x hx => tsi_fit (h.2 x hx)⟩
    | _ => exact h.elim
theorem depthAll_le {m : Nat} : ∀ (xs : List D), (∀ x ∈ xs, x.depth ≤ m) → PyData.depthAll xs ≤ m
  | [], _ => by simp [PyData.depthAll]
  | x :: xs, h => by
    have h1 := h x (by simp)
    have h2 := depthAll_le xs fun y hy => h y (by simp [hy])
    simp only [PyData.depthAll]
    omega
theorem fit_depth {k : Nat} : ∀ {n : Nat} {d : D}, fit k n d → d.depth ≤ n
  | 0, _, h => h.elim
  | n + 1, d, h => by
    cases d with
    | list xs =>
      have := depthAll_le xs fun x hx => fit_depth (h.2 x hx)
      simp only [PyData.depth]; omega
    | tuple xs =>
      have := depthAll_le xs fun x hx => fit_depth (h.2 x hx)
      simp only [PyData.depth]; omega
    | dict _ => exact h.elim
    | _ => simp [PyData.depth]
theorem cut_mem {A : Type} {xs : List A} {lo hi : Option Int} {x : A} (h : x ∈ cutD xs lo hi) : x ∈ xs := by
  unfold cutD at h
  exact List.mem_of_mem_drop (List.mem_of_mem_take h)
theorem cut_len {A : Type} (xs : List A) (lo hi : Option Int) : (cutD xs lo hi).length ≤ xs.length := by
  unfold cutD
  simp only [List.length_take, List.length_drop]; omega
theorem slcT (lo hi : Option Int) (xs : List D) : slcD lo hi (.tuple xs) = .ok (.tuple (cutD xs lo hi)) := rfl
theorem slcS (lo hi : Option Int) (x : Str) (h : x.length ≤ lim) : slcD lo hi (.str x) = .ok (.str ⟨(cutD x.cps.toList lo hi).toArray⟩) := if_pos h
theorem c_neNil (xs : List D) : cmpD .NotEq (.tuple xs) (.tuple []) = .ok (!xs.isEmpty) := by
  have hn : near (.tuple xs) (.tuple []) = true := by
    simp [near, PyData.depth, PyData.depthAll]
  rw [cmpD, if_pos hn]
  cases xs <;> simp [PyData.eqv, PyData.eqvAll]
theorem atI_some {A : Type} {xs : List A} {i : Int} (h0 : 0 ≤ i) (h1 : i < xs.length) : ∃ x, L2.atI xs i = some x ∧ xs[i.toNat]? = some x := by
  have hl : i.toNat < xs.length := by omega
  have e : ((i.toNat : Nat) : Int) = i := by omega
  have := L2.atI_nat (List.getElem?_eq_getElem hl)
  rw [e] at this
  exact ⟨_, this, List.getElem?_eq_getElem hl⟩
theorem idx_mem {xs : List D} {i : Int} (h0 : 0 ≤ i) (h1 : i < xs.length) : ∃ x ∈ xs, idxD (.tuple xs) (.int i) = .ok x ∧ idxD (.list xs) (.int i) = .ok x := by
  obtain ⟨x, e1, e2⟩ := atI_some h0 h1
  exact ⟨x, List.mem_of_getElem? e2, by simp [idxD, e1], by simp [idxD, e1]⟩
theorem cat_ok (xs ys : List D) (h : xs.length + ys.length ≤ lim) : catD xs ys = .ok (xs ++ ys) := if_pos h
theorem rep2 (xs : List D) (h : xs.length ≤ 1000) : repD xs (.int 2) = .ok (xs ++ xs) := by
  have : repD xs (.int 2) = .ok (List.replicate (2 : Int).toNat xs).flatten := if_pos ⟨by decide, by decide, h⟩
  rw [this]
  simp [List.replicate]
def oddBase : List D := [.none, .bool true, .bool false, .int 0, .int 1, .int (-1), .int 2, .int 7, .int 10, .int 1000, .str "", .str "a", .str "A", .tuple [], .tuple [.str "a"], .list [.int 1]]
theorem oddBase_fit {k n : Nat} (hk : 1 ≤ k) : ∀ d ∈ oddBase, fit k (n + 2) d := by
  intro d hd
  have h : ∀ d ∈ oddBase, fit 1 2 d := by
    intro d hd
    simp only [oddBase, List.mem_cons, List.not_mem_nil, or_false] at hd
    rcases hd with rfl | rfl | rfl | rfl | rfl | rfl | rfl | rfl | rfl | rfl | rfl | rfl | rfl | rfl | rfl | rfl
    all_goals (simp [fit])
    all_goals (try decide)
  exact fit_mono hk (by omega) (h d hd)
theorem strLen_app (x y : Str) : (x ++ y).length = x.length + y.length := by
  show (x.cps ++ y.cps).size = _
  rw [Array.size_append]; rfl
theorem r_odd : ∀ (n N k : Nat) (d : D) (c : Int), tsi k n d → 1 ≤ k → k ≤ 100 → n ≤ 100 → n < N → ∃ r, rn (N + 1) 10 [d, .int c] = .ok r ∧ fit (2 * k + 2) (n + 2) r
  | 0, N, k, d, c, h, _, _, _, _ => h.elim
  | n + 1, N, k, d, c, h, h1, hk, hn, hN => by
    have hlim : lim = 1000000 := rfl
    obtain ⟨N', rfl⟩ : ∃ n', N = n' + 1 := ⟨N - 1, by omega⟩
    have e1 := r_mix N' c 9781 5 (by omega) (by omega) (by omega)
    have fin : ∀ L : List D, 0 < L.length → L.length ≤ 1000 → (∀ x ∈ L, fit (2 * k + 2) (n + 3) x) → ∃ r, (rn (N' + 1) 5 [.int c, .int 9749, .int L.length]).bind (fun y => idxD (.list L) y) = .ok r ∧ fit (2 * k + 2) (n + 3) r := by
      intro L l0 l1 hf
      have e2 := r_mix N' c 9749 L.length (by omega) (by omega) (by omega)
      obtain ⟨x, hx, _, e3⟩ := idx_mem (xs := L) (mix_lo c 9749 L.length (by omega)) (mix_hi c 9749 L.length (by omega))
      exact ⟨x, by rw [e2, R.bind_ok, e3], hf x hx⟩
    have bf : ∀ x ∈ oddBase, fit (2 * k + 2) (n + 3) x := oddBase_fit (by omega)
    cases d with
    | tuple xs =>
      obtain ⟨hx1, hx2⟩ := h
      have sub : ∀ ys : List D, ys.length ≤ 2 * k + 2 → (∀ y ∈ ys, y ∈ xs) → fit (2 * k + 2) (n + 3) (.tuple ys) := fun ys hl hm => ⟨hl, fun y hy => fit_mono (by omega) (by omega) (tsi_fit (hx2 y (hm y hy)))⟩
      by_cases hA : xs ≠ [] ∧ 0 < mix c 9781 5
      · obtain ⟨hA1, hA2⟩ := hA
        have hlen : 0 < xs.length := List.length_pos_iff.mpr hA1
        have hemp : xs.isEmpty = false := by cases xs <;> simp_all
        have e2 := r_mix N' c 9769 xs.length (by omega) (by omega) (by omega)
        have m1 := mix_lo c 9769 xs.length (by omega)
        have m2 := mix_hi c 9769 xs.length (by omega)
        generalize mix c 9769 xs.length = at0 at e2 m1 m2
        obtain ⟨y, hy, e3, _⟩ := idx_mem m1 m2
        have e4 := b_mul 31 at0 (.inl ⟨by decide, by decide⟩)
        obtain ⟨r, e5, e6⟩ := r_odd n N' k y (c + 31 * at0 + 7) (hx2 y hy) h1 hk (by omega) (by omega)
        have c1 := cut_len xs none (some at0)
        have c2 := cut_len xs (some (at0 + 1)) none
        have e7 := b_tup (cutD xs none (some at0)) [r] (by simp; omega)
        have e8 := b_tup (cutD xs none (some at0) ++ [r]) (cutD xs (some (at0 + 1)) none) (by simp; omega)
        refine ⟨.tuple (cutD xs none (some at0) ++ [r] ++ cutD xs (some (at0 + 1)) none), ?_, ⟨?_, ?_⟩⟩
        · rw [rn_law_odd]
          simp only [b_law_odd, s_cons', s_iff', e_and, e_isi, e_var, List.getElem?_cons_zero, List.getElem?_cons_succ, R.bind_ok, isT_tup, t_bool, e_cmp, e_tup, es_nil', c_neNil, hemp, Bool.not_false, e_call, es_cons', e_con, e1, c_gt, hA2, decide_true, R.out_ok, s_set', e_bi, bi_lenT, e2, List.set_cons_succ, List.set_cons_zero, Out.then_nx, s_ret', e_bin, e_slc, eo_no, eo_yes, i_of, slcT, e_idx, e3, e4, b_add, e5, e7, e8, Out.then_rt, res_rt]
        · simp; omega
        · intro z hz
          simp only [List.mem_append, List.mem_singleton] at hz
          rcases hz with (hz | rfl) | hz
          · exact fit_mono (by omega) (by omega) (tsi_fit (hx2 z (cut_mem hz)))
          · exact e6
          · exact fit_mono (by omega) (by omega) (tsi_fit (hx2 z (cut_mem hz)))
      · have c1 := cut_len xs (some (-1)) none
        have c2 := cut_len xs none (some (-1))
        have c3 := cut_len xs (some 1) none
        have e7 := b_tup xs (cutD xs (some (-1)) none) (by omega)
        have e8 := rep2 [.list xs, .tuple (xs ++ cutD xs (some (-1)) none), .tuple (cutD xs none (some (-1))), .tuple xs.reverse, .tuple (cutD xs (some 1) none), .tuple [.tuple xs]] (by simp)
        have e9 := cat_ok oddBase ([.list xs, .tuple (xs ++ cutD xs (some (-1)) none), .tuple (cutD xs none (some (-1))), .tuple xs.reverse, .tuple (cutD xs (some 1) none), .tuple [.tuple xs]] ++ [.list xs, .tuple (xs ++ cutD xs (some (-1)) none), .tuple (cutD xs none (some (-1))), .tuple xs.reverse, .tuple (cutD xs (some 1) none), .tuple [.tuple xs]]) (by simp [oddBase]; omega)
        have f6 : ∀ x ∈ ([.list xs, .tuple (xs ++ cutD xs (some (-1)) none), .tuple (cutD xs none (some (-1))), .tuple xs.reverse, .tuple (cutD xs (some 1) none), .tuple [.tuple xs]] : List D), fit (2 * k + 2) (n + 3) x := by
          intro x hx
          simp only [List.mem_cons, List.not_mem_nil, or_false] at hx
          rcases hx with rfl | rfl | rfl | rfl | rfl | rfl
          · exact ⟨by omega, fun y hy => fit_mono (by omega) (by omega) (tsi_fit (hx2 y hy))⟩
          · exact sub _ (by simp; omega) fun y hy => by
              rcases List.mem_append.mp hy with hy | hy
              · exact hy
              · exact cut_mem hy
          · exact sub _ (by omega) fun y hy => cut_mem hy
          · exact sub _ (by simp; omega) fun y hy => List.mem_reverse.mp hy
          · exact sub _ (by omega) fun y hy => cut_mem hy
          · exact ⟨by simp, fun y hy => by
              simp only [List.mem_singleton] at hy
              subst hy
              exact ⟨by omega, fun y hy => fit_mono (by omega) (by omega) (tsi_fit (hx2 y hy))⟩⟩
        generalize hLd : ([.list xs, .tuple (xs ++ cutD xs (some (-1)) none), .tuple (cutD xs none (some (-1))), .tuple xs.reverse, .tuple (cutD xs (some 1) none), .tuple [.tuple xs]] : List D) = L6 at e8 e9 f6
        have hL6 : L6.length = 6 := by subst hLd; rfl
        obtain ⟨r, e10, e11⟩ := fin (oddBase ++ (L6 ++ L6)) (by simp [oddBase]) (by simp [oddBase, hL6]) (by
          intro x hx
          simp only [List.mem_append] at hx
          rcases hx with hx | hx | hx
          · exact bf x hx
          · exact f6 x hx
          · exact f6 x hx)
        refine ⟨r, ?_, e11⟩
        rw [rn_law_odd, b_law_odd]
        refine res_of (ss_nx (s' := [some (.sh (.tuple xs)), some (.sh (.int c)), none, none]) ?_) ?_
        · refine (iff_f (d := .bool false) ?_ rfl).trans (s_nil' _ _)
          rw [and_t (by simp)]
          by_cases hx : xs = []
          · exact and_f (by subst hx; simp [c_neNil])
          · have hm : ¬ 0 < mix c 9781 5 := fun z => hA ⟨hx, z⟩
            rw [and_t (by simp [c_neNil, hx])]
            simp [e1, hm]
        refine res_of (ss_nx (set_ok (d := .list oddBase) (by simp [negD, oddBase]))) ?_
        refine res_of (ss_nx (s' := [some (.sh (.tuple xs)), some (.sh (.int c)), some (.sh (.list (oddBase ++ (L6 ++ L6)))), none]) ?_) ?_
        · refine (iff_t (d := .bool true) (by simp) rfl).trans ((ss_nx (set_ok (d := .list (oddBase ++ (L6 ++ L6))) ?_)).trans (s_nil' _ _))
          simp only [e_lst, el_cat, e_var, List.set_cons_succ, List.set_cons_zero, List.getElem?_cons_zero, List.getElem?_cons_succ, R.bind_ok, el_rep, el_disp, es_cons', es_nil', el_ofs, sq_tup, e_bin, e_slc, eo_yes, eo_no, e_neg, e_con, negD, i_of, slcT, e7, e_rev, revD, e_tup, hLd, l_of, e8, e9]
        refine res_of (ss_rt (ret_ok (d := r) ?_)) rfl
        rw [← e10]
        simp only [e_idx, e_var, List.getElem?_cons_zero, List.getElem?_cons_succ, R.bind_ok, e_call, es_cons', es_nil', e_con, e_bi, bi_lenL]
    | str x =>
      have hx : x.length ≤ k := h
      have hxl : x.length ≤ lim := by omega
      have u1 : upperD (.str x) = .ok (.str ⟨x.cps.map PyProof.Rows.up1⟩) := if_pos hxl
      have u2 : binD .Mult (.str x) (.int 2) = .ok (.str (Txt.mul x 2)) := if_pos ⟨by decide, by decide, by omega⟩
      have c1 := cut_len x.cps.toList none (some (-1))
      have c2 := cut_len x.cps.toList none (some 1)
      have hsz : x.cps.toList.length = x.length := by rw [Array.length_toList]; rfl
      have e5 := b_str x "a" (by have : ("a" : Str).length = 1 := by decide +kernel
                                 omega)
      have e6 := b_str x " " (by have : (" " : Str).length = 1 := by decide +kernel
                                 omega)
      have l2 : (⟨(cutD x.cps.toList none (some 1)).toArray⟩ : Str).length ≤ x.length := by
        show ((cutD x.cps.toList none (some 1)).toArray).size ≤ _
        simp only [List.size_toArray]; omega
      have l3 : (⟨(cutD x.cps.toList none (some (-1))).toArray⟩ : Str).length ≤ x.length := by
        show ((cutD x.cps.toList none (some (-1))).toArray).size ≤ _
        simp only [List.size_toArray]; omega
      have e7 := b_str x ⟨(cutD x.cps.toList none (some 1)).toArray⟩ (by omega)
      have f6 : ∀ z ∈ ([.str (x ++ "a"), .str ⟨(cutD x.cps.toList none (some (-1))).toArray⟩, .str ⟨x.cps.map PyProof.Rows.up1⟩, .str (x ++ " "), .str (Txt.mul x 2), .list [.str x], .str (x ++ ⟨(cutD x.cps.toList none (some 1)).toArray⟩)] : List D), fit (2 * k + 2) (n + 3) z := by
        intro z hz
        simp only [List.mem_cons, List.not_mem_nil, or_false] at hz
        rcases hz with rfl | rfl | rfl | rfl | rfl | rfl | rfl
        · show (x ++ "a" : Str).length ≤ _
          rw [strLen_app]
          have : ("a" : Str).length = 1 := by decide +kernel
          omega
        · show Str.length _ ≤ _
          omega
        · show (x.cps.map PyProof.Rows.up1).size ≤ _
          rw [Array.size_map]
          have : x.cps.size = x.length := rfl
          omega
        · show (x ++ " " : Str).length ≤ _
          rw [strLen_app]
          have : (" " : Str).length = 1 := by decide +kernel
          omega
        · show (Txt.mul x 2).length ≤ _
          have := PyProof.Rows.len_mul x 2
          rw [if_neg (by decide)] at this
          omega
        · refine ⟨by simp, fun y hy => ?_⟩
          simp only [List.mem_singleton] at hy
          subst hy
          show x.length ≤ _
          omega
        · show Str.length _ ≤ _
          rw [strLen_app]
          omega
      have e8 := rep2 [.str (x ++ "a"), .str ⟨(cutD x.cps.toList none (some (-1))).toArray⟩, .str ⟨x.cps.map PyProof.Rows.up1⟩, .str (x ++ " "), .str (Txt.mul x 2), .list [.str x], .str (x ++ ⟨(cutD x.cps.toList none (some 1)).toArray⟩)] (by simp)
      generalize hLd : ([.str (x ++ "a"), .str ⟨(cutD x.cps.toList none (some (-1))).toArray⟩, .str ⟨x.cps.map PyProof.Rows.up1⟩, .str (x ++ " "), .str (Txt.mul x 2), .list [.str x], .str (x ++ ⟨(cutD x.cps.toList none (some 1)).toArray⟩)] : List D) = L6 at e8 f6
      have hL6 : L6.length = 7 := by subst hLd; rfl
      have e9 := cat_ok oddBase (L6 ++ L6) (by simp [oddBase, hL6]; omega)
      obtain ⟨r, e10, e11⟩ := fin (oddBase ++ (L6 ++ L6)) (by simp [oddBase]) (by simp [oddBase, hL6]) (by
        intro x hx
        simp only [List.mem_append] at hx
        rcases hx with hx | hx | hx
        · exact bf x hx
        · exact f6 x hx
        · exact f6 x hx)
      refine ⟨r, ?_, e11⟩
      rw [rn_law_odd, b_law_odd]
      refine res_of (ss_nx (s' := [some (.sh (.str x)), some (.sh (.int c)), none, none]) ?_) ?_
      · refine (iff_f (d := .bool false) (and_f ?_) rfl).trans (s_nil' _ _)
        simp [isTy]
      refine res_of (ss_nx (set_ok (d := .list oddBase) (by simp [negD, oddBase]))) ?_
      refine res_of (ss_nx (s' := [some (.sh (.str x)), some (.sh (.int c)), some (.sh (.list (oddBase ++ (L6 ++ L6)))), none]) ?_) ?_
      · refine (iff_f (d := .bool false) (by simp [isTy]) rfl).trans ?_
        refine (ss_nx ?_).trans (s_nil' _ _)
        refine (iff_t (d := .bool true) (by simp [isTy]) rfl).trans ?_
        refine (ss_nx (set_ok (d := .list (oddBase ++ (L6 ++ L6))) ?_)).trans (s_nil' _ _)
        simp only [e_lst, el_cat, e_var, List.set_cons_succ, List.set_cons_zero, List.getElem?_cons_zero, List.getElem?_cons_succ, R.bind_ok, el_rep, el_disp, es_cons', es_nil', e_bin, e_slc, eo_yes, eo_no, e_neg, e_con, negD, i_of, slcS _ _ x hxl, e5, e6, e7, e_upper, u1, u2, hLd, l_of, e8, e9]
      refine res_of (ss_rt (ret_ok (d := r) ?_)) rfl
      rw [← e10]
      simp only [e_idx, e_var, List.getElem?_cons_zero, List.getElem?_cons_succ, R.bind_ok, e_call, es_cons', es_nil', e_con, e_bi, bi_lenL]
    | int i =>
      have u2 : binD .Mult (.int i) (.int 2) = .ok (.int (i * 2)) := b_mul _ _ (.inr (by decide))
      have f6 : ∀ z ∈ ([.int (i + 1), .int (i - 1), .int (0 - i), .tuple [.int i], .int (i + 2), .int (i * 2)] : List D), fit (2 * k + 2) (n + 3) z := by
        intro z hz
        simp only [List.mem_cons, List.not_mem_nil, or_false] at hz
        rcases hz with rfl | rfl | rfl | rfl | rfl | rfl
        · trivial
        · trivial
        · trivial
        · refine ⟨by simp, fun y hy => ?_⟩
          simp only [List.mem_singleton] at hy
          subst hy
          trivial
        · trivial
        · trivial
      have e8 := rep2 [.int (i + 1), .int (i - 1), .int (0 - i), .tuple [.int i], .int (i + 2), .int (i * 2)] (by simp)
      generalize hLd : ([.int (i + 1), .int (i - 1), .int (0 - i), .tuple [.int i], .int (i + 2), .int (i * 2)] : List D) = L6 at e8 f6
      have hL6 : L6.length = 6 := by subst hLd; rfl
      have e9 := cat_ok oddBase (L6 ++ L6) (by simp [oddBase, hL6]; omega)
      obtain ⟨r, e10, e11⟩ := fin (oddBase ++ (L6 ++ L6)) (by simp [oddBase]) (by simp [oddBase, hL6]) (by
        intro x hx
        simp only [List.mem_append] at hx
        rcases hx with hx | hx | hx
        · exact bf x hx
        · exact f6 x hx
        · exact f6 x hx)
      refine ⟨r, ?_, e11⟩
      rw [rn_law_odd, b_law_odd]
      refine res_of (ss_nx (s' := [some (.sh (.int i)), some (.sh (.int c)), none, none]) ?_) ?_
      · refine (iff_f (d := .bool false) (and_f ?_) rfl).trans (s_nil' _ _)
        simp [isTy]
      refine res_of (ss_nx (set_ok (d := .list oddBase) (by simp [negD, oddBase]))) ?_
      refine res_of (ss_nx (s' := [some (.sh (.int i)), some (.sh (.int c)), some (.sh (.list (oddBase ++ (L6 ++ L6)))), none]) ?_) ?_
      · refine (iff_f (d := .bool false) (by simp [isTy]) rfl).trans ?_
        refine (ss_nx ?_).trans (s_nil' _ _)
        refine (iff_f (d := .bool false) (by simp [isTy]) rfl).trans ?_
        refine (ss_nx ?_).trans (s_nil' _ _)
        refine (iff_t (d := .bool true) (by simp [isTy]) rfl).trans ?_
        refine (ss_nx (set_ok (d := .list (oddBase ++ (L6 ++ L6))) ?_)).trans (s_nil' _ _)
        simp only [e_lst, el_cat, e_var, List.set_cons_succ, List.set_cons_zero, List.getElem?_cons_zero, List.getElem?_cons_succ, R.bind_ok, el_rep, el_disp, es_cons', es_nil', e_bin, e_con, e_tup, b_add, b_sub, u2, hLd, l_of, e8, e9]
      refine res_of (ss_rt (ret_ok (d := r) ?_)) rfl
      rw [← e10]
      simp only [e_idx, e_var, List.getElem?_cons_zero, List.getElem?_cons_succ, R.bind_ok, e_call, es_cons', es_nil', e_con, e_bi, bi_lenL]
    | _ => exact h.elim
end Tf
namespace Tf
open PySem
/-! Tm5: is_path and the law's plain count, for things of any kind. -/
def letB : D → Bool
  | .str x => x == "a" || x == "b" || x == "c"
  | _ => false
def stepB (p : D → Bool) : D → Bool
  | .tuple [.str w, l, .tuple ts] => (w == "in" || w == "deep") && letB l && decide (ts.length ≤ 2) && ts.all p
  | _ => false
def pathB : Nat → D → Bool
  | 0, _ => false
  | n + 1, .tuple xs => decide (1 ≤ xs.length) && decide (xs.length ≤ 3) && xs.all (stepB (pathB n))
  | _ + 1, _ => false
theorem str_one {x : Str} (h : x.length = 1) : ∃ c, x = ⟨#[c]⟩ := by
  obtain ⟨⟨l⟩⟩ := x
  have : l.length = 1 := h
  match l, this with
  | [c], _ => exact ⟨c, rfl⟩
theorem sa : ("a" : Str) = ⟨#[97]⟩ := by decide +kernel
theorem sb : ("b" : Str) = ⟨#[98]⟩ := by decide +kernel
theorem sc : ("c" : Str) = ⟨#[99]⟩ := by decide +kernel
theorem one_beq (c a : Nat) : ((⟨#[c]⟩ : Str) == ⟨#[a]⟩) = decide (c = a) := by
  rw [Bool.eq_iff_iff, beq_iff_eq, decide_eq_true_eq]
  constructor
  · intro h; injection h with h; simpa using h
  · intro h; rw [h]
theorem in_abc (c : Nat) : (!(Builtin.Str.occurrences ("abc" : Str) ⟨#[c]⟩ 0 ("abc" : Str).length 1).isEmpty) = (((⟨#[c]⟩ : Str) == "a") || ((⟨#[c]⟩ : Str) == "b") || ((⟨#[c]⟩ : Str) == "c")) := by
  have := StrLaws.found_one ("abc" : Str) c
  rw [this, sa, sb, sc, one_beq, one_beq, one_beq]
  have e : ("abc" : Str).cps.toList = [97, 98, 99] := by decide +kernel
  rw [e]
  simp [Bool.or_assoc]
theorem letB_one {x : Str} (h : x.length ≠ 1) : letB (.str x) = false := by
  unfold letB
  have : ∀ y : Str, y.length = 1 → (x == y) = false := fun y hy => by
    rw [beq_eq_false_iff_ne]; intro z; subst z; exact h hy
  show (x == "a" || x == "b" || x == "c") = false
  rw [this "a" (by decide +kernel), this "b" (by decide +kernel), this "c" (by decide +kernel)]
  rfl
theorem lenS (x : Str) (h : x.length ≤ lim) : biD .len (.str x) = .ok (.int x.length) := if_pos h
theorem r_letter {k m : Nat} (n : Nat) (d : D) (hf : fit k m d) (hk : k ≤ 1000) : rn (n + 1) 0 [d, .str "abc"] = .ok (.bool (letB d)) := by
  have hlim : lim = 1000000 := rfl
  rw [rn_is_letter, b_is_letter]
  refine res_of (ss_rt (ret_ok (d := .bool (letB d)) ?_)) rfl
  cases d with
  | str x =>
    have hx : x.length ≤ lim := by
      cases m with
      | zero => exact hf.elim
      | succ m => have : x.length ≤ k := hf; omega
    rw [and_t (by simp [isTy])]
    by_cases h1 : x.length = 1
    · rw [and_t (by simp [lenS x hx, h1])]
      obtain ⟨c, rfl⟩ := str_one h1
      simp only [e_cmp, e_var, List.getElem?_cons_zero, List.getElem?_cons_succ, R.bind_ok, cmpD, in_abc]
      rfl
    · rw [and_f (by simp [lenS x hx]; omega), letB_one h1]
  | _ => exact and_f (by simp [isTy])
theorem eqv_strT (x : Str) (d : D) : PyData.eqv (.str x) d = match d with | .str y => x == y | _ => false := by
  cases d <;> simp [PyData.eqv]
def inB2 (a b : Str) : D → Bool
  | .str y => (a == y) || (b == y)
  | _ => false
def inB3 (a b c : Str) : D → Bool
  | .str y => (a == y) || ((b == y) || (c == y))
  | _ => false
theorem in_two {k m : Nat} (a b : Str) (d : D) (hf : fit k m d) (hm : m ≤ 190) : cmpD .NotIn d (.tuple [.str a, .str b]) = .ok (!inB2 a b d) := by
  have hd : d.depth ≤ 190 := Nat.le_trans (fit_depth hf) hm
  rw [cmpD, if_pos hd]
  · simp only [inD, List.any_cons, List.any_nil, Bool.or_false, eqv_strT]
    cases d <;> rfl
theorem in_three {k m : Nat} (a b c : Str) (d : D) (hf : fit k m d) (hm : m ≤ 190) : cmpD .NotIn d (.tuple [.str a, .str b, .str c]) = .ok (!inB3 a b c d) := by
  have hd : d.depth ≤ 190 := Nat.le_trans (fit_depth hf) hm
  rw [cmpD, if_pos hd]
  · simp only [inD, List.any_cons, List.any_nil, Bool.or_false, eqv_strT]
    cases d <;> rfl
theorem not_tup {d : D} (h : ∀ xs, d ≠ .tuple xs) : isTy .tuple d = false := by
  cases d with
  | tuple xs => exact absurd rfl (h xs)
  | _ => rfl
theorem not_str {d : D} (h : ∀ xs, d ≠ .str xs) : isTy .str d = false := by
  cases d with
  | str xs => exact absurd rfl (h xs)
  | _ => rfl
theorem stepB_no {p : D → Bool} {d : D} (h : ∀ w l ts, d ≠ .tuple [.str w, l, .tuple ts]) : stepB p d = false := by
  unfold stepB
  split
  · exact absurd rfl (h _ _ _)
  · rfl
theorem r_step {k m : Nat} (N : Nat) (d : D) (p : D → Bool) (hf : fit k m d) (hk : k ≤ 1000) (hm : m ≤ 190) (ih : ∀ t m', m' + 2 ≤ m → fit k m' t → rn (N + 1) 16 [t] = .ok (.bool (p t))) : rn (N + 2) 15 [d] = .ok (.bool (stepB p d)) := by
  have hlim : lim = 1000000 := rfl
  rw [rn_is_step, b_is_step]
  by_cases hT : ∃ xs, d = .tuple xs
  · obtain ⟨xs, rfl⟩ := hT
    cases m with
    | zero => exact hf.elim
    | succ m =>
    obtain ⟨hf1, hf2⟩ := hf
    by_cases h3 : xs.length = 3
    · match xs, h3 with
      | [a, b, c], _ =>
        have fa := hf2 a (by simp)
        have fb := hf2 b (by simp)
        have fc := hf2 c (by simp)
        have i0 : idxD (.tuple [a, b, c]) (.int 0) = .ok a := rfl
        have i1 : idxD (.tuple [a, b, c]) (.int 1) = .ok b := rfl
        have i2 : idxD (.tuple [a, b, c]) (.int 2) = .ok c := rfl
        have g2 : gv 2 = some (.tuple [.str "in", .str "deep"]) := rfl
        have g3 : gv 3 = some (.str "abc") := rfl
        by_cases hw : ∃ w, a = .str w
        · obtain ⟨w, rfl⟩ := hw
          have e1 := in_two "in" "deep" (.str w) fa (by omega)
          simp only [inB2] at e1
          by_cases hw2 : (("in" : Str) == w || ("deep" : Str) == w) = true
          · rw [hw2] at e1
            have hw3 : (w == ("in" : Str) || w == ("deep" : Str)) = true := by
              rw [Bool.or_eq_true] at hw2 ⊢
              rcases hw2 with z | z
              · exact .inl (by rw [eq_of_beq z]; simp)
              · exact .inr (by rw [eq_of_beq z]; simp)
            refine res_of (ss_nx (s' := [some (.sh (.tuple [.str w, b, c])), none]) ?_) ?_
            · refine (iff_f (d := .bool false) ?_ rfl).trans (s_nil' _ _)
              rw [or_f (by simp), or_f (by simp), or_f (by simp [i0, isTy])]
              simp [i0, g2, e1]
            have e2 := r_letter N b fb hk
            by_cases hb : letB b = true
            · by_cases hc : ∃ ts, c = .tuple ts
              · obtain ⟨ts, rfl⟩ := hc
                by_cases hl : ts.length ≤ 2
                · refine res_of (ss_nx (s' := [some (.sh (.tuple [.str w, b, .tuple ts])), none]) ?_) ?_
                  · refine (iff_f (d := .bool false) ?_ rfl).trans (s_nil' _ _)
                    rw [or_f (by simp [i1, g3, e2, hb]), or_f (by simp [i2])]
                    simp [i2]; omega
                  refine res_of (ss_rt (ret_ok (d := .bool (ts.all p)) ?_)) ?_
                  · have hl2 : ts.length ≤ lim := by omega
                    have hc2 : ∀ t ∈ ts, rn (N + 1) 16 [t] = .ok (.bool (p t)) := fun t ht => by
                      cases m with
                      | zero => exact fc.elim
                      | succ m => exact ih t m (by omega) (fc.2 t ht)
                    simp [evL, i2, hl2]
                    have e3 := compGo_enc (enc := fun t : D => t) (g := fun t => .bool (p t)) (xs := ts) (f := fun d => (rn (N + 1) 16 [d]).bind fun y => R.ok (some y)) (fun t ht => by rw [hc2 t ht]; rfl)
                    rw [List.map_id'] at e3
                    rw [e3]
                    simp [biD, boolsOf_enc]
                  · simp [stepB, hw3, hb, hl]
                · refine res_of (ss_rt (d := .bool false) ?_) ?_
                  · refine (iff_t (d := .bool true) ?_ rfl).trans (ss_rt (ret_ok (by simp)))
                    rw [or_f (by simp [i1, g3, e2, hb]), or_f (by simp [i2])]
                    simp [i2]; omega
                  · simp [stepB, hl]
              · refine res_of (ss_rt (d := .bool false) ?_) ?_
                · refine (iff_t (d := .bool true) ?_ rfl).trans (ss_rt (ret_ok (by simp)))
                  rw [or_f (by simp [i1, g3, e2, hb])]
                  have hn := not_tup fun xs z => hc ⟨xs, z⟩
                  exact or_t (by simp [i2, hn])
                · rw [stepB_no fun w' l ts z => hc ⟨ts, by injection z with z; injection z with _ z; injection z with _ z; injection z with z _⟩]
                  rfl
            · refine res_of (ss_rt (d := .bool false) ?_) ?_
              · refine (iff_t (d := .bool true) ?_ rfl).trans (ss_rt (ret_ok (by simp)))
                exact or_t (by simp [i1, g3, e2, hb])
              · simp only [Bool.not_eq_true] at hb
                cases c <;> simp [stepB, hb]
          · simp only [Bool.not_eq_true] at hw2
            rw [hw2] at e1
            have hw3 : (w == ("in" : Str) || w == ("deep" : Str)) = false := by
              rw [Bool.or_eq_false_iff] at hw2 ⊢
              simp only [beq_eq_false_iff_ne] at hw2 ⊢
              exact ⟨fun z => hw2.1 z.symm, fun z => hw2.2 z.symm⟩
            refine res_of (ss_rt (d := .bool false) ?_) ?_
            · refine (iff_t (d := .bool true) ?_ rfl).trans (ss_rt (ret_ok (by simp)))
              rw [or_f (by simp), or_f (by simp), or_f (by simp [i0, isTy])]
              simp [i0, g2, e1]
            · cases c <;> simp [stepB, hw3]
        · refine res_of (ss_rt (d := .bool false) ?_) ?_
          · refine (iff_t (d := .bool true) ?_ rfl).trans (ss_rt (ret_ok (by simp)))
            have hn := not_str fun xs z => hw ⟨xs, z⟩
            rw [or_f (by simp), or_f (by simp)]
            exact or_t (by simp [i0, hn])
          · rw [stepB_no fun w' l ts z => hw ⟨w', by injection z with z; injection z with z _⟩]
            rfl
    · refine res_of (ss_rt (d := .bool false) ?_) ?_
      · refine (iff_t (d := .bool true) ?_ rfl).trans (ss_rt (ret_ok (by simp)))
        rw [or_f (by simp)]
        refine or_t ?_
        have h3' : ¬ (xs.length : Int) = 3 := by omega
        simp [h3']
      · rw [stepB_no fun w' l ts z => h3 (by injection z with z; rw [z]; rfl)]
        rfl
  · refine res_of (ss_rt (d := .bool false) ?_) ?_
    · refine (iff_t (d := .bool true) ?_ rfl).trans (ss_rt (ret_ok (by simp)))
      have hn := not_tup fun xs z => hT ⟨xs, z⟩
      exact or_t (by simp [hn])
    · rw [stepB_no fun w' l ts z => hT ⟨_, z⟩]
      rfl
theorem pathB_no {n : Nat} {d : D} (h : ∀ xs, d ≠ .tuple xs) : pathB n d = false := by
  cases n with
  | zero => rfl
  | succ n => cases d with
    | tuple xs => exact absurd rfl (h xs)
    | _ => rfl
theorem r_any_path : ∀ (n N m k : Nat) (d : D), fit k m d → k ≤ 1000 → m ≤ n → n ≤ 190 → 2 * n < N → rn (N + 1) 16 [d] = .ok (.bool (pathB n d))
  | 0, N, m, k, d, hf, _, hm, _, _ => by
    have : m = 0 := by omega
    subst this
    exact hf.elim
  | n + 1, N, m, k, d, hf, hk, hm, hn, hN => by
    have hlim : lim = 1000000 := rfl
    obtain ⟨N', rfl⟩ : ∃ n', N = n' + 2 := ⟨N - 2, by omega⟩
    rw [rn_is_any_path, b_is_any_path]
    refine res_of (ss_rt (ret_ok (d := .bool (pathB (n + 1) d)) ?_)) rfl
    by_cases hT : ∃ xs, d = .tuple xs
    · obtain ⟨xs, rfl⟩ := hT
      rw [and_t (by simp)]
      cases m with
      | zero => exact hf.elim
      | succ m =>
      obtain ⟨hf1, hf2⟩ := hf
      have hstep : ∀ s ∈ xs, rn (N' + 2) 15 [s] = .ok (.bool (stepB (pathB n) s)) := fun s hs =>
        r_step N' s (pathB n) (hf2 s hs) hk (by omega) fun t m' hm' ft => r_any_path n N' m' k t ft hk (by omega) (by omega) (by omega)
      by_cases h1 : 1 ≤ xs.length
      · have h1' : (1 : Int) ≤ xs.length := by omega
        by_cases h3 : xs.length ≤ 3
        · have h3' : (xs.length : Int) ≤ 3 := by omega
          rw [and_t (by simp [h1', h3'])]
          have hl2 : xs.length ≤ lim := by omega
          simp [evL, hl2]
          have e3 := compGo_enc (enc := fun t : D => t) (g := fun t => .bool (stepB (pathB n) t)) (xs := xs) (f := fun d => (rn (N' + 2) 15 [d]).bind fun y => R.ok (some y)) (fun t ht => by rw [hstep t ht]; rfl)
          rw [List.map_id'] at e3
          rw [e3]
          simp [biD, boolsOf_enc, pathB, h1, h3]
        · have h3' : ¬ (xs.length : Int) ≤ 3 := by omega
          rw [and_f (by simp [h1', h3'])]
          simp [pathB, h3]
      · have h1' : ¬ (1 : Int) ≤ xs.length := by omega
        rw [and_f (by simp [h1'])]
        simp [pathB, h1]
    · have hn := not_tup fun xs z => hT ⟨xs, z⟩
      rw [and_f (by simp [hn]), pathB_no fun xs z => hT ⟨xs, z⟩]
end Tf
namespace Tf
open PySem
/-! Tm6: how many steps: the law's plain count, steps_in, is_path. -/
def cS (c : D → Nat) : D → Nat
  | .tuple [_, _, .tuple ts] => 1 + (ts.map c).sum
  | _ => 0
def cnt : Nat → D → Nat
  | 0, _ => 0
  | n + 1, .tuple xs => if pathB (n + 1) (.tuple xs) = true then (xs.map (cS (cnt n))).sum else 0
  | _ + 1, _ => 0
theorem stepB_inv {p : D → Bool} {d : D} (h : stepB p d = true) : ∃ w l ts, d = .tuple [.str w, l, .tuple ts] ∧ (w == "in" || w == "deep") = true ∧ letB l = true ∧ ts.length ≤ 2 ∧ ts.all p = true := by
  unfold stepB at h
  split at h
  · simp only [Bool.and_eq_true, decide_eq_true_eq] at h
    exact ⟨_, _, _, rfl, h.1.1.1, h.1.1.2, h.1.2, h.2⟩
  · cases h
theorem pathB_inv {n : Nat} {d : D} (h : pathB n d = true) : ∃ n' xs, n = n' + 1 ∧ d = .tuple xs ∧ 1 ≤ xs.length ∧ xs.length ≤ 3 ∧ xs.all (stepB (pathB n')) = true := by
  unfold pathB at h
  split at h
  · cases h
  · simp only [Bool.and_eq_true, decide_eq_true_eq] at h
    exact ⟨_, _, rfl, rfl, h.1.1, h.1.2, h.2⟩
  · cases h
theorem cnt_pos (n : Nat) (d : D) : (cnt n d ≠ 0) ↔ pathB n d = true := by
  cases n with
  | zero => simp [cnt, pathB]
  | succ n =>
    by_cases hp : pathB (n + 1) d = true
    · obtain ⟨n', xs, e, rfl, h1, h2, h3⟩ := pathB_inv hp
      cases e
      rw [cnt, if_pos hp]
      refine ⟨fun _ => hp, fun _ => ?_⟩
      match xs, h1 with
      | x :: r, _ =>
        have h4 := List.all_eq_true.mp h3 x (by simp)
        obtain ⟨w, l, ts, rfl, _⟩ := stepB_inv h4
        simp only [List.map_cons, List.sum_cons, cS]
        omega
    · refine ⟨fun z => absurd ?_ z, fun z => absurd z hp⟩
      cases d with
      | tuple xs => rw [cnt, if_neg hp]
      | _ => rfl
theorem cnt_no {n : Nat} {d : D} (h : ¬ pathB n d = true) : cnt n d = 0 := by
  by_cases z : cnt n d = 0
  · exact z
  · exact absurd ((cnt_pos n d).mp z) h
/-- 0 in some -/
theorem zero_in (ys : List Nat) : cmpD .In (.int 0) (.list (ys.map fun (t : Nat) => .int (t : Int))) = .ok (decide (0 ∈ ys)) := by
  rw [cmpD, if_pos (by simp [PyData.depth])]
  congr 1
  induction ys with
  | nil => rfl
  | cons y ys ih =>
    unfold inD at ih ⊢
    rw [List.map_cons, List.any_cons, ih, eqv_int, Bool.eq_iff_iff]
    simp
    constructor
    · rintro (h | h)
      · exact .inl (by omega)
      · exact .inr h
    · rintro (h | h)
      · exact .inl (by omega)
      · exact .inr h
def tsB (p : D → Bool) : D → Bool
  | .tuple ts => decide (ts.length ≤ 2) && ts.all p
  | _ => false
theorem stepB3 (p : D → Bool) (a b c : D) : stepB p (.tuple [a, b, c]) = (inB2 "in" "deep" a && letB b && tsB p c) := by
  cases a with
  | str y =>
    have h : (y == ("in" : Str) || y == ("deep" : Str)) = (("in" : Str) == y || ("deep" : Str) == y) := by
      rw [BEq.comm (a := y), BEq.comm (a := y)]
    cases c with
    | tuple ts => simp only [stepB, inB2, tsB, h, Bool.and_assoc]
    | _ => simp [stepB, tsB]
  | _ => simp [stepB, inB2]
theorem r_count1 {k m : Nat} (N n : Nat) (th d : D) (a3 a4 : Option Sl) (mm : Int) (hf : fit k m d) (hk : k ≤ 1000) (hm : m ≤ 190)
    (ih : ∀ t m', m' + 2 ≤ m → fit k m' t → rn N 21 [t] = .ok (.int (cnt n t))) :
    (stepB (pathB n) d = true → ∃ b3, evSs (Cn N) b_law_count_k02_1 [some (.sh th), some (.sh (.int mm)), some (.sh d), a3, a4] = .nx [some (.sh th), some (.sh (.int (mm + cS (cnt n) d))), some (.sh d), b3, a4]) ∧
    (stepB (pathB n) d = false → evSs (Cn N) b_law_count_k02_1 [some (.sh th), some (.sh (.int mm)), some (.sh d), a3, a4] = .rt (.int 0)) := by
  have hlim : lim = 1000000 := rfl
  by_cases hT : ∃ xs, d = .tuple xs
  · obtain ⟨xs, rfl⟩ := hT
    cases m with
    | zero => exact hf.elim
    | succ m =>
    obtain ⟨hf1, hf2⟩ := hf
    by_cases h3 : xs.length = 3
    · match xs, h3 with
      | [a, b, c], _ =>
        have fa := hf2 a (by simp)
        have fb := hf2 b (by simp)
        have fc := hf2 c (by simp)
        have i0 : idxD (.tuple [a, b, c]) (.int 0) = .ok a := rfl
        have i1 : idxD (.tuple [a, b, c]) (.int 1) = .ok b := rfl
        have i2 : idxD (.tuple [a, b, c]) (.int 2) = .ok c := rfl
        have e1 := in_two "in" "deep" a fa (by omega)
        have e2 := in_three "a" "b" "c" b fb (by omega)
        have hb2 : inB3 "a" "b" "c" b = letB b := by
          cases b with
          | str y =>
            show (("a" : Str) == y || (("b" : Str) == y || ("c" : Str) == y)) = (y == "a" || y == "b" || y == "c")
            rw [Bool.or_assoc, BEq.comm (a := y), BEq.comm (a := y), BEq.comm (a := y)]
          | _ => rfl
        rw [hb2] at e2
        generalize hwb : inB2 "in" "deep" a = wb at e1
        rw [stepB3, hwb]
        have ex0 : wb = false → evSs (Cn N) b_law_count_k02_1 [some (.sh th), some (.sh (.int mm)), some (.sh (.tuple [a, b, c])), a3, a4] = .rt (.int 0) := fun hw => by
          rw [b_law_count_k02_1]
          refine ss_rt ((iff_t (d := .bool true) ?_ rfl).trans (ss_rt (ret_ok (by simp))))
          rw [or_f (by simp), or_f (by simp)]
          simp [i0, e1, hw]
        cases wb with
        | false => exact ⟨fun z => (by simp at z), fun _ => ex0 rfl⟩
        | true =>
        have st1 : evS (Cn N) (.iff (.or (.not (.isi (.var 2) .tuple)) (.or (.cmp .NotEq (.bi .len (.var 2)) (.con (.int 3))) (.cmp .NotIn (.idx (.var 2) (.con (.int 0))) (.tup (.cons (.con (.str "in")) (.cons (.con (.str "deep")) .nil)))))) (.cons (.ret (.con (.int 0))) .nil) .nil) [some (.sh th), some (.sh (.int mm)), some (.sh (.tuple [a, b, c])), a3, a4] = .nx [some (.sh th), some (.sh (.int mm)), some (.sh (.tuple [a, b, c])), a3, a4] := by
          refine (iff_f (d := .bool false) ?_ rfl).trans (s_nil' _ _)
          rw [or_f (by simp), or_f (by simp)]
          simp [i0, e1]
        by_cases hb : letB b = true
        · have st2 : evS (Cn N) (.iff (.cmp .NotIn (.idx (.var 2) (.con (.int 1))) (.tup (.cons (.con (.str "a")) (.cons (.con (.str "b")) (.cons (.con (.str "c")) .nil))))) (.cons (.ret (.con (.int 0))) .nil) .nil) [some (.sh th), some (.sh (.int mm)), some (.sh (.tuple [a, b, c])), a3, a4] = .nx [some (.sh th), some (.sh (.int mm)), some (.sh (.tuple [a, b, c])), a3, a4] := by
            refine (iff_f (d := .bool false) ?_ rfl).trans (s_nil' _ _)
            simp [i1, e2, hb]
          by_cases hc : ∃ ts, c = .tuple ts
          · obtain ⟨ts, rfl⟩ := hc
            by_cases hl : ts.length ≤ 2
            · have hl2 : ts.length ≤ lim := by omega
              have hc2 : ∀ t ∈ ts, rn N 21 [t] = .ok (.int (cnt n t)) := fun t ht => by
                cases m with
                | zero => exact fc.elim
                | succ m => exact ih t m (by omega) (fc.2 t ht)
              have e3 := compGo_enc (enc := fun t : D => t) (g := fun t => .int (cnt n t)) (xs := ts) (f := fun d => (rn N 21 [d]).bind fun y => R.ok (some y)) (fun t ht => by rw [hc2 t ht]; rfl)
              rw [List.map_id'] at e3
              have hall : ts.all (pathB n) = true ↔ ¬ 0 ∈ ts.map (cnt n) := by
                rw [List.all_eq_true, List.mem_map]
                constructor
                · rintro h ⟨t, ht, e⟩
                  exact (cnt_pos n t).mpr (h t ht) e
                · intro h t ht
                  exact (cnt_pos n t).mp fun e => h ⟨t, ht, e⟩
              have e4 := zero_in (ts.map (cnt n))
              rw [List.map_map] at e4
              have hsum : intsOf (ts.map fun t => .int (cnt n t : Int)) = some (ts.map fun t => (cnt n t : Int)) := intsOf_enc ts fun t => (cnt n t : Int)
              have st4 : evSs (Cn N) b_law_count_k02_1 [some (.sh th), some (.sh (.int mm)), some (.sh (.tuple [a, b, .tuple ts])), a3, a4] = evSs (Cn N) (.cons (.iff (.cmp .In (.con (.int 0)) (.var 3)) (.cons (.ret (.con (.int 0))) .nil) .nil) (.cons (.set 1 (.bin .Add (.bin .Add (.var 1) (.con (.int 1))) (.bi .sum (.var 3)))) .nil)) [some (.sh th), some (.sh (.int mm)), some (.sh (.tuple [a, b, .tuple ts])), some (.sh (.list (ts.map fun t => .int (cnt n t)))), a4] := by
                rw [b_law_count_k02_1]
                refine (ss_nx st1).trans ((ss_nx st2).trans ((ss_nx (s' := [some (.sh th), some (.sh (.int mm)), some (.sh (.tuple [a, b, .tuple ts])), a3, a4]) ?_).trans (ss_nx (set_ok (d := .list (ts.map fun t => .int (cnt n t))) ?_))))
                · refine (iff_f (d := .bool false) ?_ rfl).trans (s_nil' _ _)
                  rw [or_f (by simp [i2])]
                  simp [i2]; omega
                · simp [evL, i2, hl2]
                  rw [e3]; rfl
              constructor
              · intro hs
                simp only [Bool.true_and, Bool.and_eq_true, tsB] at hs
                have h0 := hall.mp hs.2.2
                refine ⟨some (.sh (.list (ts.map fun t => .int (cnt n t)))), st4.trans ((ss_nx (s' := [some (.sh th), some (.sh (.int mm)), some (.sh (.tuple [a, b, .tuple ts])), some (.sh (.list (ts.map fun t => .int (cnt n t)))), a4]) ?_).trans ((ss_nx (set_ok (d := .int (mm + 1 + (ts.map fun t => (cnt n t : Int)).sum)) ?_)).trans ?_))⟩
                · refine (iff_f (d := .bool false) ?_ rfl).trans (s_nil' _ _)
                  have e4' : cmpD .In (.int 0) (.list (ts.map fun t => .int (cnt n t))) = .ok false := by
                    rw [show (ts.map fun t => PyData.int (cnt n t)) = ts.map ((fun (t : Nat) => PyData.int (t : Int)) ∘ cnt n) from rfl, e4, decide_eq_false h0]
                  simp [e4']
                · simp [biD, hsum]
                · simp only [s_nil', List.set_cons_succ, List.set_cons_zero, cS]
                  rw [show (mm + ((1 + (ts.map (cnt n)).sum : Nat) : Int)) = mm + 1 + (ts.map fun t => (cnt n t : Int)).sum by rw [← sum_cast]; omega]
              · intro hs
                have h0 : 0 ∈ ts.map (cnt n) := by
                  refine Classical.byContradiction fun z => ?_
                  have := hall.mpr z
                  simp [tsB, hb, hl, this] at hs
                refine st4.trans (ss_rt ((iff_t (d := .bool true) ?_ rfl).trans (ss_rt (ret_ok (by simp)))))
                have e4' : cmpD .In (.int 0) (.list (ts.map fun t => .int (cnt n t))) = .ok true := by
                  rw [show (ts.map fun t => PyData.int (cnt n t)) = ts.map ((fun (t : Nat) => PyData.int (t : Int)) ∘ cnt n) from rfl, e4, decide_eq_true h0]
                simp [e4']
            · refine ⟨fun z => (by simp [tsB, hl] at z), fun _ => ?_⟩
              rw [b_law_count_k02_1]
              refine (ss_nx st1).trans ((ss_nx st2).trans (ss_rt ((iff_t (d := .bool true) ?_ rfl).trans (ss_rt (ret_ok (by simp))))))
              rw [or_f (by simp [i2])]
              simp [i2]; omega
          · have hn := not_tup fun xs z => hc ⟨xs, z⟩
            refine ⟨fun z => ?_, fun _ => ?_⟩
            · cases c with
              | tuple ts => exact absurd ⟨ts, rfl⟩ hc
              | _ => simp [tsB] at z
            · rw [b_law_count_k02_1]
              refine (ss_nx st1).trans ((ss_nx st2).trans (ss_rt ((iff_t (d := .bool true) ?_ rfl).trans (ss_rt (ret_ok (by simp))))))
              exact or_t (by simp [i2, hn])
        · refine ⟨fun z => (by simp [hb] at z), fun _ => ?_⟩
          rw [b_law_count_k02_1]
          refine (ss_nx st1).trans (ss_rt ((iff_t (d := .bool true) ?_ rfl).trans (ss_rt (ret_ok (by simp)))))
          simp [i1, e2, hb]
    · have hno : stepB (pathB n) (.tuple xs) = false := stepB_no fun w' l ts z => h3 (by injection z with z; rw [z]; rfl)
      rw [hno]
      refine ⟨fun z => (by cases z), fun _ => ?_⟩
      rw [b_law_count_k02_1]
      refine ss_rt ((iff_t (d := .bool true) ?_ rfl).trans (ss_rt (ret_ok (by simp))))
      rw [or_f (by simp)]
      have h3' : ¬ (xs.length : Int) = 3 := by omega
      exact or_t (by simp [h3'])
  · have hno : stepB (pathB n) d = false := stepB_no fun w' l ts z => hT ⟨_, z⟩
    rw [hno]
    refine ⟨fun z => (by cases z), fun _ => ?_⟩
    rw [b_law_count_k02_1]
    have hn := not_tup fun xs z => hT ⟨xs, z⟩
    refine ss_rt ((iff_t (d := .bool true) ?_ rfl).trans (ss_rt (ret_ok (by simp))))
    exact or_t (by simp [hn])
theorem r_countL {k m : Nat} (N n : Nat) (th : D) (hk : k ≤ 1000) (hm : m ≤ 190)
    (ih : ∀ t m', m' + 2 ≤ m → fit k m' t → rn N 21 [t] = .ok (.int (cnt n t))) : ∀ (xs : List D) (mm : Int) (a2 a3 a4 : Option Sl), (∀ x ∈ xs, fit k m x) →
    (xs.all (stepB (pathB n)) = true → ∃ b2 b3 b4, loopFor (.name 2) (fun s' => evSs (Cn N) b_law_count_k02_1 s') xs [some (.sh th), some (.sh (.int mm)), a2, a3, a4] = .nx [some (.sh th), some (.sh (.int (mm + ((xs.map (cS (cnt n))).sum : Nat)))), b2, b3, b4]) ∧
    (xs.all (stepB (pathB n)) = false → loopFor (.name 2) (fun s' => evSs (Cn N) b_law_count_k02_1 s') xs [some (.sh th), some (.sh (.int mm)), a2, a3, a4] = .rt (.int 0))
  | [], mm, a2, a3, a4, _ => ⟨fun _ => ⟨a2, a3, a4, by simp [loopFor]⟩, fun z => by cases z⟩
  | x :: xs, mm, a2, a3, a4, hf => by
    obtain ⟨h1, h2⟩ := r_count1 N n th x a3 a4 mm (hf x (by simp)) hk hm ih
    have hb : bindT (.name 2) x [some (.sh th), some (.sh (.int mm)), a2, a3, a4] = some [some (.sh th), some (.sh (.int mm)), some (.sh x), a3, a4] := b_name _ _ _
    rw [List.all_cons]
    by_cases hx : stepB (pathB n) x = true
    · rw [hx, Bool.true_and]
      obtain ⟨b3, e1⟩ := h1 hx
      obtain ⟨g1, g2⟩ := r_countL N n th hk hm ih xs (mm + cS (cnt n) x) (some (.sh x)) b3 a4 fun y hy => hf y (by simp [hy])
      constructor
      · intro hs
        obtain ⟨b2', b3', b4', e2⟩ := g1 hs
        refine ⟨b2', b3', b4', ?_⟩
        unfold loopFor
        rw [hb]
        show (evSs (Cn N) b_law_count_k02_1 _).then _ = _
        rw [e1]
        show loopFor _ _ _ _ = _
        rw [e2]
        simp only [List.map_cons, List.sum_cons]
        rw [show (mm + (cS (cnt n) x : Int) + ((xs.map (cS (cnt n))).sum : Nat) : Int) = mm + ((cS (cnt n) x + (xs.map (cS (cnt n))).sum : Nat) : Int) by omega]
      · intro hs
        unfold loopFor
        rw [hb]
        show (evSs (Cn N) b_law_count_k02_1 _).then _ = _
        rw [e1]
        exact g2 hs
    · simp only [Bool.not_eq_true] at hx
      rw [hx, Bool.false_and]
      refine ⟨fun z => (by cases z), fun _ => ?_⟩
      unfold loopFor
      rw [hb]
      show (evSs (Cn N) b_law_count_k02_1 _).then _ = _
      rw [h2 hx]
      rfl
theorem r_count : ∀ (n N m k : Nat) (d : D), fit k m d → k ≤ 1000 → m ≤ n → n ≤ 190 → n < N → rn N 21 [d] = .ok (.int (cnt n d))
  | 0, N, m, k, d, hf, _, hm, _, _ => by
    have : m = 0 := by omega
    subst this
    exact hf.elim
  | n + 1, N, m, k, d, hf, hk, hm, hn, hN => by
    have hlim : lim = 1000000 := rfl
    obtain ⟨N', rfl⟩ : ∃ n', N = n' + 1 := ⟨N - 1, by omega⟩
    rw [rn_law_count_k02, b_law_count_k02]
    by_cases hT : ∃ xs, d = .tuple xs
    · obtain ⟨xs, rfl⟩ := hT
      cases m with
      | zero => exact hf.elim
      | succ m =>
      obtain ⟨hf1, hf2⟩ := hf
      by_cases hl : 1 ≤ xs.length ∧ xs.length ≤ 3
      · have l1 : (0 : Int) < xs.length := by omega
        have l2 : (xs.length : Int) < 4 := by omega
        refine res_of (ss_nx (s' := [some (.sh (.tuple xs)), none, none, none, none]) ?_) ?_
        · refine (iff_f (d := .bool false) ?_ rfl).trans (s_nil' _ _)
          rw [or_f (by simp)]
          have l1n : 0 < xs.length := by omega
          simp [l1n, l2]
        refine res_of (ss_nx (set_ok (d := .int 0) (by simp))) ?_
        obtain ⟨h1, h2⟩ := r_countL N' n (.tuple xs) hk (by omega : m ≤ 190) (fun t m' hm' ft => r_count n N' m' k t ft hk (by omega) (by omega) (by omega)) xs 0 none none none hf2
        by_cases ha : xs.all (stepB (pathB n)) = true
        · obtain ⟨b2, b3, b4, e1⟩ := h1 ha
          refine res_of (ss_nx ((for_ok (ds := xs) (by simp)).trans e1)) ?_
          refine res_of (ss_rt (ret_ok (d := .int (cnt (n + 1) (.tuple xs))) ?_)) rfl
          have hp : pathB (n + 1) (.tuple xs) = true := by simp only [pathB, hl.1, hl.2, ha, decide_true, Bool.and_self]
          rw [cnt, if_pos hp]
          simp
        · simp only [Bool.not_eq_true] at ha
          refine res_of (ss_rt ((for_ok (ds := xs) (by simp)).trans (h2 ha))) ?_
          have hp : ¬ pathB (n + 1) (.tuple xs) = true := by simp [pathB, ha]
          rw [cnt_no hp]; rfl
      · refine res_of (ss_rt (d := .int 0) ?_) ?_
        · refine (iff_t (d := .bool true) ?_ rfl).trans (ss_rt (ret_ok (by simp)))
          rw [or_f (by simp)]
          by_cases h0 : (0 : Int) < xs.length
          · have l2 : ¬ (xs.length : Int) < 4 := by omega
            have h0n : 0 < xs.length := by omega
            simp [h0n, l2]
          · have h0n : ¬ 0 < xs.length := by omega
            simp [h0n]
        · have hp : ¬ pathB (n + 1) (.tuple xs) = true := by
            simp only [pathB, Bool.and_eq_true, decide_eq_true_eq]
            exact fun z => hl z.1
          rw [cnt_no hp]; rfl
    · have hn := not_tup fun xs z => hT ⟨xs, z⟩
      refine res_of (ss_rt (d := .int 0) ?_) ?_
      · refine (iff_t (d := .bool true) ?_ rfl).trans (ss_rt (ret_ok (by simp)))
        exact or_t (by simp [hn])
      · rw [cnt_no (by rw [pathB_no fun xs z => hT ⟨xs, z⟩]; simp)]; rfl
theorem r_steps_in : ∀ (n N : Nat) (d : D), pathB n d = true → n < N → rn N 17 [d] = .ok (.int (cnt n d))
  | 0, N, d, hp, _ => by cases hp
  | n + 1, N, d, hp, hN => by
    have hlim : lim = 1000000 := rfl
    obtain ⟨N', rfl⟩ : ∃ n', N = n' + 1 := ⟨N - 1, by omega⟩
    obtain ⟨n', xs, e, rfl, h1, h2, h3⟩ := pathB_inv hp
    cases e
    rw [rn_steps_in, b_steps_in]
    refine res_of (ss_rt (ret_ok (d := .int (cnt (n + 1) (.tuple xs))) ?_)) rfl
    rw [cnt, if_pos hp]
    have hl2 : xs.length ≤ lim := by omega
    have hin : ∀ s ∈ xs, ∃ a b ts, s = .tuple [a, b, .tuple ts] ∧ ts.length ≤ 2 ∧ ∀ t ∈ ts, rn N' 17 [t] = .ok (.int (cnt n t)) := fun s hs => by
      obtain ⟨w, l, ts, rfl, _, _, hl, ha⟩ := stepB_inv (List.all_eq_true.mp h3 s hs)
      exact ⟨_, _, _, rfl, hl, fun t ht => r_steps_in n N' t (List.all_eq_true.mp ha t ht) (by omega)⟩
    have hsum : ((xs.map fun s => ((cS (cnt n) s : Int) - 1)).sum + xs.length : Int) = (((xs.map (cS (cnt n))).sum : Nat) : Int) := by
      clear hin h3 hl2 h1 h2 hp
      induction xs with
      | nil => rfl
      | cons x xs ih =>
        simp only [List.map_cons, List.sum_cons, List.length_cons]
        push_cast at ih ⊢
        omega
    simp [evL, hl2]
    rw [compGo_map (g := fun s => .int ((cS (cnt n) s : Int) - 1))]
    · simp [biD, intsOf_enc]
      omega
    · intro s hs
      obtain ⟨a, b, ts, rfl, hl, ht⟩ := hin s hs
      have i2 : idxD (.tuple [a, b, .tuple ts]) (.int 2) = .ok (.tuple ts) := rfl
      have hl3 : ts.length ≤ lim := by omega
      simp only [i2, R.bind_ok, i_tup, hl3, if_true]
      rw [compGo_map (g := fun t => .int (cnt n t))]
      · simp only [R.bind_ok, biD, intsOf_enc, cS]
        rw [← sum_cast]
        congr 3
        omega
      · intro t h
        rw [ht t h]; rfl
/-- is_path -/
theorem r_is_path (N n m k : Nat) (d : D) (hf : fit k m d) (hk : k ≤ 1000) (hm : m ≤ n) (hn : n ≤ 190) (hN : 2 * n + 2 < N) : rn N 18 [d] = .ok (.bool (decide (0 < cnt n d ∧ cnt n d < 8))) := by
  obtain ⟨N', rfl⟩ : ∃ n', N = n' + 2 := ⟨N - 2, by omega⟩
  rw [rn_is_path, b_is_path]
  refine res_of (ss_rt (ret_ok (d := .bool (decide (0 < cnt n d ∧ cnt n d < 8))) ?_)) rfl
  have e1 := r_any_path n N' m k d hf hk hm hn (by omega)
  by_cases hp : pathB n d = true
  · have hc := (cnt_pos n d).mpr hp
    have e2 := r_steps_in n (N' + 1) d hp (by omega)
    have g4 : gv 4 = some (.int 7) := rfl
    rw [and_t (by simp [e1, hp])]
    have : decide (0 < cnt n d ∧ cnt n d < 8) = decide ((cnt n d : Int) ≤ 7) := by
      rw [decide_eq_decide]; omega
    rw [this]
    simp [e2, g4]
  · have hc := cnt_no hp
    simp only [Bool.not_eq_true] at hp
    rw [and_f (by simp [e1, hp]), hc]
    rfl
end Tf
namespace Tf
open PySem
/-! Tm7: typed paths as data; the rows of a path. -/
theorem wayS_len (w : Bool) : (wayS w).length ≤ 10 := by cases w <;> decide +kernel
theorem letS_len (l : Fin 3) : (letS l).length ≤ 10 := by
  match l with
  | 0 => decide +kernel
  | 1 => decide +kernel
  | 2 => decide +kernel
theorem mem_wfL {p : Pa} (h : wfL p = true) {s : St} (hs : s ∈ p) : s.ts.length ≤ 2 ∧ s.ts.all wfP = true := by
  rw [wfL_eq] at h
  have := List.all_eq_true.mp h s hs
  rw [wfS_eq] at this
  simpa using this
theorem st_mem {p : Pa} {s : St} (hs : s ∈ p) {t : Pa} (ht : t ∈ s.ts) : stL t < stL p := by
  have h1 : stL t ≤ (s.ts.map stL).sum := mem_le_sum ht
  have h2 : stS s ≤ (p.map stS).sum := mem_le_sum hs
  rw [stS_eq] at h2
  rw [stL_eq p]; omega
theorem wfP_inv {p : Pa} (h : wfP p = true) : 1 ≤ p.length ∧ p.length ≤ 3 ∧ wfL p = true := by
  unfold wfP at h
  simp only [Bool.and_eq_true, decide_eq_true_eq] at h
  exact ⟨h.1.1, h.1.2, h.2⟩
theorem tsi_enc : ∀ (j : Nat) (p : Pa), stL p ≤ j → wfL p = true → p.length ≤ 10 → tsi 10 (3 * j + 1) (encP p)
  | 0, p, h, _, _ => by
    have := len_le_st p
    have : p = [] := List.length_eq_zero_iff.mp (by omega)
    subst this
    rw [encP_eq]
    exact ⟨by simp, fun x hx => by cases hx⟩
  | j + 1, p, h, hw, hl => by
    rw [encP_eq]
    refine ⟨by simpa using hl, fun x hx => ?_⟩
    obtain ⟨s, hs, rfl⟩ := List.mem_map.mp hx
    obtain ⟨w1, w2⟩ := mem_wfL hw hs
    cases s with
    | mk w l ts =>
      rw [encS_eq]
      refine ⟨by simp, fun y hy => ?_⟩
      simp only [List.mem_cons, List.not_mem_nil, or_false] at hy
      rcases hy with rfl | rfl | rfl
      · exact wayS_len w
      · exact letS_len l
      · refine ⟨by simp; exact Nat.le_trans w1 (by omega), fun z hz => ?_⟩
        obtain ⟨t, ht, rfl⟩ := List.mem_map.mp hz
        obtain ⟨a1, a2, a3⟩ := wfP_inv (List.all_eq_true.mp w2 t ht)
        have := st_mem hs (t := t) ht
        exact tsi_enc j t (by omega) a3 (by omega)
theorem fit_enc {p : Pa} {j : Nat} (h : stL p ≤ j) (hw : wfP p = true) : fit 10 (3 * j + 1) (encP p) := by
  obtain ⟨a1, a2, a3⟩ := wfP_inv hw
  exact tsi_fit (tsi_enc j p h a3 (by omega))
theorem letB_let (l : Fin 3) : letB (.str (letS l)) = true := by
  match l with
  | 0 => rfl
  | 1 => rfl
  | 2 => rfl
theorem pathB_enc : ∀ (n : Nat) (p : Pa), wfP p = true → stL p ≤ n → pathB n (encP p) = true
  | 0, p, hw, h => by
    have := len_le_st p
    have := (wfP_inv hw).1
    omega
  | n + 1, p, hw, h => by
    obtain ⟨a1, a2, a3⟩ := wfP_inv hw
    rw [encP_eq, pathB]
    simp only [List.length_map, a1, a2, decide_true, Bool.true_and, List.all_eq_true]
    intro x hx
    obtain ⟨s, hs, rfl⟩ := List.mem_map.mp hx
    obtain ⟨w1, w2⟩ := mem_wfL a3 hs
    have ht : ∀ t ∈ s.ts, pathB n (encP t) = true := fun t ht => by
      have := st_mem hs ht
      exact pathB_enc n t (List.all_eq_true.mp w2 t ht) (by omega)
    cases s with
    | mk w l ts =>
      rw [encS_eq]
      have hway : ((wayS w) == "in" || (wayS w) == "deep") = true := by cases w <;> rfl
      simp only [stepB, hway, letB_let, List.length_map, Bool.true_and, Bool.and_eq_true, decide_eq_true_eq, List.all_eq_true]
      refine ⟨w1, fun y hy => ?_⟩
      obtain ⟨t, h1, rfl⟩ := List.mem_map.mp hy
      exact ht t h1
theorem cnt_enc : ∀ (n : Nat) (p : Pa), wfP p = true → stL p ≤ n → cnt n (encP p) = stL p
  | 0, p, hw, h => by
    have := len_le_st p
    have := (wfP_inv hw).1
    omega
  | n + 1, p, hw, h => by
    have hp := pathB_enc (n + 1) p hw h
    obtain ⟨a1, a2, a3⟩ := wfP_inv hw
    rw [encP_eq] at hp ⊢
    rw [cnt, if_pos hp, stL_eq, List.map_map]
    congr 1
    refine List.map_congr_left fun s hs => ?_
    obtain ⟨w1, w2⟩ := mem_wfL a3 hs
    have ht : ∀ t ∈ s.ts, cnt n (encP t) = stL t := fun t ht => by
      have := st_mem hs ht
      exact cnt_enc n t (List.all_eq_true.mp w2 t ht) (by omega)
    cases s with
    | mk w l ts =>
      show cS (cnt n) (encS (.mk w l ts)) = _
      rw [encS_eq, stS_eq, cS, List.map_map]
      congr 2
      exact List.map_congr_left fun t h1 => ht t h1
mutual
def rowS : St → D → Nat → List D
  | .mk w l ts, ah, f => .tuple [ah, .str (wayS w), .str (letS l)] :: rowsT ts f (f + 1)
def rowsL : List St → D → Nat → List D
  | [], _, _ => []
  | s :: r, ah, f => rowS s ah f ++ rowsL r (.int f) (f + (rowS s ah f).length)
def rowsT : List (List St) → Nat → Nat → List D
  | [], _, _ => []
  | t :: r, n, f => rowsL t (.int n) f ++ rowsT r n (f + (rowsL t (.int n) f).length)
end
mutual
theorem rowS_len : ∀ (s : St) (ah : D) (f : Nat), (rowS s ah f).length = stS s
  | .mk w l ts, ah, f => by rw [rowS, stS, List.length_cons, rowsT_len]; omega
theorem rowsL_len : ∀ (p : List St) (ah : D) (f : Nat), (rowsL p ah f).length = stL p
  | [], ah, f => by rw [rowsL, stL]; rfl
  | s :: r, ah, f => by rw [rowsL, stL, List.length_append, rowsL_len r, rowS_len s]
theorem rowsT_len : ∀ (p : List (List St)) (n f : Nat), (rowsT p n f).length = stPs p
  | [], n, f => by rw [rowsT, stPs]; rfl
  | t :: r, n, f => by rw [rowsT, stPs, List.length_append, rowsT_len r, rowsL_len t]
end
def J3 (pd ah : D) (f : Nat) (la wy le tsd : D) (num : Nat) (tot : List D) (ts : List Pa) (ds : List D) (s : Sd) : Prop :=
  ∃ (acc : List D) (a9 : Option Sl) (r : List Pa), s = [some (.sh pd), some (.sh ah), some (.sh (.int f)), some (.ow acc), some (.sh la), some (.sh wy), some (.sh le), some (.sh tsd), some (.sh (.int num)), a9] ∧
    ds = r.map encP ∧ acc ++ rowsT r num (f + acc.length) = tot ∧ ∀ t ∈ r, t ∈ ts
def J4 (pd ah : D) (f : Nat) (p : Pa) (ds : List D) (s : Sd) : Prop :=
  ∃ (acc : List D) (la : D) (a5 a6 a7 a8 a9 : Option Sl) (r : List St), s = [some (.sh pd), some (.sh ah), some (.sh (.int f)), some (.ow acc), some (.sh la), a5, a6, a7, a8, a9] ∧
    ds = r.map encS ∧ acc ++ rowsL r la (f + acc.length) = rowsL p ah f ∧ ∀ s ∈ r, s ∈ p
theorem r_rows_of : ∀ (N : Nat) (p : Pa) (ah : D) (f : Nat), stL p < N → stL p ≤ 1000 → ∃ la, rn N 19 [encP p, ah, .int f] = .ok (.tuple [.list (rowsL p ah f), la])
  | 0, p, ah, f, h, _ => by omega
  | N + 1, p, ah, f, h, hb => by
    have hlim : lim = 1000000 := rfl
    have hlen := rowsL_len p ah f
    have inner : ∀ (pd la wy le tsd : D) (num : Nat) (tot : List D) (ts : List Pa), (∀ t ∈ ts, stL t < stL p) → tot.length ≤ 1000 → ∀ (ds : List D) (s : Sd), J3 pd ah f la wy le tsd num tot ts ds s →
        ∃ s', loopFor (.name 9) (fun s' => evSs (Cn N) b_rows_of_1 s') ds s = .nx s' ∧ J3 pd ah f la wy le tsd num tot ts [] s' := by
      intro pd la wy le tsd num tot ts hts htot
      refine loopFor_inv _ ?_
      rintro d r0 s ⟨acc, a9, r, rfl, hd, g1, g2⟩
      match r, hd, g1, g2 with
      | t :: r, hd, g1, g2 =>
        simp only [List.map_cons, List.cons.injEq] at hd
        obtain ⟨rfl, rfl⟩ := hd
        rw [rowsT, ← List.append_assoc] at g1
        obtain ⟨la', e1⟩ := r_rows_of N t (.int num) (f + acc.length) (by have := hts t (g2 t (by simp)); omega) (by have := hts t (g2 t (by simp)); omega)
        have e2 : acc.length + (rowsL t (.int num) (f + acc.length)).length ≤ lim := by
          have := congrArg List.length g1
          simp only [List.length_append] at this
          omega
        have e3 : ∀ xs y, idxD (.tuple [xs, y]) (.int 0) = .ok xs := fun _ _ => rfl
        push_cast at e1
        refine ⟨_, [some (.sh pd), some (.sh ah), some (.sh (.int f)), some (.ow (acc ++ rowsL t (.int num) (f + acc.length))), some (.sh la), some (.sh wy), some (.sh le), some (.sh tsd), some (.sh (.int num)), some (.sh (encP t))], b_name _ _ _, ?_, ?_⟩
        · simp [b_rows_of_1, e1, e2, e3]
        · refine ⟨_, _, r, rfl, rfl, ?_, fun t ht => g2 t (by simp [ht])⟩
          rw [List.length_append, ← Nat.add_assoc]
          exact g1
    have outer : ∀ (ds : List D) (s : Sd), J4 (encP p) ah f p ds s → ∃ s', loopFor (.tup (.cons (.name 5) (.cons (.name 6) (.cons (.name 7) .nil)))) (fun s' => evSs (Cn N) b_rows_of_2 s') ds s = .nx s' ∧ J4 (encP p) ah f p [] s' := by
      refine loopFor_inv _ ?_
      rintro d r0 s ⟨acc, la, a5, a6, a7, a8, a9, r, rfl, hd, g1, g2⟩
      match r, hd, g1, g2 with
      | .mk w l ts :: r, hd, g1, g2 =>
        simp only [List.map_cons, List.cons.injEq] at hd
        obtain ⟨rfl, rfl⟩ := hd
        rw [rowsL, ← List.append_assoc] at g1
        have hlen2 := congrArg List.length g1
        rw [hlen] at hlen2
        simp only [List.length_append] at hlen2
        have hrs : rowS (.mk w l ts) la (f + acc.length) = .tuple [la, .str (wayS w), .str (letS l)] :: rowsT ts (f + acc.length) (f + acc.length + 1) := by rw [rowS]
        have hts : ∀ t ∈ ts, stL t < stL p := fun t ht => st_mem (g2 _ (by simp)) (s := .mk w l ts) ht
        obtain ⟨s', x1, acc', b9, r', rfl, x2, x3, _⟩ := inner (encP p) la (.str (wayS w)) (.str (letS l)) (.tuple (ts.map encP)) (f + acc.length) (acc ++ rowS (.mk w l ts) la (f + acc.length)) ts hts (by rw [List.length_append]; omega) (ts.map encP)
          [some (.sh (encP p)), some (.sh ah), some (.sh (.int f)), some (.ow (acc ++ [.tuple [la, .str (wayS w), .str (letS l)]])), some (.sh la), some (.sh (.str (wayS w))), some (.sh (.str (letS l))), some (.sh (.tuple (ts.map encP))), some (.sh (.int (f + acc.length : Nat))), a9]
          ⟨_, a9, ts, rfl, rfl, by rw [hrs, List.length_append, List.append_assoc]; simp [Nat.add_assoc], fun t ht => ht⟩
        have hr' : r' = [] := by cases r' with | nil => rfl | cons _ _ => cases x2
        subst hr'
        rw [rowsT, List.append_nil] at x3
        have hb' : bindT (.tup (.cons (.name 5) (.cons (.name 6) (.cons (.name 7) .nil)))) (encS (.mk w l ts)) [some (.sh (encP p)), some (.sh ah), some (.sh (.int f)), some (.ow acc), some (.sh la), a5, a6, a7, a8, a9] = some [some (.sh (encP p)), some (.sh ah), some (.sh (.int f)), some (.ow acc), some (.sh la), some (.sh (.str (wayS w))), some (.sh (.str (letS l))), some (.sh (.tuple (ts.map encP))), a8, a9] := by
          rw [encS_eq]; simp
        have hacc : acc.length < lim := by rw [hrs] at hlen2; simp only [List.length_cons] at hlen2; omega
        push_cast at x1
        refine ⟨_, [some (.sh (encP p)), some (.sh ah), some (.sh (.int f)), some (.ow acc'), some (.sh (.int (f + acc.length : Nat))), some (.sh (.str (wayS w))), some (.sh (.str (letS l))), some (.sh (.tuple (ts.map encP))), some (.sh (.int (f + acc.length : Nat))), b9], hb', ?_, ?_⟩
        · simp [b_rows_of_2, hacc, x1]
        · refine ⟨acc', _, _, _, _, _, _, r, rfl, rfl, ?_, fun t ht => g2 t (by simp [ht])⟩
          rw [x3, List.length_append, ← Nat.add_assoc]
          exact g1
    obtain ⟨s', x1, acc, la, b5, b6, b7, b8, b9, r', rfl, x2, x3, _⟩ := outer (p.map encS) [some (.sh (encP p)), some (.sh ah), some (.sh (.int f)), some (.ow []), some (.sh ah), none, none, none, none, none]
      ⟨[], ah, none, none, none, none, none, p, rfl, rfl, by simp, fun s hs => hs⟩
    have hr' : r' = [] := by cases r' with | nil => rfl | cons _ _ => cases x2
    subst hr'
    rw [rowsL, List.append_nil] at x3
    subst x3
    refine ⟨la, ?_⟩
    rw [rn_rows_of, b_rows_of]
    have hi : ∀ s, evI (Cn N) (.seq (.var 0)) (some (.sh (encP p)) :: s) = .ok (p.map encS) := fun s => by
      rw [encP_eq]; simp
    refine res_of (ss_nx (s' := [some (.sh (encP p)), some (.sh ah), some (.sh (.int f)), some (.ow []), none, none, none, none, none, none]) (by simp)) ?_
    refine res_of (ss_nx (s' := [some (.sh (encP p)), some (.sh ah), some (.sh (.int f)), some (.ow []), some (.sh ah), none, none, none, none, none]) (by simp)) ?_
    refine res_of (ss_nx ((for_ok (hi _)).trans x1)) ?_
    simp
end Tf
namespace Tf
open PySem
/-! Tm8: the rows by the law's plain walk; numbered; the same found as due. -/
@[simp] theorem s_io' (C : EvC) (s : Sd) (i : Nat) (a b : E) : evS C (.io i a b) s = match s[i]? with
    | some (some (.ow ds)) => (ev C a s).out fun x => (ev C b s).out fun y => match C.io x y ds with
      | some es => .nx (s.set i (some (.ow es)))
      | none => .fail
    | _ => .fail := by rw [evS] <;> rfl
def J5 (pd ah : D) (wy le tsd : D) (num : Nat) (tot : List D) (ts : List Pa) (ds : List D) (s : Sd) : Prop :=
  ∃ (acc : List D) (a7 : Option Sl) (r : List Pa), s = [some (.sh pd), some (.sh ah), some (.ow acc), some (.sh wy), some (.sh le), some (.sh tsd), some (.sh (.int num)), a7] ∧
    ds = r.map encP ∧ acc ++ rowsT r num acc.length = tot ∧ ∀ t ∈ r, t ∈ ts
def J6 (pd : D) (tot : List D) (p : Pa) (ds : List D) (s : Sd) : Prop :=
  ∃ (acc : List D) (la : D) (a3 a4 a5 a6 a7 : Option Sl) (r : List St), s = [some (.sh pd), some (.sh la), some (.ow acc), a3, a4, a5, a6, a7] ∧
    ds = r.map encS ∧ acc ++ rowsL r la acc.length = tot ∧ ∀ s ∈ r, s ∈ p
theorem r_io : ∀ (N : Nat) (p : Pa) (ah : D) (ds : List D), stL p < N → ds.length + stL p ≤ 1000 → io N (encP p) ah ds = some (ds ++ rowsL p ah ds.length)
  | 0, p, ah, ds, h, _ => by omega
  | N + 1, p, ah, ds, h, hb => by
    have hlim : lim = 1000000 := rfl
    have hlen := rowsL_len p ah ds.length
    have inner : ∀ (pd la wy le tsd : D) (num : Nat) (tot : List D) (ts : List Pa), (∀ t ∈ ts, stL t < stL p) → tot.length ≤ 1000 → ∀ (es : List D) (s : Sd), J5 pd la wy le tsd num tot ts es s →
        ∃ s', loopFor (.name 7) (fun s' => evSs ⟨fun _ _ => .fail, gv, 1000, io N⟩ b_law_rows_1 s') es s = .nx s' ∧ J5 pd la wy le tsd num tot ts [] s' := by
      intro pd la wy le tsd num tot ts hts htot
      refine loopFor_inv _ ?_
      rintro d r0 s ⟨acc, a9, r, rfl, hd, g1, g2⟩
      match r, hd, g1, g2 with
      | t :: r, hd, g1, g2 =>
        simp only [List.map_cons, List.cons.injEq] at hd
        obtain ⟨rfl, rfl⟩ := hd
        rw [rowsT, ← List.append_assoc] at g1
        have hl1 := congrArg List.length g1
        simp only [List.length_append, rowsL_len] at hl1
        have e1 := r_io N t (.int num) acc (by have := hts t (g2 t (by simp)); omega) (by omega)
        refine ⟨_, [some (.sh pd), some (.sh la), some (.ow (acc ++ rowsL t (.int num) acc.length)), some (.sh wy), some (.sh le), some (.sh tsd), some (.sh (.int num)), some (.sh (encP t))], b_name _ _ _, ?_, ?_⟩
        · simp [b_law_rows_1, e1]
        · refine ⟨_, _, r, rfl, rfl, ?_, fun t ht => g2 t (by simp [ht])⟩
          rw [List.length_append]
          exact g1
    have outer : ∀ (es : List D) (s : Sd), J6 (encP p) (ds ++ rowsL p ah ds.length) p es s → ∃ s', loopFor (.tup (.cons (.name 3) (.cons (.name 4) (.cons (.name 5) .nil)))) (fun s' => evSs ⟨fun _ _ => .fail, gv, 1000, io N⟩ b_law_rows_2 s') es s = .nx s' ∧ J6 (encP p) (ds ++ rowsL p ah ds.length) p [] s' := by
      refine loopFor_inv _ ?_
      rintro d r0 s ⟨acc, la, a3, a4, a5, a6, a7, r, rfl, hd, g1, g2⟩
      match r, hd, g1, g2 with
      | .mk w l ts :: r, hd, g1, g2 =>
        simp only [List.map_cons, List.cons.injEq] at hd
        obtain ⟨rfl, rfl⟩ := hd
        rw [rowsL, ← List.append_assoc] at g1
        have hlen2 := congrArg List.length g1
        simp only [List.length_append] at hlen2
        have hrs : rowS (.mk w l ts) la acc.length = .tuple [la, .str (wayS w), .str (letS l)] :: rowsT ts acc.length (acc.length + 1) := by rw [rowS]
        have hts : ∀ t ∈ ts, stL t < stL p := fun t ht => st_mem (g2 _ (by simp)) (s := .mk w l ts) ht
        obtain ⟨s', x1, acc', b9, r', rfl, x2, x3, _⟩ := inner (encP p) la (.str (wayS w)) (.str (letS l)) (.tuple (ts.map encP)) acc.length (acc ++ rowS (.mk w l ts) la acc.length) ts hts (by rw [List.length_append]; omega) (ts.map encP)
          [some (.sh (encP p)), some (.sh la), some (.ow (acc ++ [.tuple [la, .str (wayS w), .str (letS l)]])), some (.sh (.str (wayS w))), some (.sh (.str (letS l))), some (.sh (.tuple (ts.map encP))), some (.sh (.int acc.length)), a7]
          ⟨_, a7, ts, rfl, rfl, by rw [hrs, List.length_append, List.append_assoc]; simp, fun t ht => ht⟩
        have hr' : r' = [] := by cases r' with | nil => rfl | cons _ _ => cases x2
        subst hr'
        rw [rowsT, List.append_nil] at x3
        have hb' : bindT (.tup (.cons (.name 3) (.cons (.name 4) (.cons (.name 5) .nil)))) (encS (.mk w l ts)) [some (.sh (encP p)), some (.sh la), some (.ow acc), a3, a4, a5, a6, a7] = some [some (.sh (encP p)), some (.sh la), some (.ow acc), some (.sh (.str (wayS w))), some (.sh (.str (letS l))), some (.sh (.tuple (ts.map encP))), a6, a7] := by
          rw [encS_eq]; simp
        have hacc : acc.length < lim := by rw [hrs] at hlen2; simp only [List.length_cons] at hlen2; omega
        refine ⟨_, [some (.sh (encP p)), some (.sh (.int acc.length)), some (.ow acc'), some (.sh (.str (wayS w))), some (.sh (.str (letS l))), some (.sh (.tuple (ts.map encP))), some (.sh (.int acc.length)), b9], hb', ?_, ?_⟩
        · simp [b_law_rows_2, hacc, x1]
        · refine ⟨acc', _, _, _, _, _, _, r, rfl, rfl, ?_, fun t ht => g2 t (by simp [ht])⟩
          rw [x3, List.length_append]
          exact g1
    obtain ⟨s', x1, acc, la, b3, b4, b5, b6, b7, r', rfl, x2, x3, _⟩ := outer (p.map encS) [some (.sh (encP p)), some (.sh ah), some (.ow ds), none, none, none, none, none]
      ⟨ds, ah, none, none, none, none, none, p, rfl, rfl, rfl, fun s hs => hs⟩
    have hr' : r' = [] := by cases r' with | nil => rfl | cons _ _ => cases x2
    subst hr'
    rw [rowsL, List.append_nil] at x3
    subst x3
    rw [io]
    unfold ioF
    have hi : ∀ s, evI ⟨fun _ _ => .fail, gv, 1000, io N⟩ (.seq (.var 0)) (some (.sh (encP p)) :: s) = .ok (p.map encS) := fun s => by
      rw [encP_eq]; simp
    have : evS ⟨fun _ _ => .fail, gv, 1000, io N⟩ m_law_rows ([some (.sh (encP p)), some (.sh ah), some (.ow ds)] ++ List.replicate (N_law_rows.length - 3) none) = .nx [some (.sh (encP p)), some (.sh la), some (.ow (ds ++ rowsL p ah ds.length)), b3, b4, b5, b6, b7] := (for_ok (hi _)).trans x1
    rw [this]
    rfl
theorem r_numbered (N : Nat) (p : Pa) (h : stL p < N) (hb : stL p ≤ 1000) : rn (N + 1) 20 [encP p] = .ok (.tuple (rowsL p .none 0)) := by
  obtain ⟨la, e⟩ := r_rows_of N p .none 0 h hb
  have e3 : ∀ xs y, idxD (.tuple [xs, y]) (.int 0) = .ok xs := fun _ _ => rfl
  rw [rn_numbered]
  have e' : rn N 19 [encP p, .none, .int 0] = .ok (.tuple [.list (rowsL p .none 0), la]) := e
  simp [b_numbered, e', e3]
end Tf
namespace Tf
open PySem
/-! Tm9: the same found as due. -/
def pln : Nat → D → Prop
  | 0, _ => False
  | n + 1, d => match d with
    | .none => True
    | .bool _ => True
    | .int _ => True
    | .str _ => True
    | .tuple xs => xs.length ≤ 1000 ∧ ∀ x ∈ xs, pln n x
    | _ => False
theorem zip_self (xs : List D) : zipD xs xs = xs.map fun x => .tuple [x, x] := by
  induction xs with
  | nil => rfl
  | cons x xs ih => rw [zipD, ih]; rfl
theorem all_true {A : Type} (xs : List A) : (xs.map fun _ => true).all id = true := by
  induction xs with
  | nil => rfl
  | cons x xs ih => simp
theorem r_same : ∀ (n N : Nat) (d : D), pln n d → n ≤ N → rn N 6 [d, d] = .ok (.bool true)
  | 0, N, d, h, _ => h.elim
  | n + 1, N, d, h, hN => by
    have hlim : lim = 1000000 := rfl
    obtain ⟨N', rfl⟩ : ∃ n', N = n' + 1 := ⟨N - 1, by omega⟩
    rw [rn_law_same, b_law_same]
    cases d with
    | tuple xs =>
      obtain ⟨h1, h2⟩ := h
      refine res_of (ss_rt (d := .bool true) ?_) rfl
      refine (iff_t (d := .bool true) (by simp) rfl).trans ?_
      refine (ss_nx (s' := [some (.sh (.tuple xs)), some (.sh (.tuple xs)), none, none]) ?_).trans ?_
      · refine (iff_f (d := .bool false) ?_ rfl).trans (s_nil' _ _)
        rw [or_f (by simp)]
        simp
      refine ss_rt (ret_ok ?_)
      have hl : xs.length ≤ lim := by omega
      simp [evL, zip_self, hl]
      rw [compGo_enc (g := fun _ => .bool true)]
      · simp only [R.bind_ok, biD, boolsOf_enc, all_true]
      · intro x hx
        have := r_same n N' x (h2 x hx) (by omega)
        simp [this]
    | none =>
      refine res_of (ss_nx ((iff_f (d := .bool false) (by simp [isTy]) rfl).trans (s_nil' _ _))) ?_
      refine res_of (ss_rt (d := .bool true) ?_) rfl
      exact (iff_t (d := .bool true) (by simp [cmpD]) rfl).trans (ss_rt (ret_ok (by simp [cmpD])))
    | bool b =>
      refine res_of (ss_nx ((iff_f (d := .bool false) (by simp [isTy]) rfl).trans (s_nil' _ _))) ?_
      refine res_of (ss_nx ((iff_f (d := .bool false) (by simp [cmpD]) rfl).trans (s_nil' _ _))) ?_
      refine res_of (ss_rt (d := .bool true) ?_) rfl
      refine (iff_t (d := .bool true) (or_t (by simp [isTy])) rfl).trans (ss_rt (ret_ok ?_))
      rw [and_t (by simp [isTy]), and_t (by simp [isTy])]
      simp [cmpD, near, PyData.depth, PyData.eqv]
    | int i =>
      refine res_of (ss_nx ((iff_f (d := .bool false) (by simp [isTy]) rfl).trans (s_nil' _ _))) ?_
      refine res_of (ss_nx ((iff_f (d := .bool false) (by simp [cmpD]) rfl).trans (s_nil' _ _))) ?_
      refine res_of (ss_nx ((iff_f (d := .bool false) ((or_f (by simp [isTy])).trans (by simp [isTy])) rfl).trans (s_nil' _ _))) ?_
      refine res_of (ss_rt (ret_ok (d := .bool true) ?_)) rfl
      rw [and_t (by simp [isTy])]
      simp
    | str x =>
      refine res_of (ss_nx ((iff_f (d := .bool false) (by simp [isTy]) rfl).trans (s_nil' _ _))) ?_
      refine res_of (ss_nx ((iff_f (d := .bool false) (by simp [cmpD]) rfl).trans (s_nil' _ _))) ?_
      refine res_of (ss_nx ((iff_f (d := .bool false) ((or_f (by simp [isTy])).trans (by simp [isTy])) rfl).trans (s_nil' _ _))) ?_
      refine res_of (ss_rt (ret_ok (d := .bool true) ?_)) rfl
      rw [and_t (by simp [isTy])]
      simp [cmpD, near_str, eqv_str]
    | _ => exact h.elim
mutual
theorem rowS_pln : ∀ (s : St) (ah : D) (f : Nat), pln 1 ah → ∀ x ∈ rowS s ah f, pln 2 x
  | .mk w l ts, ah, f, h, x, hx => by
    rw [rowS, List.mem_cons] at hx
    rcases hx with rfl | hx
    · refine ⟨by simp, fun y hy => ?_⟩
      simp only [List.mem_cons, List.not_mem_nil, or_false] at hy
      rcases hy with rfl | rfl | rfl
      · exact h
      · trivial
      · trivial
    · exact rowsT_pln ts f (f + 1) x hx
theorem rowsL_pln : ∀ (p : List St) (ah : D) (f : Nat), pln 1 ah → ∀ x ∈ rowsL p ah f, pln 2 x
  | [], ah, f, _, x, hx => by rw [rowsL] at hx; cases hx
  | s :: r, ah, f, h, x, hx => by
    rw [rowsL, List.mem_append] at hx
    rcases hx with hx | hx
    · exact rowS_pln s ah f h x hx
    · exact rowsL_pln r (.int f) _ trivial x hx
theorem rowsT_pln : ∀ (p : List (List St)) (n f : Nat), ∀ x ∈ rowsT p n f, pln 2 x
  | [], n, f, x, hx => by rw [rowsT] at hx; cases hx
  | t :: r, n, f, x, hx => by
    rw [rowsT, List.mem_append] at hx
    rcases hx with hx | hx
    · exact rowsL_pln t (.int n) _ trivial x hx
    · exact rowsT_pln r _ _ x hx
end
end Tf
namespace Tf
open PySem L2
def top (i : Nat) : Stmt := PySem.Challenge.pw_treefinds_k02_paths.main.body.getD i (.Pass ⟨0, 0, 0, 0⟩)
def fnsL : List (Option Str) := [so "is_letter", none, none, none, none, so "_law_mix", so "_law_same", so "_law_tree", so "_law_path", so "_law_steps", so "_law_odd", none, none, none, none, so "is_step", so "is_any_path", so "steps_in", so "is_path", so "rows_of", so "numbered", so "_law_count", none, none, none, none, none, none, none, none, none, none, none, none, none, none, none, none, none, none, none, none, none, none, none, none, none, none, none, none, none, none, none, none, none, none, none, none, none, none, none, none, none, none, none, none, none, none, none, none, none, none, none, none, none, none, none, none, none, none, none, none, none, none, none, none, none, none, none, none, none, none, none, none, none, none, none, none, none, none, none, none, none]
def glsL : List (Option Str) := [none, none, so "WAYS", so "PATH_LETTERS", so "MOST_STEPS"]
def xcsL : List (Option Str) := [none, none]
def ck (N : List Str) : Ck := ⟨N, fnsL, glsL, xcsL, some "_law_rows"⟩
theorem sc_is_letter : FnScope N_is_letter P_is_letter (defScope (top 1)) := ⟨rfl, rfl, rfl, by decide +kernel, rfl, by decide +kernel, by decide +kernel⟩
theorem ch_is_letter : chkSs (ck N_is_letter) f_is_letter.body (defScope (top 1)) (fun _ => true) (defBody (top 1)) = true := by decide +kernel
theorem sc_is_step : FnScope N_is_step P_is_step (defScope (top 6)) := ⟨rfl, rfl, rfl, by decide +kernel, rfl, by decide +kernel, by decide +kernel⟩
theorem ch_is_step : chkSs (ck N_is_step) f_is_step.body (defScope (top 6)) (fun _ => true) (defBody (top 6)) = true := by decide +kernel
theorem sc_is_any_path : FnScope N_is_any_path P_is_any_path (defScope (top 7)) := ⟨rfl, rfl, rfl, by decide +kernel, rfl, by decide +kernel, by decide +kernel⟩
theorem ch_is_any_path : chkSs (ck N_is_any_path) f_is_any_path.body (defScope (top 7)) (fun _ => true) (defBody (top 7)) = true := by decide +kernel
theorem sc_steps_in : FnScope N_steps_in P_steps_in (defScope (top 8)) := ⟨rfl, rfl, rfl, by decide +kernel, rfl, by decide +kernel, by decide +kernel⟩
theorem ch_steps_in : chkSs (ck N_steps_in) f_steps_in.body (defScope (top 8)) (fun _ => true) (defBody (top 8)) = true := by decide +kernel
theorem sc_is_path : FnScope N_is_path P_is_path (defScope (top 9)) := ⟨rfl, rfl, rfl, by decide +kernel, rfl, by decide +kernel, by decide +kernel⟩
theorem ch_is_path : chkSs (ck N_is_path) f_is_path.body (defScope (top 9)) (fun _ => true) (defBody (top 9)) = true := by decide +kernel
theorem sc_rows_of : FnScope N_rows_of P_rows_of (defScope (top 10)) := ⟨rfl, rfl, rfl, by decide +kernel, rfl, by decide +kernel, by decide +kernel⟩
theorem ch_rows_of : chkSs (ck N_rows_of) f_rows_of.body (defScope (top 10)) (fun _ => true) (defBody (top 10)) = true := by decide +kernel
theorem sc_numbered : FnScope N_numbered P_numbered (defScope (top 11)) := ⟨rfl, rfl, rfl, by decide +kernel, rfl, by decide +kernel, by decide +kernel⟩
theorem ch_numbered : chkSs (ck N_numbered) f_numbered.body (defScope (top 11)) (fun _ => true) (defBody (top 11)) = true := by decide +kernel
theorem sc_law_cell : FnScope ["script", "k"] ["script", "k"] (defScope (top 13)) := ⟨rfl, rfl, rfl, by decide +kernel, rfl, by decide +kernel, by decide +kernel⟩
theorem sc_law_mix : FnScope N_law_mix P_law_mix (defScope (top 14)) := ⟨rfl, rfl, rfl, by decide +kernel, rfl, by decide +kernel, by decide +kernel⟩
theorem ch_law_mix : chkSs (ck N_law_mix) f_law_mix.body (defScope (top 14)) (fun _ => true) (defBody (top 14)) = true := by decide +kernel
theorem sc_law_same : FnScope N_law_same P_law_same (defScope (top 15)) := ⟨rfl, rfl, rfl, by decide +kernel, rfl, by decide +kernel, by decide +kernel⟩
theorem ch_law_same : chkSs (ck N_law_same) f_law_same.body (defScope (top 15)) (fun _ => true) (defBody (top 15)) = true := by decide +kernel
theorem sc_law_tree : FnScope N_law_tree P_law_tree (defScope (top 16)) := ⟨rfl, rfl, rfl, by decide +kernel, rfl, by decide +kernel, by decide +kernel⟩
theorem ch_law_tree : chkSs (ck N_law_tree) f_law_tree.body (defScope (top 16)) (fun _ => true) (defBody (top 16)) = true := by decide +kernel
theorem sc_law_path : FnScope N_law_path P_law_path (defScope (top 17)) := ⟨rfl, rfl, rfl, by decide +kernel, rfl, by decide +kernel, by decide +kernel⟩
theorem ch_law_path : chkSs (ck N_law_path) f_law_path.body (defScope (top 17)) (fun _ => true) (defBody (top 17)) = true := by decide +kernel
theorem sc_law_steps : FnScope N_law_steps P_law_steps (defScope (top 18)) := ⟨rfl, rfl, rfl, by decide +kernel, rfl, by decide +kernel, by decide +kernel⟩
theorem ch_law_steps : chkSs (ck N_law_steps) f_law_steps.body (defScope (top 18)) (fun _ => true) (defBody (top 18)) = true := by decide +kernel
theorem sc_law_odd : FnScope N_law_odd P_law_odd (defScope (top 19)) := ⟨rfl, rfl, rfl, by decide +kernel, rfl, by decide +kernel, by decide +kernel⟩
theorem ch_law_odd : chkSs (ck N_law_odd) f_law_odd.body (defScope (top 19)) (fun _ => true) (defBody (top 19)) = true := by decide +kernel
theorem sc_law_count_k02 : FnScope N_law_count_k02 P_law_count_k02 (defScope (top 20)) := ⟨rfl, rfl, rfl, by decide +kernel, rfl, by decide +kernel, by decide +kernel⟩
theorem ch_law_count_k02 : chkSs (ck N_law_count_k02) f_law_count_k02.body (defScope (top 20)) (fun _ => true) (defBody (top 20)) = true := by decide +kernel
theorem sc_law_rows : FnScope N_law_rows P_law_rows (defScope (top 21)) := ⟨rfl, rfl, rfl, by decide +kernel, rfl, by decide +kernel, by decide +kernel⟩
def N_law : List Str := ["script", "k", "test", "two", "seven", "eight", "cell", "path", "step", "some", "j", "thing", "told", "due"]
def P_law : List Str := ["script"]
def b_law_1 : Ss := (.cons (.app 9 (.call 10 (.cons (.var 7) (.cons (.bin .Add (.bin .Add (.cell 0 (.con (.int 9))) (.bin .Mult (.con (.int 17)) (.var 10))) (.bin .Mult (.con (.int 5)) (.var 1))) .nil))))
    .nil)
def b_law_2 : Ss := (.cons (.par 12 13 (.call 18 (.cons (.var 11) .nil)) (.cmp2 .Lt .Lt (.con (.int 0)) (.call 21 (.cons (.var 11) .nil)) (.con (.int 8))))
    (.cons (.iff (.or (.and (.cmp .IsNot (.var 12) (.con (.bool true))) (.var 13)) (.and (.cmp .IsNot (.var 12) (.con (.bool false))) (.not (.var 13)))) (.cons (.ret (.con (.bool false)))
    .nil) .nil)
    .nil))
def b_law_3 : Ss := (.cons (.set 6 (.bin .Add (.cell 0 (.bin .Mod (.var 1) (.con (.int 9)))) (.bin .Mult (.con (.int 31)) (.var 1))))
    (.cons (.set 7 (.call 8 (.cons (.var 6) (.cons (.bin .Add (.con (.int 1)) (.call 5 (.cons (.var 6) (.cons (.con (.int 9887)) (.cons (.con (.int 7)) .nil))))) .nil))))
    (.cons (.set 8 (.tup (.cons (.con (.str "in")) (.cons (.con (.str "b")) (.cons (.tup .nil) .nil)))))
    (.cons (.setL 9 (.disp (.cons (.var 7) (.cons (.lst (.ofs (.var 7))) (.cons (.bin .Add (.var 7) (.tup (.cons (.var 8) .nil))) (.cons (.bin .Mult (.tup (.cons (.var 8) .nil)) (.con (.int 4))) .nil))))))
    (.cons (.frz 9)
    (.cons (.setL 9 (.cat (.var 9) (.lst (.disp (.cons (.tup (.cons (.tup (.cons (.con (.str "in")) (.cons (.con (.str "b")) (.cons (.bin .Mult (.tup (.cons (.tup (.cons (.var 8) .nil)) .nil)) (.con (.int 3))) .nil)))) .nil)) (.cons (.tup (.cons (.tup (.cons (.con (.str "in")) (.cons (.con (.str "b")) (.cons (.tup (.cons (.var 8) .nil)) .nil)))) .nil)) (.cons (.tup (.cons (.con (.str "in")) (.cons (.con (.str "b")) (.cons (.tup .nil) .nil)))) .nil)))))))
    (.cons (.frz 9)
    (.cons (.setL 9 (.cat (.var 9) (.lst (.disp (.cons (.tup (.cons (.tup (.cons (.con (.str "in")) (.cons (.con (.str "b")) (.cons (.tup (.cons (.var 7) .nil)) .nil)))) .nil)) (.cons (.tup (.cons (.tup (.cons (.con (.str "in")) (.cons (.con (.str "d")) (.cons (.tup .nil) .nil)))) .nil)) (.cons (.tup (.cons (.tup (.cons (.con (.str "on")) (.cons (.con (.str "a")) (.cons (.tup .nil) .nil)))) .nil)) (.cons (.tup (.cons (.tup (.cons (.con (.str "in")) (.cons (.con (.str "a")) (.cons (.lst (.disp (.cons (.var 7) .nil))) .nil)))) .nil)) .nil))))))))
    (.cons (.frz 9)
    (.cons (.setL 9 (.cat (.var 9) (.lst (.disp (.cons (.tup .nil) (.cons (.con .none) (.cons (.slc (.var 7) .no (.yes (.con (.int 1)))) .nil)))))))
    (.cons (.for_ (.name 10) (.rng1 (.con (.int 20))) b_law_1)
    (.cons (.frz 9)
    (.cons (.for_ (.name 11) (.seq (.var 9)) b_law_2)
    (.cons (.iff (.not (.call 6 (.cons (.tup (.cons (.call 17 (.cons (.var 7) .nil)) (.cons (.call 20 (.cons (.var 7) .nil)) .nil))) (.cons (.tup (.cons (.call 21 (.cons (.var 7) .nil)) (.cons (.rows (.var 7) (.con .none)) .nil))) .nil)))) (.cons (.ret (.con (.bool false)))
    .nil) .nil)
    .nil))))))))))))))
def b_law : Ss := (.cons (.for_ (.name 1) (.rng1 (.con (.int 10))) b_law_3)
    (.cons (.set 2 (.tup (.cons (.tup (.cons (.con (.str "in")) (.cons (.con (.str "a")) (.cons (.tup .nil) .nil)))) .nil)))
    (.cons (.set 3 (.tup (.cons (.tup (.cons (.con (.str "deep")) (.cons (.con (.str "b")) (.cons (.tup .nil) .nil)))) (.cons (.tup (.cons (.con (.str "in")) (.cons (.con (.str "c")) (.cons (.tup .nil) .nil)))) .nil))))
    (.cons (.set 4 (.tup (.cons (.tup (.cons (.con (.str "in")) (.cons (.con (.str "a")) (.cons (.tup (.cons (.var 3) (.cons (.var 2) .nil))) .nil)))) (.cons (.tup (.cons (.con (.str "in")) (.cons (.con (.str "b")) (.cons (.tup (.cons (.var 2) .nil)) .nil)))) (.cons (.tup (.cons (.con (.str "in")) (.cons (.con (.str "c")) (.cons (.tup .nil) .nil)))) .nil)))))
    (.cons (.set 5 (.bin .Add (.slc (.var 4) .no (.yes (.con (.int 2)))) (.tup (.cons (.tup (.cons (.con (.str "in")) (.cons (.con (.str "c")) (.cons (.tup (.cons (.var 2) .nil)) .nil)))) .nil))))
    (.cons (.ret (.and (.cmp .Is (.call 18 (.cons (.var 4) .nil)) (.con (.bool true))) (.and (.cmp .Is (.call 18 (.cons (.var 5) .nil)) (.con (.bool false))) (.cmp .Eq (.call 17 (.cons (.var 5) .nil)) (.con (.int 8))))))
    .nil))))))
def f_law : Fn := ⟨1, 14, b_law⟩
theorem sc_law : FnScope N_law P_law (defScope (top 22)) := ⟨rfl, rfl, rfl, by decide +kernel, rfl, by decide +kernel, by decide +kernel⟩
theorem ch_law : chkSs (ck N_law) f_law.body (defScope (top 22)) (fun _ => true) (defBody (top 22)) = true := by decide +kernel
end Tf
namespace Tf
open PySem L2
theorem all_mk {l : PySem.W.OpenLaw} {w : World} {K : PySem.W.Frag} {h : Heap} {mg : Str → Option Value} {fa : Addr} (X : K.In h) (G : h.Ns mainGlobals mg) (hfa : mg "law" = some (.ref fa))
    (law_run : ∀ ns : List Int, ns.length ≤ 63 → (evSs (Cn LV) f_law.body (start0 f_law [some (.scr ns)])).res = .ok (.bool true))
    {f0 : Addr} {od0 an0 : Option Addr} {sl0 : Array (Option Value)} {oc0 kV0 dc0 pm0 cd0 ct0 : Value}
    (a0 : PySem.W.nsIn K mainGlobals "is_letter" = some (some (.ref f0))) (l0 : K.lookup f0 = some ⟨oc0, od0, .func (PySem.W.fnOf "is_letter" "is_letter" (defArgs (top 1)) (defBody (top 1)) (defScope (top 1)) .none kV0 dc0 pm0 an0 cd0 ct0), sl0⟩) (c0 : PySem.W.codeIn K cd0 "is_letter" = true) (k0 : PySem.W.keepIn K (.ref f0) = true)
    {f1 : Addr} {od1 an1 : Option Addr} {sl1 : Array (Option Value)} {oc1 kV1 dc1 pm1 cd1 ct1 : Value}
    (a1 : PySem.W.nsIn K mainGlobals "is_step" = some (some (.ref f1))) (l1 : K.lookup f1 = some ⟨oc1, od1, .func (PySem.W.fnOf "is_step" "is_step" (defArgs (top 6)) (defBody (top 6)) (defScope (top 6)) .none kV1 dc1 pm1 an1 cd1 ct1), sl1⟩) (c1 : PySem.W.codeIn K cd1 "is_step" = true) (k1 : PySem.W.keepIn K (.ref f1) = true)
    {f2 : Addr} {od2 an2 : Option Addr} {sl2 : Array (Option Value)} {oc2 kV2 dc2 pm2 cd2 ct2 : Value}
    (a2 : PySem.W.nsIn K mainGlobals "is_any_path" = some (some (.ref f2))) (l2 : K.lookup f2 = some ⟨oc2, od2, .func (PySem.W.fnOf "is_any_path" "is_any_path" (defArgs (top 7)) (defBody (top 7)) (defScope (top 7)) .none kV2 dc2 pm2 an2 cd2 ct2), sl2⟩) (c2 : PySem.W.codeIn K cd2 "is_any_path" = true) (k2 : PySem.W.keepIn K (.ref f2) = true)
    {f3 : Addr} {od3 an3 : Option Addr} {sl3 : Array (Option Value)} {oc3 kV3 dc3 pm3 cd3 ct3 : Value}
    (a3 : PySem.W.nsIn K mainGlobals "steps_in" = some (some (.ref f3))) (l3 : K.lookup f3 = some ⟨oc3, od3, .func (PySem.W.fnOf "steps_in" "steps_in" (defArgs (top 8)) (defBody (top 8)) (defScope (top 8)) .none kV3 dc3 pm3 an3 cd3 ct3), sl3⟩) (c3 : PySem.W.codeIn K cd3 "steps_in" = true) (k3 : PySem.W.keepIn K (.ref f3) = true)
    {f4 : Addr} {od4 an4 : Option Addr} {sl4 : Array (Option Value)} {oc4 kV4 dc4 pm4 cd4 ct4 : Value}
    (a4 : PySem.W.nsIn K mainGlobals "is_path" = some (some (.ref f4))) (l4 : K.lookup f4 = some ⟨oc4, od4, .func (PySem.W.fnOf "is_path" "is_path" (defArgs (top 9)) (defBody (top 9)) (defScope (top 9)) .none kV4 dc4 pm4 an4 cd4 ct4), sl4⟩) (c4 : PySem.W.codeIn K cd4 "is_path" = true) (k4 : PySem.W.keepIn K (.ref f4) = true)
    {f5 : Addr} {od5 an5 : Option Addr} {sl5 : Array (Option Value)} {oc5 kV5 dc5 pm5 cd5 ct5 : Value}
    (a5 : PySem.W.nsIn K mainGlobals "rows_of" = some (some (.ref f5))) (l5 : K.lookup f5 = some ⟨oc5, od5, .func (PySem.W.fnOf "rows_of" "rows_of" (defArgs (top 10)) (defBody (top 10)) (defScope (top 10)) .none kV5 dc5 pm5 an5 cd5 ct5), sl5⟩) (c5 : PySem.W.codeIn K cd5 "rows_of" = true) (k5 : PySem.W.keepIn K (.ref f5) = true)
    {f6 : Addr} {od6 an6 : Option Addr} {sl6 : Array (Option Value)} {oc6 kV6 dc6 pm6 cd6 ct6 : Value}
    (a6 : PySem.W.nsIn K mainGlobals "numbered" = some (some (.ref f6))) (l6 : K.lookup f6 = some ⟨oc6, od6, .func (PySem.W.fnOf "numbered" "numbered" (defArgs (top 11)) (defBody (top 11)) (defScope (top 11)) .none kV6 dc6 pm6 an6 cd6 ct6), sl6⟩) (c6 : PySem.W.codeIn K cd6 "numbered" = true) (k6 : PySem.W.keepIn K (.ref f6) = true)
    {f7 : Addr} {od7 an7 : Option Addr} {sl7 : Array (Option Value)} {oc7 kV7 dc7 pm7 cd7 ct7 : Value}
    (a7 : PySem.W.nsIn K mainGlobals "_law_cell" = some (some (.ref f7))) (l7 : K.lookup f7 = some ⟨oc7, od7, .func (PySem.W.fnOf "_law_cell" "_law_cell" (defArgs (top 13)) (defBody (top 13)) (defScope (top 13)) .none kV7 dc7 pm7 an7 cd7 ct7), sl7⟩) (c7 : PySem.W.codeIn K cd7 "_law_cell" = true) (k7 : PySem.W.keepIn K (.ref f7) = true)
    {f8 : Addr} {od8 an8 : Option Addr} {sl8 : Array (Option Value)} {oc8 kV8 dc8 pm8 cd8 ct8 : Value}
    (a8 : PySem.W.nsIn K mainGlobals "_law_mix" = some (some (.ref f8))) (l8 : K.lookup f8 = some ⟨oc8, od8, .func (PySem.W.fnOf "_law_mix" "_law_mix" (defArgs (top 14)) (defBody (top 14)) (defScope (top 14)) .none kV8 dc8 pm8 an8 cd8 ct8), sl8⟩) (c8 : PySem.W.codeIn K cd8 "_law_mix" = true) (k8 : PySem.W.keepIn K (.ref f8) = true)
    {f9 : Addr} {od9 an9 : Option Addr} {sl9 : Array (Option Value)} {oc9 kV9 dc9 pm9 cd9 ct9 : Value}
    (a9 : PySem.W.nsIn K mainGlobals "_law_same" = some (some (.ref f9))) (l9 : K.lookup f9 = some ⟨oc9, od9, .func (PySem.W.fnOf "_law_same" "_law_same" (defArgs (top 15)) (defBody (top 15)) (defScope (top 15)) .none kV9 dc9 pm9 an9 cd9 ct9), sl9⟩) (c9 : PySem.W.codeIn K cd9 "_law_same" = true) (k9 : PySem.W.keepIn K (.ref f9) = true)
    {f10 : Addr} {od10 an10 : Option Addr} {sl10 : Array (Option Value)} {oc10 kV10 dc10 pm10 cd10 ct10 : Value}
    (a10 : PySem.W.nsIn K mainGlobals "_law_tree" = some (some (.ref f10))) (l10 : K.lookup f10 = some ⟨oc10, od10, .func (PySem.W.fnOf "_law_tree" "_law_tree" (defArgs (top 16)) (defBody (top 16)) (defScope (top 16)) .none kV10 dc10 pm10 an10 cd10 ct10), sl10⟩) (c10 : PySem.W.codeIn K cd10 "_law_tree" = true) (k10 : PySem.W.keepIn K (.ref f10) = true)
    {f11 : Addr} {od11 an11 : Option Addr} {sl11 : Array (Option Value)} {oc11 kV11 dc11 pm11 cd11 ct11 : Value}
    (a11 : PySem.W.nsIn K mainGlobals "_law_path" = some (some (.ref f11))) (l11 : K.lookup f11 = some ⟨oc11, od11, .func (PySem.W.fnOf "_law_path" "_law_path" (defArgs (top 17)) (defBody (top 17)) (defScope (top 17)) .none kV11 dc11 pm11 an11 cd11 ct11), sl11⟩) (c11 : PySem.W.codeIn K cd11 "_law_path" = true) (k11 : PySem.W.keepIn K (.ref f11) = true)
    {f12 : Addr} {od12 an12 : Option Addr} {sl12 : Array (Option Value)} {oc12 kV12 dc12 pm12 cd12 ct12 : Value}
    (a12 : PySem.W.nsIn K mainGlobals "_law_steps" = some (some (.ref f12))) (l12 : K.lookup f12 = some ⟨oc12, od12, .func (PySem.W.fnOf "_law_steps" "_law_steps" (defArgs (top 18)) (defBody (top 18)) (defScope (top 18)) .none kV12 dc12 pm12 an12 cd12 ct12), sl12⟩) (c12 : PySem.W.codeIn K cd12 "_law_steps" = true) (k12 : PySem.W.keepIn K (.ref f12) = true)
    {f13 : Addr} {od13 an13 : Option Addr} {sl13 : Array (Option Value)} {oc13 kV13 dc13 pm13 cd13 ct13 : Value}
    (a13 : PySem.W.nsIn K mainGlobals "_law_odd" = some (some (.ref f13))) (l13 : K.lookup f13 = some ⟨oc13, od13, .func (PySem.W.fnOf "_law_odd" "_law_odd" (defArgs (top 19)) (defBody (top 19)) (defScope (top 19)) .none kV13 dc13 pm13 an13 cd13 ct13), sl13⟩) (c13 : PySem.W.codeIn K cd13 "_law_odd" = true) (k13 : PySem.W.keepIn K (.ref f13) = true)
    {f14 : Addr} {od14 an14 : Option Addr} {sl14 : Array (Option Value)} {oc14 kV14 dc14 pm14 cd14 ct14 : Value}
    (a14 : PySem.W.nsIn K mainGlobals "_law_count" = some (some (.ref f14))) (l14 : K.lookup f14 = some ⟨oc14, od14, .func (PySem.W.fnOf "_law_count" "_law_count" (defArgs (top 20)) (defBody (top 20)) (defScope (top 20)) .none kV14 dc14 pm14 an14 cd14 ct14), sl14⟩) (c14 : PySem.W.codeIn K cd14 "_law_count" = true) (k14 : PySem.W.keepIn K (.ref f14) = true)
    {f15 : Addr} {od15 an15 : Option Addr} {sl15 : Array (Option Value)} {oc15 kV15 dc15 pm15 cd15 ct15 : Value}
    (a15 : PySem.W.nsIn K mainGlobals "_law_rows" = some (some (.ref f15))) (l15 : K.lookup f15 = some ⟨oc15, od15, .func (PySem.W.fnOf "_law_rows" "_law_rows" (defArgs (top 21)) (defBody (top 21)) (defScope (top 21)) .none kV15 dc15 pm15 an15 cd15 ct15), sl15⟩) (c15 : PySem.W.codeIn K cd15 "_law_rows" = true) (k15 : PySem.W.keepIn K (.ref f15) = true)
    {f16 : Addr} {od16 an16 : Option Addr} {sl16 : Array (Option Value)} {oc16 kV16 dc16 pm16 cd16 ct16 : Value}
    (a16 : PySem.W.nsIn K mainGlobals "law" = some (some (.ref f16))) (l16 : K.lookup f16 = some ⟨oc16, od16, .func (PySem.W.fnOf "law" "law" (defArgs (top 22)) (defBody (top 22)) (defScope (top 22)) .none kV16 dc16 pm16 an16 cd16 ct16), sl16⟩) (c16 : PySem.W.codeIn K cd16 "law" = true) (k16 : PySem.W.keepIn K (.ref f16) = true)
    {ga2 : Addr} {gt2_0 gt2_1 : Tok} {gn2 : Nat} {gd2 : Option Addr} {gs2 : Array (Option Value)} (g2 : PySem.W.nsIn K mainGlobals "WAYS" = some (some (.ref ga2))) (h2 : K.lookup ga2 = some ⟨.type "tuple", gd2, .seq #[.str "in" gt2_0, .str "deep" gt2_1] gn2, gs2⟩)
    {gt3 : Tok} (g3 : PySem.W.nsIn K mainGlobals "PATH_LETTERS" = some (some (.str "abc" gt3)))
    {gt4 : Tok} (g4 : PySem.W.nsIn K mainGlobals "MOST_STEPS" = some (some (.int 7 gt4)))
    (z0 : PySem.W.nsIn K mainGlobals "len" = some none)
    (z1 : PySem.W.nsIn K mainGlobals "all" = some none)
    (z2 : PySem.W.nsIn K mainGlobals "any" = some none)
    (z3 : PySem.W.nsIn K mainGlobals "sum" = some none)
    (z4 : PySem.W.nsIn K mainGlobals "tuple" = some none)
    (z5 : PySem.W.nsIn K mainGlobals "int" = some none)
    (z6 : PySem.W.nsIn K mainGlobals "min" = some none)
    (z7 : PySem.W.nsIn K mainGlobals "list" = some none)
    (z8 : PySem.W.nsIn K mainGlobals "isinstance" = some none)
    (z9 : PySem.W.nsIn K mainGlobals "str" = some none)
    (z10 : PySem.W.nsIn K mainGlobals "bool" = some none)
    (z11 : PySem.W.nsIn K mainGlobals "range" = some none)
    (z12 : PySem.W.nsIn K mainGlobals "enumerate" = some none)
    (z13 : PySem.W.nsIn K mainGlobals "zip" = some none)
    (z14 : PySem.W.nsIn K mainGlobals "sorted" = some none)
    (z15 : PySem.W.nsIn K mainGlobals "set" = some none)
    : ∃ fd : FuncData, (∀ (s : Shared) (v : Value), BindsTo s fd ⟨[v], []⟩ [("script", v)]) ∧ ∀ base : Heap, K.In base → base.Ns mainGlobals mg → FnOk l.prog w K mg base (L2.CX l.prog w) (LV + 2) fa fd ["script"] (spLaw K) := by
  have e := hfa.symm.trans (PySem.W.mg_of X G a16)
  cases e
  have FL := fun_mk (st := top 22) l16 c16 k16
  refine ⟨PySem.W.fnOf "law" "law" (defArgs (top 22)) (defBody (top 22)) (defScope (top 22)) .none kV16 dc16 pm16 an16 cd16 ct16, fun s v => .of_eq rfl, fun base _ _ => ?_⟩
  have D0 : DefAt K mg "is_letter" (top 1) P_is_letter := defAt_mk X G a0 l0 c0 k0 fun _ _ _ _ _ _ us hl => match us, hl with | [_, _], _ => rfl
  have D1 : DefAt K mg "is_step" (top 6) P_is_step := defAt_mk X G a1 l1 c1 k1 fun _ _ _ _ _ _ us hl => match us, hl with | [_], _ => rfl
  have D2 : DefAt K mg "is_any_path" (top 7) P_is_any_path := defAt_mk X G a2 l2 c2 k2 fun _ _ _ _ _ _ us hl => match us, hl with | [_], _ => rfl
  have D3 : DefAt K mg "steps_in" (top 8) P_steps_in := defAt_mk X G a3 l3 c3 k3 fun _ _ _ _ _ _ us hl => match us, hl with | [_], _ => rfl
  have D4 : DefAt K mg "is_path" (top 9) P_is_path := defAt_mk X G a4 l4 c4 k4 fun _ _ _ _ _ _ us hl => match us, hl with | [_], _ => rfl
  have D5 : DefAt K mg "rows_of" (top 10) P_rows_of := defAt_mk X G a5 l5 c5 k5 fun _ _ _ _ _ _ us hl => match us, hl with | [_, _, _], _ => rfl
  have D6 : DefAt K mg "numbered" (top 11) P_numbered := defAt_mk X G a6 l6 c6 k6 fun _ _ _ _ _ _ us hl => match us, hl with | [_], _ => rfl
  have D8 : DefAt K mg "_law_mix" (top 14) P_law_mix := defAt_mk X G a8 l8 c8 k8 fun _ _ _ _ _ _ us hl => match us, hl with | [_, _, _], _ => rfl
  have D9 : DefAt K mg "_law_same" (top 15) P_law_same := defAt_mk X G a9 l9 c9 k9 fun _ _ _ _ _ _ us hl => match us, hl with | [_, _], _ => rfl
  have D10 : DefAt K mg "_law_tree" (top 16) P_law_tree := defAt_mk X G a10 l10 c10 k10 fun _ _ _ _ _ _ us hl => match us, hl with | [_, _], _ => rfl
  have D11 : DefAt K mg "_law_path" (top 17) P_law_path := defAt_mk X G a11 l11 c11 k11 fun _ _ _ _ _ _ us hl => match us, hl with | [_, _], _ => rfl
  have D12 : DefAt K mg "_law_steps" (top 18) P_law_steps := defAt_mk X G a12 l12 c12 k12 fun _ _ _ _ _ _ us hl => match us, hl with | [_], _ => rfl
  have D13 : DefAt K mg "_law_odd" (top 19) P_law_odd := defAt_mk X G a13 l13 c13 k13 fun _ _ _ _ _ _ us hl => match us, hl with | [_, _], _ => rfl
  have D14 : DefAt K mg "_law_count" (top 20) P_law_count_k02 := defAt_mk X G a14 l14 c14 k14 fun _ _ _ _ _ _ us hl => match us, hl with | [_], _ => rfl
  have D15 : DefAt K mg "_law_rows" (top 21) P_law_rows := defAt_mk X G a15 l15 c15 k15 fun _ _ _ _ _ _ us hl => match us, hl with | [_, _, _], _ => rfl
  have hb : ∀ x ∈ bnames, mg x = none := by
    intro x hx
    simp only [bnames, List.mem_cons, List.not_mem_nil, or_false] at hx
    rcases hx with rfl | rfl | rfl | rfl | rfl | rfl | rfl | rfl | rfl | rfl | rfl | rfl | rfl | rfl | rfl | rfl
    · exact PySem.W.mg_none_of X G z0
    · exact PySem.W.mg_none_of X G z1
    · exact PySem.W.mg_none_of X G z2
    · exact PySem.W.mg_none_of X G z3
    · exact PySem.W.mg_none_of X G z4
    · exact PySem.W.mg_none_of X G z5
    · exact PySem.W.mg_none_of X G z6
    · exact PySem.W.mg_none_of X G z7
    · exact PySem.W.mg_none_of X G z8
    · exact PySem.W.mg_none_of X G z9
    · exact PySem.W.mg_none_of X G z10
    · exact PySem.W.mg_none_of X G z11
    · exact PySem.W.mg_none_of X G z12
    · exact PySem.W.mg_none_of X G z13
    · exact PySem.W.mg_none_of X G z14
    · exact PySem.W.mg_none_of X G z15
  have hc : ∃ a fd ps, FnOk l.prog w K mg base (L2.CX l.prog w) 1 a fd ps (spCell K) ∧ mg "_law_cell" = some (.ref a) ∧ PySem.W.keepIn K (.ref a) = true ∧ Binds K fd ps [] :=
    have FC := fun_mk (st := top 13) l7 c7 k7
    ⟨f7, _, _, cell_ok FC sc_law_cell (hb _ (by decide)) rfl (.inl rfl) (.inl rfl) rfl, PySem.W.mg_of X G a7, k7, FC.binds (ps := ["script", "k"]) fun _ _ _ _ _ _ us hl => match us, hl with | [_, _], _ => rfl⟩
  have ent : ∀ (f : Nat) (x : Str), (ck []).fns[f]? = some (some x) → EntOk (ck []) (fun n => ([.none, .none] : List Value).getD n .none) tbl gv io l.prog w K mg base f x := by
    intro f x e
    match f, e with
    | 0, e => cases e; exact .inl ⟨f_is_letter, top 1, N_is_letter, P_is_letter, rfl, D0, sc_is_letter, rfl, rfl, ch_is_letter⟩
    | 1, e => cases e
    | 2, e => cases e
    | 3, e => cases e
    | 4, e => cases e
    | 5, e => cases e; exact .inl ⟨f_law_mix, top 14, N_law_mix, P_law_mix, rfl, D8, sc_law_mix, rfl, rfl, ch_law_mix⟩
    | 6, e => cases e; exact .inl ⟨f_law_same, top 15, N_law_same, P_law_same, rfl, D9, sc_law_same, rfl, rfl, ch_law_same⟩
    | 7, e => cases e; exact .inl ⟨f_law_tree, top 16, N_law_tree, P_law_tree, rfl, D10, sc_law_tree, rfl, rfl, ch_law_tree⟩
    | 8, e => cases e; exact .inl ⟨f_law_path, top 17, N_law_path, P_law_path, rfl, D11, sc_law_path, rfl, rfl, ch_law_path⟩
    | 9, e => cases e; exact .inl ⟨f_law_steps, top 18, N_law_steps, P_law_steps, rfl, D12, sc_law_steps, rfl, rfl, ch_law_steps⟩
    | 10, e => cases e; exact .inl ⟨f_law_odd, top 19, N_law_odd, P_law_odd, rfl, D13, sc_law_odd, rfl, rfl, ch_law_odd⟩
    | 11, e => cases e
    | 12, e => cases e
    | 13, e => cases e
    | 14, e => cases e
    | 15, e => cases e; exact .inl ⟨f_is_step, top 6, N_is_step, P_is_step, rfl, D1, sc_is_step, rfl, rfl, ch_is_step⟩
    | 16, e => cases e; exact .inl ⟨f_is_any_path, top 7, N_is_any_path, P_is_any_path, rfl, D2, sc_is_any_path, rfl, rfl, ch_is_any_path⟩
    | 17, e => cases e; exact .inl ⟨f_steps_in, top 8, N_steps_in, P_steps_in, rfl, D3, sc_steps_in, rfl, rfl, ch_steps_in⟩
    | 18, e => cases e; exact .inl ⟨f_is_path, top 9, N_is_path, P_is_path, rfl, D4, sc_is_path, rfl, rfl, ch_is_path⟩
    | 19, e => cases e; exact .inl ⟨f_rows_of, top 10, N_rows_of, P_rows_of, rfl, D5, sc_rows_of, rfl, rfl, ch_rows_of⟩
    | 20, e => cases e; exact .inl ⟨f_numbered, top 11, N_numbered, P_numbered, rfl, D6, sc_numbered, rfl, rfl, ch_numbered⟩
    | 21, e => cases e; exact .inl ⟨f_law_count_k02, top 20, N_law_count_k02, P_law_count_k02, rfl, D14, sc_law_count_k02, rfl, rfl, ch_law_count_k02⟩
    | 22, e => cases e
    | 23, e => cases e
    | 24, e => cases e
    | 25, e => cases e
    | 26, e => cases e
    | 27, e => cases e
    | 28, e => cases e
    | 29, e => cases e
    | 30, e => cases e
    | 31, e => cases e
    | 32, e => cases e
    | 33, e => cases e
    | 34, e => cases e
    | 35, e => cases e
    | 36, e => cases e
    | 37, e => cases e
    | 38, e => cases e
    | 39, e => cases e
    | 40, e => cases e
    | 41, e => cases e
    | 42, e => cases e
    | 43, e => cases e
    | 44, e => cases e
    | 45, e => cases e
    | 46, e => cases e
    | 47, e => cases e
    | 48, e => cases e
    | 49, e => cases e
    | 50, e => cases e
    | 51, e => cases e
    | 52, e => cases e
    | 53, e => cases e
    | 54, e => cases e
    | 55, e => cases e
    | 56, e => cases e
    | 57, e => cases e
    | 58, e => cases e
    | 59, e => cases e
    | 60, e => cases e
    | 61, e => cases e
    | 62, e => cases e
    | 63, e => cases e
    | 64, e => cases e
    | 65, e => cases e
    | 66, e => cases e
    | 67, e => cases e
    | 68, e => cases e
    | 69, e => cases e
    | 70, e => cases e
    | 71, e => cases e
    | 72, e => cases e
    | 73, e => cases e
    | 74, e => cases e
    | 75, e => cases e
    | 76, e => cases e
    | 77, e => cases e
    | 78, e => cases e
    | 79, e => cases e
    | 80, e => cases e
    | 81, e => cases e
    | 82, e => cases e
    | 83, e => cases e
    | 84, e => cases e
    | 85, e => cases e
    | 86, e => cases e
    | 87, e => cases e
    | 88, e => cases e
    | 89, e => cases e
    | 90, e => cases e
    | 91, e => cases e
    | 92, e => cases e
    | 93, e => cases e
    | 94, e => cases e
    | 95, e => cases e
    | 96, e => cases e
    | 97, e => cases e
    | 98, e => cases e
    | 99, e => cases e
    | 100, e => cases e
    | 101, e => cases e
    | 102, e => cases e
    | n + 103, e => cases e
  have hg : ∀ (g : Nat) (x : Str) (d : D), (ck []).gls[g]? = some (some x) → gv g = some d → ∃ u v, mg x = some u ∧ RelV v u ∧ Rep K (fun _ => none) v d := by
    intro g x d e1 e2
    match g, e1, e2 with
    | 0, e1, e2 => cases e1
    | 1, e1, e2 => cases e1
    | 2, e1, e2 => cases e1; cases e2; exact ⟨_, .ref ga2, PySem.W.mg_of X G g2, rfl, .tup (xs := [.str "in", .str "deep"]) (.inr ⟨_, _, _, h2, rfl, rfl, (by show 2 ≤ sizeLine; decide), (.cons ⟨_, rfl⟩ (.cons ⟨_, rfl⟩ .nil))⟩) (.cons (.str "in" (asc_by (by decide +kernel))) (.cons (.str "deep" (asc_by (by decide +kernel))) .nil))⟩
    | 3, e1, e2 => cases e1; cases e2; exact ⟨_, .str "abc", PySem.W.mg_of X G g3, ⟨_, rfl⟩, .str _ (asc_by (by decide +kernel))⟩
    | 4, e1, e2 => cases e1; cases e2; exact ⟨_, .int 7, PySem.W.mg_of X G g4, ⟨_, rfl⟩, .int _⟩
    | n + 5, e1, e2 => cases e1
  have hx : ∀ (n : Nat) (x : Str), (ck []).xcs[n]? = some (some x) → ∃ a, (fun n => ([.none, .none] : List Value).getD n .none) n = .ref a ∧ mg x = some (.ref a) ∧ PySem.W.excIn K a [.type "ValueError", .type "Exception", .type "BaseException", .type "object"] "ValueError.__new__" = true ∧
      PySem.W.keepIn K (.ref a) = true ∧ PySem.W.subIn K (.ref a) (.type "BaseException") = some true ∧ PySem.W.typeIn K (.ref a) = some (.type "type") := by
    intro n x e
    match n, e with
    | 0, e => cases e
    | 1, e => cases e
    | n + 2, e => cases e
  have hi : ∀ x, (ck []).io = some x → IoOk (ck []) tbl gv io K mg x := by
    intro x e
    cases e
    exact ⟨fun _ _ _ => rfl, m_law_rows, top 21, N_law_rows, P_law_rows, _, _, _, D15, sc_law_rows, rfl, by decide, rfl, rfl, by decide +kernel, by decide +kernel, fun n x y ds es q => io_any n _ x y ds es q⟩
  have amb := amb_all (c := ck []) (xv := (fun n => ([.none, .none] : List Value).getD n .none)) (tbl := tbl) (gv := gv) (io := io) (P := l.prog) (w := w) (base := base) ent hg hb hx hc hi LV
  exact law_ok FL sc_law amb f_law rfl rfl rfl ch_law law_run
end Tf
namespace Tf
open PySem
/-! K02l: the law of the paths. -/
theorem fit_at {n m : Nat} {k : Nat} {d : D} (h : fit k n d) (hk : k ≤ 22) (hm : n ≤ m) : fit 22 m d := fit_mono hk hm h
theorem one_thing (a0 a1 a2 a3 a4 a5 a6 a7 a8 a9 a10 a12 a13 : Option Sl) (d : D) (hf : fit 22 30 d) : ∃ b12 b13, evSs (Cn 150) b_law_2 [a0, a1, a2, a3, a4, a5, a6, a7, a8, a9, a10, some (.sh d), a12, a13] = .nx [a0, a1, a2, a3, a4, a5, a6, a7, a8, a9, a10, some (.sh d), b12, b13] := by
  have e1 := r_is_path 150 30 30 22 d hf (by omega) (by omega) (by omega) (by omega)
  have e2 := r_count 30 150 30 22 d hf (by omega) (by omega) (by omega) (by omega)
  generalize hc : decide (0 < cnt 30 d ∧ cnt 30 d < 8) = b at e1
  have e3 : ∀ s : Sd, s[11]? = some (some (.sh d)) → ev (Cn 150) (.cmp2 .Lt .Lt (.con (.int 0)) (.call 21 (.cons (.var 11) .nil)) (.con (.int 8))) s = .ok (.bool b) := by
    intro s hs
    by_cases h0 : 0 < cnt 30 d
    · by_cases h8 : cnt 30 d < 8
      · have : b = true := by rw [← hc]; exact decide_eq_true ⟨h0, h8⟩
        subst this
        have h8' : (cnt 30 d : Int) < 8 := by omega
        simp [hs, e2, h0, h8']
      · have : b = false := by rw [← hc]; exact decide_eq_false fun z => h8 z.2
        subst this
        have h8' : ¬ (cnt 30 d : Int) < 8 := by omega
        simp [hs, e2, h0, h8']
    · have : b = false := by rw [← hc]; exact decide_eq_false fun z => h0 z.1
      subst this
      simp [hs, e2, h0]
  refine ⟨some (.sh (.bool b)), some (.sh (.bool b)), ?_⟩
  rw [b_law_2]
  have e4 : ev (Cn 150) (.call 18 (.cons (.var 11) .nil)) [a0, a1, a2, a3, a4, a5, a6, a7, a8, a9, a10, some (.sh d), a12, a13] = .ok (.bool b) := by
    simp [e1]
  refine (ss_nx (s' := [a0, a1, a2, a3, a4, a5, a6, a7, a8, a9, a10, some (.sh d), some (.sh (.bool b)), some (.sh (.bool b))]) ?_).trans ?_
  · rw [s_par', e4, R.out_ok, e3 _ rfl]
    rfl
  · refine (ss_nx ((iff_f (d := .bool false) ?_ rfl).trans (s_nil' _ _))).trans (s_nil' _ _)
    cases b <;> simp [cmpD]
theorem all_things (a0 a1 a2 a3 a4 a5 a6 a7 a8 a9 a10 : Option Sl) : ∀ (ds : List D) (a11 a12 a13 : Option Sl), (∀ d ∈ ds, fit 22 30 d) → ∃ b11 b12 b13, loopFor (.name 11) (fun s' => evSs (Cn 150) b_law_2 s') ds [a0, a1, a2, a3, a4, a5, a6, a7, a8, a9, a10, a11, a12, a13] = .nx [a0, a1, a2, a3, a4, a5, a6, a7, a8, a9, a10, b11, b12, b13]
  | [], a11, a12, a13, _ => ⟨a11, a12, a13, rfl⟩
  | d :: ds, a11, a12, a13, h => by
    obtain ⟨b12, b13, e⟩ := one_thing a0 a1 a2 a3 a4 a5 a6 a7 a8 a9 a10 a12 a13 d (h d (by simp))
    obtain ⟨c11, c12, c13, e'⟩ := all_things a0 a1 a2 a3 a4 a5 a6 a7 a8 a9 a10 ds (some (.sh d)) b12 b13 fun x hx => h x (by simp [hx])
    refine ⟨c11, c12, c13, ?_⟩
    unfold loopFor
    rw [show bindT (.name 11) d [a0, a1, a2, a3, a4, a5, a6, a7, a8, a9, a10, a11, a12, a13] = some [a0, a1, a2, a3, a4, a5, a6, a7, a8, a9, a10, some (.sh d), a12, a13] from b_name _ _ _]
    show (evSs (Cn 150) b_law_2 _).then _ = _
    rw [e]
    exact e'
def JK (ns : List Int) (k : Int) (a2 a3 a4 a5 a6 : Option Sl) (pd : D) (a8 a11 a12 a13 : Option Sl) (ds : List D) (s : Sd) : Prop :=
  ∃ (some' : List D) (a10 : Option Sl), s = [some (.scr ns), some (.sh (.int k)), a2, a3, a4, a5, a6, some (.sh pd), a8, some (.ow some'), a10, a11, a12, a13] ∧ (∀ d ∈ some', fit 22 30 d) ∧ some'.length + ds.length ≤ 100 ∧ ∀ d ∈ ds, ∃ j : Int, d = .int j
theorem odds (ns : List Int) (k : Int) (a2 a3 a4 a5 a6 : Option Sl) (pd : D) (a8 a11 a12 a13 : Option Sl) (ht : tsi 10 22 pd) : ∀ (ds : List D) (s : Sd), JK ns k a2 a3 a4 a5 a6 pd a8 a11 a12 a13 ds s →
    ∃ s', loopFor (.name 10) (fun s' => evSs (Cn 150) b_law_1 s') ds s = .nx s' ∧ JK ns k a2 a3 a4 a5 a6 pd a8 a11 a12 a13 [] s' := by
  have hlim : lim = 1000000 := rfl
  refine loopFor_inv _ ?_
  rintro d r s ⟨sm, a10, rfl, g1, g2, g3⟩
  obtain ⟨j, rfl⟩ := g3 d (by simp)
  have e6 := b_mul 17 j (.inl ⟨by decide, by decide⟩)
  have e7 := b_mul 5 k (.inl ⟨by decide, by decide⟩)
  obtain ⟨o, e1, e2⟩ := r_odd 22 149 10 pd (ns.getD 9 0 + 17 * j + 5 * k) ht (by omega) (by omega) (by omega) (by omega)
  simp only [List.length_cons] at g2
  have e8 : sm.length < lim := by omega
  refine ⟨_, [some (.scr ns), some (.sh (.int k)), a2, a3, a4, a5, a6, some (.sh pd), a8, some (.ow (sm ++ [o])), some (.sh (.int j)), a11, a12, a13], b_name _ _ _, ?_, ?_⟩
  · simp only [List.getD_eq_getElem?_getD] at e1
    simp [b_law_1, e6, e7, e1, e8]
  · refine ⟨_, _, rfl, fun d hd => ?_, by simp; omega, fun d hd => g3 d (by simp [hd])⟩
    rcases List.mem_append.mp hd with hd | hd
    · exact g1 d hd
    · simp only [List.mem_singleton] at hd
      subst hd
      exact fit_at e2 (by omega) (by omega)
def stepIn : D := .tuple [.str "in", .str "b", .tuple []]
def T4 (xs : List D) : List D := [.tuple xs, .list xs, .tuple (xs ++ [stepIn]), .tuple [stepIn, stepIn, stepIn, stepIn]]
def T3 : List D := [.tuple [.tuple [.str "in", .str "b", .tuple [.tuple [stepIn], .tuple [stepIn], .tuple [stepIn]]]], .tuple [.tuple [.str "in", .str "b", .tuple [stepIn]]], .tuple [.str "in", .str "b", .tuple []]]
def T5 (pd : D) : List D := [.tuple [.tuple [.str "in", .str "b", .tuple [pd]]], .tuple [.tuple [.str "in", .str "d", .tuple []]], .tuple [.tuple [.str "on", .str "a", .tuple []]], .tuple [.tuple [.str "in", .str "a", .list [pd]]]]
def T2 (xs : List D) : List D := [.tuple [], .none, .tuple (cutD xs none (some 1))]
theorem in_len : ("in" : Str).length ≤ 22 := by decide +kernel
theorem on_len : ("on" : Str).length ≤ 22 := by decide +kernel
theorem a_len : ("a" : Str).length ≤ 22 := by decide +kernel
theorem b_len : ("b" : Str).length ≤ 22 := by decide +kernel
theorem d_len : ("d" : Str).length ≤ 22 := by decide +kernel
theorem fit_t {k n : Nat} {xs : List D} (h : xs.length ≤ k) (h2 : ∀ x ∈ xs, fit k n x) : fit k (n + 1) (.tuple xs) := ⟨h, h2⟩
theorem fit_l {k n : Nat} {xs : List D} (h : xs.length ≤ k) (h2 : ∀ x ∈ xs, fit k n x) : fit k (n + 1) (.list xs) := ⟨h, h2⟩
theorem fit_3 {n : Nat} {a b c : D} (h1 : fit 22 n a) (h2 : fit 22 n b) (h3 : fit 22 n c) : fit 22 (n + 1) (.tuple [a, b, c]) := fit_t (by simp) fun x hx => by
  simp only [List.mem_cons, List.not_mem_nil, or_false] at hx
  rcases hx with rfl | rfl | rfl
  · exact h1
  · exact h2
  · exact h3
theorem fit_1 {n : Nat} {a : D} (h1 : fit 22 n a) : fit 22 (n + 1) (.tuple [a]) := fit_t (by simp) fun x hx => by
  simp only [List.mem_cons, List.not_mem_nil, or_false] at hx
  subst hx; exact h1
theorem fit_0 {n : Nat} : fit 22 (n + 1) (.tuple []) := fit_t (by simp) fun x hx => by cases hx
theorem fit_s {n : Nat} {x : Str} (h : x.length ≤ 22) : fit 22 (n + 1) (.str x) := h
theorem fit_step {n : Nat} : fit 22 (n + 2) stepIn := fit_3 (fit_s in_len) (fit_s b_len) fit_0
theorem fits_all {xs : List D} (h : fit 22 22 (.tuple xs)) (hl : xs.length ≤ 10) : ∀ d ∈ T4 xs ++ T3 ++ T5 (.tuple xs) ++ T2 xs, fit 22 30 d := by
  have hx : ∀ x ∈ xs, fit 22 29 x := fun x hx => fit_mono (n := 21) (m := 29) (Nat.le_refl _) (by decide) (h.2 x hx)
  have hp : ∀ n, 22 ≤ n → fit 22 n (.tuple xs) := fun n hn => fit_mono (Nat.le_refl _) hn h
  intro d hd
  simp only [T4, T3, T5, T2, List.cons_append, List.nil_append, List.mem_cons, List.not_mem_nil, or_false] at hd
  rcases hd with rfl | rfl | rfl | rfl | rfl | rfl | rfl | rfl | rfl | rfl | rfl | rfl | rfl | rfl
  · exact hp 30 (by omega)
  · exact fit_l (by omega) hx
  · refine fit_t (by simp; omega) fun x h => ?_
    rcases List.mem_append.mp h with h | h
    · exact hx x h
    · simp only [List.mem_singleton] at h
      subst h; exact fit_step
  · refine fit_t (by simp) fun x h => ?_
    simp only [List.mem_cons, List.not_mem_nil, or_false, or_self] at h
    subst h; exact fit_step
  · refine fit_1 (fit_3 (fit_s in_len) (fit_s b_len) (fit_3 (fit_1 fit_step) (fit_1 fit_step) (fit_1 fit_step)))
  · exact fit_1 (fit_3 (fit_s in_len) (fit_s b_len) (fit_1 fit_step))
  · exact fit_3 (fit_s in_len) (fit_s b_len) fit_0
  · exact fit_1 (fit_3 (fit_s in_len) (fit_s b_len) (fit_1 (hp 27 (by omega))))
  · exact fit_1 (fit_3 (fit_s in_len) (fit_s d_len) fit_0)
  · exact fit_1 (fit_3 (fit_s on_len) (fit_s a_len) fit_0)
  · refine fit_1 (fit_3 (fit_s in_len) (fit_s a_len) (fit_l (by simp) fun x h => ?_))
    simp only [List.mem_cons, List.not_mem_nil, or_false] at h
    subst h; exact hp 27 (by omega)
  · exact fit_0
  · trivial
  · have := cut_len xs none (some 1)
    exact fit_t (by omega) fun x h => hx x (cut_mem h)
theorem one_k (ns : List Int) (k : Int) (h0 : 0 ≤ k) (h9 : k ≤ 9) (a2 a3 a4 a5 a6 a7 a8 a9 a10 a11 a12 a13 : Option Sl) :
    ∃ b6 b7 b8 b9 b10 b11 b12 b13, evSs (Cn 150) b_law_3 [some (.scr ns), some (.sh (.int k)), a2, a3, a4, a5, a6, a7, a8, a9, a10, a11, a12, a13] = .nx [some (.scr ns), some (.sh (.int k)), a2, a3, a4, a5, b6, b7, b8, b9, b10, b11, b12, b13] := by
  have hlim : lim = 1000000 := rfl
  have hk : 0 ≤ k % 9 := by omega
  have e0 := b_mul 31 k (.inl ⟨by decide, by decide⟩)
  generalize hc : ns.getD (k % 9).toNat 0 + 31 * k = c
  have e1 := r_mix 149 c 9887 7 (by omega) (by omega) (by omega)
  have m1 := mix_lo c 9887 7 (by omega)
  have m2 := mix_hi c 9887 7 (by omega)
  obtain ⟨p, e2, hw, hs⟩ := r_path 150 c (1 + mix c 9887 7) (by omega) (by omega) (by omega)
  obtain ⟨w1, w2, w3⟩ := wfP_inv hw
  have hst : stL p ≤ 7 := by omega
  have ht : tsi 10 22 (encP p) := tsi_enc 7 p hst w3 (by omega)
  have hpd : encP p = .tuple (p.map encS) := encP_eq p
  generalize hxs : p.map encS = xs at hpd
  have hxl : xs.length ≤ 3 := by rw [← hxs, List.length_map]; exact w2
  have hfit : fit 22 22 (.tuple xs) := by rw [← hpd]; exact fit_mono (by omega) (Nat.le_refl _) (tsi_fit ht)
  have hall := fits_all hfit (by omega)
  obtain ⟨s', x1, sm, b10, rfl, x2, x3, _⟩ := odds ns k a2 a3 a4 a5 (some (.sh (.int c))) (encP p) (some (.sh stepIn)) a11 a12 a13 ht (rangeD 0 20)
    [some (.scr ns), some (.sh (.int k)), a2, a3, a4, a5, some (.sh (.int c)), some (.sh (encP p)), some (.sh stepIn), some (.ow (T4 xs ++ T3 ++ T5 (.tuple xs) ++ T2 xs)), a10, a11, a12, a13]
    ⟨_, a10, rfl, hall, by rw [rangeD_len]; simp [T4, T3, T5, T2], fun d hd => by obtain ⟨i, hi, _⟩ := mem_range hd; exact ⟨i, hi⟩⟩
  obtain ⟨b11, b12, b13, x4⟩ := all_things (some (.scr ns)) (some (.sh (.int k))) a2 a3 a4 a5 (some (.sh (.int c))) (some (.sh (encP p))) (some (.sh stepIn)) (some (.sh (.list sm))) b10 sm a11 a12 a13 x2
  refine ⟨some (.sh (.int c)), some (.sh (encP p)), some (.sh stepIn), some (.sh (.list sm)), b10, b11, b12, b13, ?_⟩
  rw [b_law_3]
  refine (ss_nx (set_ok (d := .int c) ?_)).trans ?_
  · simp only [List.getD_eq_getElem?_getD] at hc
    simp [hk, e0, hc]
  refine (ss_nx (set_ok (d := encP p) ?_)).trans ?_
  · simp [e1, e2]
  refine (ss_nx (set_ok (d := stepIn) (by simp [stepIn]))).trans ?_
  refine (ss_nx (s' := [some (.scr ns), some (.sh (.int k)), a2, a3, a4, a5, some (.sh (.int c)), some (.sh (encP p)), some (.sh stepIn), some (.ow (T4 xs)), a10, a11, a12, a13]) ?_).trans ?_
  · have f1 := b_tup xs [stepIn] (by simp; omega)
    have f2 : binD .Mult (.tuple [stepIn]) (.int 4) = .ok (.tuple [stepIn, stepIn, stepIn, stepIn]) := rfl
    simp [hpd, f1, f2, T4]
  refine (ss_nx (s' := [some (.scr ns), some (.sh (.int k)), a2, a3, a4, a5, some (.sh (.int c)), some (.sh (encP p)), some (.sh stepIn), some (.sh (.list (T4 xs))), a10, a11, a12, a13]) (by simp)).trans ?_
  refine (ss_nx (s' := [some (.scr ns), some (.sh (.int k)), a2, a3, a4, a5, some (.sh (.int c)), some (.sh (encP p)), some (.sh stepIn), some (.ow (T4 xs ++ T3)), a10, a11, a12, a13]) ?_).trans ?_
  · have f2 : binD .Mult (.tuple [.tuple [stepIn]]) (.int 3) = .ok (.tuple [.tuple [stepIn], .tuple [stepIn], .tuple [stepIn]]) := rfl
    have f3 := cat_ok (T4 xs) T3 (by simp [T4, T3]; omega)
    simp [f2]
    rw [show ([.tuple [.tuple [.str "in", .str "b", .tuple [.tuple [stepIn], .tuple [stepIn], .tuple [stepIn]]]], .tuple [.tuple [.str "in", .str "b", .tuple [stepIn]]], .tuple [.str "in", .str "b", .tuple []]] : List D) = T3 from rfl, f3]
    rfl
  refine (ss_nx (s' := [some (.scr ns), some (.sh (.int k)), a2, a3, a4, a5, some (.sh (.int c)), some (.sh (encP p)), some (.sh stepIn), some (.sh (.list (T4 xs ++ T3))), a10, a11, a12, a13]) (by simp)).trans ?_
  refine (ss_nx (s' := [some (.scr ns), some (.sh (.int k)), a2, a3, a4, a5, some (.sh (.int c)), some (.sh (encP p)), some (.sh stepIn), some (.ow (T4 xs ++ T3 ++ T5 (.tuple xs))), a10, a11, a12, a13]) ?_).trans ?_
  · have f3 := cat_ok (T4 xs ++ T3) (T5 (.tuple xs)) (by simp [T4, T3, T5]; omega)
    simp [hpd]
    rw [show ([.tuple [.tuple [.str "in", .str "b", .tuple [.tuple xs]]], .tuple [.tuple [.str "in", .str "d", .tuple []]], .tuple [.tuple [.str "on", .str "a", .tuple []]], .tuple [.tuple [.str "in", .str "a", .list [.tuple xs]]]] : List D) = T5 (.tuple xs) from rfl, f3]
    simp
  refine (ss_nx (s' := [some (.scr ns), some (.sh (.int k)), a2, a3, a4, a5, some (.sh (.int c)), some (.sh (encP p)), some (.sh stepIn), some (.sh (.list (T4 xs ++ T3 ++ T5 (.tuple xs)))), a10, a11, a12, a13]) (by simp)).trans ?_
  refine (ss_nx (s' := [some (.scr ns), some (.sh (.int k)), a2, a3, a4, a5, some (.sh (.int c)), some (.sh (encP p)), some (.sh stepIn), some (.ow (T4 xs ++ T3 ++ T5 (.tuple xs) ++ T2 xs)), a10, a11, a12, a13]) ?_).trans ?_
  · have f3 := cat_ok (T4 xs ++ T3 ++ T5 (.tuple xs)) (T2 xs) (by simp [T4, T3, T5, T2]; omega)
    simp [hpd, slcT]
    rw [show ([.tuple [], .none, .tuple (cutD xs none (some 1))] : List D) = T2 xs from rfl]
    simp only [List.append_assoc] at f3 ⊢
    rw [f3]
    simp
  refine (ss_nx ((for_ok (ds := rangeD 0 20) ?_).trans x1)).trans ?_
  · simp
    rw [rng0 (by omega) (by omega)]
    rfl
  refine (ss_nx (s' := [some (.scr ns), some (.sh (.int k)), a2, a3, a4, a5, some (.sh (.int c)), some (.sh (encP p)), some (.sh stepIn), some (.sh (.list sm)), b10, a11, a12, a13]) (by simp)).trans ?_
  refine (ss_nx ((for_ok (ds := sm) (by simp)).trans x4)).trans ?_
  refine (ss_nx ((iff_f (d := .bool false) ?_ rfl).trans (s_nil' _ _))).trans (s_nil' _ _)
  have y1 := r_steps_in 30 150 (encP p) (pathB_enc 30 p hw (by omega)) (by omega)
  have y2 := r_numbered 149 p (by omega) (by omega)
  have y3 := r_count 30 150 22 22 (encP p) (by rw [hpd]; exact hfit) (by omega) (by omega) (by omega) (by omega)
  have y4 := r_io 150 p .none [] (by omega) (by simp; omega)
  have y5 := r_same 4 150 (.tuple [.int (cnt 30 (encP p)), .tuple (rowsL p .none 0)]) ⟨by simp, fun x hx => by
    simp only [List.mem_cons, List.not_mem_nil, or_false] at hx
    rcases hx with rfl | rfl
    · trivial
    · refine ⟨by rw [rowsL_len]; omega, fun y hy => rowsL_pln p .none 0 trivial y hy⟩⟩ (by omega)
  simp only [List.nil_append, List.length_nil] at y4
  simp [y1, y2, y3, y4, y5]
end Tf
namespace Tf
open PySem
def pTest : Pa := [.mk false 0 []]
def pTwo : Pa := [.mk true 1 [], .mk false 2 []]
def pSeven : Pa := [.mk false 0 [pTwo, pTest], .mk false 1 [pTest], .mk false 2 []]
def pEight : Pa := [.mk false 0 [pTwo, pTest], .mk false 1 [pTest], .mk false 2 [pTest]]
def JL (ns : List Int) (ds : List D) (s : Sd) : Prop :=
  ∃ (a1 a2 a3 a4 a5 a6 a7 a8 a9 a10 a11 a12 a13 : Option Sl), s = [some (.scr ns), a1, a2, a3, a4, a5, a6, a7, a8, a9, a10, a11, a12, a13] ∧ ∀ d ∈ ds, ∃ j : Int, d = .int j ∧ 0 ≤ j ∧ j ≤ 9
theorem law_run : ∀ ns : List Int, ns.length ≤ 63 → (evSs (Cn LV) f_law.body (start0 f_law [some (.scr ns)])).res = .ok (.bool true) := by
  intro ns _
  have loop : ∀ (ds : List D) (s : Sd), JL ns ds s → ∃ s', loopFor (.name 1) (fun s' => evSs (Cn 150) b_law_3 s') ds s = .nx s' ∧ JL ns [] s' := by
    refine loopFor_inv _ ?_
    rintro d r s ⟨a1, a2, a3, a4, a5, a6, a7, a8, a9, a10, a11, a12, a13, rfl, g⟩
    obtain ⟨j, rfl, h0, h9⟩ := g d (by simp)
    obtain ⟨b6, b7, b8, b9, b10, b11, b12, b13, e⟩ := one_k ns j h0 h9 a2 a3 a4 a5 a6 a7 a8 a9 a10 a11 a12 a13
    exact ⟨_, _, b_name _ _ _, e, _, _, _, _, _, _, _, _, _, _, _, _, _, rfl, fun d hd => g d (by simp [hd])⟩
  obtain ⟨s', x1, a1, a2, a3, a4, a5, a6, a7, a8, a9, a10, a11, a12, a13, rfl, _⟩ := loop (rangeD 0 10) [some (.scr ns), none, none, none, none, none, none, none, none, none, none, none, none, none]
    ⟨_, _, _, _, _, _, _, _, _, _, _, _, _, rfl, fun d hd => by
      obtain ⟨i, hi, h1, h2⟩ := mem_range hd
      exact ⟨i, hi, h1, by omega⟩⟩
  show (evSs (Cn 150) b_law [some (.scr ns), none, none, none, none, none, none, none, none, none, none, none, none, none]).res = _
  rw [b_law]
  refine res_of (ss_nx ((for_ok (ds := rangeD 0 10) ?_).trans x1)) ?_
  · simp
    rw [rng0 (by omega) (by omega)]
    rfl
  refine res_of (ss_nx (set_ok (d := encP pTest) (by simp; rfl))) ?_
  refine res_of (ss_nx (set_ok (d := encP pTwo) (by simp; rfl))) ?_
  refine res_of (ss_nx (set_ok (d := encP pSeven) (by simp; rfl))) ?_
  have hs7 : stL pSeven = 7 := by decide +kernel
  have hs8 : stL pEight = 8 := by decide +kernel
  have hw7 : wfP pSeven = true := by decide +kernel
  have hw8 : wfP pEight = true := by decide +kernel
  refine res_of (ss_nx (set_ok (d := encP pEight) ?_)) ?_
  · have : ∀ s, ev (Cn 150) (.slc (.var 4) .no (.yes (.con (.int 2)))) [some (.scr ns), a1, some (.sh (encP pTest)), some (.sh (encP pTwo)), some (.sh (encP pSeven)), s, a6, a7, a8, a9, a10, a11, a12, a13] = .ok (.tuple [encS (.mk false 0 [pTwo, pTest]), encS (.mk false 1 [pTest])]) := by
      intro s
      simp
      rfl
    simp only [List.set_cons_succ, List.set_cons_zero, e_bin, this, R.bind_ok, e_tup, es_cons', es_nil', e_con, e_var, List.getElem?_cons_zero, List.getElem?_cons_succ]
    rfl
  have y1 := r_is_path 150 30 30 10 (encP pSeven) (fit_mono (Nat.le_refl _) (by omega) (fit_enc (j := 7) (by omega) hw7)) (by omega) (by omega) (by omega) (by omega)
  have y2 := r_is_path 150 30 30 10 (encP pEight) (fit_mono (Nat.le_refl _) (by omega) (fit_enc (j := 8) (by omega) hw8)) (by omega) (by omega) (by omega) (by omega)
  have y3 := r_steps_in 30 150 (encP pEight) (pathB_enc 30 pEight hw8 (by omega)) (by omega)
  rw [cnt_enc 30 pSeven hw7 (by omega), hs7] at y1
  rw [cnt_enc 30 pEight hw8 (by omega), hs8] at y2 y3
  refine res_of (ss_rt (ret_ok (d := .bool true) ?_)) rfl
  simp [y1, y2, y3, cmpD, near_int, eqv_int]
end Tf
open PySem PySem.W PyProof.Rows
set_option maxRecDepth 100000 in
set_option maxHeartbeats 0 in
theorem PySem.Challenge.cw_treefinds_k02_paths_holds : PySem.Challenge.rw_treefinds_k02_paths.Holds := by
  w_on; o_law; k_head; (case hw => w_witness2)
  k_fill
  refine Tf.walk_law (k := Tf.LV + 2) (l := PySem.Challenge.rw_treefinds_k02_paths) rfl rfl ⟨rfl, by decide, by decide⟩ (fun w h Y => PySem.W.kIn_of Y) ?tfF
  case tfF =>
    intro w mg fa h KX G hmg
    refine' Tf.all_mk KX G hmg Tf.law_run ?tf_a0 ?tf_l0 ?tf_c0 ?tf_k0 ?tf_a1 ?tf_l1 ?tf_c1 ?tf_k1 ?tf_a2 ?tf_l2 ?tf_c2 ?tf_k2 ?tf_a3 ?tf_l3 ?tf_c3 ?tf_k3 ?tf_a4 ?tf_l4 ?tf_c4 ?tf_k4 ?tf_a5 ?tf_l5 ?tf_c5 ?tf_k5 ?tf_a6 ?tf_l6 ?tf_c6 ?tf_k6 ?tf_a7 ?tf_l7 ?tf_c7 ?tf_k7 ?tf_a8 ?tf_l8 ?tf_c8 ?tf_k8 ?tf_a9 ?tf_l9 ?tf_c9 ?tf_k9 ?tf_a10 ?tf_l10 ?tf_c10 ?tf_k10 ?tf_a11 ?tf_l11 ?tf_c11 ?tf_k11 ?tf_a12 ?tf_l12 ?tf_c12 ?tf_k12 ?tf_a13 ?tf_l13 ?tf_c13 ?tf_k13 ?tf_a14 ?tf_l14 ?tf_c14 ?tf_k14 ?tf_a15 ?tf_l15 ?tf_c15 ?tf_k15 ?tf_a16 ?tf_l16 ?tf_c16 ?tf_k16 ?tf_g2 ?tf_h2 ?tf_g3 ?tf_g4 ?tf_z0 ?tf_z1 ?tf_z2 ?tf_z3 ?tf_z4 ?tf_z5 ?tf_z6 ?tf_z7 ?tf_z8 ?tf_z9 ?tf_z10 ?tf_z11 ?tf_z12 ?tf_z13 ?tf_z14 ?tf_z15
    (case tf_a0 => k_is)
    (case tf_l0 => k_is)
    (case tf_c0 => k_is)
    (case tf_k0 => k_is)
    (case tf_a1 => k_is)
    (case tf_l1 => k_is)
    (case tf_c1 => k_is)
    (case tf_k1 => k_is)
    (case tf_a2 => k_is)
    (case tf_l2 => k_is)
    (case tf_c2 => k_is)
    (case tf_k2 => k_is)
    (case tf_a3 => k_is)
    (case tf_l3 => k_is)
    (case tf_c3 => k_is)
    (case tf_k3 => k_is)
    (case tf_a4 => k_is)
    (case tf_l4 => k_is)
    (case tf_c4 => k_is)
    (case tf_k4 => k_is)
    (case tf_a5 => k_is)
    (case tf_l5 => k_is)
    (case tf_c5 => k_is)
    (case tf_k5 => k_is)
    (case tf_a6 => k_is)
    (case tf_l6 => k_is)
    (case tf_c6 => k_is)
    (case tf_k6 => k_is)
    (case tf_a7 => k_is)
    (case tf_l7 => k_is)
    (case tf_c7 => k_is)
    (case tf_k7 => k_is)
    (case tf_a8 => k_is)
    (case tf_l8 => k_is)
    (case tf_c8 => k_is)
    (case tf_k8 => k_is)
    (case tf_a9 => k_is)
    (case tf_l9 => k_is)
    (case tf_c9 => k_is)
    (case tf_k9 => k_is)
    (case tf_a10 => k_is)
    (case tf_l10 => k_is)
    (case tf_c10 => k_is)
    (case tf_k10 => k_is)
    (case tf_a11 => k_is)
    (case tf_l11 => k_is)
    (case tf_c11 => k_is)
    (case tf_k11 => k_is)
    (case tf_a12 => k_is)
    (case tf_l12 => k_is)
    (case tf_c12 => k_is)
    (case tf_k12 => k_is)
    (case tf_a13 => k_is)
    (case tf_l13 => k_is)
    (case tf_c13 => k_is)
    (case tf_k13 => k_is)
    (case tf_a14 => k_is)
    (case tf_l14 => k_is)
    (case tf_c14 => k_is)
    (case tf_k14 => k_is)
    (case tf_a15 => k_is)
    (case tf_l15 => k_is)
    (case tf_c15 => k_is)
    (case tf_k15 => k_is)
    (case tf_a16 => k_is)
    (case tf_l16 => k_is)
    (case tf_c16 => k_is)
    (case tf_k16 => k_is)
    (case tf_g2 => k_is)
    (case tf_h2 => k_is)
    (case tf_g3 => k_is)
    (case tf_g4 => k_is)
    (case tf_z0 => k_is)
    (case tf_z1 => k_is)
    (case tf_z2 => k_is)
    (case tf_z3 => k_is)
    (case tf_z4 => k_is)
    (case tf_z5 => k_is)
    (case tf_z6 => k_is)
    (case tf_z7 => k_is)
    (case tf_z8 => k_is)
    (case tf_z9 => k_is)
    (case tf_z10 => k_is)
    (case tf_z11 => k_is)
    (case tf_z12 => k_is)
    (case tf_z13 => k_is)
    (case tf_z14 => k_is)
    (case tf_z15 => k_is)
