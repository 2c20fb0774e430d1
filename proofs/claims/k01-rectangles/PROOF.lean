import PyProof.Rows.All
import Wide.All
import OpenK.AllK
import Wide.FinOn
import HandS.ForMost
import HandS.Wide
import HandS.More
import HandS.Defaults
import HandS.Head0
import HandS.Head1
import HandS.Head2
import HandS.HeadEnd
import HandS.HeadHook1
import HandS.HeadHook2
import HandS.Words
import HandS.Exc
import HandS.Deep
import HandS.ExcOwn
import HandS.IsInst
import PySem.Challenge.RW_raisekeys_k01_rectangles
set_option Elab.async false
set_option linter.all false
set_option maxRecDepth 100000
namespace Vm
open PySem PySem.Spec PyProof.Rows L2

/-- data; o: owned (may be written through the one place that holds it) -/
inductive D where
  | non | bl (b : Bool) | int (i : Int) | str (s : Str)
  | tup (xs : List D) | lst (o : Bool) (xs : List D)
  deriving Inhabited

mutual
/-- given up to be shared -/
def D.fz : D → D
  | .tup xs => .tup (fzL xs)
  | .lst _ xs => .lst false (fzL xs)
  | .non => .non | .bl b => .bl b | .int i => .int i | .str s => .str s
def fzL : List D → List D
  | [] => []
  | d :: ds => d.fz :: fzL ds
end
mutual
def D.isF : D → Bool
  | .tup xs => isFL xs
  | .lst o xs => !o && isFL xs
  | .non => true | .bl _ => true | .int _ => true | .str _ => true
def isFL : List D → Bool
  | [] => true
  | d :: ds => d.isF && isFL ds
end
mutual
/-- == -/
def eqD : D → D → Bool
  | .non, .non => true
  | .bl a, .bl b => a == b
  | .bl a, .int j => (if a then 1 else 0) == j
  | .int i, .bl b => i == (if b then 1 else 0)
  | .int i, .int j => i == j
  | .str x, .str y => x == y
  | .lst _ xs, .lst _ ys => eqL xs ys
  | .tup xs, .tup ys => eqL xs ys
  | _, _ => false
def eqL : List D → List D → Bool
  | [], [] => true
  | x :: xs, y :: ys => eqD x y && eqL xs ys
  | _, _ => false
end
/-- at most n deep -/
def shal : Nat → D → Bool
  | 0, .tup _ => false
  | 0, .lst _ _ => false
  | n + 1, .tup xs => xs.all (shal n)
  | n + 1, .lst _ xs => xs.all (shal n)
  | _, _ => true

abbrev Nv := List (Option D)
inductive R (α : Type) where
  | ok (a : α) (e : Nv)
  | ex (x : D) (e : Nv)
  | bad
def R.bind {α β : Type} (r : R α) (f : α → Nv → R β) : R β := match r with
  | .ok a e => f a e
  | .ex x e => .ex x e
  | .bad => .bad
@[simp] theorem R.bind_ok {α β : Type} (a : α) (e : Nv) (f : α → Nv → R β) : (R.ok a e).bind f = f a e := rfl
@[simp] theorem R.bind_ex {α β : Type} (a : D) (e : Nv) (f : α → Nv → R β) : (R.ex a e).bind f = .ex a e := rfl
@[simp] theorem R.bind_bad {α β : Type} (f : α → Nv → R β) : (R.bad : R α).bind f = .bad := rfl
def R.of {α : Type} (o : Option α) (e : Nv) : R α := match o with
  | some a => .ok a e
  | none => .bad
@[simp] theorem R.of_some {α : Type} (a : α) (e : Nv) : R.of (some a) e = .ok a e := rfl
@[simp] theorem R.of_none {α : Type} (e : Nv) : (R.of none e : R α) = .bad := rfl

/-- what a call gives: the value and the parameters' last values -/
abbrev Orc := Str → List D → R D

/-- targets -/
inductive Tg where
  | nm (i : Nat)
  | tup (ts : List Tg)
inductive Ik where
  | seq | rng1 | rng2 | enum | zip
  deriving DecidableEq
inductive B1 where
  | len | abs | all | any | sum | lst | tup | max | min | str | int | sorted
  deriving DecidableEq
inductive B2 where
  | max | min
  deriving DecidableEq
inductive Ty where
  | bool | int | str | tuple | list
  deriving DecidableEq

inductive E where
  | cst (d : D)
  | nm (i : Nat) | pk (i : Nat) | mv (i : Nat)
  | gc (x : Str) (d : D)
  | bin (o : Operator) (a b : E)
  | neg (a : E)
  | cmp (o : CmpOp) (a b : E)
  | chn (o1 o2 : CmpOp) (a b c : E)
  | isn (n : Bool) (a : E)
  | and (a b : E) | or (a b : E) | not (a : E)
  | ite (c a b : E)
  | ix (a i : E)
  | slc (fl fh : Bool) (a lo hi : E)
  | tup (es : List E) | lst (es : List E)
  | lc (elt : E) (tg : Tg) (ik : Ik) (is : List E) (ifs : List E) (own : List (Str × Nat))
  | cal (f : Str) (es : List E)
  | cak (f : Str) (es : List E) (ks : List Str) (zs : List E) (perm : List Nat)
  | b1 (f : B1) (a : E)
  | b2 (f : B2) (a b : E)
  | isi (tp : Bool) (ts : List Ty) (a : E)

/-! ### operations -/
abbrev lim : Nat := 1000000
def binD : Operator → D → D → Option D
  | .Add, .int i, .int j => some (.int (i + j))
  | .Add, .str x, .str y => if x.length + y.length ≤ lim then some (.str (x ++ y)) else none
  | .Add, .lst _ xs, .lst _ ys => if xs.length + ys.length ≤ lim then some (.lst true (xs ++ ys)) else none
  | .Sub, .int i, .int j => some (.int (i - j))
  | .Mult, .int i, .int j => if i.natAbs < 2 ^ 64 ∨ j.natAbs < 2 ^ 64 then some (.int (i * j)) else none
  | .Mult, .str x, .int j => if 0 ≤ j ∧ j ≤ 1000 ∧ x.length ≤ 1000 then some (.str ⟨(List.replicate j.toNat x.cps.toList).flatten.toArray⟩) else none
  | .FloorDiv, .int i, .int j => if 0 < j ∧ j.natAbs < 2 ^ 9000 then some (.int (i / j)) else none
  | .Mod, .int i, .int j => if 0 < j then some (.int (i % j)) else none
  | .Pow, .int i, .int j => if 0 ≤ j ∧ j ≤ 1000 ∧ i.natAbs < 2 ^ 64 then some (.int (i ^ j.toNat)) else none
  | .LShift, .int i, .int j => if 0 ≤ j ∧ j ≤ 1000 ∧ i.natAbs < 2 ^ 64 then some (.int (i * 2 ^ j.toNat)) else none
  | .RShift, .int i, .int j => if 0 ≤ j then some (.int (i / 2 ^ j.toNat)) else none
  | .BitAnd, .int i, .int j => some (.int (Builtin.bitAnd i j))
  | _, _, _ => none
def memD (x : D) (ys : List D) : Bool := ys.any fun y => eqD y x
def strLt (x y : Str) : Bool := decide (x.cps.toList < y.cps.toList)
def cmpD : CmpOp → D → D → Option Bool
  | .Eq, a, b => if shal 8 a && shal 8 b then some (eqD a b) else none
  | .NotEq, a, b => if shal 8 a && shal 8 b then some (!eqD a b) else none
  | .Lt, .int i, .int j => some (decide (i < j))
  | .LtE, .int i, .int j => some (decide (i ≤ j))
  | .Gt, .int i, .int j => some (decide (j < i))
  | .GtE, .int i, .int j => some (decide (j ≤ i))
  | .Lt, .str x, .str y => some (strLt x y)
  | .In, a, .lst _ ys => if shal 7 a && ys.all (shal 7) then some (memD a ys) else none
  | .NotIn, a, .lst _ ys => if shal 7 a && ys.all (shal 7) then some (!memD a ys) else none
  | .In, a, .tup ys => if shal 0 a && ys.all (shal 0) then some (memD a ys) else none
  | .NotIn, a, .tup ys => if shal 0 a && ys.all (shal 0) then some (!memD a ys) else none
  | .In, .str x, .str y => some (!(Builtin.Str.occurrences y x 0 y.length 1).isEmpty)
  | .NotIn, .str x, .str y => some (!(!(Builtin.Str.occurrences y x 0 y.length 1).isEmpty))
  | _, _, _ => none
def ixD : D → D → Option D
  | .lst _ xs, .int i => atI xs i
  | .tup xs, .int i => (atI xs i).bind fun d => if d.isF then some d else none
  | .str s, .int i => (atI s.cps.toList i).map fun c => .str ⟨#[c]⟩
  | _, _ => none
def partD : Bool → D → Option (Option Int)
  | false, _ => some none
  | true, .int i => some (some i)
  | true, _ => none
def slcD (a : D) (lo hi : Option Int) : Option D := match a with
  | .lst _ xs => some (.lst true ((xs.drop (HT.sIx xs.length 0 lo)).take (HT.sIx xs.length xs.length hi - HT.sIx xs.length 0 lo)))
  | _ => none
def boolsOf : List D → Option (List Bool)
  | [] => some []
  | .bl b :: r => (boolsOf r).map (b :: ·)
  | _ => none
def intsOf : List D → Option (List Int)
  | [] => some []
  | .int b :: r => (intsOf r).map (b :: ·)
  | _ => none
def b1D : B1 → D → Option D
  | .len, .lst _ xs => some (.int xs.length)
  | .len, .tup xs => some (.int xs.length)
  | .len, .str s => some (.int s.length)
  | .abs, .int i => some (.int (if i < 0 then -i else i))
  | .all, .lst _ xs => (boolsOf xs).map fun bs => .bl (bs.all id)
  | .any, .lst _ xs => (boolsOf xs).map fun bs => .bl (bs.any id)
  | .lst, .lst _ xs => some (.lst true xs)
  | .lst, .tup xs => if isFL xs then some (.lst true xs) else none
  | _, _ => none
def b2D : B2 → D → D → Option D
  | .max, .int i, .int j => some (.int (if j > i then j else i))
  | .min, .int i, .int j => some (.int (if j < i then j else i))
  | _, _, _ => none
def isTy : Ty → D → Bool
  | .bool, .bl _ => true
  | .int, .bl _ => true
  | .int, .int _ => true
  | .str, .str _ => true
  | .tuple, .tup _ => true
  | .list, .lst _ _ => true
  | _, _ => false
/-- what a loop walks -/
def rngD (lo hi : Int) : Option (List D) := if -(2 ^ 60) ≤ lo ∧ lo ≤ 2 ^ 60 ∧ -(2 ^ 60) ≤ hi ∧ hi ≤ 2 ^ 60 ∧ hi - lo ≤ 1000000 then some ((List.range (hi - lo).toNat).map fun (k : Nat) => .int (lo + (k : Int))) else none
def strItems (s : Str) : List D := s.cps.toList.map fun c => .str ⟨#[c]⟩
def seqD : D → Option (List D)
  | .lst _ xs => some xs
  | .tup xs => if isFL xs then some xs else none
  | _ => none
def itemsD : Ik → List D → Option (List D)
  | .seq, [.lst _ xs] => some xs
  | .seq, [.tup xs] => if isFL xs then some xs else none
  | .seq, [.str s] => some (strItems s)
  | .rng1, [.int j] => rngD 0 j
  | .rng2, [.int i, .int j] => rngD i j
  | .enum, [.lst _ xs] => some (List.zipWith (fun (i : Nat) x => .tup [.int (i : Int), x]) (List.range xs.length) xs)
  | .zip, [.lst _ xs, .lst _ ys] => some (List.zipWith (fun x y => .tup [x, y]) xs ys)
  | _, _ => none
mutual
def asgT : Tg → D → Nv → Option Nv
  | .nm i, d, e => if i < e.length then some (e.set i (some d)) else none
  | .tup ts, .tup xs, e => asgL ts xs e
  | .tup _, _, _ => none
def asgL : List Tg → List D → Nv → Option Nv
  | [], [], e => some e
  | t :: ts, x :: xs, e => (asgT t x e).bind fun e1 => asgL ts xs e1
  | _, _, _ => none
end
def wipeE (e : Nv) : List Nat → Nv
  | [] => e
  | v :: vs => (wipeE e vs).set v none
/-- a comprehension's turns -/
def lcGo (w : Nv → Nv) (tg : D → Nv → Option Nv) (tt : Nv → R Bool) (f : Nv → R D) : List D → Nv → R (List D)
  | [], e => .ok [] e
  | x :: xs, e => match tg x e with
    | none => .bad
    | some e1 => (tt e1).bind fun b e2 => if b then (f e2).bind fun d e3 => (lcGo w tg tt f xs (w e3)).bind fun r e4 => .ok (d.fz :: r) e4 else lcGo w tg tt f xs (w e2)
def asB (r : R D) : R Bool := r.bind fun d e => match d with
  | .bl b => .ok b e
  | _ => .bad
def asBD (r : R D) : R D := (asB r).bind fun b e => .ok (.bl b) e
/-- inside a comprehension nothing is raised -/
def R.still {α : Type} : R α → R α
  | .ex _ _ => .bad
  | r => r
/-- the arguments' places: names handed on as they are, by slot -/
inductive Av where
  | d (d : D) | sl (i : Nat)
/-- the named slots are handed over -/
def takeA : List Av → Nv → Option (List D × Nv)
  | [], e => some ([], e)
  | .d x :: r, e => (takeA r e).bind fun p => some (x :: p.1, p.2)
  | .sl i :: r, e => match e[i]? with
    | some (some x) => (takeA r (e.set i none)).bind fun p => some (x :: p.1, p.2)
    | _ => none
def putA : List Av → Nv → Nv → Nv
  | .sl i :: r, x :: xs, e => putA r xs (e.set i x)
  | .d _ :: r, _ :: xs, e => putA r xs e
  | _, _, e => e
def permL {α : Type} (perm : List Nat) (as : List α) : List α := perm.filterMap fun i => as[i]?
def permA (perm : List Nat) (as : List Av) : Option (List Av) := if perm.length = as.length ∧ perm.Nodup ∧ (perm.all fun i => decide (i < as.length)) = true then some (permL perm as) else none
def callA (C : Orc) (f : Str) (as : List Av) (e : Nv) : R D := match takeA as e with
  | none => .bad
  | some (ds, e1) => match C f ds with
    | .ok d ps => .ok d (putA as ps e1)
    | .ex x ps => .ex x (putA as ps e1)
    | .bad => .bad
mutual
def ev (C : Orc) : E → Nv → R D
  | .cst d, e => .ok d e
  | .nm i, e => match e[i]? with
    | some (some d) => .ok d.fz (e.set i (some d.fz))
    | _ => .bad
  | .pk i, e => match e[i]? with
    | some (some d) => .ok d e
    | _ => .bad
  | .mv i, e => match e[i]? with
    | some (some d) => .ok d (e.set i none)
    | _ => .bad
  | .gc _ d, e => .ok d e
  | .bin o a b, e => (ev C a e).bind fun x e1 => (ev C b e1).bind fun y e2 => R.of (binD o x y) e2
  | .neg a, e => (ev C a e).bind fun x e1 => match x with
    | .int i => .ok (.int (-i)) e1
    | _ => .bad
  | .cmp o a b, e => (ev C a e).bind fun x e1 => (ev C b e1).bind fun y e2 => R.of ((cmpD o x y).map D.bl) e2
  | .chn o1 o2 a b c, e => (ev C a e).bind fun x e1 => (ev C b e1).bind fun y e2 => match cmpD o1 x y with
    | some true => (ev C c e2).bind fun z e3 => R.of ((cmpD o2 y z).map D.bl) e3
    | some false => .ok (.bl false) e2
    | none => .bad
  | .isn n a, e => (ev C a e).bind fun x e1 => .ok (.bl (match x with
    | .non => !n
    | _ => n)) e1
  | .and a b, e => (asB (ev C a e)).bind fun x e1 => if x then asBD (ev C b e1) else .ok (.bl false) e1
  | .or a b, e => (asB (ev C a e)).bind fun x e1 => if x then .ok (.bl true) e1 else asBD (ev C b e1)
  | .not a, e => (asB (ev C a e)).bind fun x e1 => .ok (.bl (!x)) e1
  | .ite c a b, e => (asB (ev C c e)).bind fun x e1 => if x then ev C a e1 else ev C b e1
  | .ix a i, e => (ev C a e).bind fun x e1 => (ev C i e1).bind fun y e2 => R.of (ixD x y) e2
  | .slc fl fh a lo hi, e => (ev C a e).bind fun x e1 => (ev C lo e1).bind fun l e2 => match partD fl l with
    | none => .bad
    | some l => (ev C hi e2).bind fun h e3 => R.of ((partD fh h).bind fun h => slcD x l h) e3
  | .tup es, e => (evs C es e).bind fun xs e1 => .ok (.tup xs) e1
  | .lst es, e => (evs C es e).bind fun xs e1 => .ok (.lst true (fzL xs)) e1
  | .lc elt tg ik is ifs own, e => (evs C is e).bind fun xs e1 => match itemsD ik xs with
    | none => .bad
    | some ds => (lcGo (fun e => wipeE e (own.map (·.2))) (asgT tg) (fun e => evTs C ifs e) (fun e => (ev C elt e).still) ds (wipeE e1 (own.map (·.2)))).still.bind fun r e2 => .ok (.lst true r) e2
  | .cal f es, e => (evA C es e).bind fun as e1 => callA C f as e1
  | .cak f es _ zs perm, e => (evA C es e).bind fun as e1 => (evA C zs e1).bind fun bs e2 => match permA perm (as ++ bs) with
    | some cs => callA C f cs e2
    | none => .bad
  | .b1 f a, e => (ev C a e).bind fun x e1 => R.of (b1D f x) e1
  | .b2 f a b, e => (ev C a e).bind fun x e1 => (ev C b e1).bind fun y e2 => R.of (b2D f x y) e2
  | .isi _ ts a, e => (ev C a e).bind fun x e1 => .ok (.bl (ts.any fun t => isTy t x)) e1
def evs (C : Orc) : List E → Nv → R (List D)
  | [], e => .ok [] e
  | a :: r, e => (ev C a e).bind fun x e1 => (evs C r e1).bind fun xs e2 => .ok (x :: xs) e2
/-- tests, one behind another -/
def evTs (C : Orc) : List E → Nv → R Bool
  | [], e => .ok true e
  | a :: r, e => (asB (ev C a e)).still.bind fun x e1 => if x then evTs C r e1 else .ok false e1
/-- arguments -/
def evA (C : Orc) : List E → Nv → R (List Av)
  | [], e => .ok [] e
  | .pk i :: r, e => match e[i]? with
    | some (some _) => (evA C r e).bind fun xs e2 => .ok (.sl i :: xs) e2
    | _ => .bad
  | a :: r, e => (ev C a e).bind fun x e1 => (evA C r e1).bind fun xs e2 => .ok (.d x :: xs) e2
end
/-! ### statements -/
inductive S where
  | asg (t : Tg) (e : E)
  | six (i : Nat) (k v : E)
  | aug (i : Nat) (o : Operator) (e : E)
  | app (i : Nat) (e : E)
  | ins (i : Nat) (k e : E)
  | exp (e : E)
  | iff (c : E) (a b : List S)
  | whl (c : E) (b : List S)
  | for_ (t : Tg) (ik : Ik) (is : List E) (b : List S)
  | ret (e : E) | retN | brk | cnt | pas
inductive Fl where
  | next | ret (d : D) | brk | cnt
def forGo (tg : D → Nv → Option Nv) (b : Nv → R Fl) : List D → Nv → R Fl
  | [], e => .ok .next e
  | x :: xs, e => match tg x e with
    | none => .bad
    | some e1 => (b e1).bind fun fl e2 => match fl with
      | .next => forGo tg b xs e2
      | .cnt => forGo tg b xs e2
      | .brk => .ok .next e2
      | .ret d => .ok (.ret d) e2
def whlGo (c : Nv → R Bool) (b : Nv → R Fl) : Nat → Nv → R Fl
  | 0, _ => .bad
  | n + 1, e => (c e).bind fun t e1 => if t then (b e1).bind fun fl e2 => match fl with
      | .next => whlGo c b n e2
      | .cnt => whlGo c b n e2
      | .brk => .ok .next e2
      | .ret d => .ok (.ret d) e2
    else .ok .next e1
def setO (d k x : D) : Option D := match d, k with
  | .lst true xs, .int j => (ixN xs.length j).map fun n => .lst true (xs.set n x.fz)
  | _, _ => none
def appO (d x : D) : Option D := match d with
  | .lst true xs => if xs.length < lim then some (.lst true (xs ++ [x.fz])) else none
  | _ => none
def insO (d k x : D) : Option D := match d, k with
  | .lst true xs, .int j => if xs.length < lim ∧ 0 ≤ j ∧ j ≤ xs.length then some (.lst true (xs.insertIdx j.toNat x.fz)) else none
  | _, _ => none
def augD : Operator → D → D → Option D
  | .Add, .int i, .int j => some (.int (i + j))
  | .Sub, .int i, .int j => some (.int (i - j))
  | .Add, .str x, .str y => if x.length + y.length ≤ lim then some (.str (x ++ y)) else none
  | _, _, _ => none
/-- the slot is bound -/
def onS {α : Type} (i : Nat) (e : Nv) (r : R α) : R α := match e[i]? with
  | some (some _) => r
  | _ => .bad
/-- the slot holds a list -/
def onL {α : Type} (i : Nat) (e : Nv) (r : R α) : R α := match e[i]? with
  | some (some (.lst _ _)) => r
  | _ => .bad
/-- a slot's content is changed -/
def updE (i : Nat) (f : D → Option D) (e : Nv) : R Fl := match e[i]? with
  | some (some d) => match f d with
    | some d1 => .ok .next (e.set i (some d1))
    | none => .bad
  | _ => .bad
mutual
def exS (C : Orc) (W : Nat) : S → Nv → R Fl
  | .asg t x, e => (ev C x e).bind fun d e1 => match asgT t d e1 with
    | some e2 => .ok .next e2
    | none => .bad
  | .six i k v, e => (ev C v e).bind fun x e1 => onS i e1 ((ev C k e1).bind fun y e2 => updE i (fun d => setO d y x) e2)
  | .aug i o x, e => match e[i]? with
    | some (some d) => (ev C x e).bind fun y e1 => match augD o d y with
      | some z => .ok .next (e1.set i (some z))
      | none => .bad
    | _ => .bad
  | .app i x, e => onL i e ((ev C x e).bind fun y e1 => updE i (fun d => appO d y) e1)
  | .ins i k x, e => onL i e ((ev C k e).bind fun y e1 => (ev C x e1).bind fun z e2 => updE i (fun d => insO d y z) e2)
  | .exp x, e => (ev C x e).bind fun _ e1 => .ok .next e1
  | .iff c a b, e => (asB (ev C c e)).bind fun t e1 => if t then exs C W a e1 else exs C W b e1
  | .whl c b, e => whlGo (fun e => asB (ev C c e)) (fun e => exs C W b e) W e
  | .for_ t ik is b, e => (evs C is e).bind fun xs e1 => match itemsD ik xs with
    | some ds => forGo (asgT t) (fun e => exs C W b e) ds e1
    | none => .bad
  | .ret x, e => (ev C x e).bind fun d e1 => .ok (.ret d) e1
  | .retN, e => .ok (.ret .non) e
  | .brk, e => .ok .brk e
  | .cnt, e => .ok .cnt e
  | .pas, e => .ok .next e
def exs (C : Orc) (W : Nat) : List S → Nv → R Fl
  | [], e => .ok .next e
  | s :: r, e => (exS C W s e).bind fun fl e1 => match fl with
    | .next => exs C W r e1
    | f => .ok f e1
end
/-! ### defs -/
structure Fn where
  ps : List Str
  N : List Str
  keep : List Bool
  body : List S
def lastP : List Bool → Nv → Nv
  | k :: ks, o :: e => (if k then o else none) :: lastP ks e
  | _, _ => []
def callN (T : Str → Option Fn) (W : Nat) : Nat → Orc
  | 0, _, _ => .bad
  | k + 1, f, ds => match T f with
    | none => .bad
    | some fn => if ds.length = fn.ps.length then
        match exs (callN T W k) W fn.body (ds.map some ++ List.replicate (fn.N.length - ds.length) none) with
        | .ok (.ret d) e => .ok d (lastP fn.keep e)
        | .ok .next e => .ok .non (lastP fn.keep e)
        | .ok _ _ => .bad
        | .ex x e => .ex x (lastP fn.keep e)
        | .bad => .bad
      else .bad
end Vm
namespace Vm
open PySem PySem.Spec L2

abbrev AS := Addr → Prop
def Dj (S T : AS) : Prop := ∀ a, S a → T a → False
def Sb (S T : AS) : Prop := ∀ a, S a → T a
def nos : AS := fun _ => False
def okS (s : Str) : Prop := PyData.strOk s = true ∧ s.length ≤ sizeLine
mutual
def Rep (H : Hp) (F : AS) : D → V → AS → Prop
  | .non, v, _ => v = .non
  | .bl b, v, _ => v = .bl b
  | .int i, v, _ => v = .int i
  | .str s, v, _ => v = .str s ∧ okS s
  | .tup ds, v, S => ∃ a vs, v = .ref a ∧ Rd H a (.tup vs) ∧ ¬ F a ∧ vs.length ≤ sizeLine ∧ RepL H F ds vs S
  | .lst o ds, v, S => ∃ a vs, v = .ref a ∧ vs.length ≤ sizeLine ∧ RepL H F ds vs nos ∧ ((o = false ∧ Rd H a (.lst vs) ∧ ¬ F a) ∨ (o = true ∧ H a = some (.lst vs) ∧ S a))
def RepL (H : Hp) (F : AS) : List D → List V → AS → Prop
  | [], vs, _ => vs = []
  | d :: ds, vs, S => ∃ v r S1 S2, vs = v :: r ∧ Rep H F d v S1 ∧ RepL H F ds r S2 ∧ Dj S1 S2 ∧ Sb S1 S ∧ Sb S2 S
end
/-- from the state (H, F) with what S owns: only S's cells are changed -/
structure Chg (S : AS) (H H' : Hp) (F F' : AS) : Prop where
  keep : ∀ a o, H a = some o → ¬ S a → H' a = some o
  new : ∀ a, F' a → F a ∨ H a = none
  old : ∀ a, F a → ¬ S a → F' a
section
variable {H H' H'' : Hp} {F F' F'' S S' T : AS}
theorem Sb.refl : Sb S S := fun _ h => h
theorem Sb.trans (a : Sb S T) (b : Sb T F) : Sb S F := fun x h => b x (a x h)
theorem Dj.symm (h : Dj S T) : Dj T S := fun a x y => h a y x
theorem Dj.mono (h : Dj S T) (a : Sb S' S) (b : Sb F T) : Dj S' F := fun x p q => h x (a x p) (b x q)
theorem dj_nos : Dj nos S := fun _ h => h.elim
theorem sb_nos : Sb nos S := fun _ h => h.elim
theorem Chg.refl : Chg S H H F F := ⟨fun _ _ e _ => e, fun _ h => .inl h, fun _ h _ => h⟩
theorem Rd.keep (r : Rd H a u) (k : ∀ o, H a = some o → H' a = some o) : Rd H' a u := r.elim (fun h => .inl (k _ h)) fun ⟨o, h⟩ => .inr ⟨o, k _ h⟩
theorem Rd.there (r : Rd H a u) : H a ≠ none := fun e => r.elim (fun h => by rw [e] at h; cases h) fun ⟨o, h⟩ => by rw [e] at h; cases h
mutual
theorem Rep.step : ∀ (d : D) (v : V) (S : AS), Rep H F d v S → (∀ a o, H a = some o → ¬ F a ∨ S a → H' a = some o) → (∀ a, F' a → F a ∨ H a = none) → Rep H' F' d v S
  | .non, _, _, h, _, _ => h
  | .bl _, _, _, h, _, _ => h
  | .int _, _, _, h, _, _ => h
  | .str _, _, _, h, _, _ => h
  | .tup ds, v, S, h, k, n => by
    obtain ⟨a, vs, e, r, f, z, l⟩ := h
    exact ⟨a, vs, e, Rd.keep r fun o q => k a o q (.inl f), fun q => (n a q).elim f (Rd.there r), z, RepL.step ds vs S l k n⟩
  | .lst o ds, v, S, h, k, n => by
    obtain ⟨a, vs, e, z, l, c⟩ := h
    refine ⟨a, vs, e, z, RepL.step ds vs nos l (fun a o q h => k a o q (h.elim .inl fun z => z.elim)) n, ?_⟩
    rcases c with ⟨e1, r, f⟩ | ⟨e1, r, s⟩
    · exact .inl ⟨e1, Rd.keep r fun o q => k a o q (.inl f), fun q => (n a q).elim f (Rd.there r)⟩
    · exact .inr ⟨e1, k a _ r (.inr s), s⟩
theorem RepL.step : ∀ (ds : List D) (vs : List V) (S : AS), RepL H F ds vs S → (∀ a o, H a = some o → ¬ F a ∨ S a → H' a = some o) → (∀ a, F' a → F a ∨ H a = none) → RepL H' F' ds vs S
  | [], _, _, h, _, _ => h
  | d :: ds, vs, S, h, k, n => by
    obtain ⟨v, r, S1, S2, e, h1, h2, dj, s1, s2⟩ := h
    exact ⟨v, r, S1, S2, e, Rep.step d v S1 h1 (fun a o q z => k a o q (z.imp_right (s1 a))) n, RepL.step ds r S2 h2 (fun a o q z => k a o q (z.imp_right (s2 a))) n, dj, s1, s2⟩
end
mutual
theorem Rep.mono : ∀ (d : D) (v : V) (S T : AS), Rep H F d v S → Sb S T → Rep H F d v T
  | .non, _, _, _, h, _ => h
  | .bl _, _, _, _, h, _ => h
  | .int _, _, _, _, h, _ => h
  | .str _, _, _, _, h, _ => h
  | .tup ds, v, S, T, h, k => by
    obtain ⟨a, vs, e, r, f, z, l⟩ := h
    exact ⟨a, vs, e, r, f, z, RepL.mono ds vs S T l k⟩
  | .lst o ds, v, S, T, h, k => by
    obtain ⟨a, vs, e, z, l, c⟩ := h
    exact ⟨a, vs, e, z, l, c.imp_right fun ⟨x, y, s⟩ => ⟨x, y, k a s⟩⟩
theorem RepL.mono : ∀ (d : List D) (v : List V) (S T : AS), RepL H F d v S → Sb S T → RepL H F d v T
  | [], _, _, _, h, _ => h
  | d :: ds, vs, S, T, h, k => by
    obtain ⟨v, r, S1, S2, e, h1, h2, dj, s1, s2⟩ := h
    exact ⟨v, r, S1, S2, e, h1, h2, dj, s1.trans k, s2.trans k⟩
end
/-- the forbidden set shrinks -/
theorem Rep.less {d : D} {v : V} (h : Rep H F d v S) (n : Sb F' F) : Rep H F' d v S := Rep.step d v S h (fun _ _ e _ => e) fun a q => .inl (n a q)
theorem RepL.less {d : List D} {v : List V} (h : RepL H F d v S) (n : Sb F' F) : RepL H F' d v S := RepL.step d v S h (fun _ _ e _ => e) fun a q => .inl (n a q)
mutual
/-- given up: what S owned may be forbidden no longer -/
theorem Rep.frz : ∀ (d : D) (v : V) (S : AS), Rep H F d v S → Rep H (fun a => F a ∧ ¬ S a) d.fz v nos
  | .non, _, _, h => h
  | .bl _, _, _, h => h
  | .int _, _, _, h => h
  | .str _, _, _, h => h
  | .tup ds, v, S, h => by
    obtain ⟨a, vs, e, r, f, z, l⟩ := h
    exact ⟨a, vs, e, r, fun q => f q.1, z, RepL.frz ds vs S l⟩
  | .lst o ds, v, S, h => by
    obtain ⟨a, vs, e, z, l, c⟩ := h
    have l2 := RepL.frz ds vs nos l
    refine ⟨a, vs, e, z, RepL.less l2 (fun a q => ⟨q.1, fun z => z.elim⟩), .inl ⟨rfl, ?_⟩⟩
    rcases c with ⟨e1, r, f⟩ | ⟨e1, r, s⟩
    · exact ⟨r, fun q => f q.1⟩
    · exact ⟨.inl r, fun q => q.2 s⟩
theorem RepL.frz : ∀ (d : List D) (v : List V) (S : AS), RepL H F d v S → RepL H (fun a => F a ∧ ¬ S a) (fzL d) v nos
  | [], _, _, h => h
  | d :: ds, vs, S, h => by
    obtain ⟨v, r, S1, S2, e, h1, h2, dj, s1, s2⟩ := h
    exact ⟨v, r, nos, nos, e, (Rep.frz d v S1 h1).less fun a q => ⟨q.1, fun z => q.2 (s1 a z)⟩, (RepL.frz ds r S2 h2).less fun a q => ⟨q.1, fun z => q.2 (s2 a z)⟩, dj_nos, sb_nos, sb_nos⟩
end
mutual
/-- a shared thing owns nothing -/
theorem Rep.isF : ∀ (d : D) (v : V) (S : AS), d.isF = true → Rep H F d v S → Rep H F d v nos
  | .non, _, _, _, h => h
  | .bl _, _, _, _, h => h
  | .int _, _, _, _, h => h
  | .str _, _, _, _, h => h
  | .tup ds, v, S, c, h => by
    obtain ⟨a, vs, e, r, f, z, l⟩ := h
    exact ⟨a, vs, e, r, f, z, RepL.isF ds vs S (by simpa [D.isF] using c) l⟩
  | .lst o ds, v, S, c, h => by
    have c2 : o = false ∧ isFL ds = true := by simpa [D.isF] using c
    obtain ⟨a, vs, e, z, l, q⟩ := h
    refine ⟨a, vs, e, z, l, .inl ?_⟩
    rcases q with q | ⟨q, _⟩
    · exact q
    · rw [c2.1] at q; cases q
theorem RepL.isF : ∀ (d : List D) (v : List V) (S : AS), isFL d = true → RepL H F d v S → RepL H F d v nos
  | [], _, _, _, h => h
  | d :: ds, vs, S, c, h => by
    have c2 : d.isF = true ∧ isFL ds = true := by simpa [Vm.isFL] using c
    obtain ⟨v, r, S1, S2, e, h1, h2, dj, s1, s2⟩ := h
    exact ⟨v, r, nos, nos, e, Rep.isF d v S1 c2.1 h1, RepL.isF ds r S2 c2.2 h2, dj_nos, sb_nos, sb_nos⟩
end
theorem RepL.len : ∀ {ds : List D} {vs : List V} {S : AS}, RepL H F ds vs S → vs.length = ds.length
  | [], _, _, h => by rw [show _ = [] from h]; rfl
  | d :: ds, vs, S, h => by
    obtain ⟨v, r, S1, S2, e, h1, h2, _⟩ := h
    rw [e, List.length_cons, List.length_cons, RepL.len h2]
theorem RepL.get : ∀ {ds : List D} {vs : List V} {S : AS} {i : Nat} {d : D}, RepL H F ds vs S → ds[i]? = some d → ∃ v, vs[i]? = some v ∧ Rep H F d v S
  | [], _, _, _, _, _, e => by simp at e
  | d :: ds, vs, S, 0, x, h, e => by
    obtain ⟨v, r, S1, S2, q, h1, h2, dj, s1, s2⟩ := h
    have e' : d = x := by simpa using e
    subst e'
    exact ⟨v, by rw [q]; rfl, h1.mono _ _ _ _ s1⟩
  | d :: ds, vs, S, i + 1, x, h, e => by
    obtain ⟨v, r, S1, S2, q, h1, h2, dj, s1, s2⟩ := h
    obtain ⟨w, a, b⟩ := RepL.get (i := i) h2 (by simpa using e)
    exact ⟨w, by rw [q]; simpa using a, b.mono _ _ _ _ s2⟩
theorem RepL.get' {ds : List D} {vs : List V} {S : AS} {i : Nat} {v : V} (h : RepL H F ds vs S) (e : vs[i]? = some v) : ∃ d, ds[i]? = some d ∧ Rep H F d v S := by
  have hi : i < ds.length := by rw [← h.len]; exact (List.getElem?_eq_some_iff.mp e).1
  obtain ⟨w, a, b⟩ := h.get (List.getElem?_eq_getElem hi)
  rw [e] at a; cases a
  exact ⟨_, List.getElem?_eq_getElem hi, b⟩
theorem RepL.nil : RepL H F [] [] S := rfl
theorem RepL.cons {d : D} {ds : List D} {v : V} {vs : List V} (a : Rep H F d v nos) (b : RepL H F ds vs nos) : RepL H F (d :: ds) (v :: vs) nos := ⟨v, vs, nos, nos, rfl, a, b, dj_nos, sb_nos, sb_nos⟩
theorem RepL.app : ∀ {ds es : List D} {vs us : List V}, RepL H F ds vs nos → RepL H F es us nos → RepL H F (ds ++ es) (vs ++ us) nos
  | [], _, _, _, h, k => by rw [show _ = [] from h]; exact k
  | d :: ds, es, vs, us, h, k => by
    obtain ⟨v, r, S1, S2, e, h1, h2, dj, s1, s2⟩ := h
    subst e
    exact RepL.cons (h1.mono _ _ _ _ s1) (RepL.app (h2.mono _ _ _ _ s2) k)
theorem RepL.take : ∀ {ds : List D} {vs : List V} (n : Nat), RepL H F ds vs nos → RepL H F (ds.take n) (vs.take n) nos
  | _, _, 0, _ => by simp [RepL]
  | [], _, n + 1, h => by rw [show _ = [] from h]; rfl
  | d :: ds, vs, n + 1, h => by
    obtain ⟨v, r, S1, S2, e, h1, h2, dj, s1, s2⟩ := h
    subst e
    exact RepL.cons (h1.mono _ _ _ _ s1) (RepL.take n (h2.mono _ _ _ _ s2))
theorem RepL.drop : ∀ {ds : List D} {vs : List V} (n : Nat), RepL H F ds vs nos → RepL H F (ds.drop n) (vs.drop n) nos
  | _, _, 0, h => h
  | [], _, n + 1, h => by rw [show _ = [] from h]; rfl
  | d :: ds, vs, n + 1, h => by
    obtain ⟨v, r, S1, S2, e, h1, h2, dj, s1, s2⟩ := h
    subst e
    exact RepL.drop n (h2.mono _ _ _ _ s2)
theorem RepL.set : ∀ {ds : List D} {vs : List V} (n : Nat) {d : D} {v : V}, RepL H F ds vs nos → Rep H F d v nos → RepL H F (ds.set n d) (vs.set n v) nos
  | [], _, _, _, _, h, _ => by rw [show _ = [] from h]; rfl
  | d :: ds, vs, 0, _, _, h, k => by
    obtain ⟨v, r, S1, S2, e, h1, h2, dj, s1, s2⟩ := h
    subst e
    exact RepL.cons k (h2.mono _ _ _ _ s2)
  | d :: ds, vs, n + 1, _, _, h, k => by
    obtain ⟨v, r, S1, S2, e, h1, h2, dj, s1, s2⟩ := h
    subst e
    exact RepL.cons (h1.mono _ _ _ _ s1) (RepL.set n (h2.mono _ _ _ _ s2) k)
theorem RepL.insertIdx : ∀ {ds : List D} {vs : List V} (n : Nat) {d : D} {v : V}, RepL H F ds vs nos → Rep H F d v nos → RepL H F (ds.insertIdx n d) (vs.insertIdx n v) nos
  | ds, vs, 0, _, _, h, k => by simpa using RepL.cons k h
  | [], _, n + 1, _, _, h, _ => by rw [show _ = [] from h]; rfl
  | d :: ds, vs, n + 1, _, _, h, k => by
    obtain ⟨v, r, S1, S2, e, h1, h2, dj, s1, s2⟩ := h
    subst e
    simpa using RepL.cons (h1.mono _ _ _ _ s1) (RepL.insertIdx n (h2.mono _ _ _ _ s2) k)
mutual
/-- what is owned stands -/
theorem Rep.dom : ∀ (d : D) (v : V) (S : AS), Rep H F d v S → Rep H F d v (fun a => S a ∧ H a ≠ none)
  | .non, _, _, h => h
  | .bl _, _, _, h => h
  | .int _, _, _, h => h
  | .str _, _, _, h => h
  | .tup ds, v, S, h => by
    obtain ⟨a, vs, e, r, f, z, l⟩ := h
    exact ⟨a, vs, e, r, f, z, RepL.dom ds vs S l⟩
  | .lst o ds, v, S, h => by
    obtain ⟨a, vs, e, z, l, c⟩ := h
    exact ⟨a, vs, e, z, l, c.imp_right fun ⟨x, y, s⟩ => ⟨x, y, s, by rw [y]; simp⟩⟩
theorem RepL.dom : ∀ (d : List D) (v : List V) (S : AS), RepL H F d v S → RepL H F d v (fun a => S a ∧ H a ≠ none)
  | [], _, _, h => h
  | d :: ds, vs, S, h => by
    obtain ⟨v, r, S1, S2, e, h1, h2, dj, s1, s2⟩ := h
    exact ⟨v, r, _, _, e, Rep.dom d v S1 h1, RepL.dom ds r S2 h2, fun a x y => dj a x.1 y.1, fun a x => ⟨s1 a x.1, x.2⟩, fun a x => ⟨s2 a x.1, x.2⟩⟩
end
theorem Rep.ofR {d : D} {v : V} (h : Rep H F d v S) (hs : Sb S T) : Rep H F d v T := h.mono _ _ _ _ hs

/-! ### the slots -/
def ERs (H : Hp) (F : AS) : Nv → St → AS → Prop
  | [], σ, _ => σ = []
  | o :: e, σ, S => ∃ u r S1 S2, σ = u :: r ∧ (∀ d, o = some d → ∃ v, u = some v ∧ Rep H F d v S1) ∧ ERs H F e r S2 ∧ Dj S1 S2 ∧ Sb S1 S ∧ Sb S2 S
theorem ERs.mono : ∀ {e : Nv} {σ : St} {S T : AS}, ERs H F e σ S → Sb S T → ERs H F e σ T
  | [], _, _, _, h, _ => h
  | o :: e, σ, S, T, h, k => by
    obtain ⟨u, r, S1, S2, q, h1, h2, dj, s1, s2⟩ := h
    exact ⟨u, r, S1, S2, q, h1, h2, dj, s1.trans k, s2.trans k⟩
theorem ERs.step : ∀ {e : Nv} {σ : St} {S : AS}, ERs H F e σ S → (∀ a o, H a = some o → ¬ F a ∨ S a → H' a = some o) → (∀ a, F' a → F a ∨ H a = none) → ERs H' F' e σ S
  | [], _, _, h, _, _ => h
  | o :: e, σ, S, h, k, n => by
    obtain ⟨u, r, S1, S2, q, h1, h2, dj, s1, s2⟩ := h
    refine ⟨u, r, S1, S2, q, fun d hd => ?_, ERs.step h2 (fun a o q z => k a o q (z.imp_right (s2 a))) n, dj, s1, s2⟩
    obtain ⟨v, hv, hr⟩ := h1 d hd
    exact ⟨v, hv, Rep.step d v S1 hr (fun a o q z => k a o q (z.imp_right (s1 a))) n⟩
theorem ERs.less {e : Nv} {σ : St} (h : ERs H F e σ S) (n : Sb F' F) : ERs H F' e σ S := h.step (fun _ _ e _ => e) fun a q => .inl (n a q)
theorem ERs.len : ∀ {e : Nv} {σ : St} {S : AS}, ERs H F e σ S → σ.length = e.length
  | [], _, _, h => by rw [show _ = [] from h]; rfl
  | o :: e, σ, S, h => by
    obtain ⟨u, r, S1, S2, q, h1, h2, _⟩ := h
    rw [q, List.length_cons, List.length_cons, ERs.len h2]
theorem ERs.get : ∀ {e : Nv} {σ : St} {S : AS} {i : Nat} {d : D}, ERs H F e σ S → e[i]? = some (some d) → ∃ v, σ[i]? = some (some v) ∧ Rep H F d v S
  | [], _, _, _, _, _, e => by simp at e
  | o :: e, σ, S, 0, x, h, q => by
    obtain ⟨u, r, S1, S2, q', h1, h2, dj, s1, s2⟩ := h
    have e' : o = some x := by simpa using q
    obtain ⟨v, hv, hr⟩ := h1 x e'
    exact ⟨v, by rw [q', hv]; rfl, hr.ofR s1⟩
  | o :: e, σ, S, i + 1, x, h, q => by
    obtain ⟨u, r, S1, S2, q', h1, h2, dj, s1, s2⟩ := h
    obtain ⟨w, a, b⟩ := ERs.get (i := i) h2 (by simpa using q)
    exact ⟨w, by rw [q']; simpa using a, b.ofR s2⟩
/-- a slot's content is taken out -/
theorem ERs.out : ∀ {e : Nv} {σ : St} {S : AS} {i : Nat} {d : D}, ERs H F e σ S → e[i]? = some (some d) → ∃ v S1 S2, σ[i]? = some (some v) ∧ Rep H F d v S1 ∧ ERs H F (e.set i none) σ S2 ∧ Dj S1 S2 ∧ Sb S1 S ∧ Sb S2 S
  | [], _, _, _, _, _, e => by simp at e
  | o :: e, σ, S, 0, x, h, q => by
    obtain ⟨u, r, S1, S2, q', h1, h2, dj, s1, s2⟩ := h
    have e' : o = some x := by simpa using q
    obtain ⟨v, hv, hr⟩ := h1 x e'
    exact ⟨v, S1, S2, by rw [q', hv]; rfl, hr, ⟨u, r, nos, S2, q', (fun d hd => by cases hd), h2, dj_nos, sb_nos, Sb.refl⟩, dj, s1, s2⟩
  | o :: e, σ, S, i + 1, x, h, q => by
    obtain ⟨u, r, S1, S2, q', h1, h2, dj, s1, s2⟩ := h
    obtain ⟨w, T1, T2, a, b, c, dj', t1, t2⟩ := ERs.out (i := i) h2 (by simpa using q)
    refine ⟨w, T1, fun a => S1 a ∨ T2 a, by rw [q']; simpa using a, b, ⟨u, r, S1, T2, q', h1, by simpa using c, dj.mono Sb.refl t2, fun _ z => .inl z, fun _ z => .inr z⟩, fun a x y => ?_, t1.trans s2, fun a z => z.elim (s1 a) fun z => s2 a (t2 a z)⟩
    rcases y with y | y
    · exact dj a y (t1 a x)
    · exact dj' a x y
/-- .. put in -/
theorem ERs.put : ∀ {e : Nv} {σ : St} {S1 S2 : AS} {i : Nat} {d : D} {v : V}, ERs H F e σ S2 → i < e.length → Rep H F d v S1 → Dj S1 S2 → ERs H F (e.set i (some d)) (σ.set i (some v)) (fun a => S1 a ∨ S2 a)
  | [], _, _, _, _, _, _, _, hi, _, _ => by simp at hi
  | o :: e, σ, S1, S2, 0, d, v, h, _, k, dj => by
    obtain ⟨u, r, T1, T2, q', h1, h2, dj', s1, s2⟩ := h
    refine ⟨some v, r, S1, T2, by rw [q']; rfl, (fun d' hd => ?_), h2, dj.mono Sb.refl s2, fun _ z => .inl z, fun a z => .inr (s2 a z)⟩
    cases hd
    exact ⟨v, rfl, k⟩
  | o :: e, σ, S1, S2, i + 1, d, v, h, hi, k, dj => by
    obtain ⟨u, r, T1, T2, q', h1, h2, dj', s1, s2⟩ := h
    have h3 := ERs.put (i := i) h2 (by simpa using hi) k (dj.mono Sb.refl s2)
    refine ⟨u, r.set i (some v), T1, _, by rw [q']; rfl, h1, h3, fun a x y => ?_, fun a z => .inr (s1 a z), fun a z => z.elim .inl fun z => .inr (s2 a z)⟩
    rcases y with y | y
    · exact dj a y (s1 a x)
    · exact dj' a x y
/-- the same place, the same value -/
theorem set_at {σ : St} {i : Nat} {v : V} (h : σ[i]? = some (some v)) : σ.set i (some v) = σ := by
  have hi := (List.getElem?_eq_some_iff.mp h).1
  apply List.ext_getElem?
  intro j
  by_cases e : i = j
  · subst e; rw [List.getElem?_set_self hi, h]
  · rw [List.getElem?_set_ne e]
theorem ERs.back {e : Nv} {σ : St} {S1 S2 : AS} {i : Nat} {d : D} {v : V} (h : ERs H F e σ S2) (hi : i < e.length) (hv : σ[i]? = some (some v)) (r : Rep H F d v S1) (dj : Dj S1 S2) : ERs H F (e.set i (some d)) σ (fun a => S1 a ∨ S2 a) := by
  have := ERs.put h hi r dj
  rwa [set_at hv] at this
theorem ERs.gone : ∀ {e : Nv} {σ : St} {S : AS} {i : Nat}, ERs H F e σ S → ERs H F (e.set i none) σ S
  | [], _, _, _, h => by simpa using h
  | o :: e, σ, S, 0, h => by
    obtain ⟨u, r, S1, S2, q', h1, h2, dj, s1, s2⟩ := h
    exact ⟨u, r, S1, S2, q', (fun d hd => by cases hd), h2, dj, s1, s2⟩
  | o :: e, σ, S, i + 1, h => by
    obtain ⟨u, r, S1, S2, q', h1, h2, dj, s1, s2⟩ := h
    exact ⟨u, r, S1, S2, q', h1, ERs.gone (i := i) h2, dj, s1, s2⟩
theorem ERs.goneσ : ∀ {e : Nv} {σ : St} {S : AS} {i : Nat}, ERs H F e σ S → ERs H F (e.set i none) (σ.set i none) S
  | [], _, _, _, h => by rw [show _ = [] from h]; rfl
  | o :: e, σ, S, 0, h => by
    obtain ⟨u, r, S1, S2, q', h1, h2, dj, s1, s2⟩ := h
    exact ⟨none, r, S1, S2, by rw [q']; rfl, (fun d hd => by cases hd), h2, dj, s1, s2⟩
  | o :: e, σ, S, i + 1, h => by
    obtain ⟨u, r, S1, S2, q', h1, h2, dj, s1, s2⟩ := h
    exact ⟨u, r.set i none, S1, S2, by rw [q']; rfl, h1, ERs.goneσ (i := i) h2, dj, s1, s2⟩
theorem ERs.frz {e : Nv} {σ : St} {T : AS} (h : ERs H F e σ S) : ERs H (fun a => F a ∧ ¬ T a) e σ S := h.less fun _ q => q.1
end
end Vm
namespace Vm
open PySem PySem.Spec L2
abbrev Sl := L2.St

/-! ### the check: the text is what the language says -/
structure Tab where
  free : List Str
  cons : List (Str × D)
  fns : List (Str × Fn)
  kws : List (Str × Nat × List Str × List Nat)
def Tab.fn (g : Tab) (f : Str) : Option Fn := g.fns.lookup f
def pl : Expr → Bool
  | .Starred _ _ => false
  | .Slice _ _ _ _ => false
  | .Set _ _ _ => false
  | _ => true
def visB (sc : Scope) (x : Str) : Bool := match sc.names.lookup x with
  | some .local => true
  | some .cell => true
  | some .free => true
  | _ => false
def okNm (N : List Str) (sc : Scope) (i : Nat) (x : Str) : Bool := decide (N[i]? = some x) && (visB sc x && (!(x == ("__debug__" : Str)) && !(x == ("__classdict__" : Str))))
def okGl (sc : Scope) (x : Str) : Bool := decide (sc.names.lookup x = some .globalImplicit) && (!(x == ("__debug__" : Str)) && !decide (x = ("__name__" : Str)))
def constD : Const → D → Bool
  | .none, .non => true
  | .bool b, .bl c => b == c
  | .int i, .int j => decide (i = j)
  | .str s, .str t => decide (s = t) && (PyData.strOk s && decide (s.length ≤ 1000000))
  | _, _ => false
def bname : B1 → Str
  | .len => "len" | .abs => "abs" | .all => "all" | .any => "any" | .sum => "sum" | .lst => "list" | .tup => "tuple" | .max => "max" | .min => "min" | .str => "str" | .int => "int" | .sorted => "sorted"
def b2name : B2 → Str
  | .max => "max" | .min => "min"
def tyname : Ty → Str
  | .bool => "bool" | .int => "int" | .str => "str" | .tuple => "tuple" | .list => "list"
def tyA (sc : Scope) (free : List Str) (t : Ty) : Expr → Bool
  | .Name x _ => decide (x = tyname t) && (okGl sc x && free.contains x)
  | _ => false
def tysA (sc : Scope) (free : List Str) : List Ty → List Expr → Bool
  | [], [] => true
  | t :: ts, e :: es => tyA sc free t e && tysA sc free ts es
  | _, _ => false
def goodOp : Operator → Bool
  | .Add => true | .Sub => true | .Mult => true | .FloorDiv => true | .Mod => true | .Pow => true | .LShift => true | .RShift => true | .BitAnd => true
  | _ => false
def goodCmp : CmpOp → Bool
  | .Eq => true | .NotEq => true | .Lt => true | .LtE => true | .Gt => true | .GtE => true | .In => true | .NotIn => true
  | _ => false
/-- the value is one's own or shared (no bare look at a slot) -/
def isV : E → Bool
  | .pk _ => false
  | .ite _ a b => isV a && isV b
  | .and a b => true
  | _ => true
mutual
/-- nothing is written, nothing given up -/
def smp : E → Bool
  | .cst _ => true | .pk _ => true | .gc _ _ => true
  | .bin _ a b => smp a && smp b
  | .neg a => smp a
  | .cmp _ a b => smp a && smp b
  | .chn _ _ a b c => smp a && (smp b && smp c)
  | .isn _ a => smp a
  | .and a b => smp a && smp b
  | .or a b => smp a && smp b
  | .not a => smp a
  | .ite c a b => smp c && (smp a && smp b)
  | .ix a i => smp a && smp i
  | .slc _ _ a l h => smp a && (smp l && smp h)
  | .tup es => smpL es
  | .lst es => smpL es
  | .b1 _ a => smp a
  | .b2 _ a b => smp a && smp b
  | .isi _ _ a => smp a
  | .nm _ => false | .mv _ => false | .lc .. => false | .cal .. => false | .cak .. => false
def smpL : List E → Bool
  | [] => true
  | a :: r => smp a && smpL r
end
def pk? : E → Option Nat
  | .pk i => some i
  | _ => none
def tgSlots : Tg → List Nat
  | .nm i => [i]
  | .tup ts => tgsSlots ts
where tgsSlots : List Tg → List Nat
  | [] => []
  | t :: ts => tgSlots t ++ tgsSlots ts
mutual
def tgB (N : List Str) (sc : Scope) (fn : Str → Bool) : Tg → Expr → Bool
  | .nm i, A => match A with
    | .Name x _ => decide (N[i]? = some x) && (decide (sc.names.lookup x = some .local) || (decide (sc.names.lookup x = some .cell) && fn x))
    | _ => false
  | .tup ts, A => match A with
    | .Tuple es _ _ => tgsB N sc fn ts es
    | _ => false
def tgsB (N : List Str) (sc : Scope) (fn : Str → Bool) : List Tg → List Expr → Bool
  | [], es => es.isEmpty
  | t :: ts, es => match es with
    | e :: er => pl e && (tgB N sc fn t e && tgsB N sc fn ts er)
    | [] => false
end
def ikname : Ik → Str
  | .seq => "" | .rng1 => "range" | .rng2 => "range" | .enum => "enumerate" | .zip => "zip"
def ikn : Ik → Nat
  | .seq => 0 | .rng1 => 1 | .rng2 => 2 | .enum => 1 | .zip => 2
def ikTg : Ik → Tg → Bool
  | .enum, .nm _ => false
  | .zip, .nm _ => false
  | _, _ => true
mutual
def chk (g : Tab) (N : List Str) : Scope → E → Expr → Bool
  | sc, .cst d, A => match A with
    | .Constant c _ _ => constD c d
    | _ => false
  | sc, .nm i, A => match A with
    | .Name x _ => okNm N sc i x
    | _ => false
  | sc, .pk i, A => match A with
    | .Name x _ => okNm N sc i x
    | _ => false
  | sc, .mv i, A => match A with
    | .Name x _ => okNm N sc i x
    | _ => false
  | sc, .gc y d, A => match A with
    | .Name x _ => decide (x = y) && (okGl sc x && decide (∃ p ∈ g.cons, p.1 = x ∧ constEq p.2 d = true))
    | _ => false
  | sc, .bin o a b, A => match A with
    | .BinOp x p y _ => decide (p = o) && (goodOp o && ((isV a || smp b) && (chk g N sc a x && chk g N sc b y)))
    | _ => false
  | sc, .neg a, A => match A with
    | .UnaryOp .USub x _ => chk g N sc a x
    | _ => false
  | sc, .cmp o a b, A => match A with
    | .Compare x [p] [y] _ => decide (p = o) && (goodCmp o && (pl y && ((isV a || smp b) && (chk g N sc a x && chk g N sc b y))))
    | _ => false
  | sc, .chn o1 o2 a b c, A => match A with
    | .Compare x [p, q] [y, z] _ => decide (p = o1) && (decide (q = o2) && (goodCmp o1 && (goodCmp o2 && (pl y && (pl z && ((isV a || smp b) && ((isV b || smp c) && (chk g N sc a x && (chk g N sc b y && chk g N sc c z)))))))))
    | _ => false
  | sc, .isn n a, A => match A with
    | .Compare x [.Is] [.Constant .none _ _] _ => !n && chk g N sc a x
    | .Compare x [.IsNot] [.Constant .none _ _] _ => n && chk g N sc a x
    | _ => false
  | sc, .and a b, A => match A with
    | .BoolOp .And (x :: y :: r) p => chk g N sc a x && (match r with
      | [] => chk g N sc b y
      | _ => chk g N sc b (.BoolOp .And (y :: r) p))
    | _ => false
  | sc, .or a b, A => match A with
    | .BoolOp .Or (x :: y :: r) p => chk g N sc a x && (match r with
      | [] => chk g N sc b y
      | _ => chk g N sc b (.BoolOp .Or (y :: r) p))
    | _ => false
  | sc, .not a, A => match A with
    | .UnaryOp .Not x _ => chk g N sc a x
    | _ => false
  | sc, .ite c a b, A => match A with
    | .IfExp z x y _ => chk g N sc c z && (chk g N sc a x && chk g N sc b y)
    | _ => false
  | sc, .ix a i, A => match A with
    | .Subscript x y _ => pl y && ((isV a || smp i) && (chk g N sc a x && chk g N sc i y))
    | _ => false
  | sc, .slc fl fh a lo hi, A => match A with
    | .Subscript x (.Slice l h none _) _ => (isV a || (smp lo && smp hi)) && (isV lo && (isV hi && (chk g N sc a x && ((match l with
        | none => !fl && isUnit lo
        | some l => fl && chk g N sc lo l) && (match h with
        | none => !fh && isUnit hi
        | some h => fh && chk g N sc hi h)))))
    | _ => false
  | sc, .tup es, A => match A with
    | .Tuple xs _ _ => decide (xs.length ≤ 1000) && chks g N sc es xs
    | _ => false
  | sc, .lst es, A => match A with
    | .List xs _ => decide (xs.length ≤ 1000) && chks g N sc es xs
    | _ => false
  | sc, .lc elt tg ik is ifs own, A => match A with
    | .ListComp x [⟨t, i, cs, 0⟩] scope _ => pl i && (ikTg ik tg && (blkC N sc scope own && (tgB N (relS scope sc) (fun x => scope.names.lookup x == some .cell) tg t && ((tgSlots tg).all (fun k => (own.map (·.2)).contains k) && (isV elt && (chk g N (relS scope sc) elt x && (chkTs g N (relS scope sc) ifs cs && (((is.all isV) || (smp elt && smpL ifs)) && (match ik with
      | .seq => chkOne g N sc is i
      | ik => (match i with
        | .Call (.Name y _) xs [] _ => decide (y = ikname ik) && (okGl sc y && (g.free.contains y && (decide (xs.length = ikn ik) && chks g N sc is xs)))
        | _ => false))))))))))
    | _ => false
  | sc, .cal f es, A => match A with
    | .Call (.Name x _) xs [] _ => decide (x = f) && (okGl sc x && ((match g.fn f with
      | some fn => decide (xs.length = fn.ps.length)
      | none => false) && chkA g N sc es xs))
    | _ => false
  | sc, .cak f es ks zs perm, A => match A with
    | .Call (.Name x _) xs kws _ => decide (x = f) && (okGl sc x && ((match g.fn f with
      | some fn => decide (xs.length + kws.length = fn.ps.length)
      | none => false) && (chkA g N sc es xs && (chkK g N sc zs ks kws && (!kws.isEmpty && (g.kws.any fun q => decide (q = (f, es.length, ks, perm))))))))
    | _ => false
  | sc, .b1 f a, A => match A with
    | .Call (.Name x _) [y] [] _ => decide (x = bname f) && (okGl sc x && (g.free.contains x && (pl y && chk g N sc a y)))
    | _ => false
  | sc, .b2 f a b, A => match A with
    | .Call (.Name x _) [y, z] [] _ => decide (x = b2name f) && (okGl sc x && (g.free.contains x && (pl y && (pl z && ((isV a || smp b) && (chk g N sc a y && chk g N sc b z))))))
    | _ => false
  | sc, .isi tp ts a, A => match A with
    | .Call (.Name x _) [y, z] [] _ => decide (x = "isinstance") && (okGl sc x && (g.free.contains x && (pl y && (pl z && (chk g N sc a y && (match ts with
      | [t] => !tp && tyA sc g.free t z
      | ts => tp && (match z with
        | .Tuple zs _ _ => decide (zs.length ≤ 1000) && tysA sc g.free ts zs
        | _ => false)))))))
    | _ => false
def chks (g : Tab) (N : List Str) : Scope → List E → List Expr → Bool
  | _, [], xs => xs.isEmpty
  | sc, a :: r, xs => match xs with
    | x :: xr => pl x && (isV a && (chk g N sc a x && chks g N sc r xr))
    | [] => false
/-- arguments: a bare name is handed on -/
def chkA (g : Tab) (N : List Str) : Scope → List E → List Expr → Bool
  | _, [], xs => xs.isEmpty
  | sc, a :: r, xs => match xs with
    | x :: xr => pl x && (((pk? a).isSome || isV a) && (chk g N sc a x && chkA g N sc r xr))
    | [] => false
/-- tests: at most one -/
def chkTs (g : Tab) (N : List Str) : Scope → List E → List Expr → Bool
  | _, [], xs => xs.isEmpty
  | sc, a :: r, xs => match xs with
    | [x] => r.isEmpty && chk g N sc a x
    | _ => false
def chkOne (g : Tab) (N : List Str) : Scope → List E → Expr → Bool
  | _, [], _ => false
  | sc, a :: r, x => r.isEmpty && chk g N sc a x
def chkK (g : Tab) (N : List Str) : Scope → List E → List Str → List Keyword → Bool
  | _, [], ks, kws => ks.isEmpty && kws.isEmpty
  | sc, z :: zs, ks, kws => match ks, kws with
    | k :: kr, ⟨w, v, _⟩ :: wr => decide (w = some k) && (pl v && (((pk? z).isSome || isV z) && (chk g N sc z v && chkK g N sc zs kr wr)))
    | _, _ => false
def isUnit : E → Bool
  | .cst .non => true
  | _ => false
def constEq : D → D → Bool
  | .non, .non => true
  | .bl b, .bl c => b == c
  | .int i, .int j => decide (i = j)
  | .str s, .str t => decide (s = t)
  | _, _ => false
end

/-! ### what stands behind an expression -/
/-- the parameters of the proof: who is called, how an exception stands in the heap, what is wanted of one -/
structure Pm where
  C : Orc
  XR : Hp → AS → D → Value → Option Addr → Prop
  Wx : WX
def Nw (S : AS) (H : Hp) (T : AS) : Prop := ∀ a, T a → S a ∨ H a = none
structure Ch (S : AS) (H : Hp) (F : AS) (H' : Hp) (F' : AS) : Prop where
  keep : ∀ a o, H a = some o → ¬ S a → H' a = some o
  new : ∀ a, F' a → F a ∨ H a = none
  old : ∀ a, F a → ¬ S a → F' a
  dom : ∀ a, H a ≠ none → H' a ≠ none
  fd : ∀ a, F' a → H' a ≠ none
/-- ready: the slots stand -/
structure Rdy (H : Hp) (F S : AS) (e : Nv) (σ : Sl) : Prop where
  er : ERs H F e σ S
  sf : Sb S F
  fd : ∀ a, F a → H a ≠ none
structure Aft (vb sb : Bool) (σ : Sl) (H : Hp) (F S : AS) (H' : Hp) (F' : AS) (d : D) (v : V) (S1 : AS) (e' : Nv) (S2 : AS) : Prop where
  ch : Ch S H F H' F'
  rep : Rep H' F' d v S1
  er : ERs H' F' e' σ S2
  s1 : vb = true → Sb S1 F'
  s2 : Sb S2 F'
  n2 : Nw S H S2
  dj : vb = true → Dj S1 S2
  n1 : vb = true → Nw S H S1
  ext : sb = true → ∀ a o, H a = some o → H' a = some o
structure AftT (sb : Bool) (σ : Sl) (H : Hp) (F S : AS) (H' : Hp) (F' : AS) (e' : Nv) (S2 : AS) : Prop where
  ch : Ch S H F H' F'
  er : ERs H' F' e' σ S2
  s2 : Sb S2 F'
  n2 : Nw S H S2
  ext : sb = true → ∀ a o, H a = some o → H' a = some o
def Vx (p : Pm) (σ : Sl) (H : Hp) (F S : AS) (x : D) (e' : Nv) : Prop :=
  ∀ cls dd H' F' S2, AftT false σ H F S H' F' e' S2 → p.XR H' F' x cls dd → p.Wx cls dd σ H'
def Vp (p : Pm) (vb sb : Bool) (σ : Sl) (H : Hp) (F S : AS) (r : R D) (Q : VK) : Prop := match r with
  | .ok d e' => ∀ v H' F' S1 S2, Aft vb sb σ H F S H' F' d v S1 e' S2 → Q v H'
  | .ex x e' => Vx p σ H F S x e'
  | .bad => False
def Vt (p : Pm) (sb : Bool) (σ : Sl) (H : Hp) (F S : AS) (r : R Bool) (Q : Bool → Hp → Prop) : Prop := match r with
  | .ok b e' => ∀ H' F' S2, AftT sb σ H F S H' F' e' S2 → Q b H'
  | .ex x e' => Vx p σ H F S x e'
  | .bad => False
def tE (p : Pm) (x : E) : TE := fun σ H Q => ∃ F S e, Rdy H F S e σ ∧ Vp p (isV x) (smp x) σ H F S (ev p.C x e) Q
def tT (p : Pm) (x : E) : TT := fun σ H Q => ∃ F S e, Rdy H F S e σ ∧ Vt p (smp x) σ H F S (asB (ev p.C x e)) Q
section
variable {p : Pm} {σ : Sl} {H H' H1 H2 H3 : Hp} {F F' F1 F2 F3 S S1 S2 S3 T1 T2 U1 U2 : AS} {e e' e1 e2 e3 : Nv} {d d1 d2 : D} {v v1 v2 : V} {vb sb vb1 sb1 vb2 sb2 : Bool}
theorem Ch.refl (fd : ∀ a, F a → H a ≠ none) : Ch S H F H F := ⟨fun _ _ e _ => e, fun _ h => .inl h, fun _ h _ => h, fun _ h => h, fd⟩
theorem Ch.trans (a : Ch S H F H1 F1) (n : Nw S H S1) (b : Ch S1 H1 F1 H2 F2) (fd : ∀ a, F a → H a ≠ none) : Ch S H F H2 F2 where
  keep := fun x o h ns => b.keep x o (a.keep x o h ns) fun q => (n x q).elim ns fun z => by rw [h] at z; cases z
  new := fun x h => (b.new x h).elim (a.new x) fun z => .inr (Classical.byContradiction fun w => a.dom x w z)
  old := fun x h ns => b.old x (a.old x h ns) fun q => (n x q).elim ns (fd x h)
  dom := fun x h => b.dom x (a.dom x h)
  fd := b.fd
theorem Nw.trans (a : Nw S H S1) (c : Ch S H F H1 F1) (b : Nw S1 H1 S2) : Nw S H S2 := fun x h => (b x h).elim (a x) fun z => .inr (Classical.byContradiction fun w => c.dom x w z)
theorem Rdy.of_aft (a : Aft vb sb σ H F S H1 F1 d v S1 e1 S2) : Rdy H1 F1 S2 e1 σ := ⟨a.er, a.s2, a.ch.fd⟩
theorem Rdy.of_aftT (a : AftT sb σ H F S H1 F1 e1 S2) : Rdy H1 F1 S2 e1 σ := ⟨a.er, a.s2, a.ch.fd⟩
theorem Rdy.refl (r : Rdy H F S e σ) : AftT true σ H F S H F e S := ⟨.refl r.fd, r.er, r.sf, fun _ h => .inl h, fun _ _ _ h => h⟩
theorem Aft.t (a : Aft vb sb σ H F S H1 F1 d v S1 e1 S2) : AftT sb σ H F S H1 F1 e1 S2 := ⟨a.ch, a.er, a.s2, a.n2, a.ext⟩
theorem AftT.weak (a : AftT sb σ H F S H1 F1 e1 S2) : AftT false σ H F S H1 F1 e1 S2 := ⟨a.ch, a.er, a.s2, a.n2, fun h => by cases h⟩
theorem AftT.imp (a : AftT sb1 σ H F S H1 F1 e1 S2) (h : sb2 = true → sb1 = true) : AftT sb2 σ H F S H1 F1 e1 S2 := ⟨a.ch, a.er, a.s2, a.n2, fun z => a.ext (h z)⟩
theorem AftT.trans {σ1 : Sl} (r : ∀ a, F a → H a ≠ none) (a : AftT sb1 σ1 H F S H1 F1 e1 S1) (b : AftT sb2 σ H1 F1 S1 H2 F2 e2 S2) : AftT (sb1 && sb2) σ H F S H2 F2 e2 S2 :=
  ⟨a.ch.trans a.n2 b.ch r, b.er, b.s2, a.n2.trans a.ch b.n2, fun h x o q => by
    rw [Bool.and_eq_true] at h
    exact b.ext h.2 x o (a.ext h.1 x o q)⟩
/-- the first value behind the second's evaluation -/
theorem Aft.keep (a : Aft vb1 sb1 σ H F S H1 F1 d v S1 e1 S2) (b : AftT sb2 σ H1 F1 S2 H2 F2 e2 T2) (h : vb1 = true ∨ sb2 = true) : Rep H2 F2 d v S1 := by
  refine Rep.step d v S1 a.rep (fun x o q z => ?_) b.ch.new
  rcases h with h | h
  · rcases z with z | z
    · exact b.ch.keep x o q fun w => z (a.s2 x w)
    · exact b.ch.keep x o q fun w => a.dj h x z w
  · exact b.ext h x o q
theorem Aft.keepS (a : Aft vb1 sb1 σ H F S H1 F1 d v S1 e1 S2) (b : AftT sb2 σ H1 F1 S2 H2 F2 e2 T2) (h : vb1 = true) : Sb S1 F2 ∧ Dj S1 T2 ∧ Nw S H S1 :=
  ⟨fun x q => b.ch.old x (a.s1 h x q) fun w => a.dj h x q w, fun x q w => (b.n2 x w).elim (fun z => a.dj h x q z) fun z => a.ch.fd x (a.s1 h x q) z, a.n1 h⟩
theorem Aft.keepJ (a : Aft vb1 sb1 σ H F S H1 F1 d v S1 e1 S2) (b : Aft vb2 sb2 σ H1 F1 S2 H2 F2 d2 v2 T1 e2 T2) (h : vb1 = true) (h2 : vb2 = true) : Dj S1 T1 :=
  fun x q w => (b.n1 h2 x w).elim (fun z => a.dj h x q z) fun z => a.ch.fd x (a.s1 h x q) z
/-- a plain value is the end -/
theorem AftT.val (a : AftT sb σ H F S H1 F1 e1 S2) (r : Rep H1 F1 d v nos) : Aft vb sb σ H F S H1 F1 d v nos e1 S2 :=
  ⟨a.ch, r, a.er, fun _ => sb_nos, a.s2, a.n2, fun _ => dj_nos, fun _ => fun _ h => h.elim, a.ext⟩
/-- a new object -/
theorem AftT.new {o : HO} {q : Addr} (fd : ∀ a, F a → H a ≠ none) (a : AftT sb σ H F S H1 F1 e1 S2) (hq : H1 q = none) : AftT sb σ H F S (upd H1 q o) (fun x => F1 x ∨ x = q) e1 S2 := by
  have kp : ∀ x o', H1 x = some o' → upd H1 q o x = some o' := fun x o' h => by rw [upd_ne (fun z => by rw [z, hq] at h; cases h)]; exact h
  have nd : ∀ x, F x → x ≠ q := fun x h z => a.ch.dom x (fd x h) (z ▸ hq)
  refine ⟨⟨fun x o' h ns => kp x o' (a.ch.keep x o' h ns), fun x h => h.elim (a.ch.new x) fun z => .inr ?_, fun x h ns => .inl (a.ch.old x h ns), fun x h => ?_, fun x h => ?_⟩, ?_, fun x h => .inl (a.s2 x h), a.n2, fun h x o' h' => kp x o' (a.ext h x o' h')⟩
  · subst z
    exact Classical.byContradiction fun w => a.ch.dom x w hq
  · by_cases hx : x = q
    · rw [hx, upd_same]; simp
    · rw [upd_ne hx]; exact a.ch.dom x h
  · rcases h with h | h
    · by_cases hx : x = q
      · rw [hx, upd_same]; simp
      · rw [upd_ne hx]; exact a.ch.fd x h
    · rw [h, upd_same]; simp
  · exact a.er.step (fun x o' h _ => kp x o' h) fun x h => h.imp_right fun z => by rw [z]; exact hq
theorem upd_keep {o o' : HO} {q x : Addr} (hq : H1 q = none) (h : H1 x = some o') : upd H1 q o x = some o' := by rw [upd_ne (fun z => by rw [z, hq] at h; cases h)]; exact h
theorem Rep.newF {o : HO} {q : Addr} (hq : H1 q = none) (r : Rep H1 F1 d v S1) : Rep (upd H1 q o) (fun x => F1 x ∨ x = q) d v S1 :=
  Rep.step d v S1 r (fun x o' h _ => upd_keep hq h) fun x h => h.imp_right fun z => by rw [z]; exact hq
theorem RepL.newF {o : HO} {q : Addr} {ds : List D} {vs : List V} (hq : H1 q = none) (r : RepL H1 F1 ds vs S1) : RepL (upd H1 q o) (fun x => F1 x ∨ x = q) ds vs S1 :=
  RepL.step ds vs S1 r (fun x o' h _ => upd_keep hq h) fun x h => h.imp_right fun z => by rw [z]; exact hq
/-- a new list of shared things -/
theorem AftT.lst {q : Addr} {ds : List D} {vs : List V} (fd : ∀ a, F a → H a ≠ none) (a : AftT sb σ H F S H1 F1 e1 S2) (hq : H1 q = none) (r : RepL H1 F1 ds vs nos) (hz : vs.length ≤ sizeLine) :
    Aft vb sb σ H F S (upd H1 q (.lst vs)) (fun x => F1 x ∨ x = q) (.lst true ds) (.ref q) (fun x => x = q) e1 S2 := by
  have b := a.new (o := .lst vs) fd hq
  refine ⟨b.ch, ⟨q, vs, rfl, hz, RepL.newF hq r, .inr ⟨rfl, upd_same, rfl⟩⟩, b.er, fun _ x h => .inr h, b.s2, b.n2, fun _ x h w => ?_, fun _ x h => ?_, b.ext⟩
  · subst h
    exact a.ch.fd x (a.s2 x w) hq
  · subst h
    exact .inr (Classical.byContradiction fun w => a.ch.dom x w hq)
/-- a new tuple -/
theorem AftT.tup {q : Addr} {ds : List D} {vs : List V} (fd : ∀ a, F a → H a ≠ none) (a : AftT sb σ H F S H1 F1 e1 S2) (hq : H1 q = none) (r : RepL H1 F1 ds vs S1) (hz : vs.length ≤ sizeLine) (h1 : Sb S1 F1) (dj : Dj S1 S2) (n1 : Nw S H S1) :
    Aft vb sb σ H F S (upd H1 q (.tup vs)) F1 (.tup ds) (.ref q) S1 e1 S2 := by
  have kp : ∀ x o', H1 x = some o' → upd H1 q (.tup vs) x = some o' := fun x o' h => upd_keep hq h
  have nf : ∀ x, F1 x → x ≠ q := fun x h z => a.ch.fd x h (z ▸ hq)
  refine ⟨⟨fun x o' h ns => kp x o' (a.ch.keep x o' h ns), a.ch.new, a.ch.old, fun x h => ?_, fun x h => ?_⟩, ⟨q, vs, rfl, .inl upd_same, fun h => nf q h rfl, hz, RepL.step ds vs S1 r (fun x o' h _ => kp x o' h) fun x h => .inl h⟩,
    a.er.step (fun x o' h _ => kp x o' h) fun x h => .inl h, fun _ => h1, a.s2, a.n2, fun _ => dj, fun _ => n1, fun h x o' q => kp x o' (a.ext h x o' q)⟩
  · by_cases hx : x = q
    · rw [hx, upd_same]; simp
    · rw [upd_ne hx]; exact a.ch.dom x h
  · rw [upd_ne (nf x h)]; exact a.ch.fd x h
/-- given up -/
theorem Aft.give (fd : ∀ a, F a → H a ≠ none) (a : Aft vb sb σ H F S H1 F1 d v S1 e1 S2) (hv : vb = true) : AftT sb σ H F S H1 (fun x => F1 x ∧ ¬ S1 x) e1 S2 ∧ Rep H1 (fun x => F1 x ∧ ¬ S1 x) d.fz v nos := by
  refine ⟨⟨⟨a.ch.keep, fun x h => a.ch.new x h.1, fun x h ns => ⟨a.ch.old x h ns, fun q => (a.n1 hv x q).elim ns (fd x h)⟩, a.ch.dom, fun x h => a.ch.fd x h.1⟩, a.er.less fun x h => h.1, fun x h => ⟨a.s2 x h, fun q => a.dj hv x q h⟩, a.n2, a.ext⟩, Rep.frz d v S1 a.rep⟩
end
end Vm
namespace Vm
open PySem PySem.Spec L2
/-- what an operation hands back: a new list, or a thing that stands -/
def Out (H : Hp) (F : AS) (d : D) (Q : VK) : Prop := match d with
  | .lst true ds => ∀ q vs, H q = none → RepL H F ds vs nos → vs.length ≤ sizeLine → Q (.ref q) (upd H q (.lst vs))
  | d => ∀ v, Rep H F d v nos → Q v H
theorem Out.of {p : Pm} {vb sb : Bool} {σ : Sl} {H H2 : Hp} {F F2 S T2 : AS} {d : D} {e2 : Nv} {Q : VK} (fd : ∀ a, F a → H a ≠ none) (a : AftT sb σ H F S H2 F2 e2 T2)
    (h : ∀ v H' F' S1 S2, Aft vb sb σ H F S H' F' d v S1 e2 S2 → Q v H') : Out H2 F2 d Q := by
  unfold Out
  split
  · intro q vs hq r hz
    exact h _ _ _ _ _ (a.lst fd hq r hz)
  · intro v r
    exact h _ _ _ _ _ (a.val r)
/-- two values, an operation -/
def rD2 (f : D → D → Option D) : R2 := fun x y H Q => ∃ F a b S1 S2 d, Rep H F a x S1 ∧ Rep H F b y S2 ∧ f a b = some d ∧ Out H F d Q
theorem okS_app {x y : Str} (hx : okS x) (hy : okS y) (h : x.length + y.length ≤ 1000000) : okS (x ++ y) := by
  obtain ⟨h1, h2⟩ := hx
  obtain ⟨h3, h4⟩ := hy
  have e : (x ++ y).cps = x.cps ++ y.cps := rfl
  refine ⟨?_, ?_⟩
  · unfold PyData.strOk at *
    rw [e, Array.all_append, h1, h3]; rfl
  · show (x ++ y).cps.size ≤ sizeLine
    rw [e, Array.size_append, sizeLine_eq]
    have : x.cps.size + y.cps.size ≤ 1000000 := h
    omega
theorem lim_ok {n : Nat} (h : n ≤ 1000000) : n ≤ sizeLine := by rw [sizeLine_eq]; omega
theorem lim_lt {n : Nat} (h : n < 1000000) : n < sizeLine := by rw [sizeLine_eq]; omega
theorem okS_rep {x : Str} {n : Nat} (hx : okS x) (hn : n ≤ 1000) (hl : x.length ≤ 1000) : okS ⟨(List.replicate n x.cps.toList).flatten.toArray⟩ := by
  obtain ⟨h1, h2⟩ := hx
  refine ⟨?_, ?_⟩
  · unfold PyData.strOk at *
    simp only [List.all_toArray, List.all_eq_true, List.mem_flatten, List.mem_replicate, decide_eq_true_eq]
    rintro c ⟨l, ⟨_, rfl⟩, hc⟩
    rw [← Array.all_toList, List.all_eq_true] at h1
    simpa using h1 c hc
  · show (List.replicate n x.cps.toList).flatten.toArray.size ≤ sizeLine
    rw [List.size_toArray, List.length_flatten, List.map_replicate, List.sum_replicate_nat, sizeLine_eq]
    have h3 : x.cps.toList.length ≤ 1000 := by simpa [Str.length] using hl
    have : n * x.cps.toList.length ≤ 1000 * 1000 := Nat.mul_le_mul hn h3
    omega
theorem foldl_app (l : List Nat) : ∀ (n : Nat) (acc : Array Nat), (List.replicate n l.toArray).foldl (· ++ ·) acc = acc ++ (List.replicate n l).flatten.toArray
  | 0, acc => by simp
  | n + 1, acc => by
    rw [List.replicate_succ, List.foldl_cons, foldl_app l n, List.replicate_succ, List.flatten_cons]
    simp
section
variable {X : Cx}
theorem mul64 {i j : Int} (h : i.natAbs < 2 ^ 64 ∨ j.natAbs < 2 ^ 64) : CMul i j := by
  unfold CMul
  rcases h with h | h
  · left; omega
  · right; omega
theorem cat_ok {pins : List (Addr × Obj)} {s : Shared} {σ : Sl} {H : Hp} {l b : Addr} {xs zs : List V} {Q : VK} (I : Inv X pins σ H s) (h1 : Rd H l (.lst xs)) (h2 : Rd H b (.lst zs)) (hz : xs.length + zs.length ≤ sizeLine)
    (q : ∀ p, H p = none → Q (.ref p) (upd H p (.lst (xs ++ zs)))) : wpAny (model X.prog X.w) X.A (binaryOp .Add (.ref l) (.ref b)) (EP X pins σ Q) X.xe s := by
  obtain ⟨z, its, n, r, e⟩ := h1.ok I.hok
  obtain ⟨z2, its2, n2, r2, e2⟩ := h2.ok I.hok
  have hl := r.length
  have hl2 := r2.length
  refine PySem.P.add_list e e2 ?_ (by rw [List.size_toArray, List.size_toArray]; omega)
  have ea : its.toArray ++ its2.toArray = (its ++ its2).toArray := by simp
  rw [ea]
  exact ⟨.ref _, _, I.lnew (t' := s.toks) (r.append r2) (by rw [List.length_append]; omega), rfl, q _ I.fresh⟩
theorem Rep.lst_inv {H : Hp} {F : AS} {o : Bool} {ds : List D} {v : V} {S : AS} (h : Rep H F (.lst o ds) v S) : ∃ a vs, v = .ref a ∧ vs.length ≤ sizeLine ∧ RepL H F ds vs nos ∧ Rd H a (.lst vs) := by
  obtain ⟨a, vs, e, z, l, c⟩ := h
  refine ⟨a, vs, e, z, l, ?_⟩
  rcases c with ⟨_, r, _⟩ | ⟨_, r, _⟩
  · exact r
  · exact .inl r
theorem Rep.tup_inv {H : Hp} {F : AS} {ds : List D} {v : V} {S : AS} (h : Rep H F (.tup ds) v S) : ∃ a vs, v = .ref a ∧ vs.length ≤ sizeLine ∧ RepL H F ds vs S ∧ Rd H a (.tup vs) := by
  obtain ⟨a, vs, e, r, f, z, l⟩ := h
  exact ⟨a, vs, e, z, l, r⟩
theorem opD_bin (o : Operator) : OpR X (binaryOp o) (rD2 (binD o)) := by
  intro pins s σ H x y v u Q I rx ry h
  obtain ⟨F, a, b, S1, S2, d, ra, rb, e, out⟩ := h
  cases o <;> (first | (cases e; done) | skip) <;> cases a <;> (first | (cases e; done) | skip) <;> cases b <;> (first | (cases e; done) | skip)
  · -- int + int
    cases ra; cases rb
    cases e
    exact op_add pins s σ H _ _ v u Q I rx ry ⟨_, _, rfl, rfl, out _ rfl⟩
  · obtain ⟨rfl, o1⟩ := ra
    obtain ⟨rfl, o2⟩ := rb
    simp only [binD] at e
    split at e
    · rename_i hz
      cases e
      exact op_add_str pins s σ H _ _ v u Q I rx ry ⟨_, _, rfl, rfl, lim_ok hz, out _ ⟨rfl, okS_app o1 o2 hz⟩⟩
    · cases e
  · obtain ⟨l, vs, rfl, z1, l1, q1⟩ := ra.lst_inv
    obtain ⟨l2, vs2, rfl, z2, l2', q2⟩ := rb.lst_inv
    simp only [binD] at e
    split at e
    · rename_i hz
      cases e
      cases rx; cases ry
      have hz' : vs.length + vs2.length ≤ sizeLine := by rw [l1.len, l2'.len]; exact lim_ok hz
      exact cat_ok I q1 q2 hz' fun q hq => out q _ hq (l1.app l2') (by rw [List.length_append]; exact hz')
    · cases e
  · cases ra; cases rb
    cases e
    exact op_sub pins s σ H _ _ v u Q I rx ry ⟨_, _, rfl, rfl, out _ rfl⟩
  · cases ra; cases rb
    simp only [binD] at e
    split at e
    · rename_i hz
      cases e
      exact op_mul pins s σ H _ _ v u Q I rx ry ⟨_, _, rfl, rfl, mul64 hz, out _ rfl⟩
    · cases e
  · obtain ⟨rfl, o1⟩ := ra
    cases rb
    simp only [binD] at e
    split at e
    · rename_i i j hz
      obtain ⟨h0, h1, h2⟩ := hz
      cases e
      obtain ⟨t, rfl⟩ := rx
      obtain ⟨t', rfl⟩ := ry
      have q := out _ ⟨rfl, okS_rep (n := j.toNat) o1 (by omega) h2⟩
      have hx : i.length ≤ 1000 := h2
      refine PySem.P.mul_str (by simp; omega) (fun hn _ => ?_) (fun hn _ => ?_) ?_
      · have : (1000 : Int) ≤ (2 ^ 63 - 1) / j := by
          rw [Int.le_ediv_iff_mul_le (by omega)]; omega
        omega
      · have h3 : i.length * j.toNat ≤ 1000 * 1000 := Nat.mul_le_mul h2 (by omega)
        show decide (i.length * j.toNat > sizeLine) = false
        rw [decide_eq_false_iff_not, sizeLine_eq]
        omega
      · have hz2 := (okS_rep (n := j.toNat) o1 (by omega) h2).2
        by_cases c1 : j < 1
        · rw [if_pos c1]
          have e0 : (⟨(List.replicate j.toNat i.cps.toList).flatten.toArray⟩ : Str) = Str.empty := by
            have : j.toNat = 0 := by omega
            rw [this]; rfl
          rw [e0] at q
          exact ⟨by decide, .str _, H, I.tok _, ⟨_, rfl⟩, q⟩
        · rw [if_neg c1]
          by_cases c2 : (j == 1 || i.length == 0) = true
          · rw [if_pos c2]
            have e0 : (⟨(List.replicate j.toNat i.cps.toList).flatten.toArray⟩ : Str) = i := by
              rw [Bool.or_eq_true] at c2
              rcases c2 with c2 | c2
              · have : j.toNat = 1 := by
                  have := of_decide_eq_true c2
                  omega
                rw [this]; simp
              · have h0 : i.cps.size = 0 := by simpa [Str.length] using c2
                have h1 : i.cps = #[] := Array.eq_empty_of_size_eq_zero h0
                obtain ⟨c⟩ := i
                simp only at h1
                subst h1
                simp
            rw [e0] at q
            exact ⟨.str _, H, I, ⟨_, rfl⟩, q⟩
          · rw [if_neg c2]
            have e0 : (⟨(List.replicate j.toNat i.cps).foldl (· ++ ·) #[]⟩ : Str) = ⟨(List.replicate j.toNat i.cps.toList).flatten.toArray⟩ := by
              have := foldl_app i.cps.toList j.toNat #[]
              simpa using this
            rw [e0]
            exact ⟨hz2, .str _, H, I.tok _, ⟨_, rfl⟩, q⟩
    · cases e
  · cases ra; cases rb
    simp only [binD] at e
    split at e
    · rename_i hz
      cases e
      exact op_mod pins s σ H _ _ v u Q I rx ry ⟨_, _, rfl, rfl, hz, out _ rfl⟩
    · cases e
  · cases ra; cases rb
    simp only [binD] at e
    split at e
    · rename_i hz
      cases e
      exact op_pow pins s σ H _ _ v u Q I rx ry ⟨_, _, rfl, rfl, ⟨hz.1, by omega, hz.2.2⟩, out _ rfl⟩
    · cases e
  · cases ra; cases rb
    simp only [binD] at e
    split at e
    · rename_i hz
      cases e
      exact op_shl pins s σ H _ _ v u Q I rx ry ⟨_, _, rfl, rfl, ⟨hz.1, by omega, hz.2.2⟩, out _ rfl⟩
    · cases e
  · cases ra; cases rb
    simp only [binD] at e
    split at e
    · rename_i hz
      cases e
      exact op_shr pins s σ H _ _ v u Q I rx ry ⟨_, _, rfl, rfl, hz, out _ rfl⟩
    · cases e
  · cases ra; cases rb
    cases e
    exact op_and pins s σ H _ _ v u Q I rx ry ⟨_, _, rfl, rfl, out _ rfl⟩
  · cases ra; cases rb
    simp only [binD] at e
    split at e
    · rename_i hz
      cases e
      exact op_fdivW pins s σ H _ _ v u Q I rx ry ⟨_, _, rfl, rfl, wide_div (b := 9000) hz.1 hz.2 (by decide) (by decide), out _ rfl⟩
    · cases e
end
/-! ### data as the library has them -/
mutual
def toPy : D → PyData
  | .non => .none | .bl b => .bool b | .int i => .int i | .str s => .str s
  | .tup ds => .tuple (toPyL ds)
  | .lst _ ds => .list (toPyL ds)
def toPyL : List D → List PyData
  | [] => []
  | d :: ds => toPy d :: toPyL ds
end
theorem toPyL_map : ∀ ds : List D, toPyL ds = ds.map toPy
  | [] => rfl
  | d :: ds => by rw [toPyL, List.map_cons, toPyL_map ds]
mutual
theorem eqv_toPy : ∀ a b : D, PyData.eqv (toPy a) (toPy b) = eqD a b
  | .non, b => by cases b <;> simp [toPy, PyData.eqv, eqD]
  | .bl _, b => by cases b <;> simp [toPy, PyData.eqv, eqD]
  | .int _, b => by cases b <;> simp [toPy, PyData.eqv, eqD]
  | .str _, b => by cases b <;> simp [toPy, PyData.eqv, eqD]
  | .tup xs, b => by
    cases b with
    | tup ys => simp only [toPy, PyData.eqv, eqD]; exact eqvL_toPy xs ys
    | _ => simp [toPy, PyData.eqv, eqD]
  | .lst _ xs, b => by
    cases b with
    | lst _ ys => simp only [toPy, PyData.eqv, eqD]; exact eqvL_toPy xs ys
    | _ => simp [toPy, PyData.eqv, eqD]
theorem eqvL_toPy : ∀ a b : List D, PyData.eqvAll (toPyL a) (toPyL b) = eqL a b
  | [], [] => rfl
  | [], _ :: _ => rfl
  | _ :: _, [] => rfl
  | x :: xs, y :: ys => by
    simp only [toPyL, PyData.eqvAll, eqL]
    rw [eqv_toPy x y, eqvL_toPy xs ys]
end
mutual
theorem Rep.dp {K : PySem.W.Frag} {H : Hp} {F : AS} : ∀ (d : D) (v : V) (S : AS), Rep H F d v S → Dp K H v (toPy d)
  | .non, _, _, h => by cases h; exact .non
  | .bl b, _, _, h => by cases h; exact .bl b
  | .int i, _, _, h => by cases h; exact .int i
  | .str s, _, _, h => by obtain ⟨rfl, _⟩ := h; exact .str s
  | .tup ds, _, S, h => by
    obtain ⟨a, vs, rfl, r, f, z, l⟩ := h
    exact .tup (.inl r) (RepL.dp ds vs S l)
  | .lst o ds, v, S, h => by
    obtain ⟨a, vs, e, z, l, c⟩ := id h
    obtain ⟨a', vs', e', z', l', r⟩ := Rep.lst_inv h
    subst e'
    exact .lst (.inl r) (RepL.dp ds vs' nos l')
theorem RepL.dp {K : PySem.W.Frag} {H : Hp} {F : AS} : ∀ (ds : List D) (vs : List V) (S : AS), RepL H F ds vs S → DpAll K H vs (toPyL ds)
  | [], _, _, h => by rw [show _ = [] from h]; exact .nil
  | d :: ds, vs, S, h => by
    obtain ⟨v, r, S1, S2, rfl, h1, h2, _⟩ := h
    exact .cons (Rep.dp d v S1 h1) (RepL.dp ds r S2 h2)
end
mutual
theorem Rep.lay {H : Hp} {F : AS} : ∀ (d : D) (v : V) (S : AS), Rep H F d v S → (toPy d).canLay0 = true
  | .non, _, _, h => rfl
  | .bl b, _, _, h => rfl
  | .int i, _, _, h => rfl
  | .str s, _, _, h => by obtain ⟨rfl, h, _⟩ := h; simpa [toPy, PyData.canLay0] using h
  | .tup ds, _, S, h => by
    obtain ⟨a, vs, rfl, r, f, z, l⟩ := h
    simpa [toPy, PyData.canLay0] using RepL.lay ds vs S l
  | .lst o ds, v, S, h => by
    obtain ⟨a, vs, e, z, l, c⟩ := h
    simpa [toPy, PyData.canLay0] using RepL.lay ds vs nos l
theorem RepL.lay {H : Hp} {F : AS} : ∀ (ds : List D) (vs : List V) (S : AS), RepL H F ds vs S → PyData.canLayAll0 (toPyL ds) = true
  | [], _, _, h => rfl
  | d :: ds, vs, S, h => by
    obtain ⟨v, r, S1, S2, rfl, h1, h2, _⟩ := h
    simp only [toPyL, PyData.canLayAll0, Bool.and_eq_true]
    exact ⟨Rep.lay d v S1 h1, RepL.lay ds r S2 h2⟩
end
mutual
theorem shal_depth : ∀ (d : D) (n : Nat), shal n d = true → (toPy d).depth ≤ n
  | .non, n, _ => by simp [toPy, PyData.depth]
  | .bl _, n, _ => by simp [toPy, PyData.depth]
  | .int _, n, _ => by simp [toPy, PyData.depth]
  | .str _, n, _ => by simp [toPy, PyData.depth]
  | .tup ds, 0, h => by simp [shal] at h
  | .tup ds, n + 1, h => by
    have := shalL_depth ds n (by simpa [shal] using h)
    simp only [toPy, PyData.depth]; omega
  | .lst _ ds, 0, h => by simp [shal] at h
  | .lst _ ds, n + 1, h => by
    have := shalL_depth ds n (by simpa [shal] using h)
    simp only [toPy, PyData.depth]; omega
theorem shalL_depth : ∀ (ds : List D) (n : Nat), (∀ d ∈ ds, shal n d = true) → PyData.depthAll (toPyL ds) ≤ n
  | [], n, _ => by simp [toPyL, PyData.depthAll]
  | d :: ds, n, h => by
    have h1 := shal_depth d n (h d (by simp))
    have h2 := shalL_depth ds n fun x hx => h x (by simp [hx])
    simp only [toPyL, PyData.depthAll]; omega
end
theorem shaped_of {H : Hp} {F : AS} {d : D} {v : V} {S : AS} {n : Nat} (r : Rep H F d v S) (h : shal n d = true) (hn : n ≤ 64) : SeqAt.shaped (toPy d) = true := by
  unfold SeqAt.shaped
  rw [Rep.lay d v S r, Bool.true_and, decide_eq_true_eq]
  exact Nat.le_trans (shal_depth d n h) hn
theorem memD_py (x : D) (ys : List D) : ((toPyL ys).any fun z => PyData.eqv z (toPy x)) = memD x ys := by
  rw [toPyL_map, List.any_map]
  unfold memD
  congr 1
  funext y
  exact eqv_toPy y x
theorem flat_of {H : Hp} {F : AS} {d : D} {v : V} {S : AS} (r : Rep H F d v S) (h : shal 0 d = true) : flatV v = true := by
  cases d with
  | non => cases r; rfl
  | bl b => cases r; rfl
  | int i => cases r; rfl
  | str s => obtain ⟨rfl, _⟩ := r; rfl
  | tup ds => simp [shal] at h
  | lst o ds => simp [shal] at h
theorem eqV_of {H : Hp} {F : AS} {d e : D} {v u : V} {S T : AS} (r : Rep H F d v S) (q : Rep H F e u T) (h : shal 0 d = true) (k : shal 0 e = true) : eqV v u = eqD d e := by
  cases d <;> (first | (simp [shal] at h; done) | skip) <;> cases e <;> (first | (simp [shal] at k; done) | skip) <;> (first | (obtain ⟨rfl, _⟩ := r) | cases r) <;> (first | (obtain ⟨rfl, _⟩ := q) | cases q) <;> rfl
theorem inV_of {H : Hp} {F : AS} {d : D} {v : V} {S : AS} (r : Rep H F d v S) (h : shal 0 d = true) : ∀ {ys : List D} {us : List V} {T : AS}, RepL H F ys us T → (∀ y ∈ ys, shal 0 y = true) → us.all flatV = true ∧ inV v us = memD d ys
  | [], _, _, q, _ => by rw [show _ = [] from q]; exact ⟨rfl, rfl⟩
  | y :: ys, us, T, q, k => by
    obtain ⟨u, t, S1, S2, rfl, h1, h2, _⟩ := q
    obtain ⟨a, b⟩ := inV_of r h h2 fun z hz => k z (by simp [hz])
    have c := k y (by simp)
    refine ⟨by rw [List.all_cons, flat_of h1 c, a]; rfl, ?_⟩
    unfold inV memD at *
    rw [List.any_cons, List.any_cons, b, eqV_of h1 r c h]
section
variable {X : Cx}
def rC2 (f : D → D → Option Bool) : R2 := fun x y H Q => ∃ F a b S1 S2 d, Rep H F a x S1 ∧ Rep H F b y S2 ∧ f a b = some d ∧ Q (.bl d) H
theorem opD_cmp (o : CmpOp) (hu : X.A.units + 65 < cLine) : OpR X (compareOp o) (rC2 (cmpD o)) := by
  intro pins s σ H x y v u Q I rx ry h
  obtain ⟨F, a, b, S1, S2, d, ra, rb, e, q⟩ := h
  have hu4 : X.A.units + 64 < cLine := by omega
  have two : ∀ {f : Bool → Bool}, (if (shal 8 a && shal 8 b) = true then some (f (eqD a b)) else none) = some d → SeqAt.shaped (toPy a) = true ∧ SeqAt.shaped (toPy b) = true ∧ d = f (PyData.eqv (toPy a) (toPy b)) := fun {f} e => by
    split at e
    · rename_i hc
      rw [Bool.and_eq_true] at hc
      rw [eqv_toPy]
      exact ⟨shaped_of ra hc.1 (by decide), shaped_of rb hc.2 (by decide), (Option.some.inj e).symm⟩
    · cases e
  cases o with
  | Eq =>
    obtain ⟨h1, h2, rfl⟩ := two (f := fun z => z) e
    exact op_eqD hu4 pins s σ H x y v u Q I rx ry ⟨_, _, Rep.dp a x S1 ra, Rep.dp b y S2 rb, h1, h2, q⟩
  | NotEq =>
    obtain ⟨h1, h2, rfl⟩ := two (f := fun z => !z) e
    exact op_neD hu4 pins s σ H x y v u Q I rx ry ⟨_, _, Rep.dp a x S1 ra, Rep.dp b y S2 rb, h1, h2, q⟩
  | Lt =>
    cases a <;> (first | (cases e; done) | skip) <;> cases b <;> (first | (cases e; done) | skip)
    · cases ra; cases rb; cases e
      exact op_lt pins s σ H _ _ v u Q I rx ry ⟨_, _, rfl, rfl, q⟩
    · obtain ⟨rfl, _⟩ := ra
      obtain ⟨rfl, _⟩ := rb
      cases e
      exact op_lt_str pins s σ H _ _ v u Q I rx ry ⟨_, _, rfl, rfl, q⟩
  | LtE =>
    cases a <;> (first | (cases e; done) | skip) <;> cases b <;> (first | (cases e; done) | skip)
    · cases ra; cases rb; cases e
      exact op_le pins s σ H _ _ v u Q I rx ry ⟨_, _, rfl, rfl, q⟩
  | Gt =>
    cases a <;> (first | (cases e; done) | skip) <;> cases b <;> (first | (cases e; done) | skip)
    · cases ra; cases rb; cases e
      exact op_gt pins s σ H _ _ v u Q I rx ry ⟨_, _, rfl, rfl, q⟩
  | GtE =>
    cases a <;> (first | (cases e; done) | skip) <;> cases b <;> (first | (cases e; done) | skip)
    · cases ra; cases rb; cases e
      exact op_ge pins s σ H _ _ v u Q I rx ry ⟨_, _, rfl, rfl, q⟩
  | In =>
    have hin : ∀ {o ys}, b = .lst o ys → wpAny (model X.prog X.w) X.A (compareOp .In v u) (EP X pins σ Q) X.xe s := fun {o ys} hb => by
      subst hb
      simp only [cmpD] at e
      split at e
      · rename_i hc
        rw [Bool.and_eq_true, List.all_eq_true] at hc
        cases e
        refine op_inD hu pins s σ H x y v u Q I rx ry ⟨toPy a, toPyL ys, Rep.dp a x S1 ra, Rep.dp _ y S2 rb, shaped_of ra hc.1 (by decide), shaped_of (n := 8) rb (by simpa [shal] using hc.2) (by decide), ?_⟩
        rw [memD_py]; exact q
      · cases e
    have hit : ∀ {ys}, b = .tup ys → wpAny (model X.prog X.w) X.A (compareOp .In v u) (EP X pins σ Q) X.xe s := fun {ys} hb => by
      subst hb
      simp only [cmpD] at e
      split at e
      · rename_i hc
        rw [Bool.and_eq_true, List.all_eq_true] at hc
        cases e
        obtain ⟨p, vs, rfl, z, l, r⟩ := rb.tup_inv
        obtain ⟨h1, h2⟩ := inV_of ra hc.1 l hc.2
        refine op_in_seq pins s σ H x _ v u Q I rx ry ⟨p, vs, rfl, .inr (.inl r), flat_of ra hc.1, h1, ?_⟩
        rw [h2]; exact q
      · cases e
    cases b with
    | lst o ys => exact hin rfl
    | tup ys => exact hit rfl
    | str z =>
      cases a <;> (first | (cases e; done) | skip)
      obtain ⟨rfl, _⟩ := ra
      obtain ⟨rfl, _⟩ := rb
      cases e
      exact op_in_str pins s σ H _ _ v u Q I rx ry ⟨_, _, rfl, rfl, q⟩
    | _ => cases a <;> cases e
  | NotIn =>
    have hin : ∀ {o ys}, b = .lst o ys → wpAny (model X.prog X.w) X.A (compareOp .NotIn v u) (EP X pins σ Q) X.xe s := fun {o ys} hb => by
      subst hb
      simp only [cmpD] at e
      split at e
      · rename_i hc
        rw [Bool.and_eq_true, List.all_eq_true] at hc
        cases e
        refine op_notInD hu pins s σ H x y v u Q I rx ry ⟨toPy a, toPyL ys, Rep.dp a x S1 ra, Rep.dp _ y S2 rb, shaped_of ra hc.1 (by decide), shaped_of (n := 8) rb (by simpa [shal] using hc.2) (by decide), ?_⟩
        rw [memD_py]; exact q
      · cases e
    have hit : ∀ {ys}, b = .tup ys → wpAny (model X.prog X.w) X.A (compareOp .NotIn v u) (EP X pins σ Q) X.xe s := fun {ys} hb => by
      subst hb
      simp only [cmpD] at e
      split at e
      · rename_i hc
        rw [Bool.and_eq_true, List.all_eq_true] at hc
        cases e
        obtain ⟨p, vs, rfl, z, l, r⟩ := rb.tup_inv
        obtain ⟨h1, h2⟩ := inV_of ra hc.1 l hc.2
        refine op_notIn_seq pins s σ H x _ v u Q I rx ry ⟨p, vs, rfl, .inr (.inl r), flat_of ra hc.1, h1, ?_⟩
        rw [if_pos rfl, h2]; exact q
      · cases e
    cases b with
    | lst o ys => exact hin rfl
    | tup ys => exact hit rfl
    | str z =>
      cases a <;> (first | (cases e; done) | skip)
      obtain ⟨rfl, _⟩ := ra
      obtain ⟨rfl, _⟩ := rb
      cases e
      exact op_notin_str pins s σ H _ _ v u Q I rx ry ⟨_, _, rfl, rfl, q⟩
    | _ => cases a <;> cases e
  | Is => cases a <;> cases e
  | IsNot => cases a <;> cases e
/-! ### subscripts -/
theorem atI_map {α β : Type} (f : α → β) (xs : List α) (i : Int) : atI (xs.map f) i = (atI xs i).map f := by
  unfold atI
  rw [List.length_map]
  cases ixN xs.length i <;> simp
theorem atI_rep {H : Hp} {F : AS} {ds : List D} {vs : List V} {S : AS} {i : Int} {d : D} (r : RepL H F ds vs S) (h : atI ds i = some d) : ∃ v, atI vs i = some v ∧ Rep H F d v S := by
  unfold atI at *
  rw [r.len]
  cases e : ixN ds.length i with
  | none => rw [e] at h; cases h
  | some j =>
    rw [e] at h
    exact r.get h
theorem okS_chr {s : Str} (h : okS s) {i : Int} {c : Nat} (e : atI s.cps.toList i = some c) : okS ⟨#[c]⟩ := by
  obtain ⟨j, _, hj, _⟩ := atI_get e
  have hm : c ∈ s.cps.toList := List.mem_of_getElem? hj
  refine ⟨?_, by show (1 : Nat) ≤ sizeLine; rw [sizeLine_eq]; decide⟩
  have h1 := h.1
  unfold PyData.strOk at *
  rw [← Array.all_toList, List.all_eq_true] at h1
  have := h1 c hm
  simpa using this
theorem ixD_ok : IxR X (rD2 ixD) := by
  intro value slice pins s σ H x y v u Q I rx ry h hs
  obtain ⟨F, a, b, S1, S2, d, ra, rb, e, out⟩ := h
  cases a <;> (first | (cases e; done) | skip) <;> cases b <;> (first | (cases e; done) | skip)
  · obtain ⟨rfl, o1⟩ := ra
    cases rb
    simp only [ixD] at e
    obtain ⟨c, hc, rfl⟩ := Option.map_eq_some_iff.mp e
    exact ix_str value slice pins s σ H _ _ v u Q I rx ry ⟨_, _, c, rfl, rfl, o1.2, hc, out _ ⟨rfl, okS_chr o1 hc⟩⟩ hs
  · obtain ⟨p, vs, rfl, z, l, r⟩ := ra.tup_inv
    cases rb
    simp only [ixD] at e
    obtain ⟨c, hc, e⟩ := Option.bind_eq_some_iff.mp e
    split at e
    · rename_i hf
      cases e
      obtain ⟨w, hw, rw'⟩ := atI_rep l hc
      have q : Q w H := by
        unfold Out at out
        have r0 := Rep.isF _ _ _ hf rw'
        split at out
        · simp [D.isF] at hf
        · exact out _ r0
      exact ix_tup value slice pins s σ H _ _ v u Q I rx ry ⟨p, vs, _, w, rfl, rfl, .inl r, hw, q⟩ hs
    · cases e
  · obtain ⟨p, vs, rfl, z, l, r⟩ := ra.lst_inv
    cases rb
    simp only [ixD] at e
    obtain ⟨w, hw, rw'⟩ := atI_rep l e
    have q : Q w H := by
      unfold Out at out
      split at out
      · obtain ⟨a', vs', _, _, _, c⟩ := rw'
        rcases c with ⟨c, _⟩ | ⟨_, _, c⟩
        · cases c
        · exact c.elim
      · exact out _ rw'
    exact ix_list value slice pins s σ H _ _ v u Q I rx ry ⟨p, vs, _, w, rfl, rfl, .inl r, hw, q⟩ hs
/-! ### slices, built-ins -/
def rSlD : V → Option Int → Option Int → Hp → VK → Prop := fun x lo hi H Q => ∃ F a S d, Rep H F a x S ∧ slcD a lo hi = some d ∧ Out H F d Q
theorem slD_ok : SlR X rSlD := by
  intro pins s σ H x v vl vu lo hi sl Q I rx hs pl pu h
  obtain ⟨F, a, S, d, ra, e, out⟩ := h
  cases a <;> (first | (cases e; done) | skip)
  obtain ⟨p, vs, rfl, z, l, r⟩ := ra.lst_inv
  cases e
  refine sl_list pins s σ H _ v vl vu lo hi sl Q I rx hs pl pu ⟨p, vs, rfl, .inl r, fun q hq => out q _ hq ?_ (Nat.le_trans (cutV_length _ _ _) z)⟩
  unfold cutV
  rw [l.len]
  exact RepL.take _ (RepL.drop _ l)
def rCD1 (f : D → Option D) : List V → Hp → VK → Prop := fun xs H Q => ∃ F x a S d, xs = [x] ∧ Rep H F a x S ∧ f a = some d ∧ Out H F d Q
def rCD2 (f : D → D → Option D) : List V → Hp → VK → Prop := fun xs H Q => ∃ F x y a b S T d, xs = [x, y] ∧ Rep H F a x S ∧ Rep H F b y T ∧ f a b = some d ∧ Out H F d Q
theorem bools_rep {H : Hp} {F : AS} : ∀ {ds : List D} {vs : List V} {S : AS} {bs : List Bool}, RepL H F ds vs S → boolsOf ds = some bs → vs = bs.map V.bl
  | [], _, _, _, r, e => by rw [show _ = [] from r]; cases e; rfl
  | d :: ds, vs, S, bs, r, e => by
    obtain ⟨v, t, S1, S2, rfl, h1, h2, _⟩ := r
    cases d <;> (first | (cases e; done) | skip)
    simp only [boolsOf] at e
    obtain ⟨c, hc, rfl⟩ := Option.map_eq_some_iff.mp e
    cases h1
    rw [bools_rep h2 hc]; rfl
theorem call_b1 (f : B1) (hc : X.calm = true) : CallR X (match f with
    | .len => .builtin "len" | .abs => .builtin "abs" | .all => .builtin "all" | .any => .builtin "any" | .sum => .builtin "sum" | .lst => .type "list" | .tup => .type "tuple" | .max => .builtin "max" | .min => .builtin "min" | .str => .type "str" | .int => .type "int" | .sorted => .builtin "sorted") (rCD1 (b1D f)) := by
  intro pins s σ H xs us Q I rx h
  obtain ⟨F, x, a, S, d, rfl, ra, e, out⟩ := h
  cases f
  case len =>
    cases a <;> (first | (cases e; done) | skip)
    · obtain ⟨rfl, o⟩ := ra
      cases e
      exact call_len_str pins s σ H _ us Q I rx ⟨_, rfl, o.2, out _ rfl⟩
    · obtain ⟨p, vs, rfl, z, l, r⟩ := ra.tup_inv
      cases e
      exact call_len_seq pins s σ H _ us Q I rx ⟨p, vs, rfl, .inr (.inl r), out _ (by rw [l.len]; rfl)⟩
    · obtain ⟨p, vs, rfl, z, l, r⟩ := ra.lst_inv
      cases e
      exact call_len_seq pins s σ H _ us Q I rx ⟨p, vs, rfl, .inl (.inl r), out _ (by rw [l.len]; rfl)⟩
  case abs =>
    cases a <;> (first | (cases e; done) | skip)
    cases ra
    cases e
    exact call_abs pins s σ H _ us Q I rx ⟨_, rfl, out _ rfl⟩
  case all =>
    cases a <;> (first | (cases e; done) | skip)
    obtain ⟨p, vs, rfl, z, l, r⟩ := ra.lst_inv
    simp only [b1D] at e
    obtain ⟨c, hc', rfl⟩ := Option.map_eq_some_iff.mp e
    have := bools_rep l hc'
    subst this
    exact cr_all hc pins s σ H _ us Q I rx ⟨p, c, rfl, .inl r, out _ rfl⟩
  case any =>
    cases a <;> (first | (cases e; done) | skip)
    obtain ⟨p, vs, rfl, z, l, r⟩ := ra.lst_inv
    simp only [b1D] at e
    obtain ⟨c, hc', rfl⟩ := Option.map_eq_some_iff.mp e
    have := bools_rep l hc'
    subst this
    exact cr_any hc pins s σ H _ us Q I rx ⟨p, c, rfl, .inl r, out _ rfl⟩
  case lst =>
    cases a <;> (first | (cases e; done) | skip)
    · obtain ⟨p, vs, rfl, z, l, r⟩ := ra.tup_inv
      simp only [b1D] at e
      split at e
      · rename_i hf
        cases e
        exact call_list_of pins s σ H _ us Q I rx ⟨p, vs, rfl, .inr (.inl r), fun q hq => out q _ hq (RepL.isF _ _ _ hf l) z⟩
      · cases e
    · obtain ⟨p, vs, rfl, z, l, r⟩ := ra.lst_inv
      cases e
      exact call_list_of pins s σ H _ us Q I rx ⟨p, vs, rfl, .inl (.inl r), fun q hq => out q _ hq l z⟩
  all_goals (cases a <;> cases e)
theorem call_b2 (f : B2) (hc : X.calm = true) : CallR X (match f with
    | .max => .builtin "max" | .min => .builtin "min") (rCD2 (b2D f)) := by
  intro pins s σ H xs us Q I rx h
  obtain ⟨F, x, y, a, b, S, T, d, rfl, ra, rb, e, out⟩ := h
  cases f <;> cases a <;> (first | (cases e; done) | skip) <;> cases b <;> (first | (cases e; done) | skip)
  · cases ra; cases rb; cases e
    exact call_max2 hc pins s σ H _ us Q I rx ⟨_, _, rfl, out _ rfl⟩
  · cases ra; cases rb; cases e
    exact call_min2 hc pins s σ H _ us Q I rx ⟨_, _, rfl, out _ rfl⟩
end
end Vm
namespace Vm
open PySem PySem.Spec L2
theorem map_some_set (vs : List V) : (vs.map some : Sl).length = vs.length := List.length_map ..
/-! ### arguments -/
def ARs (H : Hp) (F : AS) : List Av → List V → Sl → AS → Prop
  | [], vs, _, _ => vs = []
  | .d x :: r, vs, σ, S => ∃ v t S1 S2, vs = v :: t ∧ Rep H F x v S1 ∧ ARs H F r t σ S2 ∧ Dj S1 S2 ∧ Sb S1 S ∧ Sb S2 S
  | .sl i :: r, vs, σ, S => ∃ v t, vs = v :: t ∧ σ[i]? = some (some v) ∧ ARs H F r t σ S
section
variable {H H' : Hp} {F F' S S1 S2 T : AS} {σ : Sl}
theorem ARs.len : ∀ {as : List Av} {vs : List V} {S : AS}, ARs H F as vs σ S → vs.length = as.length
  | [], _, _, h => by rw [show _ = [] from h]; rfl
  | .d x :: r, vs, S, h => by
    obtain ⟨v, t, S1, S2, rfl, h1, h2, _⟩ := h
    rw [List.length_cons, List.length_cons, ARs.len h2]
  | .sl i :: r, vs, S, h => by
    obtain ⟨v, t, rfl, _, h2⟩ := h
    rw [List.length_cons, List.length_cons, ARs.len h2]
theorem ARs.step : ∀ {as : List Av} {vs : List V} {S : AS}, ARs H F as vs σ S → (∀ a o, H a = some o → ¬ F a ∨ S a → H' a = some o) → (∀ a, F' a → F a ∨ H a = none) → ARs H' F' as vs σ S
  | [], _, _, h, _, _ => h
  | .d x :: r, vs, S, h, k, n => by
    obtain ⟨v, t, S1, S2, e, h1, h2, dj, s1, s2⟩ := h
    exact ⟨v, t, S1, S2, e, Rep.step x v S1 h1 (fun a o q z => k a o q (z.imp_right (s1 a))) n, ARs.step h2 (fun a o q z => k a o q (z.imp_right (s2 a))) n, dj, s1, s2⟩
  | .sl i :: r, vs, S, h, k, n => by
    obtain ⟨v, t, e, hs, h2⟩ := h
    exact ⟨v, t, e, hs, ARs.step h2 k n⟩
theorem ARs.mono : ∀ {as : List Av} {vs : List V} {S T : AS}, ARs H F as vs σ S → Sb S T → ARs H F as vs σ T
  | [], _, _, _, h, _ => h
  | .d x :: r, vs, S, T, h, k => by
    obtain ⟨v, t, S1, S2, e, h1, h2, dj, s1, s2⟩ := h
    exact ⟨v, t, S1, S2, e, h1, h2, dj, s1.trans k, s2.trans k⟩
  | .sl i :: r, vs, S, T, h, k => by
    obtain ⟨v, t, e, hs, h2⟩ := h
    exact ⟨v, t, e, hs, ARs.mono h2 k⟩
theorem ARs.app : ∀ {as bs : List Av} {vs us : List V} {S T : AS}, ARs H F as vs σ S → ARs H F bs us σ T → Dj S T → ARs H F (as ++ bs) (vs ++ us) σ (fun a => S a ∨ T a)
  | [], bs, vs, us, S, T, h, k, _ => by rw [show vs = [] from h]; exact ARs.mono k fun _ z => .inr z
  | .d x :: r, bs, vs, us, S, T, h, k, dj => by
    obtain ⟨v, t, S1, S2, rfl, h1, h2, dj', s1, s2⟩ := h
    refine ⟨v, t ++ us, S1, fun a => S2 a ∨ T a, rfl, h1, ARs.app h2 k (dj.mono s2 Sb.refl), fun a x y => y.elim (dj' a x) (dj a (s1 a x)), fun a z => .inl (s1 a z), fun a z => z.imp_left (s2 a)⟩
  | .sl i :: r, bs, vs, us, S, T, h, k, dj => by
    obtain ⟨v, t, rfl, hs, h2⟩ := h
    exact ⟨v, t ++ us, rfl, hs, ARs.app h2 k dj⟩
/-- the named slots are handed over -/
theorem ARs.take : ∀ {as : List Av} {vs : List V} {e e1 : Nv} {T S2 : AS} {ds : List D}, ARs H F as vs σ T → ERs H F e σ S2 → Dj T S2 → takeA as e = some (ds, e1) →
    ∃ S3 S4, ERs H F (ds.map some) (vs.map some) S3 ∧ ERs H F e1 σ S4 ∧ Dj S3 S4 ∧ (∀ a, S3 a → T a ∨ S2 a) ∧ Sb S4 S2 ∧ e1.length = e.length
  | [], vs, e, e1, T, S2, ds, h, k, dj, q => by
    rw [show vs = [] from h]
    cases q
    exact ⟨nos, S2, rfl, k, dj_nos, fun _ z => z.elim, Sb.refl, rfl⟩
  | .d x :: r, vs, e, e1, T, S2, ds, h, k, dj, q => by
    obtain ⟨v, t, T1, T2, rfl, h1, h2, dj', t1, t2⟩ := h
    simp only [takeA] at q
    obtain ⟨⟨ds', e'⟩, hq, q⟩ := Option.bind_eq_some_iff.mp q
    cases q
    obtain ⟨S3, S4, a, b, c, d, s4, hl⟩ := ARs.take h2 k (dj.mono t2 Sb.refl) hq
    refine ⟨fun a => T1 a ∨ S3 a, S4, ⟨some v, t.map some, T1, S3, rfl, fun y hy => ?_, a, fun z p w => (d z w).elim (dj' z p) (dj z (t1 z p)), fun _ z => .inl z, fun _ z => .inr z⟩, b, fun z p w => p.elim (fun p => dj z (t1 z p) (s4 z w)) fun p => c z p w, fun z p => p.elim (fun p => .inl (t1 z p)) fun p => (d z p).imp_left (t2 z), s4, hl⟩
    cases hy
    exact ⟨v, rfl, h1⟩
  | .sl i :: r, vs, e, e1, T, S2, ds, h, k, dj, q => by
    obtain ⟨v, t, rfl, hs, h2⟩ := h
    simp only [takeA] at q
    split at q
    · rename_i x he
      obtain ⟨⟨ds', e'⟩, hq, q⟩ := Option.bind_eq_some_iff.mp q
      cases q
      obtain ⟨v', S5, S6, hv, rp, er, d56, s5, s6⟩ := k.out he
      rw [hs] at hv; cases hv
      obtain ⟨S3, S4, a, b, c, d, s4, hl⟩ := ARs.take h2 er (dj.mono Sb.refl s6) hq
      refine ⟨fun a => S5 a ∨ S3 a, S4, ⟨some v, t.map some, S5, S3, rfl, fun y hy => ?_, a, fun z p w => (d z w).elim (fun w => dj z w (s5 z p)) (d56 z p), fun _ z => .inl z, fun _ z => .inr z⟩, b, fun z p w => p.elim (fun p => d56 z p (s4 z w)) fun p => c z p w, fun z p => p.elim (fun p => .inr (s5 z p)) fun p => (d z p).imp_right (s6 z), s4.trans s6, by rw [hl, List.length_set]⟩
      cases hy
      exact ⟨v, rfl, rp⟩
    · cases q
/-- .. and come back -/
theorem ARs.put : ∀ {as : List Av} {vs : List V} {e ps : Nv} {T S S' : AS} {F0 : AS} {H0 : Hp}, ARs H0 F0 as vs σ T → ERs H F ps (vs.map some) S → ERs H F e σ S' → Dj S S' → ERs H F (putA as ps e) σ (fun a => S a ∨ S' a)
  | [], vs, e, ps, T, S, S', F0, H0, h, k, m, dj => by
    have : putA [] ps e = e := by cases ps <;> rfl
    rw [this]
    exact m.mono fun _ z => .inr z
  | .d x :: r, vs, e, ps, T, S, S', F0, H0, h, k, m, dj => by
    obtain ⟨v, t, T1, T2, rfl, h1, h2, _⟩ := h
    cases ps with
    | nil => exact m.mono fun _ z => .inr z
    | cons o ps =>
      obtain ⟨u, t', U1, U2, e', _, k2, _, _, u2⟩ := k
      have et : t.map some = t' := by simpa using (List.cons.inj e').2
      subst et
      exact (ARs.put (ps := ps) h2 k2 m (dj.mono u2 Sb.refl)).mono fun a z => z.imp_left (u2 a)
  | .sl i :: r, vs, e, ps, T, S, S', F0, H0, h, k, m, dj => by
    obtain ⟨v, t, rfl, hs, h2⟩ := h
    cases ps with
    | nil => exact m.mono fun _ z => .inr z
    | cons o ps =>
      obtain ⟨u, t', U1, U2, e', k1, k2, d12, u1, u2⟩ := k
      obtain ⟨eu, et⟩ := List.cons.inj e'
      have et : t.map some = t' := et
      subst et
      subst eu
      show ERs H F (putA r ps (e.set i o)) σ _
      cases o with
      | none => exact (ARs.put (ps := ps) h2 k2 (ERs.gone (i := i) m) (dj.mono u2 Sb.refl)).mono fun a z => z.imp_left (u2 a)
      | some d =>
        obtain ⟨v', hv, rp⟩ := k1 d rfl
        cases hv
        have hi : i < e.length := by
          have := (List.getElem?_eq_some_iff.mp hs).1
          rw [m.len] at this
          exact this
        have m2 := ERs.back m hi hs rp (dj.mono u1 Sb.refl)
        refine (ARs.put (ps := ps) h2 k2 m2 fun a x y => y.elim (fun y => d12 a y x) (dj a (u2 a x))).mono fun a z => ?_
        rcases z with z | z | z
        · exact .inl (u2 a z)
        · exact .inl (u1 a z)
        · exact .inr z
end
/-! ### a call's promise -/
def spC (C : Orc) (XR : Hp → AS → D → Value → Option Addr → Prop) (f : Str) (n : Nat) : Sp := fun vs H Q E => vs.length = n ∧ ∃ F S ds, Rdy H F S (ds.map some) (vs.map some) ∧
  Vp ⟨C, XR, fun cls dd _ H' => E cls dd H'⟩ true false (vs.map some) H F S (C f ds) Q
/-- a call of evaluated arguments -/
theorem call_of {p : Pm} {f : Str} {n : Nat} {σ : Sl} {H H1 : Hp} {F F1 S T1 S2 : AS} {e1 : Nv} {as : List Av} {vs : List V} {Q : VK} (fd : ∀ a, F a → H a ≠ none)
    (a : AftT false σ H F S H1 F1 e1 S2) (r : ARs H1 F1 as vs σ T1) (t1 : Sb T1 F1) (dj : Dj T1 S2) (n1 : Nw S H T1) (hn : vs.length = n) (h : Vp p true false σ H F S (callA p.C f as e1) Q) :
    spC p.C p.XR f n vs H1 Q (fun cls dd H' => p.Wx cls dd σ H') := by
  unfold callA at h
  split at h
  · exact h.elim
  · rename_i ds e2 ht
    obtain ⟨S3, S4, er3, er4, d34, s3, s4, hl⟩ := ARs.take r a.er dj ht
    have sb3 : Sb S3 F1 := fun x q => (s3 x q).elim (t1 x) (a.s2 x)
    have nw3 : Nw S H S3 := fun x q => (s3 x q).elim (n1 x) (a.n2 x)
    have nw4 : Nw S H S4 := fun x q => a.n2 x (s4 x q)
    refine ⟨hn, F1, S3, ds, ⟨er3, sb3, a.ch.fd⟩, ?_⟩
    -- the state behind the call
    have after : ∀ {H' F' S5 ps}, Ch S3 H1 F1 H' F' → ERs H' F' ps (vs.map some) S5 → Sb S5 F' → Nw S3 H1 S5 → AftT false σ H F S H' F' (putA as ps e2) (fun x => S5 x ∨ S4 x) ∧ Dj S5 S4 := fun {H' F' S5 ps} c er sb nw => by
      have d54 : Dj S5 S4 := fun x q w => (nw x q).elim (fun z => d34 x z w) fun z => a.ch.fd x (a.s2 x (s4 x w)) z
      have er4' : ERs H' F' e2 σ S4 := er4.step (fun x o q z => c.keep x o q fun w => z.elim (fun z => z (sb3 x w)) fun z => d34 x w z) c.new
      refine ⟨⟨a.ch.trans nw3 c fd |> fun c' => ⟨fun x o q ns => c'.keep x o q ns, c'.new, c'.old, c'.dom, c'.fd⟩, ARs.put r er er4' d54, fun x q => q.elim (sb x) fun q => c.old x (a.s2 x (s4 x q)) fun w => d34 x w q, fun x q => q.elim (fun q => (nw3.trans a.ch nw) x q) (nw4 x), fun z => by cases z⟩, d54⟩
    cases hc : p.C f ds with
    | ok d ps =>
      rw [hc] at h
      intro v H' F' S5 S6 b
      obtain ⟨A, d64⟩ := after b.ch b.er b.s2 b.n2
      refine h v H' F' S5 _ ⟨A.ch, b.rep, A.er, b.s1, A.s2, A.n2, fun _ x q w => ?_, fun _ => nw3.trans a.ch (b.n1 rfl), fun z => by cases z⟩
      rcases w with w | w
      · exact b.dj rfl x q w
      · exact (b.n1 rfl x q).elim (fun z => d34 x z w) fun z => a.ch.fd x (a.s2 x (s4 x w)) z
    | ex x ps =>
      rw [hc] at h
      intro cls dd H' F' S5 b xr
      obtain ⟨A, _⟩ := after b.ch b.er b.s2 b.n2
      exact h cls dd H' F' _ A xr
    | bad => rw [hc] at h; exact h
/-! ### another order of the arguments -/
def AvOk (H : Hp) (F : AS) (σ : Sl) (S : AS) (v : V) : Av → Prop
  | .d x => Rep H F x v S
  | .sl k => σ[k]? = some (some v)
theorem ARs.fam {H : Hp} {F : AS} {σ : Sl} : ∀ {as : List Av} {vs : List V} {S : AS}, ARs H F as vs σ S →
    ∃ fam : Nat → AS, (∀ i j, i ≠ j → Dj (fam i) (fam j)) ∧ (∀ i, Sb (fam i) S) ∧ ∀ i a, as[i]? = some a → ∃ v, vs[i]? = some v ∧ AvOk H F σ (fam i) v a
  | [], vs, S, h => ⟨fun _ => nos, fun _ _ _ => dj_nos, fun _ => sb_nos, fun i a e => by simp at e⟩
  | .d x :: r, vs, S, h => by
    obtain ⟨v, t, S1, S2, rfl, h1, h2, dj, s1, s2⟩ := h
    obtain ⟨fam, fd, fs, fo⟩ := ARs.fam h2
    refine ⟨fun i => match i with | 0 => S1 | i + 1 => fam i, fun i j hij => ?_, fun i => ?_, fun i a e => ?_⟩
    · cases i <;> cases j
      · exact absurd rfl hij
      · exact dj.mono Sb.refl (fs _)
      · exact (dj.mono Sb.refl (fs _)).symm
      · exact fd _ _ fun z => hij (by rw [z])
    · cases i
      · exact s1
      · exact (fs _).trans s2
    · cases i with
      | zero =>
        have e' : Av.d x = a := by simpa using e
        subst e'
        exact ⟨v, rfl, h1⟩
      | succ i => exact fo i a (by simpa using e)
  | .sl k :: r, vs, S, h => by
    obtain ⟨v, t, rfl, hs, h2⟩ := h
    obtain ⟨fam, fd, fs, fo⟩ := ARs.fam h2
    refine ⟨fun i => match i with | 0 => nos | i + 1 => fam i, fun i j hij => ?_, fun i => ?_, fun i a e => ?_⟩
    · cases i <;> cases j
      · exact absurd rfl hij
      · exact dj_nos
      · exact dj_nos.symm
      · exact fd _ _ fun z => hij (by rw [z])
    · cases i
      · exact sb_nos
      · exact fs _
    · cases i with
      | zero =>
        have e' : Av.sl k = a := by simpa using e
        subst e'
        exact ⟨v, rfl, hs⟩
      | succ i => exact fo i a (by simpa using e)
theorem ARs.ofFam {H : Hp} {F : AS} {σ : Sl} {as : List Av} {vs : List V} {fam : Nat → AS} (fd : ∀ i j, i ≠ j → Dj (fam i) (fam j)) (fo : ∀ i a, as[i]? = some a → ∃ v, vs[i]? = some v ∧ AvOk H F σ (fam i) v a) :
    ∀ (perm : List Nat), perm.Nodup → (∀ i ∈ perm, i < as.length) → ARs H F (permL perm as) (permL perm vs) σ (fun a => ∃ i ∈ perm, fam i a)
  | [], _, _ => rfl
  | i :: r, nd, hi => by
    have h0 : i < as.length := hi i (by simp)
    obtain ⟨v, hv, ok⟩ := fo i _ (List.getElem?_eq_getElem h0)
    have ih := ARs.ofFam fd fo r (List.nodup_cons.mp nd).2 fun j hj => hi j (by simp [hj])
    have ea : permL (i :: r) as = as[i] :: permL r as := by unfold permL; rw [List.filterMap_cons, List.getElem?_eq_getElem h0]
    have ev : permL (i :: r) vs = v :: permL r vs := by unfold permL; rw [List.filterMap_cons, hv]
    rw [ea, ev]
    cases q : as[i] with
    | d x =>
      rw [q] at ok
      exact ⟨v, _, fam i, _, rfl, ok, ih, fun a p ⟨j, hj, w⟩ => fd i j (fun z => (List.nodup_cons.mp nd).1 (z ▸ hj)) a p w, fun a p => ⟨i, by simp, p⟩, fun a ⟨j, hj, w⟩ => ⟨j, by simp [hj], w⟩⟩
    | sl k =>
      rw [q] at ok
      exact ⟨v, _, rfl, ok, ih.mono fun a ⟨j, hj, w⟩ => ⟨j, by simp [hj], w⟩⟩
theorem ARs.perm {H : Hp} {F : AS} {σ : Sl} {as cs : List Av} {vs : List V} {S : AS} {perm : List Nat} (h : ARs H F as vs σ S) (e : permA perm as = some cs) : ARs H F cs (permL perm vs) σ S ∧ cs.length = as.length := by
  unfold permA at e
  split at e
  · rename_i hc
    obtain ⟨h1, h2, h3⟩ := hc
    cases e
    have hlt : ∀ i ∈ perm, i < as.length := fun i hi => by
      have := List.all_eq_true.mp h3 i hi
      simpa using this
    obtain ⟨fam, fd, fs, fo⟩ := h.fam
    refine ⟨(ARs.ofFam fd fo perm h2 hlt).mono fun a ⟨i, _, w⟩ => fs i a w, ?_⟩
    rw [← h1]
    unfold permL
    clear h1 h2 h3 fo fd fs h
    induction perm with
    | nil => rfl
    | cons i r ih =>
      rw [List.filterMap_cons, List.getElem?_eq_getElem (hlt i (by simp)), List.length_cons, List.length_cons, ih fun j hj => hlt j (by simp [hj])]
  · cases e
end Vm
namespace Vm
open PySem PySem.Spec L2

structure Gd (g : Tab) (N : List Str) (p : Pm) (X : Cx) (sc : Scope) : Prop where
  hN : X.N = N
  nd : N.Nodup
  sc : X.env.scope = sc
  calm : X.calm = true
  un : X.A.units + 200 < cLine
  free : ∀ x, x ∈ g.free → X.mg x = none
  cons : ∀ q, q ∈ g.cons → ∃ u v, X.mg q.1 = some u ∧ RelV v u ∧ ∀ H F, Rep H F q.2 v nos
  tk : Takes X p.Wx
  call : ∀ f fn, g.fn f = some fn → ∃ a fd k, X.mg f = some (.ref a) ∧ PySem.W.keepIn X.K (.ref a) = true ∧ Binds X.K fd fn.ps [] ∧ FnOk X.prog X.w X.K X.mg X.base (L2.CX X.prog X.w) k a fd fn.ps (spC p.C p.XR f fn.ps.length) ∧ Room k X.A ∧
    (∀ n ks perm, (f, n, ks, perm) ∈ g.kws → ∀ (s : Shared) (us ws : List Value), X.K.In s.heap → us.length = n → ws.length = ks.length → BindsTo s fd ⟨us, ks.zip ws⟩ (fn.ps.zip (permL perm (us ++ ws))))
section
variable {g : Tab} {N : List Str} {p : Pm} {X : Cx} {sc : Scope}
theorem star_pl {e : Expr} (h : pl e = true) (es : List Expr) (env : Env) : starEach (e :: es) env = (false, eval e env) :: starEach es env := by
  cases e <;> first | rfl | (cases h)
theorem mark_pl {e : Expr} (h : pl e = true) (op : CmpOp) : behindInMarks op e = false := by
  cases e <;> first | rfl | (cases h)
theorem plainIx_pl {e : Expr} (h : pl e = true) : PlainIx e := by
  cases e <;> first | (intro o i; rfl) | (cases h)
theorem sole_pl {e : Expr} (h : pl e = true) : ∀ (env : Env) (x : Value), foldedSetIterable e env x = pure x := by
  cases e <;> first | (intro env x; rfl) | (cases h)
/-- a reading made weaker -/
theorem pe_weak {A : Expr} {t t' : TE} (h : PE X A t) (w : ∀ σ H Q, t' σ H Q → t σ H Q) : PE X A t' := ⟨fun pins s σ H Q I q => h.run pins s σ H Q I (w σ H Q q)⟩
theorem pt_weak {A : Expr} {t t' : TT} (h : PT X A t) (w : ∀ σ H Q, t' σ H Q → t σ H Q) : PT X A t' := ⟨fun pins s σ H Q I q => h.run pins s σ H Q I (w σ H Q q)⟩
theorem pw_weak {A : Expr} {t t' : TT} (h : PW X A t) (w : ∀ σ H Q, t' σ H Q → t σ H Q) : PW X A t' := ⟨fun wh pins s σ H Q I q => h.run wh pins s σ H Q I (w σ H Q q)⟩
/-! ### names -/
theorem okNm_ok (G : Gd g N p X sc) {i : Nat} {x : Str} (h : okNm N sc i x = true) : X.N[i]? = some x ∧ Vis X.env.scope x ∧ (x == ("__debug__" : Str)) = false ∧ (x == ("__classdict__" : Str)) = false := by
  unfold okNm at h
  simp only [Bool.and_eq_true, decide_eq_true_eq, Bool.not_eq_true'] at h
  obtain ⟨h1, h2, h3, h4⟩ := h
  refine ⟨by rw [G.hN]; exact h1, ?_, h3, h4⟩
  rw [G.sc]
  unfold visB at h2
  unfold Vis
  split at h2 <;> simp_all
theorem pe_nm (G : Gd g N p X sc) {i : Nat} {x : Str} {pos : Pos} (h : okNm N sc i x = true) : PE X (.Name x pos) (tVar i) := by
  obtain ⟨h1, h2, h3, h4⟩ := okNm_ok G h
  exact pe_var h1 h2 h3 h4
theorem okGl_ok (G : Gd g N p X sc) {x : Str} (h : okGl sc x = true) : Gl X x ∧ (x == ("__debug__" : Str)) = false ∧ x ≠ "__name__" := by
  unfold okGl at h
  simp only [Bool.and_eq_true, decide_eq_true_eq, Bool.not_eq_true', decide_eq_false_iff_not] at h
  obtain ⟨h1, h2, h3⟩ := h
  refine ⟨?_, h2, h3⟩
  show X.env.scope.names.lookup x = some .globalImplicit
  rw [G.sc]; exact h1
/-! ### one thing after another -/
section
variable {σ : Sl} {H H1 H2 : Hp} {F F1 F2 S S1 S2 T1 T2 : AS} {e e1 e2 : Nv} {d d1 : D} {v v1 : V} {vb sb vb1 sb1 vb2 sb2 : Bool}
/-- an exception further on -/
theorem Vx.pre {x : D} {e' : Nv} (fd : ∀ a, F a → H a ≠ none) (a : AftT sb σ H F S H1 F1 e1 S2) (h : Vx p σ H F S x e') : Vx p σ H1 F1 S2 x e' := fun cls dd H' F' S3 b xr =>
  h cls dd H' F' S3 ((a.weak.trans fd b).imp fun z => by cases z) xr
theorem vp_bind {r : R D} {f : D → Nv → R D} {Q Q1 : VK} (h : Vp p vb sb σ H F S (r.bind f) Q)
    (k : ∀ d e', r = .ok d e' → Vp p vb sb σ H F S (f d e') Q → ∀ v H' F' S1 S2, Aft vb1 sb1 σ H F S H' F' d v S1 e' S2 → Q1 v H') : Vp p vb1 sb1 σ H F S r Q1 := by
  cases r with
  | ok d e' => exact k d e' rfl h
  | ex x e' => exact h
  | bad => exact h
theorem vp_bind_t {r : R D} {f : D → Nv → R Bool} {Q : Bool → Hp → Prop} {Q1 : VK} (h : Vt p sb σ H F S (r.bind f) Q)
    (k : ∀ d e', r = .ok d e' → Vt p sb σ H F S (f d e') Q → ∀ v H' F' S1 S2, Aft vb1 sb1 σ H F S H' F' d v S1 e' S2 → Q1 v H') : Vp p vb1 sb1 σ H F S r Q1 := by
  cases r with
  | ok d e' => exact k d e' rfl h
  | ex x e' => exact h
  | bad => exact h
theorem vt_bind {r : R Bool} {f : Bool → Nv → R D} {Q : VK} {Q1 : Bool → Hp → Prop} (h : Vp p vb sb σ H F S (r.bind f) Q)
    (k : ∀ b e', r = .ok b e' → Vp p vb sb σ H F S (f b e') Q → ∀ H' F' S2, AftT sb1 σ H F S H' F' e' S2 → Q1 b H') : Vt p sb1 σ H F S r Q1 := by
  cases r with
  | ok d e' => exact k d e' rfl h
  | ex x e' => exact h
  | bad => exact h
theorem vt_bind_t {r : R Bool} {f : Bool → Nv → R Bool} {Q Q1 : Bool → Hp → Prop} (h : Vt p sb σ H F S (r.bind f) Q)
    (k : ∀ b e', r = .ok b e' → Vt p sb σ H F S (f b e') Q → ∀ H' F' S2, AftT sb1 σ H F S H' F' e' S2 → Q1 b H') : Vt p sb1 σ H F S r Q1 := by
  cases r with
  | ok d e' => exact k d e' rfl h
  | ex x e' => exact h
  | bad => exact h
/-- what is wanted from here, wanted from behind a first part -/
theorem Vp.pre {r : R D} {Q : VK} (fd : ∀ a, F a → H a ≠ none) (a : AftT sb1 σ H F S H1 F1 e1 S2) (h : Vp p vb sb σ H F S r Q) (hs : sb = true → sb1 = true ∧ sb2 = true) : Vp p vb sb2 σ H1 F1 S2 r Q := by
  cases r with
  | ok d e' =>
    intro v H' F' U1 U2 b
    refine h v H' F' U1 U2 ?_
    have c := a.trans fd b.t
    exact ⟨c.ch, b.rep, c.er, b.s1, c.s2, c.n2, b.dj, fun hv => a.n2.trans a.ch (b.n1 hv), fun z => c.ext (by rw [Bool.and_eq_true]; exact hs z)⟩
  | ex x e' => exact Vx.pre fd a h
  | bad => exact h
theorem Vt.pre {r : R Bool} {Q : Bool → Hp → Prop} (fd : ∀ a, F a → H a ≠ none) (a : AftT sb1 σ H F S H1 F1 e1 S2) (h : Vt p sb σ H F S r Q) (hs : sb = true → sb1 = true ∧ sb2 = true) : Vt p sb2 σ H1 F1 S2 r Q := by
  cases r with
  | ok d e' =>
    intro H' F' U2 b
    refine h H' F' U2 ?_
    exact (a.trans fd b).imp fun z => by rw [Bool.and_eq_true]; exact hs z
  | ex x e' => exact Vx.pre fd a h
  | bad => exact h
end
/-! ### a test out of a value -/
theorem pt_of {A : Expr} {x : E} (h : PE X A (tE p x)) (he : ∀ whole, isTrue A X.env whole = (do let v ← whole; standAt A.pos; holding [v] (truthy v))) : PT X A (tT p x) := by
  refine pt_weak (pt_val h he) fun σ H Q ⟨F, S, e, r, q⟩ => ⟨F, S, e, r, ?_⟩
  refine vp_bind_t q fun d e' _ q v H' F' S1 S2 a => ?_
  cases d <;> first | exact q.elim | skip
  cases a.rep
  exact ⟨_, rfl, q H' F' S2 a.t⟩
/-! ### two values, an operation -/
theorem pe_two {A B P : Expr} {a b : E} {x : E} {f : D → D → Option D} {r : R2} (ha : PE X A (tE p a)) (hb : PE X B (tE p b)) (hp : PE X P (tOp r (tE p a) (tE p b)))
    (hr : ∀ {u w H Q}, rD2 f u w H Q → r u w H Q) (hm : isV a = true ∨ smp b = true) (hv : isV x = true) (hx : smp x = (smp a && smp b))
    (ex : ∀ e, ev p.C x e = (ev p.C a e).bind fun y e1 => (ev p.C b e1).bind fun z e2 => R.of (f y z) e2) : PE X P (tE p x) := by
  refine pe_weak hp fun σ H Q ⟨F, S, e, rd, q⟩ => ?_
  rw [ex] at q
  refine ⟨F, S, e, rd, vp_bind q fun d1 e1 _ q v1 H1 F1 S1 S2 a1 => ?_⟩
  have q1 := Vp.pre (sb2 := smp b) rd.fd a1.t q (by rw [hx, Bool.and_eq_true]; exact id)
  refine ⟨F1, S2, e1, .of_aft a1, vp_bind q1 fun d2 e2 _ q2 v2 H2 F2 T1 T2 a2 => hr ?_⟩
  have k := a1.keep a2.t hm
  cases ho : f d1 d2 with
  | none => rw [ho] at q2; exact q2.elim
  | some d =>
    rw [ho] at q2
    refine ⟨F2, d1, d2, S1, T1, d, k, a2.rep, ho, ?_⟩
    refine Out.of (p := p) (vb := isV x) (sb := smp b) a1.ch.fd a2.t fun v' H' F' U1 U2 b' => q2 v' H' F' U1 U2 ?_
    exact b'
theorem rC2_of {f : D → D → Option Bool} {u w : V} {H : Hp} {Q : VK} (h : rD2 (fun x y => (f x y).map D.bl) u w H Q) : rC2 f u w H Q := by
  obtain ⟨F, a, b, S1, S2, d, ra, rb, e, out⟩ := h
  obtain ⟨c, hc, rfl⟩ := Option.map_eq_some_iff.mp e
  exact ⟨F, a, b, S1, S2, c, ra, rb, hc, out _ rfl⟩
def isBO : Expr → Bool
  | .BoolOp _ _ _ => true
  | _ => false
def SE (g : Tab) (N : List Str) (C : Orc) (XR : Hp → AS → D → Value → Option Addr → Prop) (x : E) : Prop :=
  ∀ (Wx : WX) (X : Cx) (sc : Scope) (A : Expr), Gd g N ⟨C, XR, Wx⟩ X sc → chk g N sc x A = true → PE X A (tE ⟨C, XR, Wx⟩ x) ∧ PT X A (tT ⟨C, XR, Wx⟩ x) ∧ (isBO A = true → PW X A (tT ⟨C, XR, Wx⟩ x))
theorem se_plain {A : Expr} {x : E} (h : PE X A (tE p x)) (he : ∀ whole, isTrue A X.env whole = (do let v ← whole; standAt A.pos; holding [v] (truthy v))) (hb : isBO A = false) : PE X A (tE p x) ∧ PT X A (tT p x) ∧ (isBO A = true → PW X A (tT p x)) :=
  ⟨h, pt_of h he, fun z => by rw [hb] at z; cases z⟩
/-- where PT is shown by its own rule -/
theorem se_test {A : Expr} {x : E} (h : PE X A (tE p x)) (ht : PT X A (tT p x)) (hb : isBO A = false) : PE X A (tE p x) ∧ PT X A (tT p x) ∧ (isBO A = true → PW X A (tT p x)) :=
  ⟨h, ht, fun z => by rw [hb] at z; cases z⟩
/-! ### the small cases -/
theorem snd_cst (d : D) {A : Expr} {sc : Scope} (G : Gd g N p X sc) (h : chk g N sc (.cst d) A = true) : PE X A (tE p (.cst d)) := by
  cases A with
  | Constant c k pos =>
    have h : constD c d = true := h
    have fin : ∀ v, (∀ H F, Rep H F d v nos) → ∀ σ H Q, tE p (.cst d) σ H Q → tC v σ H Q := fun v hv σ H Q ⟨F, S, e, rd, q⟩ => q v H F nos S (rd.refl.val (hv H F))
    cases c <;> cases d <;> (first | (cases h; done) | skip)
    · exact pe_weak pe_non (fin _ fun _ _ => rfl)
    · have e := eq_of_beq h
      subst e
      exact pe_weak pe_bl (fin _ fun _ _ => rfl)
    · have e := of_decide_eq_true h
      subst e
      exact pe_weak pe_int (fin _ fun _ _ => rfl)
    · simp only [constD, Bool.and_eq_true, decide_eq_true_eq] at h
      obtain ⟨rfl, h1, h2⟩ := h
      exact pe_weak pe_str (fin _ fun _ _ => ⟨rfl, h1, lim_ok h2⟩)
  | _ => exact absurd h Bool.false_ne_true
theorem snd_nm (i : Nat) {A : Expr} {sc : Scope} (G : Gd g N p X sc) (h : chk g N sc (.nm i) A = true) : PE X A (tE p (.nm i)) := by
  cases A with
  | Name x pos =>
    refine pe_weak (pe_nm G h) fun σ H Q ⟨F, S, e, rd, q⟩ => ?_
    simp only [ev] at q
    split at q
    · rename_i d he
      obtain ⟨v, S1, S2, hv, r1, er, dj, s1, s2⟩ := rd.er.out he
      refine ⟨v, hv, ?_⟩
      have a0 : Aft true true σ H F S H F d v S1 (e.set i none) S2 := ⟨.refl rd.fd, r1, er, fun _ => s1.trans rd.sf, s2.trans rd.sf, fun x z => .inl (s2 x z), fun _ => dj, fun _ x z => .inl (s1 x z), fun _ _ _ z => z⟩
      obtain ⟨b, rf⟩ := a0.give rd.fd rfl
      have hi : i < (e.set i none).length := by
        rw [List.length_set]
        exact (List.getElem?_eq_some_iff.mp he).1
      have er2 := ERs.back (S1 := nos) b.er hi hv rf dj_nos
      rw [List.set_set] at er2
      have er3 := er2.mono (T := S2) fun x z => z.elim (fun z => z.elim) id
      exact q v H _ nos S2 ⟨b.ch, rf, er3, fun _ => sb_nos, b.s2, b.n2, fun _ => dj_nos, fun _ _ z => z.elim, fun z => by cases z⟩
    · exact q.elim
  | _ => exact absurd h Bool.false_ne_true
theorem snd_mv (i : Nat) {A : Expr} {sc : Scope} (G : Gd g N p X sc) (h : chk g N sc (.mv i) A = true) : PE X A (tE p (.mv i)) := by
  cases A with
  | Name x pos =>
    refine pe_weak (pe_nm G h) fun σ H Q ⟨F, S, e, rd, q⟩ => ?_
    simp only [ev] at q
    split at q
    · rename_i d he
      obtain ⟨v, S1, S2, hv, r1, er, dj, s1, s2⟩ := rd.er.out he
      exact ⟨v, hv, q v H F S1 S2 ⟨.refl rd.fd, r1, er, fun _ => s1.trans rd.sf, s2.trans rd.sf, fun x z => .inl (s2 x z), fun _ => dj, fun _ x z => .inl (s1 x z), fun z => by cases z⟩⟩
    · exact q.elim
  | _ => exact absurd h Bool.false_ne_true
theorem snd_pk (i : Nat) {A : Expr} {sc : Scope} (G : Gd g N p X sc) (h : chk g N sc (.pk i) A = true) : PE X A (tE p (.pk i)) := by
  cases A with
  | Name x pos =>
    refine pe_weak (pe_nm G h) fun σ H Q ⟨F, S, e, rd, q⟩ => ?_
    simp only [ev] at q
    split at q
    · rename_i d he
      obtain ⟨v, hv, r1⟩ := rd.er.get he
      exact ⟨v, hv, q v H F S S ⟨.refl rd.fd, r1, rd.er, (fun z => by cases z), rd.sf, fun x z => .inl z, (fun z => by cases z), (fun z => by cases z), fun _ _ _ z => z⟩⟩
    · exact q.elim
  | _ => exact absurd h Bool.false_ne_true
theorem constEq_ok : ∀ {a b : D}, constEq a b = true → a = b := by
  intro a b h
  cases a <;> cases b <;> (first | (cases h; done) | skip)
  · rfl
  · exact congrArg D.bl (eq_of_beq h)
  · exact congrArg D.int (of_decide_eq_true h)
  · exact congrArg D.str (of_decide_eq_true h)
theorem snd_gc (y : Str) (d : D) {A : Expr} {sc : Scope} (G : Gd g N p X sc) (h : chk g N sc (.gc y d) A = true) : PE X A (tE p (.gc y d)) := by
  cases A with
  | Name x pos =>
    simp only [chk, Bool.and_eq_true, decide_eq_true_eq] at h
    obtain ⟨rfl, h1, ⟨qx, qd⟩, hq, rfl, h2⟩ := h
    have e := constEq_ok h2
    simp only at e
    subst e
    obtain ⟨u, v, hm, rv, hr⟩ := G.cons _ hq
    obtain ⟨g1, g2, g3⟩ := okGl_ok G h1
    exact pe_weak (pe_glob g1 hm rv g2) fun σ H Q ⟨F, S, e, rd, q⟩ => q v H F nos S (rd.refl.val (hr H F))
  | _ => exact absurd h Bool.false_ne_true
theorem snd_neg {a : E} (ia : SE g N p.C p.XR a) {A : Expr} {sc : Scope} (G : Gd g N p X sc) (h : chk g N sc (.neg a) A = true) : PE X A (tE p (.neg a)) ∧ PT X A (tT p (.neg a)) ∧ (isBO A = true → PW X A (tT p (.neg a))) := by
  cases A with
  | UnaryOp op x pos =>
    cases op with
    | USub =>
      refine se_plain (pe_weak (pe_un un_neg (ia p.Wx X sc x G h).1) fun σ H Q ⟨F, S, e, rd, q⟩ => ⟨F, S, e, rd, ?_⟩) (fun _ => rfl) rfl
      simp only [ev] at q
      refine vp_bind q fun d e' _ q v H' F' S1 S2 a1 => ?_
      cases d <;> (first | exact q.elim | skip)
      cases a1.rep
      exact ⟨_, rfl, q _ H' F' nos S2 (a1.t.val rfl)⟩
    | _ => exact absurd h Bool.false_ne_true
  | _ => exact absurd h Bool.false_ne_true
theorem snd_isn {n : Bool} {a : E} (ia : SE g N p.C p.XR a) {A : Expr} {sc : Scope} (G : Gd g N p X sc) (h : chk g N sc (.isn n a) A = true) : PE X A (tE p (.isn n a)) ∧ PT X A (tT p (.isn n a)) ∧ (isBO A = true → PW X A (tT p (.isn n a))) := by
  have key : ∀ {d : D} {v : V} {H : Hp} {F S : AS}, Rep H F d v S → decide (v = .non) = (match d with | .non => true | _ => false) := fun {d v H F S} r => by
    cases d with
    | non => cases r; rfl
    | bl _ => cases r; rfl
    | int _ => cases r; rfl
    | str _ => obtain ⟨rfl, _⟩ := r; rfl
    | tup _ => obtain ⟨_, _, rfl, _⟩ := r; rfl
    | lst _ _ => obtain ⟨_, _, rfl, _⟩ := r; rfl
  have val : ∀ {d : D} {e' : Nv} {σ H F S Q v H' F' S1 S2} (q : Vp p (isV (.isn n a)) (smp (.isn n a)) σ H F S (.ok (.bl (match d with | .non => !n | _ => n)) e') Q) (a1 : Aft (isV a) (smp a) σ H F S H' F' d v S1 e' S2), Q (.bl (if n = true then !decide (v = .non) else decide (v = .non))) H' := fun {d e' σ H F S Q v H' F' S1 S2} q a1 => by
    have := q _ H' F' nos S2 (a1.t.val rfl)
    rw [key a1.rep]
    cases d <;> cases n <;> exact this
  cases A with
  | Compare x ops cs pos =>
    unfold chk at h
    split at h
    · rename_i heq
      cases heq
      rw [Bool.and_eq_true, Bool.not_eq_true'] at h
      obtain ⟨rfl, h2⟩ := h
      have i1 := (ia p.Wx X sc x G h2).1
      have hp : ∀ σ H Q, tE p (.isn false a) σ H Q → tIsN (tE p a) σ H Q := fun σ H Q ⟨F, S, e, rd, q⟩ => ⟨F, S, e, rd, by
        simp only [ev] at q
        exact vp_bind q fun d e' _ q v H' F' S1 S2 a1 => val q a1⟩
      refine se_test (pe_weak (pe_cmp (pc_isN i1)) hp) ?_ rfl
      refine pt_weak (pt_cmp (pc_isN i1)) fun σ H Q ⟨F, S, e, rd, q⟩ => ⟨F, S, e, rd, ?_⟩
      simp only [ev] at q
      refine vp_bind (Q1 := fun v H' => ∃ c, V.bl (decide (v = .non)) = .bl c ∧ Q c H') (vb := true) (sb := smp a) (Q := fun v H' => ∃ c, v = .bl c ∧ Q c H') (r := ev p.C a e) (f := fun x e1 => .ok (.bl (match x with | .non => !false | _ => false)) e1) ?_ fun d e' _ q v H' F' S1 S2 a1 => val q a1
      cases hr : ev p.C a e with
      | ok d e' =>
        rw [hr] at q
        intro v H' F' S1 S2 a1
        cases a1.rep
        exact ⟨_, rfl, q H' F' S2 a1.t⟩
      | ex x e' => rw [hr] at q; exact q
      | bad => rw [hr] at q; exact q
    · rename_i heq
      cases heq
      rw [Bool.and_eq_true] at h
      obtain ⟨rfl, h2⟩ := h
      have i1 := (ia p.Wx X sc x G h2).1
      have hp : ∀ σ H Q, tE p (.isn true a) σ H Q → tNotN (tE p a) σ H Q := fun σ H Q ⟨F, S, e, rd, q⟩ => ⟨F, S, e, rd, by
        simp only [ev] at q
        exact vp_bind q fun d e' _ q v H' F' S1 S2 a1 => val q a1⟩
      refine se_test (pe_weak (pe_cmp (pc_notN i1)) hp) ?_ rfl
      refine pt_weak (pt_cmp (pc_notN i1)) fun σ H Q ⟨F, S, e, rd, q⟩ => ⟨F, S, e, rd, ?_⟩
      simp only [ev] at q
      refine vp_bind (Q1 := fun v H' => ∃ c, V.bl (!decide (v = .non)) = .bl c ∧ Q c H') (vb := true) (sb := smp a) (Q := fun v H' => ∃ c, v = .bl c ∧ Q c H') (r := ev p.C a e) (f := fun x e1 => .ok (.bl (match x with | .non => !true | _ => true)) e1) ?_ fun d e' _ q v H' F' S1 S2 a1 => val q a1
      cases hr : ev p.C a e with
      | ok d e' =>
        rw [hr] at q
        intro v H' F' S1 S2 a1
        cases a1.rep
        exact ⟨_, rfl, q H' F' S2 a1.t⟩
      | ex x e' => rw [hr] at q; exact q
      | bad => rw [hr] at q; exact q
    · exact absurd h Bool.false_ne_true
  | _ => exact absurd h Bool.false_ne_true
theorem snd_bin {o : Operator} {a b : E} (ia : SE g N p.C p.XR a) (ib : SE g N p.C p.XR b) {A : Expr} {sc : Scope} (G : Gd g N p X sc) (h : chk g N sc (.bin o a b) A = true) : PE X A (tE p (.bin o a b)) ∧ PT X A (tT p (.bin o a b)) ∧ (isBO A = true → PW X A (tT p (.bin o a b))) := by
  cases A with
  | BinOp x q y pos =>
    simp only [chk, Bool.and_eq_true, Bool.or_eq_true, decide_eq_true_eq] at h
    obtain ⟨rfl, _, hm, hx, hy⟩ := h
    have i1 := (ia p.Wx X sc x G hx).1
    have i2 := (ib p.Wx X sc y G hy).1
    exact se_plain (pe_two (f := binD q) i1 i2 (pe_op (opD_bin q) i1 i2) (fun z => z) hm rfl rfl fun e => rfl) (fun _ => rfl) rfl
  | _ => exact absurd h Bool.false_ne_true
/-- a test's reading out of a value's -/
theorem tt_of {x : E} {t : TE} (h : ∀ σ H Q, tE p x σ H Q → t σ H Q) : ∀ σ H Q, tT p x σ H Q → tTest t σ H Q := fun σ H Q ⟨F, S, e, rd, q⟩ => by
  refine h σ H _ ⟨F, S, e, rd, vp_bind_t q fun d e' _ q v H' F' S1 S2 a => ?_⟩
  cases d <;> first | exact q.elim | skip
  cases a.rep
  exact ⟨_, rfl, q H' F' S2 a.t⟩
theorem pe_weak' {A : Expr} {t : TE} {x : E} (h : PE X A t) (w : ∀ σ H Q, tE p x σ H Q → t σ H Q) : PE X A (tE p x) := pe_weak h w
/-- two values, an operation: the readings alone -/
theorem two_rd {a b x : E} {f : D → D → Option D} {r : R2} (hr : ∀ {u w H Q}, rD2 f u w H Q → r u w H Q) (hm : isV a = true ∨ smp b = true) (hv : isV x = true) (hx : smp x = (smp a && smp b))
    (ex : ∀ e, ev p.C x e = (ev p.C a e).bind fun y e1 => (ev p.C b e1).bind fun z e2 => R.of (f y z) e2) : ∀ σ H Q, tE p x σ H Q → tOp r (tE p a) (tE p b) σ H Q := fun σ H Q ⟨F, S, e, rd, q⟩ => by
  rw [ex] at q
  refine ⟨F, S, e, rd, vp_bind q fun d1 e1 _ q v1 H1 F1 S1 S2 a1 => ?_⟩
  have q1 := Vp.pre (sb2 := smp b) rd.fd a1.t q (by rw [hx, Bool.and_eq_true]; exact id)
  refine ⟨F1, S2, e1, .of_aft a1, vp_bind q1 fun d2 e2 _ q2 v2 H2 F2 T1 T2 a2 => hr ?_⟩
  have k := a1.keep a2.t hm
  cases ho : f d1 d2 with
  | none => rw [ho] at q2; exact q2.elim
  | some d =>
    rw [ho] at q2
    exact ⟨F2, d1, d2, S1, T1, d, k, a2.rep, ho, Out.of (p := p) (vb := isV x) (sb := smp b) a1.ch.fd a2.t q2⟩
theorem snd_cmp {o : CmpOp} {a b : E} (ia : SE g N p.C p.XR a) (ib : SE g N p.C p.XR b) {A : Expr} {sc : Scope} (G : Gd g N p X sc) (h : chk g N sc (.cmp o a b) A = true) : PE X A (tE p (.cmp o a b)) ∧ PT X A (tT p (.cmp o a b)) ∧ (isBO A = true → PW X A (tT p (.cmp o a b))) := by
  cases A with
  | Compare x ops cs pos =>
    unfold chk at h
    split at h
    · rename_i heq
      cases heq
      simp only [Bool.and_eq_true, Bool.or_eq_true, decide_eq_true_eq] at h
      obtain ⟨rfl, _, hp, hm, hx, hy⟩ := h
      have i1 := (ia p.Wx X sc _ G hx).1
      have i2 := (ib p.Wx X sc _ G hy).1
      have un := G.un
      have rd : ∀ q : CmpOp, ∀ σ H Q, tE p (.cmp q a b) σ H Q → tOp (rC2 (cmpD q)) (tE p a) (tE p b) σ H Q := fun q => two_rd (f := fun x y => (cmpD q x y).map D.bl) (fun z => rC2_of z) hm rfl rfl fun e => rfl
      exact se_test (pe_weak (pe_cmpR (opD_cmp _ (by omega)) i1 i2 (mark_pl hp _)) (rd _)) (pt_weak (pt_cmpR (opD_cmp _ (by omega)) i1 i2 (mark_pl hp _)) (tt_of (rd _))) rfl
    · exact absurd h Bool.false_ne_true
  | _ => exact absurd h Bool.false_ne_true
theorem snd_chn {o1 o2 : CmpOp} {a b c : E} (ia : SE g N p.C p.XR a) (ib : SE g N p.C p.XR b) (ic : SE g N p.C p.XR c) {A : Expr} {sc : Scope} (G : Gd g N p X sc) (h : chk g N sc (.chn o1 o2 a b c) A = true) :
    PE X A (tE p (.chn o1 o2 a b c)) ∧ PT X A (tT p (.chn o1 o2 a b c)) ∧ (isBO A = true → PW X A (tT p (.chn o1 o2 a b c))) := by
  cases A with
  | Compare x ops cs pos =>
    unfold chk at h
    split at h
    · rename_i heq
      cases heq
      simp only [Bool.and_eq_true, Bool.or_eq_true, decide_eq_true_eq] at h
      obtain ⟨eo1, eo2, _, _, hp, hp2, hm, hm2, hx, hy, hz⟩ := h
      have eo1 := eo1.symm
      have eo2 := eo2.symm
      subst eo1 eo2
      have i1 := (ia p.Wx X sc _ G hx).1
      have i2 := (ib p.Wx X sc _ G hy).1
      have i3 := (ic p.Wx X sc _ G hz).1
      have un := G.un
      have rd : ∀ σ H Q, tE p (.chn o1 o2 a b c) σ H Q → tChain (rC2 (cmpD o1)) (rC2 (cmpD o2)) (tE p a) (tE p b) (tE p c) σ H Q := fun σ H Q ⟨F, S, e, rd, q⟩ => by
        simp only [ev] at q
        refine ⟨F, S, e, rd, vp_bind q fun d1 e1 _ q v1 H1 F1 S1 S2 a1 => ?_⟩
        have q1 := Vp.pre (sb2 := smp b && smp c) rd.fd a1.t q (by simp only [smp, Bool.and_eq_true]; exact id)
        refine ⟨F1, S2, e1, .of_aft a1, vp_bind q1 fun d2 e2 _ q2 v2 H2 F2 T1 T2 a2 => ?_⟩
        have k := a1.keep a2.t hm
        have q2' := Vp.pre (sb2 := smp c) a1.ch.fd a2.t q2 (by simp only [Bool.and_eq_true]; exact id)
        cases ho : cmpD o1 d1 d2 with
        | none => rw [ho] at q2; exact q2.elim
        | some t =>
          refine ⟨F2, d1, d2, S1, T1, t, k, a2.rep, ho, t, rfl, ?_⟩
          cases t with
          | false =>
            rw [ho] at q2
            rw [if_neg Bool.false_ne_true]
            exact q2 _ H2 F2 nos T2 ((a2.t.imp fun z => by rw [Bool.and_eq_true] at z; exact z.1).val rfl)
          | true =>
            rw [ho] at q2'
            rw [if_pos rfl]
            refine ⟨F2, T2, e2, .of_aft a2, vp_bind q2' fun d3 e3 _ q3 v3 H3 F3 U1 U2 a3 => ?_⟩
            have k2 := a2.keep a3.t hm2
            cases ho2 : cmpD o2 d2 d3 with
            | none => rw [ho2] at q3; exact q3.elim
            | some t2 =>
              rw [ho2] at q3
              exact ⟨F3, d2, d3, T1, U1, t2, k2, a3.rep, ho2, q3 _ H3 F3 nos U2 (a3.t.val rfl)⟩
      rename_i A' y' z' _ _
      have lm : lastMarks [o1, o2] [y', z'] = false := by
        show behindInMarks o2 z' = false
        exact mark_pl hp2 _
      exact se_test (pe_weak (pe_chain (opD_cmp _ (by omega)) (opD_cmp _ (by omega)) i1 i2 i3 lm) rd) (pt_weak (pt_chain (opD_cmp _ (by omega)) (opD_cmp _ (by omega)) i1 i2 i3 lm) (tt_of rd)) rfl
    · exact absurd h Bool.false_ne_true
  | _ => exact absurd h Bool.false_ne_true
theorem snd_not {a : E} (ia : SE g N p.C p.XR a) {A : Expr} {sc : Scope} (G : Gd g N p X sc) (h : chk g N sc (.not a) A = true) : PE X A (tE p (.not a)) ∧ PT X A (tT p (.not a)) ∧ (isBO A = true → PW X A (tT p (.not a))) := by
  cases A with
  | UnaryOp op x pos =>
    cases op with
    | Not =>
      obtain ⟨i1, i2, _⟩ := ia p.Wx X sc x G h
      refine se_test (pe_weak (pe_not i1) fun σ H Q ⟨F, S, e, rd, q⟩ => ⟨F, S, e, rd, ?_⟩) (pt_weak (pt_not i2) fun σ H Q ⟨F, S, e, rd, q⟩ => ⟨F, S, e, rd, ?_⟩) rfl
      · simp only [ev] at q
        cases hr : ev p.C a e with
        | ok d e' =>
          rw [hr] at q
          intro v H' F' S1 S2 a1
          cases d <;> (first | exact q.elim | skip)
          cases a1.rep
          exact ⟨_, rfl, q _ H' F' nos S2 (a1.t.val rfl)⟩
        | ex x e' => rw [hr] at q; exact q
        | bad => rw [hr] at q; exact q
      · simp only [ev] at q
        cases hr : asB (ev p.C a e) with
        | ok d e' =>
          rw [hr] at q
          intro H' F' S2 a1
          exact q H' F' S2 a1
        | ex x e' => rw [hr] at q; exact q
        | bad => rw [hr] at q; exact q
    | _ => exact absurd h Bool.false_ne_true
  | _ => exact absurd h Bool.false_ne_true
/-- the short ways of and, or -/
theorem asBD_q {r : R D} {vb sb : Bool} {σ : Sl} {H : Hp} {F S : AS} {Q : VK} (h : Vp p true sb σ H F S (asBD r) Q) : Vp p vb sb σ H F S r Q := by
  cases r with
  | ok d e' =>
    intro v H' F' S1 S2 a1
    cases d <;> (first | exact h.elim | skip)
    cases a1.rep
    exact h _ H' F' nos S2 (a1.t.val rfl)
  | ex x e' => exact h
  | bad => exact h
theorem asBD_t {r : R D} {sb : Bool} {σ : Sl} {H : Hp} {F S : AS} {Q : Bool → Hp → Prop} (h : Vt p sb σ H F S (asB (asBD r)) Q) : Vt p sb σ H F S (asB r) Q := by
  cases r with
  | ok d e' =>
    cases d <;> (first | exact h.elim | skip)
    exact h
  | ex x e' => exact h
  | bad => exact h
theorem snd_and {a b : E} (ia : SE g N p.C p.XR a) (ib : SE g N p.C p.XR b) {A : Expr} {sc : Scope} (G : Gd g N p X sc) (h : chk g N sc (.and a b) A = true) : PE X A (tE p (.and a b)) ∧ PT X A (tT p (.and a b)) ∧ (isBO A = true → PW X A (tT p (.and a b))) := by
  cases A with
  | BoolOp op vs pos =>
    unfold chk at h
    split at h
    · rename_i heq
      cases heq
      rename_i x y r
      rw [Bool.and_eq_true] at h
      obtain ⟨hx, hy⟩ := h
      obtain ⟨a1, a2, _⟩ := ia p.Wx X sc _ G hx
      have hb : PE X (.BoolOp .And (y :: r) pos) (tE p b) ∧ PW X (.BoolOp .And (y :: r) pos) (tT p b) := by
        cases r with
        | nil =>
          obtain ⟨b1, b2, _⟩ := ib p.Wx X sc _ G hy
          exact ⟨pe_one b1, pw_and1 b2⟩
        | cons z r' =>
          obtain ⟨b1, _, b3⟩ := ib p.Wx X sc _ G hy
          exact ⟨b1, b3 rfl⟩
      have rd : ∀ σ H Q, tE p (.and a b) σ H Q → tAndV (tE p a) (tE p b) σ H Q := fun σ H Q ⟨F, S, e, rd, q⟩ => by
        refine ⟨F, S, e, rd, ?_⟩
        simp only [ev] at q
        cases hr : ev p.C a e with
        | ok d e' =>
          rw [hr] at q
          intro v H' F' S1 S2 k
          cases d <;> (first | exact q.elim | skip)
          cases k.rep
          rename_i c
          refine ⟨c, rfl, ?_⟩
          cases c with
          | true =>
            rw [if_pos rfl]
            exact ⟨F', S2, e', .of_aft k, asBD_q (Vp.pre (sb2 := smp b) rd.fd k.t q (by simp only [smp, Bool.and_eq_true]; exact id))⟩
          | false =>
            rw [if_neg Bool.false_ne_true]
            exact q _ H' F' nos S2 ((k.t.imp fun z => by simp only [smp, Bool.and_eq_true] at z; exact z.1).val rfl)
        | ex x e' => rw [hr] at q; exact q
        | bad => rw [hr] at q; exact q
      have rdT : ∀ σ H Q, tT p (.and a b) σ H Q → tAnd (tT p a) (tT p b) σ H Q := fun σ H Q ⟨F, S, e, rd, q⟩ => by
        refine ⟨F, S, e, rd, ?_⟩
        simp only [ev] at q
        cases hr : asB (ev p.C a e) with
        | ok c e' =>
          rw [hr] at q
          intro H' F' S2 k
          cases c with
          | true =>
            rw [if_pos rfl]
            exact ⟨F', S2, e', .of_aftT k, asBD_t (Vt.pre (sb2 := smp b) rd.fd k q (by simp only [smp, Bool.and_eq_true]; exact id))⟩
          | false =>
            rw [if_neg Bool.false_ne_true]
            exact q H' F' S2 (k.imp fun z => by simp only [smp, Bool.and_eq_true] at z; exact z.1)
        | ex x e' => rw [hr] at q; exact q
        | bad => rw [hr] at q; exact q
      have w := pw_weak (pw_and a2 hb.2) rdT
      exact ⟨pe_weak (pe_and a1 hb.1) rd, w.pt, fun _ => w⟩
    · exact absurd h Bool.false_ne_true
  | _ => exact absurd h Bool.false_ne_true
theorem snd_or {a b : E} (ia : SE g N p.C p.XR a) (ib : SE g N p.C p.XR b) {A : Expr} {sc : Scope} (G : Gd g N p X sc) (h : chk g N sc (.or a b) A = true) : PE X A (tE p (.or a b)) ∧ PT X A (tT p (.or a b)) ∧ (isBO A = true → PW X A (tT p (.or a b))) := by
  cases A with
  | BoolOp op vs pos =>
    unfold chk at h
    split at h
    · rename_i heq
      cases heq
      rename_i x y r
      rw [Bool.and_eq_true] at h
      obtain ⟨hx, hy⟩ := h
      obtain ⟨a1, a2, _⟩ := ia p.Wx X sc _ G hx
      have hb : PE X (.BoolOp .Or (y :: r) pos) (tE p b) ∧ PW X (.BoolOp .Or (y :: r) pos) (tT p b) := by
        cases r with
        | nil =>
          obtain ⟨b1, b2, _⟩ := ib p.Wx X sc _ G hy
          exact ⟨pe_one b1, pw_or1 b2⟩
        | cons z r' =>
          obtain ⟨b1, _, b3⟩ := ib p.Wx X sc _ G hy
          exact ⟨b1, b3 rfl⟩
      have rd : ∀ σ H Q, tE p (.or a b) σ H Q → tOrV (tE p a) (tE p b) σ H Q := fun σ H Q ⟨F, S, e, rd, q⟩ => by
        refine ⟨F, S, e, rd, ?_⟩
        simp only [ev] at q
        cases hr : ev p.C a e with
        | ok d e' =>
          rw [hr] at q
          intro v H' F' S1 S2 k
          cases d <;> (first | exact q.elim | skip)
          cases k.rep
          rename_i c
          refine ⟨c, rfl, ?_⟩
          cases c with
          | false =>
            rw [if_neg Bool.false_ne_true]
            exact ⟨F', S2, e', .of_aft k, asBD_q (Vp.pre (sb2 := smp b) rd.fd k.t q (by simp only [smp, Bool.and_eq_true]; exact id))⟩
          | true =>
            rw [if_pos rfl]
            exact q _ H' F' nos S2 ((k.t.imp fun z => by simp only [smp, Bool.and_eq_true] at z; exact z.1).val rfl)
        | ex x e' => rw [hr] at q; exact q
        | bad => rw [hr] at q; exact q
      have rdT : ∀ σ H Q, tT p (.or a b) σ H Q → tOr (tT p a) (tT p b) σ H Q := fun σ H Q ⟨F, S, e, rd, q⟩ => by
        refine ⟨F, S, e, rd, ?_⟩
        simp only [ev] at q
        cases hr : asB (ev p.C a e) with
        | ok c e' =>
          rw [hr] at q
          intro H' F' S2 k
          cases c with
          | false =>
            rw [if_neg Bool.false_ne_true]
            exact ⟨F', S2, e', .of_aftT k, asBD_t (Vt.pre (sb2 := smp b) rd.fd k q (by simp only [smp, Bool.and_eq_true]; exact id))⟩
          | true =>
            rw [if_pos rfl]
            exact q H' F' S2 (k.imp fun z => by simp only [smp, Bool.and_eq_true] at z; exact z.1)
        | ex x e' => rw [hr] at q; exact q
        | bad => rw [hr] at q; exact q
      have w := pw_weak (pw_or a2 hb.2) rdT
      exact ⟨pe_weak (pe_or a1 hb.1) rd, w.pt, fun _ => w⟩
    · exact absurd h Bool.false_ne_true
  | _ => exact absurd h Bool.false_ne_true
/-- a if t else b, as a test -/
theorem pt_ifExp {c a b : Expr} {pos : Pos} {tc ta tb : TT} (hc : PT X c tc) (ha : PT X a ta) (hb : PT X b tb) : PT X (.IfExp c a b pos) (fun σ H Q => tc σ H fun k H1 => if k = true then ta σ H1 Q else tb σ H1 Q) := by
  refine ⟨fun pins s σ H Q I h => ?_⟩
  show wpAny _ _ (do if ← isTrue c X.env (eval c X.env) then isTrue a X.env (eval a X.env) else isTrue b X.env (eval b X.env)) _ _ _
  refine wpAny_bind (thn (hc.run pins s σ H _ I h) fun d s1 ⟨H1, I1, q1⟩ => ?_)
  cases d with
  | true => exact ha.run pins s1 σ H1 Q I1 q1
  | false => exact hb.run pins s1 σ H1 Q I1 q1
theorem Vp.flags {r : R D} {vb sb vb2 sb2 : Bool} {σ : Sl} {H : Hp} {F S : AS} {Q : VK} (h : Vp p vb sb σ H F S r Q) (hv : vb = true → vb2 = true) (hs : sb = true → sb2 = true) : Vp p vb2 sb2 σ H F S r Q := by
  cases r with
  | ok d e' => exact fun v H' F' S1 S2 a => h v H' F' S1 S2 ⟨a.ch, a.rep, a.er, fun z => a.s1 (hv z), a.s2, a.n2, fun z => a.dj (hv z), fun z => a.n1 (hv z), fun z => a.ext (hs z)⟩
  | ex x e' => exact h
  | bad => exact h
theorem snd_ite {c a b : E} (ic : SE g N p.C p.XR c) (ia : SE g N p.C p.XR a) (ib : SE g N p.C p.XR b) {A : Expr} {sc : Scope} (G : Gd g N p X sc) (h : chk g N sc (.ite c a b) A = true) :
    PE X A (tE p (.ite c a b)) ∧ PT X A (tT p (.ite c a b)) ∧ (isBO A = true → PW X A (tT p (.ite c a b))) := by
  cases A with
  | IfExp z x y pos =>
    simp only [chk, Bool.and_eq_true] at h
    obtain ⟨hz, hx, hy⟩ := h
    obtain ⟨_, c2, _⟩ := ic p.Wx X sc _ G hz
    obtain ⟨a1, a2, _⟩ := ia p.Wx X sc _ G hx
    obtain ⟨b1, b2, _⟩ := ib p.Wx X sc _ G hy
    refine se_test (pe_weak (pe_ifExp c2 a1 b1) fun σ H Q ⟨F, S, e, rd, q⟩ => ⟨F, S, e, rd, ?_⟩) (pt_weak (pt_ifExp c2 a2 b2) fun σ H Q ⟨F, S, e, rd, q⟩ => ⟨F, S, e, rd, ?_⟩) rfl
    · simp only [ev] at q
      refine vt_bind q fun t e' _ q H' F' S2 k => ?_
      cases t with
      | true =>
        rw [if_pos rfl] at q ⊢
        exact ⟨F', S2, e', .of_aftT k, (Vp.pre (sb2 := smp a) rd.fd k q (by simp only [smp, Bool.and_eq_true]; exact fun z => ⟨z.1, z.2.1⟩)).flags (by simp only [isV, Bool.and_eq_true]; exact fun z => z.1) id⟩
      | false =>
        rw [if_neg Bool.false_ne_true] at q ⊢
        exact ⟨F', S2, e', .of_aftT k, (Vp.pre (sb2 := smp b) rd.fd k q (by simp only [smp, Bool.and_eq_true]; exact fun z => ⟨z.1, z.2.2⟩)).flags (by simp only [isV, Bool.and_eq_true]; exact fun z => z.2) id⟩
    · simp only [ev] at q
      have q' : Vt p (smp (.ite c a b)) σ H F S ((asB (ev p.C c e)).bind fun x e1 => if x then asB (ev p.C a e1) else asB (ev p.C b e1)) Q := by
        cases hr : asB (ev p.C c e) with
        | ok t e' =>
          rw [hr] at q
          cases t <;> exact q
        | ex x e' => rw [hr] at q; exact q
        | bad => rw [hr] at q; exact q
      refine vt_bind_t q' fun t e' _ q H' F' S2 k => ?_
      cases t with
      | true =>
        rw [if_pos rfl] at q ⊢
        exact ⟨F', S2, e', .of_aftT k, Vt.pre (sb2 := smp a) rd.fd k q (by simp only [smp, Bool.and_eq_true]; exact fun z => ⟨z.1, z.2.1⟩)⟩
      | false =>
        rw [if_neg Bool.false_ne_true] at q ⊢
        exact ⟨F', S2, e', .of_aftT k, Vt.pre (sb2 := smp b) rd.fd k q (by simp only [smp, Bool.and_eq_true]; exact fun z => ⟨z.1, z.2.2⟩)⟩
  | _ => exact absurd h Bool.false_ne_true
theorem snd_ix {a i : E} (ia : SE g N p.C p.XR a) (ib : SE g N p.C p.XR i) {A : Expr} {sc : Scope} (G : Gd g N p X sc) (h : chk g N sc (.ix a i) A = true) : PE X A (tE p (.ix a i)) ∧ PT X A (tT p (.ix a i)) ∧ (isBO A = true → PW X A (tT p (.ix a i))) := by
  cases A with
  | Subscript x y pos =>
    simp only [chk, Bool.and_eq_true, Bool.or_eq_true] at h
    obtain ⟨hp, hm, hx, hy⟩ := h
    have i1 := (ia p.Wx X sc x G hx).1
    have i2 := (ib p.Wx X sc y G hy).1
    exact se_plain (pe_two (f := ixD) i1 i2 (pe_ix ixD_ok i1 i2 (plainIx_pl hp)) (fun z => z) hm rfl rfl fun e => rfl) (fun _ => rfl) rfl
  | _ => exact absurd h Bool.false_ne_true
theorem snd_slc {fl fh : Bool} {a l h : E} (ia : SE g N p.C p.XR a) (il : SE g N p.C p.XR l) (ih : SE g N p.C p.XR h) {A : Expr} {sc : Scope} (G : Gd g N p X sc) (hc : chk g N sc (.slc fl fh a l h) A = true) :
    PE X A (tE p (.slc fl fh a l h)) ∧ PT X A (tT p (.slc fl fh a l h)) ∧ (isBO A = true → PW X A (tT p (.slc fl fh a l h))) := by
  cases A with
  | Subscript x y pos =>
    unfold chk at hc
    split at hc
    · rename_i heq
      cases heq
      rename_i lo hi p2
      simp only [Bool.and_eq_true, Bool.or_eq_true] at hc
      obtain ⟨hm, vl, vh, hx, hlo, hhi⟩ := hc
      have i1 := (ia p.Wx X sc _ G hx).1
      -- a part's reading
      have part : ∀ {f : Bool} {z : E} {o : Option Expr}, SE g N p.C p.XR z → (match o with | none => !f && isUnit z | some w => f && chk g N sc z w) = true →
          ∃ t : TO, PO X o t ∧ ∀ σ H F S e (Q : Option Int → Hp → Prop), Rdy H F S e σ →
            (match ev p.C z e with
              | .ok d e' => ∀ H' F' S2, AftT (smp z) σ H F S H' F' e' S2 → ∃ r, partD f d = some r ∧ Q r H'
              | .ex x e' => Vx p σ H F S x e'
              | .bad => False) → t σ H Q := fun {f z o} iz hz => by
        cases o with
        | none =>
          simp only [Bool.and_eq_true, Bool.not_eq_true'] at hz
          obtain ⟨rfl, hz⟩ := hz
          refine ⟨tNoPart, po_none, fun σ H F S e Q rd q => ?_⟩
          cases z <;> (first | (cases hz; done) | skip)
          rename_i d
          cases d <;> (first | (cases hz; done) | skip)
          obtain ⟨r, hr, q⟩ := q H F S rd.refl
          cases hr
          exact q
        | some w =>
          simp only [Bool.and_eq_true] at hz
          obtain ⟨rfl, hz⟩ := hz
          refine ⟨tPart (tE p z), po_some (iz p.Wx X sc w G hz).1, fun σ H F S e Q rd q => ⟨F, S, e, rd, ?_⟩⟩
          cases hr : ev p.C z e with
          | ok d e' =>
            rw [hr] at q
            intro v H' F' S1 S2 k
            obtain ⟨r, hr, q⟩ := q H' F' S2 k.t
            cases d <;> (first | (cases hr; done) | skip)
            cases k.rep
            cases hr
            exact ⟨_, rfl, q⟩
          | ex x e' => rw [hr] at q; exact q
          | bad => rw [hr] at q; exact q
      obtain ⟨tl, pl1, rl⟩ := part il hlo
      obtain ⟨th, ph1, rh⟩ := part ih hhi
      refine se_plain (pe_weak (pe_slice slD_ok i1 pl1 ph1) fun σ H Q ⟨F, S, e, rd, q⟩ => ?_) (fun _ => rfl) rfl
      simp only [ev] at q
      refine ⟨F, S, e, rd, vp_bind q fun d1 e1 _ q v1 H1 F1 S1 S2 k1 => ?_⟩
      have q1 := Vp.pre (sb2 := smp l && smp h) rd.fd k1.t q (by simp only [smp, Bool.and_eq_true]; exact id)
      refine rl σ H1 F1 S2 e1 _ (.of_aft k1) ?_
      cases hl : ev p.C l e1 with
      | ok d2 e2 =>
        rw [hl] at q1
        intro H2 F2 T2 k2
        cases hp2 : partD fl d2 with
        | none => rw [R.bind_ok, hp2] at q1; exact q1.elim
        | some r =>
          refine ⟨r, rfl, ?_⟩
          rw [R.bind_ok, hp2] at q1
          have q2 := Vp.pre (sb2 := smp h) k1.ch.fd k2 q1 (by simp only [Bool.and_eq_true]; exact id)
          refine rh σ H2 F2 T2 e2 _ (.of_aftT k2) ?_
          cases hh : ev p.C h e2 with
          | ok d3 e3 =>
            rw [hh] at q2
            intro H3 F3 U2 k3
            cases hp3 : partD fh d3 with
            | none => simp only [R.bind_ok, hp3, Option.bind_none, R.of_none] at q2; exact q2.elim
            | some r3 =>
              refine ⟨r3, rfl, ?_⟩
              have k23 := (k2.trans k1.ch.fd k3)
              have rep1 : Rep H3 F3 d1 v1 S1 := k1.keep k23 (hm.imp_right fun z => by rw [Bool.and_eq_true]; exact z)
              simp only [R.bind_ok, hp3, Option.bind_some] at q2
              cases ho : slcD d1 r r3 with
              | none => simp only [ho, R.of_none] at q2; exact q2.elim
              | some d =>
                simp only [ho, R.of_some] at q2
                exact ⟨F3, d1, S1, d, rep1, ho, Out.of (p := p) (vb := true) (sb := smp h) k2.ch.fd k3 q2⟩
          | ex x e' => simp only [hh] at q2; exact q2
          | bad => simp only [hh] at q2; exact q2
      | ex x e' => rw [hl] at q1; exact q1
      | bad => rw [hl] at q1; exact q1
    · exact absurd hc Bool.false_ne_true
  | _ => exact absurd hc Bool.false_ne_true
/-! ### several things -/
structure AfL (sb : Bool) (σ : Sl) (H : Hp) (F S : AS) (H' : Hp) (F' : AS) (ds : List D) (vs : List V) (S1 : AS) (e' : Nv) (S2 : AS) : Prop where
  t : AftT sb σ H F S H' F' e' S2
  rep : RepL H' F' ds vs S1
  s1 : Sb S1 F'
  dj : Dj S1 S2
  n1 : Nw S H S1
def Vl (p : Pm) (sb : Bool) (σ : Sl) (H : Hp) (F S : AS) (r : R (List D)) (Q : List V → Hp → Prop) : Prop := match r with
  | .ok ds e' => ∀ vs H' F' S1 S2, AfL sb σ H F S H' F' ds vs S1 e' S2 → Q vs H'
  | .ex x e' => Vx p σ H F S x e'
  | .bad => False
def tEs (p : Pm) (es : List E) : TA := fun σ H Q => ∃ F S e, Rdy H F S e σ ∧ Vl p (smpL es) σ H F S (evs p.C es e) Q
structure AfA (σ : Sl) (H : Hp) (F S : AS) (H' : Hp) (F' : AS) (as : List Av) (vs : List V) (S1 : AS) (e' : Nv) (S2 : AS) : Prop where
  t : AftT false σ H F S H' F' e' S2
  rep : ARs H' F' as vs σ S1
  s1 : Sb S1 F'
  dj : Dj S1 S2
  n1 : Nw S H S1
def Va (p : Pm) (σ : Sl) (H : Hp) (F S : AS) (r : R (List Av)) (Q : List V → Hp → Prop) : Prop := match r with
  | .ok as e' => ∀ vs H' F' S1 S2, AfA σ H F S H' F' as vs S1 e' S2 → Q vs H'
  | .ex x e' => Vx p σ H F S x e'
  | .bad => False
def tA (p : Pm) (es : List E) : TA := fun σ H Q => ∃ F S e, Rdy H F S e σ ∧ Va p σ H F S (evA p.C es e) Q
theorem pa_weak {A : List Expr} {t t' : TA} (h : PA X A t) (w : ∀ σ H Q, t' σ H Q → t σ H Q) : PA X A t' := ⟨fun pos pins s σ H Q I q => h.run pos pins s σ H Q I (w σ H Q q)⟩
theorem pa_es_nil : PA X [] (tEs p []) := pa_weak pa_nil fun σ H Q ⟨F, S, e, rd, q⟩ => q [] H F nos S ⟨rd.refl, rfl, sb_nos, dj_nos, fun _ z => z.elim⟩
theorem pa_es_cons {a : E} {es : List E} {x : Expr} {xs : List Expr} (hp : pl x = true) (hv : isV a = true) (h1 : PE X x (tE p a)) (h2 : PA X xs (tEs p es)) : PA X (x :: xs) (tEs p (a :: es)) := by
  refine pa_weak (pa_cons h1 h2 (star_pl hp xs X.env)) fun σ H Q ⟨F, S, e, rd, q⟩ => ⟨F, S, e, rd, ?_⟩
  simp only [evs] at q
  cases ha : ev p.C a e with
  | ok d e1 =>
    rw [ha] at q
    intro v H1 F1 S1 S2 k1
    refine ⟨F1, S2, e1, .of_aft k1, ?_⟩
    rw [R.bind_ok] at q
    cases hr : evs p.C es e1 with
    | ok ds e2 =>
      rw [hr] at q
      intro vs H2 F2 T1 T2 k2
      have kk := k1.t.trans rd.fd k2.t
      have r1 := k1.keep k2.t (.inl hv)
      obtain ⟨b1, b2, b3⟩ := k1.keepS k2.t hv
      have d12 : Dj S1 T1 := fun x z w => (k2.n1 x w).elim (fun w => k1.dj hv x z w) fun w => k1.ch.fd x (k1.s1 hv x z) w
      refine q (v :: vs) H2 F2 (fun x => S1 x ∨ T1 x) T2 ⟨kk.imp fun z => by simpa [smpL, Bool.and_eq_true] using z, ⟨v, vs, S1, T1, rfl, r1, k2.rep, d12, fun _ z => .inl z, fun _ z => .inr z⟩, fun x z => z.elim (b1 x) (k2.s1 x), fun x z w => z.elim (fun z => b2 x z w) fun z => k2.dj x z w, fun x z => z.elim (b3 x) ((k1.n2.trans k1.ch k2.n1) x)⟩
    | ex x e2 => rw [hr] at q; exact Vx.pre rd.fd k1.t q
    | bad => rw [hr] at q; exact q
  | ex x e1 => rw [ha] at q; exact q
  | bad => rw [ha] at q; exact q
theorem pa_a_nil : PA X [] (tA p []) := pa_weak pa_nil fun σ H Q ⟨F, S, e, rd, q⟩ => q [] H F nos S ⟨rd.refl.weak, rfl, sb_nos, dj_nos, fun _ z => z.elim⟩
theorem tA_val {a : E} {es : List E} (hv : isV a = true) (hk : pk? a = none) : ∀ σ H Q, tA p (a :: es) σ H Q → tCons (tE p a) (tA p es) σ H Q := fun σ H Q ⟨F, S, e, rd, q⟩ => by
  refine ⟨F, S, e, rd, ?_⟩
  have q : Va p σ H F S ((ev p.C a e).bind fun x e1 => (evA p.C es e1).bind fun xs e2 => .ok (.d x :: xs) e2) Q := by
    cases a <;> first | exact q | (cases hk; done)
  cases ha : ev p.C a e with
  | ok d e1 =>
    rw [ha] at q
    intro v H1 F1 S1 S2 k1
    refine ⟨F1, S2, e1, .of_aft k1, ?_⟩
    rw [R.bind_ok] at q
    cases hr : evA p.C es e1 with
    | ok ds e2 =>
      rw [hr] at q
      intro vs H2 F2 T1 T2 k2
      have kk := k1.t.weak.trans rd.fd k2.t
      have r1 := k1.keep k2.t (.inl hv)
      obtain ⟨b1, b2, b3⟩ := k1.keepS k2.t hv
      have d12 : Dj S1 T1 := fun x z w => (k2.n1 x w).elim (fun w => k1.dj hv x z w) fun w => k1.ch.fd x (k1.s1 hv x z) w
      refine q (v :: vs) H2 F2 (fun x => S1 x ∨ T1 x) T2 ⟨kk.weak, ⟨v, vs, S1, T1, rfl, r1, k2.rep, d12, fun _ z => .inl z, fun _ z => .inr z⟩, fun x z => z.elim (b1 x) (k2.s1 x), fun x z w => z.elim (fun z => b2 x z w) fun z => k2.dj x z w, fun x z => z.elim (b3 x) ((k1.n2.trans k1.ch k2.n1) x)⟩
    | ex x e2 => rw [hr] at q; exact Vx.pre rd.fd k1.t q
    | bad => rw [hr] at q; exact q
  | ex x e1 => rw [ha] at q; exact q
  | bad => rw [ha] at q; exact q
theorem pa_a_val {a : E} {es : List E} {x : Expr} {xs : List Expr} (hp : pl x = true) (hv : isV a = true) (hk : pk? a = none) (h1 : PE X x (tE p a)) (h2 : PA X xs (tA p es)) : PA X (x :: xs) (tA p (a :: es)) :=
  pa_weak (pa_cons h1 h2 (star_pl hp xs X.env)) (tA_val hv hk)
theorem tA_slot {i : Nat} {es : List E} : ∀ σ H Q, tA p (.pk i :: es) σ H Q → tCons (tVar i) (tA p es) σ H Q := fun σ H Q ⟨F, S, e, rd, q⟩ => by
  simp only [evA] at q
  split at q
  · rename_i d he
    obtain ⟨v, hv, _⟩ := rd.er.get he
    refine ⟨v, hv, F, S, e, rd, ?_⟩
    cases hr : evA p.C es e with
    | ok ds e2 =>
      rw [hr] at q
      intro vs H2 F2 T1 T2 k2
      exact q (v :: vs) H2 F2 T1 T2 ⟨k2.t, ⟨v, vs, rfl, hv, k2.rep⟩, k2.s1, k2.dj, k2.n1⟩
    | ex x e2 => rw [hr] at q; exact q
    | bad => rw [hr] at q; exact q
  · exact q.elim
theorem pa_a_slot {i : Nat} {es : List E} {x : Expr} {xs : List Expr} (hp : pl x = true) (h1 : PE X x (tVar i)) (h2 : PA X xs (tA p es)) : PA X (x :: xs) (tA p (.pk i :: es)) :=
  pa_weak (pa_cons h1 h2 (star_pl hp xs X.env)) tA_slot
/-! ### displays -/
theorem evs_len {C : Orc} : ∀ {es : List E} {e e' : Nv} {ds : List D}, evs C es e = .ok ds e' → ds.length = es.length
  | [], e, e', ds, h => by cases h; rfl
  | a :: es, e, e', ds, h => by
    simp only [evs] at h
    cases ha : ev C a e with
    | ok d e1 =>
      rw [ha, R.bind_ok] at h
      cases hr : evs C es e1 with
      | ok ds' e2 =>
        rw [hr, R.bind_ok] at h
        cases h
        rw [List.length_cons, List.length_cons, evs_len hr]
      | ex x e2 => rw [hr] at h; cases h
      | bad => rw [hr] at h; cases h
    | ex x e1 => rw [ha] at h; cases h
    | bad => rw [ha] at h; cases h
theorem chks_len : ∀ {es : List E} {xs : List Expr} {sc : Scope}, chks g N sc es xs = true → es.length = xs.length
  | [], [], _, _ => rfl
  | [], _ :: _, _, h => by cases h
  | a :: es, [], _, h => by cases h
  | a :: es, x :: xs, sc, h => by
    simp only [chks, Bool.and_eq_true] at h
    rw [List.length_cons, List.length_cons, chks_len h.2.2.2]
theorem snd_tup {es : List E} (ie : ∀ (xs : List Expr), chks g N sc es xs = true → PA X xs (tEs p es)) {A : Expr} (G : Gd g N p X sc) (h : chk g N sc (.tup es) A = true) :
    PE X A (tE p (.tup es)) ∧ PT X A (tT p (.tup es)) ∧ (isBO A = true → PW X A (tT p (.tup es))) := by
  cases A with
  | Tuple xs k pos =>
    simp only [chk, Bool.and_eq_true, decide_eq_true_eq] at h
    obtain ⟨hz, hx⟩ := h
    refine se_plain (pe_weak (pe_tup (ie xs hx)) fun σ H Q ⟨F, S, e, rd, q⟩ => ⟨F, S, e, rd, ?_⟩) (fun _ => rfl) rfl
    simp only [ev] at q
    cases hr : evs p.C es e with
    | ok ds e' =>
      rw [hr] at q
      intro vs H' F' S1 S2 k
      have hl : vs.length ≤ sizeLine := by rw [k.rep.len, evs_len hr, chks_len hx]; exact lim_ok (by omega)
      exact ⟨hl, fun l hq => q _ _ _ S1 S2 (k.t.tup rd.fd hq k.rep hl k.s1 k.dj k.n1)⟩
    | ex x e' => rw [hr] at q; exact q
    | bad => rw [hr] at q; exact q
  | _ => exact absurd h Bool.false_ne_true
theorem AfL.give {sb : Bool} {σ : Sl} {H H1 : Hp} {F F1 S S1 S2 : AS} {ds : List D} {vs : List V} {e1 : Nv} (fd : ∀ a, F a → H a ≠ none) (a : AfL sb σ H F S H1 F1 ds vs S1 e1 S2) :
    AftT sb σ H F S H1 (fun x => F1 x ∧ ¬ S1 x) e1 S2 ∧ RepL H1 (fun x => F1 x ∧ ¬ S1 x) (fzL ds) vs nos :=
  ⟨⟨⟨a.t.ch.keep, fun x h => a.t.ch.new x h.1, fun x h ns => ⟨a.t.ch.old x h ns, fun q => (a.n1 x q).elim ns (fd x h)⟩, a.t.ch.dom, fun x h => a.t.ch.fd x h.1⟩, a.t.er.less fun x h => h.1, fun x h => ⟨a.t.s2 x h, fun q => a.dj x q h⟩, a.t.n2, a.t.ext⟩, RepL.frz ds vs S1 a.rep⟩
theorem snd_lst {es : List E} (ie : ∀ (xs : List Expr), chks g N sc es xs = true → PA X xs (tEs p es)) {A : Expr} (G : Gd g N p X sc) (h : chk g N sc (.lst es) A = true) :
    PE X A (tE p (.lst es)) ∧ PT X A (tT p (.lst es)) ∧ (isBO A = true → PW X A (tT p (.lst es))) := by
  cases A with
  | List xs pos =>
    simp only [chk, Bool.and_eq_true, decide_eq_true_eq] at h
    obtain ⟨hz, hx⟩ := h
    refine se_plain (pe_weak (pe_lst (ie xs hx)) fun σ H Q ⟨F, S, e, rd, q⟩ => ⟨F, S, e, rd, ?_⟩) (fun _ => rfl) rfl
    simp only [ev] at q
    cases hr : evs p.C es e with
    | ok ds e' =>
      rw [hr] at q
      intro vs H' F' S1 S2 k
      have hl : vs.length ≤ sizeLine := by rw [k.rep.len, evs_len hr, chks_len hx]; exact lim_ok (by omega)
      obtain ⟨k1, k2⟩ := k.give rd.fd
      exact ⟨hl, fun l hq => q _ _ _ _ S2 (k1.lst rd.fd hq k2 hl)⟩
    | ex x e' => rw [hr] at q; exact q
    | bad => rw [hr] at q; exact q
  | _ => exact absurd h Bool.false_ne_true
/-! ### built-ins -/
theorem free_ok (G : Gd g N p X sc) {x : Str} (h : okGl sc x = true) (hf : g.free.contains x = true) : Gl X x ∧ X.mg x = none ∧ (x == ("__debug__" : Str)) = false ∧ x ≠ "__name__" := by
  obtain ⟨g1, g2, g3⟩ := okGl_ok G h
  exact ⟨g1, G.free x (List.contains_iff_mem.mp hf), g2, g3⟩
theorem hpl_nil (pos : Pos) (env : Env) : (backTo pos (starEach [] env)).any (·.1) = false := rfl
theorem hpl_one {y : Expr} (hp : pl y = true) (pos : Pos) (env : Env) : (backTo pos (starEach [y] env)).any (·.1) = false := by
  rw [star_pl hp]; rfl
theorem snd_b1 {f : B1} {a : E} (ia : SE g N p.C p.XR a) {A : Expr} (G : Gd g N p X sc) (h : chk g N sc (.b1 f a) A = true) :
    PE X A (tE p (.b1 f a)) ∧ PT X A (tT p (.b1 f a)) ∧ (isBO A = true → PW X A (tT p (.b1 f a))) := by
  cases A with
  | Call fn xs kws pos =>
    unfold chk at h
    split at h
    · rename_i heq
      cases heq
      rename_i x p0 y
      simp only [Bool.and_eq_true, decide_eq_true_eq] at h
      obtain ⟨rfl, h1, h2, hp, hy⟩ := h
      obtain ⟨g1, g2, g3, g4⟩ := free_ok G h1 h2
      have i1 := (ia p.Wx X sc y G hy).1
      have pa := pa_cons i1 pa_nil (star_pl hp [] X.env)
      have hs := star_pl hp [] X.env
      have cb := call_b1 (X := X) f G.calm
      have rd : ∀ σ H Q, tE p (.b1 f a) σ H Q → tCB (rCD1 (b1D f)) (tCons (tE p a) tNil) σ H Q := fun σ H Q ⟨F, S, e, rd, q⟩ => by
        refine ⟨F, S, e, rd, ?_⟩
        simp only [ev] at q
        refine vp_bind q fun d e' _ q v H' F' S1 S2 k => ?_
        cases ho : b1D f d with
        | none => rw [ho] at q; exact q.elim
        | some r =>
          rw [ho] at q
          exact ⟨F', v, d, S1, r, rfl, k.rep, ho, Out.of (p := p) (vb := true) (sb := smp a) rd.fd k.t q⟩
      refine se_plain (pe_weak ?_ rd) (fun _ => rfl) rfl
      cases f
      case len => exact pe_callB cb g1 g2 boot_len pa g4 g3 hs (hpl_nil _ _)
      case abs => exact pe_callB cb g1 g2 PyProof.Rows.boot_abs pa g4 g3 hs (hpl_nil _ _)
      case all => exact pe_callB cb g1 g2 PyProof.Rows.boot_all pa g4 g3 hs (hpl_nil _ _)
      case any => exact pe_callB cb g1 g2 PyProof.Rows.boot_any pa g4 g3 hs (hpl_nil _ _)
      case sum => exact pe_callB cb g1 g2 PyProof.Rows.boot_sum pa g4 g3 hs (hpl_nil _ _)
      case lst => exact pe_callTy cb g1 g2 PyProof.Rows.boot_list pa g4 g3 hs (hpl_nil _ _)
      case tup => exact pe_callTy cb g1 g2 PyProof.Rows.boot_tuple pa g4 g3 hs (hpl_nil _ _)
      case max => exact pe_callB cb g1 g2 PyProof.Rows.boot_max pa g4 g3 hs (hpl_nil _ _)
      case min => exact pe_callB cb g1 g2 PyProof.Rows.boot_min pa g4 g3 hs (hpl_nil _ _)
      case str => exact pe_callTy cb g1 g2 PyProof.Rows.boot_str pa g4 g3 hs (hpl_nil _ _)
      case int => exact pe_callTy cb g1 g2 PyProof.Rows.boot_int pa g4 g3 hs (hpl_nil _ _)
      case sorted => exact pe_callB cb g1 g2 PyProof.Rows.boot_sorted pa g4 g3 hs (hpl_nil _ _)
    · exact absurd h Bool.false_ne_true
  | _ => exact absurd h Bool.false_ne_true
theorem snd_b2 {f : B2} {a b : E} (ia : SE g N p.C p.XR a) (ib : SE g N p.C p.XR b) {A : Expr} (G : Gd g N p X sc) (h : chk g N sc (.b2 f a b) A = true) :
    PE X A (tE p (.b2 f a b)) ∧ PT X A (tT p (.b2 f a b)) ∧ (isBO A = true → PW X A (tT p (.b2 f a b))) := by
  cases A with
  | Call fn xs kws pos =>
    unfold chk at h
    split at h
    · rename_i heq
      cases heq
      rename_i x p0 y z
      simp only [Bool.and_eq_true, Bool.or_eq_true, decide_eq_true_eq] at h
      obtain ⟨rfl, h1, h2, hp, hp2, hm, hy, hz⟩ := h
      obtain ⟨g1, g2, g3, g4⟩ := free_ok G h1 h2
      have i1 := (ia p.Wx X sc y G hy).1
      have i2 := (ib p.Wx X sc z G hz).1
      have pa := pa_cons i1 (pa_cons i2 pa_nil (star_pl hp2 [] X.env)) (star_pl hp [z] X.env)
      have hs := star_pl hp [z] X.env
      have cb := call_b2 (X := X) f G.calm
      have rd : ∀ σ H Q, tE p (.b2 f a b) σ H Q → tCB (rCD2 (b2D f)) (tCons (tE p a) (tCons (tE p b) tNil)) σ H Q := fun σ H Q ⟨F, S, e, rd, q⟩ => by
        refine ⟨F, S, e, rd, ?_⟩
        simp only [ev] at q
        refine vp_bind q fun d1 e1 _ q v1 H1 F1 S1 S2 a1 => ?_
        have q1 := Vp.pre (sb2 := smp b) rd.fd a1.t q (by simp only [smp, Bool.and_eq_true]; exact id)
        refine ⟨F1, S2, e1, .of_aft a1, vp_bind q1 fun d2 e2 _ q2 v2 H2 F2 T1 T2 a2 => ?_⟩
        have k := a1.keep a2.t hm
        cases ho : b2D f d1 d2 with
        | none => rw [ho] at q2; exact q2.elim
        | some d =>
          rw [ho] at q2
          exact ⟨F2, v1, v2, d1, d2, S1, T1, d, rfl, k, a2.rep, ho, Out.of (p := p) (vb := true) (sb := smp b) a1.ch.fd a2.t q2⟩
      refine se_plain (pe_weak ?_ rd) (fun _ => rfl) rfl
      cases f
      case max => exact pe_callB cb g1 g2 PyProof.Rows.boot_max pa g4 g3 hs (hpl_one hp2 _ _)
      case min => exact pe_callB cb g1 g2 PyProof.Rows.boot_min pa g4 g3 hs (hpl_one hp2 _ _)
    · exact absurd h Bool.false_ne_true
  | _ => exact absurd h Bool.false_ne_true
end
end Vm
namespace Vm
open PySem PySem.Spec L2
section
variable {g : Tab} {N : List Str} {p : Pm} {X : Cx} {sc : Scope}
/-! ### calls -/
theorem evA_len {C : Orc} : ∀ {es : List E} {e e' : Nv} {as : List Av}, evA C es e = .ok as e' → as.length = es.length
  | [], e, e', as, h => by cases h; rfl
  | a :: es, e, e', as, h => by
    have gen : ∀ {r : R D}, (r.bind fun x e1 => (evA C es e1).bind fun xs e2 => .ok (Av.d x :: xs) e2) = .ok as e' → as.length = (a :: es).length := fun {r} h => by
      cases r with
      | ok d e1 =>
        rw [R.bind_ok] at h
        cases hr : evA C es e1 with
        | ok ds' e2 =>
          rw [hr, R.bind_ok] at h
          cases h
          rw [List.length_cons, List.length_cons, evA_len hr]
        | ex x e2 => rw [hr] at h; cases h
        | bad => rw [hr] at h; cases h
      | ex x e1 => cases h
      | bad => cases h
    cases a <;> first | exact gen h | skip
    simp only [evA] at h
    split at h
    · cases hr : evA C es e with
      | ok ds' e2 =>
        rw [hr, R.bind_ok] at h
        cases h
        rw [List.length_cons, List.length_cons, evA_len hr]
      | ex x e2 => rw [hr] at h; cases h
      | bad => rw [hr] at h; cases h
    · cases h
theorem chkA_len : ∀ {es : List E} {xs : List Expr} {sc : Scope}, chkA g N sc es xs = true → es.length = xs.length
  | [], [], _, _ => rfl
  | [], _ :: _, _, h => by cases h
  | a :: es, [], _, h => by cases h
  | a :: es, x :: xs, sc, h => by
    simp only [chkA, Bool.and_eq_true] at h
    rw [List.length_cons, List.length_cons, chkA_len h.2.2.2]
theorem any_pl : ∀ {es : List E} {xs : List Expr} {sc : Scope}, chkA g N sc es xs = true → ∀ (pos : Pos) (env : Env), (backTo pos (starEach xs env)).any (·.1) = false
  | [], [], _, _, _, _ => rfl
  | [], _ :: _, _, h, _, _ => by cases h
  | a :: es, [], _, h, _, _ => by cases h
  | a :: es, x :: xs, sc, h, pos, env => by
    simp only [chkA, Bool.and_eq_true] at h
    rw [star_pl h.1]
    have := any_pl h.2.2.2 pos env
    simpa [backTo] using this
theorem passes (G : Gd g N p X sc) (σ : Sl) : PassesAt (L2.CX X.prog X.w) X σ (fun cls d H' => p.Wx cls d σ H') := passAt G.tk σ
/-- the arguments, then the callee's promise -/
theorem cal_rd {x : Str} {es : List E} {n : Nat} (hn : ∀ {as e e1}, evA p.C es e = .ok as e1 → as.length = n) : ∀ σ H Q, tE p (.cal x es) σ H Q → tCallS (spC p.C p.XR x n) (fun σ cls d H' => p.Wx cls d σ H') (tA p es) σ H Q := fun σ H Q ⟨F, S, e, rd, q⟩ => by
  refine ⟨F, S, e, rd, ?_⟩
  simp only [ev] at q
  cases hr : evA p.C es e with
  | ok as e1 =>
    rw [hr] at q
    intro vs H1 F1 S1 S2 b
    exact call_of rd.fd b.t b.rep b.s1 b.dj b.n1 (by rw [b.rep.len, hn hr]) q
  | ex x e1 => rw [hr] at q; exact q
  | bad => rw [hr] at q; exact q
theorem fn_some {f : Str} {n : Nat} (h : (match g.fn f with | some fn => decide (n = fn.ps.length) | none => false) = true) : ∃ fn, g.fn f = some fn ∧ n = fn.ps.length := by
  cases e : g.fn f with
  | none => rw [e] at h; cases h
  | some fn => rw [e] at h; exact ⟨fn, rfl, of_decide_eq_true h⟩
theorem snd_cal {f : Str} {es : List E} (ie : ∀ (xs : List Expr), chkA g N sc es xs = true → PA X xs (tA p es)) {A : Expr} (G : Gd g N p X sc) (h : chk g N sc (.cal f es) A = true) :
    PE X A (tE p (.cal f es)) ∧ PT X A (tT p (.cal f es)) ∧ (isBO A = true → PW X A (tT p (.cal f es))) := by
  cases A with
  | Call fn xs kws pos =>
    unfold chk at h
    split at h
    · rename_i heq
      cases heq
      rename_i x p0
      simp only [Bool.and_eq_true, decide_eq_true_eq] at h
      obtain ⟨rfl, h1, h2, h3⟩ := h
      obtain ⟨g1, g2, g3⟩ := okGl_ok G h1
      obtain ⟨fn, hfn, hn⟩ := fn_some h2
      obtain ⟨a, fd, k, hm, hk, hb, F, hr, _⟩ := G.call _ _ hfn
      have pa := ie xs h3
      have rd2 := cal_rd (p := p) (x := x) (es := es) (n := fn.ps.length) fun hr => by rw [evA_len hr, chkA_len h3, hn]
      refine se_plain (pe_weak ?_ rd2) (fun _ => rfl) rfl
      cases xs with
      | nil =>
        cases es with
        | nil =>
          refine ⟨fun pins s σ H Q I hq => ?_⟩
          refine wpAny_Call_Name_kw (ld_glob I g1 hm ?_ g2)
          obtain ⟨F0, S0, e0, rdy, q⟩ := hq
          refine PySem.W.callWith_K0 I.kIn hk (run_fnS (E := fun σ cls d H' => p.Wx cls d σ H') (us := []) F hr hb (passes G σ) I .nil ?_)
          exact q [] H F0 nos S0 ⟨rdy.refl.weak, rfl, sb_nos, dj_nos, fun _ z => z.elim⟩
        | cons a es => cases h3
      | cons y ys =>
        cases es with
        | nil => cases h3
        | cons a0 es0 =>
          have h4 := h3
          simp only [chkA, Bool.and_eq_true] at h4
          exact pe_callS F hr g1 hm hk hb (passes G) pa g2 (star_pl h4.1 ys X.env) (any_pl h4.2.2.2 pos X.env)
    · exact absurd h Bool.false_ne_true
  | _ => exact absurd h Bool.false_ne_true
/-! ### calls with keywords -/
def tK (p : Pm) (zs : List E) : TA := tA p zs
theorem pk_weak {A : List Keyword} {t t' : TA} (h : PK X A t) (w : ∀ σ H Q, t' σ H Q → t σ H Q) : PK X A t' := ⟨fun pos pins s σ H Q I q => h.run pos pins s σ H Q I (w σ H Q q)⟩
theorem chkK_ks : ∀ {zs : List E} {ks : List Str} {kws : List Keyword} {sc : Scope}, chkK g N sc zs ks kws = true → ∀ (pos : Pos) (env : Env),
    (backToKw pos (keywordEach kws env)).all (·.1.isSome) = true ∧ (backToKw pos (keywordEach kws env)).filterMap (·.1) = ks ∧ (backToKw pos (keywordEach kws env)).any (·.1.isNone) = false ∧ zs.length = kws.length ∧ ks.length = kws.length
  | [], ks, kws, sc, h, pos, env => by
    simp only [chkK, Bool.and_eq_true, List.isEmpty_iff] at h
    obtain ⟨rfl, rfl⟩ := h
    exact ⟨rfl, rfl, rfl, rfl, rfl⟩
  | z :: zs, [], kws, sc, h, pos, env => by cases h
  | z :: zs, k :: kr, [], sc, h, pos, env => by cases h
  | z :: zs, k :: kr, ⟨w, v, q⟩ :: wr, sc, h, pos, env => by
    simp only [chkK, Bool.and_eq_true, decide_eq_true_eq] at h
    obtain ⟨rfl, _, _, _, h⟩ := h
    obtain ⟨a, b, c, d, e⟩ := chkK_ks h pos env
    refine ⟨?_, ?_, ?_, by rw [List.length_cons, List.length_cons, d], by rw [List.length_cons, List.length_cons, e]⟩
    · simpa [backToKw, keywordEach] using a
    · simpa [backToKw, keywordEach] using b
    · simpa [backToKw, keywordEach] using c
theorem pk_a_nil : PK X [] (tA p []) := pk_weak pk_nil fun σ H Q ⟨F, S, e, rd, q⟩ => q [] H F nos S ⟨rd.refl.weak, rfl, sb_nos, dj_nos, fun _ z => z.elim⟩
theorem pk_a_val {a : E} {es : List E} {x : Expr} {w : Option Str} {kp : Pos} {xs : List Keyword} (hv : isV a = true) (hk : pk? a = none) (h1 : PE X x (tE p a)) (h2 : PK X xs (tA p es)) : PK X (⟨w, x, kp⟩ :: xs) (tA p (a :: es)) :=
  pk_weak (pk_cons h1 h2) (tA_val hv hk)
theorem pk_a_slot {i : Nat} {es : List E} {x : Expr} {w : Option Str} {kp : Pos} {xs : List Keyword} (h1 : PE X x (tVar i)) (h2 : PK X xs (tA p es)) : PK X (⟨w, x, kp⟩ :: xs) (tA p (.pk i :: es)) :=
  pk_weak (pk_cons h1 h2) tA_slot
theorem run_kw {f : Addr} {fd : FuncData} {k : Nat} {ps ks : List Str} {sp : Sp} {perm : List Nat} {E : Sl → XK} {pins : List (Addr × Obj)} {σ : Sl} {H : Hp} {s : Shared} {Q : VK} {us ws : List Value} {vs zs : List V} {n : Nat}
    (F : FnOk X.prog X.w X.K X.mg X.base (L2.CX X.prog X.w) k f fd ps sp) (hr : Room k X.A) (hb : ∀ (s : Shared) (us ws : List Value), X.K.In s.heap → us.length = n → ws.length = ks.length → BindsTo s fd ⟨us, ks.zip ws⟩ (ps.zip (permL perm (us ++ ws))))
    (hx : PassesAt (L2.CX X.prog X.w) X σ (E σ)) (I : L2.Inv X pins σ H s) (r : Vals vs us) (rz : Vals zs ws) (l1 : us.length = n) (l2 : ws.length = ks.length) (h : sp (permL perm (vs ++ zs)) H Q (E σ)) :
    wpAny (model X.prog X.w) X.A (call (.ref f) us (ks.zip ws)) (EP X pins σ Q) X.xe s := by
  have r2 : Vals (permL perm (vs ++ zs)) (permL perm (us ++ ws)) := by
    have ra := r.append rz
    unfold permL
    clear h hb
    induction perm with
    | nil => exact .nil
    | cons i t ih =>
      rw [List.filterMap_cons, List.filterMap_cons]
      cases e : (vs ++ zs)[i]? with
      | none => rw [ra.none_of e]; exact ih
      | some x =>
        obtain ⟨u, h1, h2⟩ := ra.get e
        rw [h1]
        exact .cons h2 ih
  refine wpAny_call (codeAny_mono (F.run X.A X.stack s H ⟨us, ks.zip ws⟩ (permL perm (us ++ ws)) (permL perm (vs ++ zs)) Q (E σ) hr I.env0 (hb s us ws I.kIn l1 l2) r2 h) fun r s' hq => ?_)
  cases r with
  | error e => exact hx pins H s e s' I hq
  | ok fl =>
    cases fl with
    | ret u => exact I.after hq
    | next => exact False.elim hq
    | brk => exact False.elim hq
    | cont => exact False.elim hq
theorem snd_cak {f : Str} {es : List E} {ks : List Str} {zs : List E} {perm : List Nat} (ie : ∀ (xs : List Expr), chkA g N sc es xs = true → PA X xs (tA p es)) (iz : ∀ (kws : List Keyword), chkK g N sc zs ks kws = true → PK X kws (tA p zs)) {A : Expr} (G : Gd g N p X sc)
    (h : chk g N sc (.cak f es ks zs perm) A = true) : PE X A (tE p (.cak f es ks zs perm)) ∧ PT X A (tT p (.cak f es ks zs perm)) ∧ (isBO A = true → PW X A (tT p (.cak f es ks zs perm))) := by
  cases A with
  | Call fn xs kws pos =>
    unfold chk at h
    split at h
    · rename_i heq
      cases heq
      rename_i x p0
      simp only [Bool.and_eq_true, decide_eq_true_eq, List.any_eq_true] at h
      obtain ⟨rfl, h1, h2, h3, h4, h5, ⟨q0, hq0, eq0⟩⟩ := h
      subst eq0
      obtain ⟨g1, g2, g3⟩ := okGl_ok G h1
      obtain ⟨fn, hfn, hn⟩ := fn_some h2
      obtain ⟨a, fd, k, hm, hk, hb, F, hr, hkw⟩ := G.call _ _ hfn
      have hkb := hkw _ _ _ hq0
      have pa := ie xs h3
      have pkk := iz kws h4
      obtain ⟨k1, k2, k3, k4, k5⟩ := chkK_ks h4 pos X.env
      -- the readings
      have rd : ∀ σ H Q, tE p (.cak x es ks zs perm) σ H Q → tA p es σ H fun vs H1 => tA p zs σ H1 fun us H2 => vs.length = es.length ∧ us.length = ks.length ∧ spC p.C p.XR x fn.ps.length (permL perm (vs ++ us)) H2 Q (fun cls d H' => p.Wx cls d σ H') := fun σ H Q ⟨F, S, e, rd, q⟩ => by
        refine ⟨F, S, e, rd, ?_⟩
        simp only [ev] at q
        cases hr : evA p.C es e with
        | ok as e1 =>
          rw [hr, R.bind_ok] at q
          intro vs H1 F1 S1 S2 b
          refine ⟨F1, S2, e1, .of_aftT b.t, ?_⟩
          cases hz : evA p.C zs e1 with
          | ok bs e2 =>
            rw [hz, R.bind_ok] at q
            intro us H2 F2 T1 T2 c
            have l1 : vs.length = es.length := by rw [b.rep.len, evA_len hr]
            have l2 : us.length = ks.length := by rw [c.rep.len, evA_len hz, k4, k5]
            refine ⟨l1, l2, ?_⟩
            have kk := (b.t.trans rd.fd c.t).weak
            have keep : ARs H2 F2 as vs σ S1 := b.rep.step (fun x o hx hz => c.t.ch.keep x o hx fun w => hz.elim (fun hz => hz (b.t.s2 x w)) fun hz => b.dj x hz w) c.t.ch.new
            have d12 : Dj S1 T1 := fun x z w => (c.n1 x w).elim (fun w => b.dj x z w) fun w => b.t.ch.fd x (b.s1 x z) w
            have both := keep.app c.rep d12
            cases hp : permA perm (as ++ bs) with
            | none => rw [hp] at q; exact q.elim
            | some cs =>
              rw [hp] at q
              obtain ⟨r1, r2⟩ := both.perm hp
              refine call_of rd.fd kk r1 (fun x z => z.elim (fun z => c.t.ch.old x (b.s1 x z) fun w => b.dj x z w) (c.s1 x)) (fun x z w => z.elim (fun z => (c.t.n2 x w).elim (fun w => b.dj x z w) fun w => b.t.ch.fd x (b.s1 x z) w) fun z => c.dj x z w) (fun x z => z.elim (b.n1 x) ((b.t.n2.trans b.t.ch c.n1) x)) ?_ q
              rw [r1.len, r2, List.length_append, evA_len hr, evA_len hz, k4, chkA_len h3]
              exact hn
          | ex x e2 => rw [hz] at q; exact Vx.pre rd.fd b.t q
          | bad => rw [hz] at q; exact q
        | ex x e1 => rw [hr] at q; exact q
        | bad => rw [hr] at q; exact q
      refine se_plain ⟨fun pins s σ H Q I hq => ?_⟩ (fun _ => rfl) rfl
      refine wpAny_Call_Name_kw (ld_glob I g1 hm ?_ g2)
      have hq' := rd σ H Q hq
      cases xs with
      | nil =>
        cases es with
        | nil =>
          refine PySem.W.callWith_KW0 (h₀ := X.base) I.ok.mod.kin hk k1 ?_ (by rw [k3]; rfl)
          obtain ⟨F0, S0, e0, rdy, q⟩ := hq'
          have q0 := q [] H F0 nos S0 ⟨rdy.refl.weak, rfl, sb_nos, dj_nos, fun _ z => z.elim⟩
          refine thn (pkk.run pos pins s σ H _ I q0) fun ws s2 ⟨us, H2, I2, rz, l1, l2, q2⟩ => ⟨I2.kIn, ?_⟩
          rw [k2]
          exact run_kw (E := fun σ cls d H' => p.Wx cls d σ H') (us := []) F hr hkb (passes G σ) I2 .nil rz rfl (by rw [← rz.length]; exact l2) q2
        | cons a es => cases h3
      | cons y ys =>
        cases es with
        | nil => cases h3
        | cons a0 es0 =>
          have h6 := h3
          simp only [chkA, Bool.and_eq_true] at h6
          refine PySem.W.callWith_KW (h₀ := X.base) I.ok.mod.kin hk k1 (thn (pa.run pos pins s σ H _ I hq') fun us1 s1 ⟨vs, H1, I1, r1, q1⟩ => ?_) (by rw [any_pl h3, k3]; rfl) (star_pl h6.1 ys X.env)
          refine thn (pkk.run pos pins s1 σ H1 _ I1 q1) fun ws s2 ⟨us, H2, I2, rz, l1, l2, q2⟩ => ⟨I2.kIn, ?_⟩
          rw [k2]
          exact run_kw (E := fun σ cls d H' => p.Wx cls d σ H') (us := us1) F hr hkb (passes G σ) I2 r1 rz (by rw [← r1.length]; exact l1) (by rw [← rz.length]; exact l2) q2
    · exact absurd h Bool.false_ne_true
  | _ => exact absurd h Bool.false_ne_true
/-! ### isinstance -/
def tagOf : D → String
  | .non => "NoneType" | .bl _ => "bool" | .int _ => "int" | .str _ => "str" | .tup _ => "tuple" | .lst _ _ => "list"
def tyS : Ty → String
  | .bool => "bool" | .int => "int" | .str => "str" | .tuple => "tuple" | .list => "list"
theorem kit_is (t : Ty) (d : D) : kitB (tagOf d) (tyS t) = some (isTy t d) := by
  cases t <;> cases d <;> first | rfl | decide +kernel
theorem ty_of {K : PySem.W.Frag} {H : Hp} {F : AS} {d : D} {v : V} {S : AS} (r : Rep H F d v S) : TyX K H v (.type (tagOf d)) := by
  cases d with
  | non => cases r; exact .base .non
  | bl b => cases r; exact .base (.bl b)
  | int i => cases r; exact .base (.int i)
  | str s => obtain ⟨rfl, _⟩ := r; exact .base (.str s)
  | tup ds =>
    obtain ⟨a, vs, rfl, z, l, q⟩ := r.tup_inv
    rcases q with q | ⟨o, q⟩
    · exact .base (.tup q)
    · exact .fTuple q
  | lst o ds =>
    obtain ⟨a, vs, rfl, z, l, q⟩ := r.lst_inv
    rcases q with q | ⟨o, q⟩
    · exact .base (.lst q)
    · exact .base (.frz q)
theorem kit_any {K : PySem.W.Frag} (d : D) : ∀ ts : List Ty, PySem.W.kitAny K (.type (tagOf d)) (ts.map fun t => Value.type (tyS t)) = some (ts.any fun t => isTy t d)
  | [] => rfl
  | t :: ts => by
    rw [List.map_cons, List.any_cons]
    refine kitAny_cons (kit_ty (kit_is t d)) (fun h => ?_) fun h => ?_
    · rw [kit_any d ts, h]; rfl
    · rw [h]; rfl
theorem pe_tyname (G : Gd g N p X sc) {t : Ty} {A : Expr} (h : tyA sc g.free t A = true) : PE X A (tC (.ty (tyS t))) ∧ pl A = true := by
  cases A with
  | Name x pos =>
    simp only [tyA, Bool.and_eq_true, decide_eq_true_eq] at h
    obtain ⟨rfl, h1, h2⟩ := h
    obtain ⟨g1, g2, g3, g4⟩ := free_ok G h1 h2
    refine ⟨?_, rfl⟩
    cases t
    · exact pe_bltn g1 g2 PyProof.Rows.boot_bool rfl g4 g3
    · exact pe_bltn g1 g2 PyProof.Rows.boot_int rfl g4 g3
    · exact pe_bltn g1 g2 PyProof.Rows.boot_str rfl g4 g3
    · exact pe_bltn g1 g2 PyProof.Rows.boot_tuple rfl g4 g3
    · exact pe_bltn g1 g2 PyProof.Rows.boot_list rfl g4 g3
  | _ => exact absurd h Bool.false_ne_true
def tTys (ts : List Ty) : TA := fun _ H Q => Q (ts.map fun t => V.ty (tyS t)) H
theorem pa_tys (G : Gd g N p X sc) : ∀ {ts : List Ty} {es : List Expr}, tysA sc g.free ts es = true → PA X es (tTys ts)
  | [], [], _ => pa_weak pa_nil fun _ _ _ q => q
  | [], _ :: _, h => by cases h
  | _ :: _, [], h => by cases h
  | t :: ts, e :: es, h => by
    simp only [tysA, Bool.and_eq_true] at h
    obtain ⟨h1, h2⟩ := pe_tyname G h.1
    exact pa_weak (pa_cons h1 (pa_tys G h.2) (star_pl h2 es X.env)) fun _ _ _ q => q
theorem cls_tys : ∀ ts : List Ty, Paired ClsV (ts.map fun t => V.ty (tyS t)) (ts.map fun t => Value.type (tyS t))
  | [] => .nil
  | t :: ts => .cons (.ty _) (cls_tys ts)
theorem tys_len {sc : Scope} {fr : List Str} : ∀ {ts : List Ty} {es : List Expr}, tysA sc fr ts es = true → ts.length = es.length
  | [], [], _ => rfl
  | [], _ :: _, h => by cases h
  | _ :: _, [], h => by cases h
  | t :: ts, e :: es, h => by
    simp only [tysA, Bool.and_eq_true] at h
    rw [List.length_cons, List.length_cons, tys_len h.2]
theorem snd_isi {tp : Bool} {ts : List Ty} {a : E} (ia : SE g N p.C p.XR a) {A : Expr} (G : Gd g N p X sc) (h : chk g N sc (.isi tp ts a) A = true) :
    PE X A (tE p (.isi tp ts a)) ∧ PT X A (tT p (.isi tp ts a)) ∧ (isBO A = true → PW X A (tT p (.isi tp ts a))) := by
  cases A with
  | Call fn xs kws pos =>
    unfold chk at h
    split at h
    · rename_i heq
      cases heq
      rename_i x p0 y z
      simp only [Bool.and_eq_true, decide_eq_true_eq] at h
      obtain ⟨rfl, h1, h2, hp, hp2, hy, hz⟩ := h
      obtain ⟨g1, g2, g3, g4⟩ := free_ok G h1 h2
      have i1 := (ia p.Wx X sc y G hy).1
      -- one class
      have one : ∀ t, ts = [t] → tyA sc g.free t z = true → PE X (.Call (.Name "isinstance" p0) [y, z] [] pos) (tE p (.isi tp ts a)) := fun t et ht => by
        subst et
        obtain ⟨j1, j2⟩ := pe_tyname G ht
        refine pe_weak (pe_callB call_isi g1 g2 PyProof.Rows.boot_isinstance (pa_cons i1 (pa_cons j1 pa_nil (star_pl hp2 [] X.env)) (star_pl hp [z] X.env)) g4 g3 (star_pl hp [z] X.env) (hpl_one hp2 _ _)) fun σ H Q ⟨F, S, e, rd, q⟩ => ⟨F, S, e, rd, ?_⟩
        simp only [ev] at q
        refine vp_bind q fun d e' _ q v H' F' S1 S2 k => ?_
        exact ⟨v, _, .type (tagOf d), .type (tyS t), isTy t d, rfl, .ty _, ty_of k.rep, kit_ty (kit_is t d), by simpa using q _ H' F' nos S2 (k.t.val rfl)⟩
      -- a tuple of them
      have many : ∀ zs kk ps, z = .Tuple zs kk ps → zs.length ≤ 1000 → tysA sc g.free ts zs = true → PE X (.Call (.Name "isinstance" p0) [y, z] [] pos) (tE p (.isi tp ts a)) := fun zs kk ps ez hl ht => by
        subst ez
        have jt := pe_tup (x1 := kk) (pos := ps) (pa_tys G ht)
        refine pe_weak (pe_callB call_isiT g1 g2 PyProof.Rows.boot_isinstance (pa_cons i1 (pa_cons jt pa_nil (star_pl hp2 [] X.env)) (star_pl hp [_] X.env)) g4 g3 (star_pl hp [_] X.env) (hpl_one hp2 _ _)) fun σ H Q ⟨F, S, e, rd, q⟩ => ⟨F, S, e, rd, ?_⟩
        simp only [ev] at q
        refine vp_bind q fun d e' _ q v H' F' S1 S2 k => ?_
        have hlen : (ts.map fun t => V.ty (tyS t)).length ≤ sizeLine := by rw [List.length_map, tys_len ht]; exact lim_ok (by omega)
        refine ⟨hlen, fun l hq => ?_⟩
        have kv : Rep (upd H' l (.tup (ts.map fun t => V.ty (tyS t)))) F' d v S1 := Rep.step d v S1 k.rep (fun x o hx _ => upd_keep hq hx) fun x hx => .inl hx
        -- the tuple of classes is no datum; it is left behind
        have kk2 : AftT (smp a) σ H F S (upd H' l (.tup (ts.map fun t => V.ty (tyS t)))) F' e' S2 := by
          have nf : ∀ x, F' x → x ≠ l := fun x hx hz => k.ch.fd x hx (by rw [hz]; exact hq)
          refine ⟨⟨fun x o hx ns => upd_keep hq (k.ch.keep x o hx ns), k.ch.new, k.ch.old, fun x hx => ?_, fun x hx => ?_⟩, k.er.step (fun x o hx _ => upd_keep hq hx) fun x hx => .inl hx, k.s2, k.n2, fun hs x o hx => upd_keep hq (k.ext hs x o hx)⟩
          · by_cases hxl : x = l
            · rw [hxl, upd_same]; simp
            · rw [upd_ne hxl]; exact k.ch.dom x hx
          · rw [upd_ne (nf x hx)]; exact k.ch.fd x hx
        exact ⟨v, l, _, .type (tagOf d), _, _, rfl, upd_same, cls_tys ts, ty_of kv, kit_any d ts, q _ _ F' nos S2 (kk2.val rfl)⟩
      refine se_plain ?_ (fun _ => rfl) rfl
      split at hz
      · rename_i t
        rw [Bool.and_eq_true] at hz
        exact one t rfl hz.2
      · rw [Bool.and_eq_true] at hz
        obtain ⟨_, hz⟩ := hz
        split at hz
        · rw [Bool.and_eq_true, decide_eq_true_eq] at hz
          exact many _ _ _ rfl hz.1 hz.2
        · cases hz
    · exact absurd h Bool.false_ne_true
  | _ => exact absurd h Bool.false_ne_true
end
end Vm
namespace Vm
open PySem PySem.Spec L2
section
variable {g : Tab} {N : List Str} {p : Pm} {X : Cx} {sc : Scope}
/-! ### targets -/
def tTg (t : Tg) : TG := fun v σ H Q => ∃ F S1 S d e e', Rep H F d v S1 ∧ ERs H F e σ S ∧ Dj S1 S ∧ asgT t d e = some e' ∧
  ∀ σ', (∀ j, j ∉ tgSlots t → σ'[j]? = σ[j]?) → σ'.length = σ.length → ERs H F e' σ' (fun a => S1 a ∨ S a) → Q σ' H
def tTgs (ts : List Tg) : TGs := fun vs σ H Q => ∃ F S1 S ds e e', RepL H F ds vs S1 ∧ ERs H F e σ S ∧ Dj S1 S ∧ asgL ts ds e = some e' ∧
  ∀ σ', (∀ j, j ∉ tgSlots.tgsSlots ts → σ'[j]? = σ[j]?) → σ'.length = σ.length → ERs H F e' σ' (fun a => S1 a ∨ S a) → Q σ' H
theorem pg_weak {A : Expr} {t t' : TG} (h : PG X A t) (w : ∀ v σ H Q, t' v σ H Q → t v σ H Q) : PG X A t' := ⟨fun pins s σ H v u Q I r q => h.run pins s σ H v u Q I r (w v σ H Q q)⟩
theorem pgs_weak {A : List Expr} {t t' : TGs} (h : PGs X A t) (w : ∀ v σ H Q, t' v σ H Q → t v σ H Q) : PGs X A t' := ⟨fun pins s σ H v u Q I r q => h.run pins s σ H v u Q I r (w v σ H Q q)⟩
theorem asgE_pl {e : Expr} (h : pl e = true) (es : List Expr) (env : Env) : (assignEach (e :: es) env).map (·.2) = assign e env :: (assignEach es env).map (·.2) := by
  cases e <;> first | rfl | (cases h)
theorem asgE_len {sc : Scope} {fn : Str → Bool} : ∀ {ts : List Tg} {es : List Expr}, tgsB N sc fn ts es = true → ∀ env : Env, (assignEach es env).length = ts.length ∧ (assignEach es env).findIdx? (·.1) = none
  | [], [], _, env => ⟨rfl, rfl⟩
  | [], _ :: _, h, _ => by cases h
  | _ :: _, [], h, _ => by cases h
  | t :: ts, e :: es, h, env => by
    simp only [tgsB, Bool.and_eq_true] at h
    obtain ⟨a, b⟩ := asgE_len h.2.2 env
    have e1 : assignEach (e :: es) env = (false, assign e env) :: assignEach es env := by
      have hp := h.1
      cases e <;> first | rfl | (cases hp)
    rw [e1, List.length_cons, List.length_cons, a, List.findIdx?_cons, b]
    exact ⟨rfl, rfl⟩
mutual
theorem tg_ok (hN : X.N = N) (nd : N.Nodup) (hc : X.calm = true) (hsc : X.env.scope = sc) {fn : Str → Bool} (hf : ∀ x, fn x = true → X.fn x = true) : ∀ (t : Tg) (A : Expr), tgB N sc fn t A = true → PG X A (tTg t)
  | .nm i, A, h => by
    cases A with
    | Name x pos =>
      simp only [tgB, Bool.and_eq_true, Bool.or_eq_true, decide_eq_true_eq] at h
      obtain ⟨h1, h2⟩ := h
      have hx : Loc X.env.scope x := by
        rw [hsc]
        rcases h2 with h2 | h2
        · exact .inl h2
        · exact .inr h2.1
      have hfx : X.fn x = true ∨ X.env.scope.names.lookup x = some .local := by
        rw [hsc]
        rcases h2 with h2 | h2
        · exact .inr h2
        · exact .inl (hf x h2.2)
      refine pg_weak (pg_name (hN ▸ nd) (by rw [hN]; exact h1) hx hfx) fun v σ H Q ⟨F, S1, S, d, e, e', r, er, dj, ha, q⟩ => ?_
      simp only [asgT] at ha
      split at ha
      · rename_i hi
        cases ha
        exact q _ (fun j hj => List.getElem?_set_ne (by simpa [tgSlots] using fun z : i = j => hj (by simp [tgSlots, z]))) (List.length_set ..) (er.put hi r dj)
      · cases ha
    | _ => exact absurd h Bool.false_ne_true
  | .tup ts, A, h => by
    cases A with
    | Tuple es k pos =>
      have h : tgsB N sc fn ts es = true := h
      obtain ⟨l1, l2⟩ := asgE_len h X.env
      refine pg_weak (pg_tup hc (tgs_ok hN nd hc hsc hf ts es h) l1 l2) fun v σ H Q ⟨F, S1, S, d, e, e', r, er, dj, ha, q⟩ => ?_
      cases d <;> (first | (cases ha; done) | skip)
      rename_i ds
      obtain ⟨a, vs, rfl, z, l, rd⟩ := r.tup_inv
      have hl : ts.length = ds.length := by
        have : ∀ (ts : List Tg) (ds : List D) (e e' : Nv), asgL ts ds e = some e' → ts.length = ds.length := by
          intro ts
          induction ts with
          | nil => intro ds e e' h; cases ds <;> first | rfl | cases h
          | cons t ts ih =>
            intro ds e e' h
            cases ds with
            | nil => cases h
            | cons d ds =>
              simp only [asgL] at h
              obtain ⟨e1, _, h2⟩ := Option.bind_eq_some_iff.mp h
              rw [List.length_cons, List.length_cons, ih ds e1 e' h2]
        exact this ts ds e e' ha
      exact ⟨a, vs, rfl, .inl rd, by rw [l.len, hl], F, S1, S, ds, e, e', l, er, dj, ha, q⟩
    | _ => exact absurd h Bool.false_ne_true
theorem tgs_ok (hN : X.N = N) (nd : N.Nodup) (hc : X.calm = true) (hsc : X.env.scope = sc) {fn : Str → Bool} (hf : ∀ x, fn x = true → X.fn x = true) : ∀ (ts : List Tg) (es : List Expr), tgsB N sc fn ts es = true → PGs X es (tTgs ts)
  | [], [], _ => pgs_weak pgs_nil fun vs σ H Q ⟨F, S1, S, ds, e, e', r, er, dj, ha, q⟩ => by
    cases ds with
    | nil => cases ha; exact ⟨r, q σ (fun _ _ => rfl) rfl (er.mono fun _ z => .inr z)⟩
    | cons d ds => cases ha
  | [], _ :: _, h => by cases h
  | _ :: _, [], h => by cases h
  | t :: ts, x :: es, h => by
    simp only [tgsB, Bool.and_eq_true] at h
    refine pgs_weak (pgs_cons (tg_ok hN nd hc hsc hf t x h.2.1) (tgs_ok hN nd hc hsc hf ts es h.2.2) (asgE_pl h.1 es X.env)) fun vs σ H Q ⟨F, S1, S, ds, e, e', r, er, dj, ha, q⟩ => ?_
    cases ds with
    | nil => cases ha
    | cons d ds =>
      obtain ⟨v, vr, T1, T2, rfl, r1, r2, d12, t1, t2⟩ := r
      simp only [asgL] at ha
      obtain ⟨e1, ha1, ha2⟩ := Option.bind_eq_some_iff.mp ha
      refine ⟨v, vr, rfl, F, T1, S, d, e, e1, r1, er, dj.mono t1 Sb.refl, ha1, fun σ1 hs1 hl1 er1 => ?_⟩
      refine ⟨F, T2, fun a => T1 a ∨ S a, ds, e1, e', r2, er1, fun a z w => w.elim (fun w => d12 a w z) (dj a (t2 a z)), ha2, fun σ2 hs2 hl2 er2 => ?_⟩
      refine q σ2 (fun j hj => ?_) (hl2.trans hl1) (er2.mono fun a z => z.elim (fun z => .inl (t2 a z)) fun z => z.imp_left (t1 a))
      rw [hs2 j fun z => hj (by simp [tgSlots.tgsSlots, z]), hs1 j fun z => hj (by simp [tgSlots.tgsSlots, z])]
end
/-! ### what is walked -/
structure AfI (vb : Bool) (σ : Sl) (H : Hp) (F S : AS) (H' : Hp) (F' : AS) (ds : List D) (vs : List V) (S1 : AS) (e' : Nv) (S2 : AS) : Prop where
  t : AftT false σ H F S H' F' e' S2
  rep : RepL H' F' ds vs S1
  s1 : vb = true → Sb S1 F'
  dj : vb = true → Dj S1 S2
  n1 : vb = true → Nw S H S1
/-- at turn i the iterator gives the i-th thing, so long as the sources stand -/
def Jok (ds : List D) (J : It) (good : Hp → AS → Prop) : Prop := ∀ H F i, good H F →
  (∀ d, ds[i]? = some d → J.go i H ∧ ∀ x H', J.yld i H x H' → (H' = H ∨ ∃ T t, H T = none ∧ H' = upd H T (.tup t)) ∧ ((∀ a, F a → H a ≠ none) → Rep H' F d x nos)) ∧ (ds.length ≤ i → J.stop i H)
def tI (p : Pm) (ik : Ik) (is : List E) (vb : Bool) : TI := fun σ H R => ∃ F S e, Rdy H F S e σ ∧ match evs p.C is e with
  | .ok xs e' => ∃ ds, itemsD ik xs = some ds ∧ ∀ vs H' F' S1 S2 J, AfI vb σ H F S H' F' xs vs S1 e' S2 → Jok ds J (fun H F => RepL H F xs vs S1) → R J H'
  | .ex x e' => Vx p σ H F S x e'
  | .bad => False
theorem pi_weak {tg A : Expr} {t t' : TI} (h : PI X tg A t) (w : ∀ σ H R, t' σ H R → t σ H R) : PI X tg A t' := ⟨fun pins s σ H R I q => h.run pins s σ H R I (w σ H R q)⟩
theorem sqL_inj {K : PySem.W.Frag} {H : Hp} {a : Addr} {xs : List V} (r : Rd H a (.lst xs)) : SqL K H a xs := .inl r
theorem get_nos {H : Hp} {F : AS} {ds : List D} {vs : List V} {i : Nat} {d : D} (r : RepL H F ds vs nos) (h : ds[i]? = some d) : ∃ v, vs[i]? = some v ∧ Rep H F d v nos := r.get h
/-- a list -/
theorem jok_list {K : PySem.W.Frag} {o : Bool} {ds : List D} {a : Addr} {S1 : AS} : Jok ds (Itl K a) (fun H F => RepL H F [.lst o ds] [.ref a] S1) := fun H F i r => by
  obtain ⟨v, t, T1, T2, e, r1, _⟩ := r
  cases e
  obtain ⟨a', vs, e, z, l, q⟩ := r1.lst_inv
  cases e
  refine ⟨fun d hd => ?_, fun hi => ⟨vs, .inl q, by rw [l.len]; exact hi⟩⟩
  obtain ⟨v, hv, rv⟩ := l.get hd
  refine ⟨⟨vs, v, .inl q, hv⟩, fun x H' y => ?_⟩
  obtain ⟨rfl, y⟩ := y
  have := y vs (.inl q)
  rw [hv] at this; cases this
  exact ⟨.inl rfl, fun _ => rv⟩
theorem jok_tup {K : PySem.W.Frag} {ds : List D} {a : Addr} {S1 : AS} (hf : isFL ds = true) : Jok ds (Itt K a) (fun H F => RepL H F [.tup ds] [.ref a] S1) := fun H F i r => by
  obtain ⟨v, t, T1, T2, e, r1, _⟩ := r
  cases e
  obtain ⟨a', vs, e, z, l, q⟩ := r1.tup_inv
  cases e
  refine ⟨fun d hd => ?_, fun hi => ⟨vs, .inl q, by rw [l.len]; exact hi⟩⟩
  obtain ⟨v, hv, rv⟩ := (RepL.isF _ _ _ hf l).get hd
  refine ⟨⟨vs, v, .inl q, hv⟩, fun x H' y => ?_⟩
  obtain ⟨rfl, y⟩ := y
  have := y vs (.inl q)
  rw [hv] at this; cases this
  exact ⟨.inl rfl, fun _ => rv⟩
theorem jok_str {s : Str} {ds : List D} (e : strItems s = ds) (ok : okS s) {good : Hp → AS → Prop} : Jok ds (Its s) good := fun H F i _ => by
  subst e
  have stop : (strItems s).length ≤ i → s.cps.size ≤ i := fun hi => by simpa [strItems] using hi
  refine ⟨fun d hd => ?_, fun hi => stop hi⟩
  unfold strItems at hd
  rw [List.getElem?_map] at hd
  obtain ⟨c, hc, rfl⟩ := Option.map_eq_some_iff.mp hd
  have hc' : s.cps[i]? = some c := by simpa using hc
  refine ⟨(Array.getElem?_eq_some_iff.mp hc').1, fun x H' y => ?_⟩
  obtain ⟨rfl, c', h1, rfl⟩ := y
  rw [hc'] at h1; cases h1
  refine ⟨.inl rfl, fun _ => ⟨rfl, ?_⟩⟩
  refine ⟨?_, by show (1 : Nat) ≤ sizeLine; rw [sizeLine_eq]; decide⟩
  have h1 := ok.1
  unfold PyData.strOk at *
  rw [← Array.all_toList, List.all_eq_true] at h1
  have := h1 c (List.mem_of_getElem? hc)
  simpa using this
theorem jok_rng {lo hi : Int} {ds : List D} (e : rngD lo hi = some ds) {good : Hp → AS → Prop} : Jok ds (Itr lo (hi - lo).toNat) good := fun H F i _ => by
  unfold rngD at e
  split at e
  · cases e
    refine ⟨fun d hd => ?_, fun hi' => (by rw [List.length_map, List.length_range] at hi'; exact hi')⟩
    rw [List.getElem?_map] at hd
    obtain ⟨k, hk, rfl⟩ := Option.map_eq_some_iff.mp hd
    obtain ⟨h1, h2⟩ := List.getElem?_eq_some_iff.mp hk
    rw [List.getElem_range] at h2
    subst h2
    refine ⟨(by rw [List.length_range] at h1; exact h1), fun x H' y => ?_⟩
    obtain ⟨rfl, rfl⟩ := y
    exact ⟨.inl rfl, fun _ => rfl⟩
  · cases e
theorem zw_get {α β γ : Type} {f : α → β → γ} {xs : List α} {ys : List β} {i : Nat} {c : γ} (h : (List.zipWith f xs ys)[i]? = some c) : ∃ a b, xs[i]? = some a ∧ ys[i]? = some b ∧ f a b = c := by
  rw [List.getElem?_zipWith] at h
  cases hx : xs[i]? with
  | none => rw [hx] at h; cases h
  | some a =>
    cases hy : ys[i]? with
    | none => rw [hx, hy] at h; cases h
    | some b =>
      rw [hx, hy] at h
      exact ⟨a, b, rfl, rfl, Option.some.inj h⟩
theorem tup2 {H : Hp} {F : AS} {T : Addr} {a b : D} {x y : V} (hT : H T = none) (fd : ∀ a, F a → H a ≠ none) (ra : Rep H F a x nos) (rb : Rep H F b y nos) : Rep (upd H T (.tup [x, y])) F (.tup [a, b]) (.ref T) nos := by
  have up : ∀ {d v}, Rep H F d v nos → Rep (upd H T (.tup [x, y])) F d v nos := fun r => Rep.step _ _ _ r (fun x o hx _ => upd_keep hT hx) fun x hx => .inl hx
  exact ⟨T, [x, y], rfl, .inl upd_same, fun h => fd T h hT, by show 2 ≤ sizeLine; rw [sizeLine_eq]; decide, RepL.cons (up ra) (RepL.cons (up rb) RepL.nil)⟩
theorem jok_enum {K : PySem.W.Frag} {o : Bool} {ds : List D} {a : Addr} {S1 : AS} : Jok (List.zipWith (fun (i : Nat) x => .tup [.int (i : Int), x]) (List.range ds.length) ds) (Ite K a) (fun H F => RepL H F [.lst o ds] [.ref a] S1) := fun H F i r => by
  obtain ⟨v, t, T1, T2, e, r1, _⟩ := r
  cases e
  obtain ⟨a', vs, e, z, l, q⟩ := r1.lst_inv
  cases e
  refine ⟨fun d hd => ?_, fun hi => ⟨vs, .inl q, by rw [l.len]; simpa using hi⟩⟩
  obtain ⟨k, d', hk, hd', rfl⟩ := zw_get hd
  obtain ⟨h1, h2⟩ := List.getElem?_eq_some_iff.mp hk
  rw [List.getElem_range] at h2
  subst h2
  obtain ⟨v, hv, rv⟩ := l.get hd'
  refine ⟨⟨vs, v, .inl q, hv⟩, fun x H' y => ?_⟩
  obtain ⟨T, w, rfl, hT, rfl, y⟩ := y
  have := y vs (.inl q)
  rw [hv] at this; cases this
  exact ⟨.inr ⟨T, _, hT, rfl⟩, fun fd => tup2 hT fd rfl rv⟩
theorem jok_zip {K : PySem.W.Frag} {o o2 : Bool} {ds es : List D} {a b : Addr} {S1 : AS} : Jok (List.zipWith (fun x y => .tup [x, y]) ds es) (Itz K a b) (fun H F => RepL H F [.lst o ds, .lst o2 es] [.ref a, .ref b] S1) := fun H F i r => by
  obtain ⟨v, t, T1, T2, e, r1, r2, _⟩ := r
  cases e
  obtain ⟨v2, t2, U1, U2, e2, r2, _⟩ := r2
  cases e2
  obtain ⟨a', vs, e, z, l, q⟩ := r1.lst_inv
  cases e
  obtain ⟨b', us, e, z', l', q'⟩ := r2.lst_inv
  cases e
  refine ⟨fun d hd => ?_, fun hi => ⟨vs, us, .inl q, .inl q', ?_⟩⟩
  · obtain ⟨x1, y1, hx, hy, rfl⟩ := zw_get hd
    obtain ⟨v, hv, rv⟩ := l.get hx
    obtain ⟨u, hu, ru⟩ := l'.get hy
    refine ⟨⟨vs, us, v, u, .inl q, .inl q', hv, hu⟩, fun x H' y => ?_⟩
    obtain ⟨T, w1, w2, rfl, hT, rfl, y1, y2⟩ := y
    have e1 := y1 vs (.inl q)
    rw [hv] at e1; cases e1
    have e2 := y2 us (.inl q')
    rw [hu] at e2; cases e2
    exact ⟨.inr ⟨T, _, hT, rfl⟩, fun fd => tup2 hT fd rv ru⟩
  · rw [List.length_zipWith] at hi
    rw [l.len, l'.len]; omega
theorem pi_or {tg A : Expr} {w1 w2 : TI} (h1 : PI X tg A w1) (h2 : PI X tg A w2) : PI X tg A (fun σ H R => w1 σ H R ∨ w2 σ H R) := ⟨fun pins s σ H R I q => q.elim (h1.run pins s σ H R I) (h2.run pins s σ H R I)⟩
theorem aft_i {vb sb : Bool} {σ : Sl} {H H1 : Hp} {F F1 S S1 S2 : AS} {d : D} {v : V} {e1 : Nv} (a : Aft vb sb σ H F S H1 F1 d v S1 e1 S2) : AfI vb σ H F S H1 F1 [d] [v] S1 e1 S2 :=
  ⟨a.t.weak, ⟨v, [], S1, nos, rfl, a.rep, rfl, dj_nos.symm, Sb.refl, sb_nos⟩, a.s1, a.dj, a.n1⟩
/-- over a value -/
theorem pi_seq {a : E} {tg A : Expr} {vb : Bool} (hp : PE X A (tE p a)) (hv : vb = true → isV a = true) : PI X tg A (tI p .seq [a] vb) := by
  refine pi_weak (pi_or (pi_list hp) (pi_or (pi_tup hp) (pi_str hp))) fun σ H W ⟨F, S, e, rd, q⟩ => ?_
  simp only [evs] at q
  cases hr : ev p.C a e with
  | ok d e1 =>
    rw [hr] at q
    simp only [R.bind_ok] at q
    obtain ⟨ds, hds, q⟩ := q
    have w : ∀ {v H1 F1 S1 S2}, Aft (isV a) (smp a) σ H F S H1 F1 d v S1 e1 S2 → AfI vb σ H F S H1 F1 [d] [v] S1 e1 S2 := fun k =>
      ⟨k.t.weak, (aft_i k).rep, fun z => k.s1 (hv z), fun z => k.dj (hv z), fun z => k.n1 (hv z)⟩
    cases d with
    | lst o xs =>
      cases hds
      refine .inl ⟨F, S, e, rd, ?_⟩
      rw [hr]
      intro v H1 F1 S1 S2 k
      obtain ⟨a', vs, rfl, z, l, r⟩ := k.rep.lst_inv
      exact ⟨a', rfl, ⟨vs, .inl r⟩, q _ H1 F1 S1 S2 _ (w k) jok_list⟩
    | tup xs =>
      simp only [itemsD] at hds
      split at hds
      · rename_i hf
        cases hds
        refine .inr (.inl ⟨F, S, e, rd, ?_⟩)
        rw [hr]
        intro v H1 F1 S1 S2 k
        obtain ⟨a', vs, rfl, z, l, r⟩ := k.rep.tup_inv
        exact ⟨a', rfl, ⟨vs, .inl r⟩, q _ H1 F1 S1 S2 _ (w k) (jok_tup hf)⟩
      · cases hds
    | str s =>
      cases hds
      refine .inr (.inr ⟨F, S, e, rd, ?_⟩)
      rw [hr]
      intro v H1 F1 S1 S2 k
      obtain ⟨rfl, ok⟩ := id k.rep
      exact ⟨s, rfl, q _ H1 F1 S1 S2 _ (w k) (jok_str rfl ok)⟩
    | _ => cases hds
  | ex x e1 =>
    rw [hr] at q
    exact .inl ⟨F, S, e, rd, by rw [hr]; exact q⟩
  | bad => rw [hr] at q; exact q.elim
theorem afl_i {sb vb : Bool} {σ : Sl} {H H1 : Hp} {F F1 S S1 S2 : AS} {ds : List D} {vs : List V} {e1 : Nv} (a : AfL sb σ H F S H1 F1 ds vs S1 e1 S2) : AfI vb σ H F S H1 F1 ds vs S1 e1 S2 :=
  ⟨a.t.weak, a.rep, fun _ => a.s1, fun _ => a.dj, fun _ => a.n1⟩
theorem len1 {α : Type} {xs : List α} (h : xs.length = 1) : ∃ x, xs = [x] := by
  match xs, h with
  | [x], _ => exact ⟨x, rfl⟩
theorem len2 {α : Type} {xs : List α} (h : xs.length = 2) : ∃ x y, xs = [x, y] := by
  match xs, h with
  | [x, y], _ => exact ⟨x, y, rfl⟩
/-- range, enumerate, zip -/
theorem pi_call {ik : Ik} {is : List E} {tg : Expr} {y : Str} {p0 pos : Pos} {xs : List Expr} {vb : Bool} (G : Gd g N p X sc) (hik : ik ≠ .seq) (htg : (ik = .enum ∨ ik = .zip) → ∃ es k q, tg = .Tuple es k q) (h1 : y = ikname ik) (h2 : okGl sc y = true) (h3 : g.free.contains y = true) (h4 : xs.length = ikn ik)
    (h5 : chks g N sc is xs = true) (ie : PA X xs (tEs p is)) : PI X tg (.Call (.Name y p0) xs [] pos) (tI p ik is vb) := by
  obtain ⟨g1, g2, g3, g4⟩ := free_ok G h2 h3
  have gen : ∀ {t : TI}, (∀ σ H R F S e, Rdy H F S e σ → (match evs p.C is e with
      | .ok xs e' => ∃ ds, itemsD ik xs = some ds ∧ ∀ vs H' F' S1 S2 J, AfI vb σ H F S H' F' xs vs S1 e' S2 → Jok ds J (fun H F => RepL H F xs vs S1) → R J H'
      | .ex x e' => Vx p σ H F S x e'
      | .bad => False) → t σ H R) → PI X tg (.Call (.Name y p0) xs [] pos) t → PI X tg (.Call (.Name y p0) xs [] pos) (tI p ik is vb) := fun h hp => pi_weak hp fun σ H R ⟨F, S, e, rd, q⟩ => h σ H R F S e rd q
  cases ik with
  | seq => exact absurd rfl hik
  | rng1 =>
    obtain ⟨x, rfl⟩ := len1 h4
    subst h1
    have hp : pl x = true := by
      cases is with
      | nil => cases h5
      | cons a r => simp only [chks, Bool.and_eq_true] at h5; exact h5.1
    refine gen (fun σ H R F S e rd q => ?_) (pi_range1 g1 g2 ie (star_pl hp [] X.env))
    refine ⟨F, S, e, rd, ?_⟩
    cases hr : evs p.C is e with
    | ok ds e1 =>
      rw [hr] at q
      intro vs H1 F1 S1 S2 k
      obtain ⟨es, hes, q⟩ := q
      have hes' : ∃ j, ds = [.int j] ∧ rngD 0 j = some es := by
        match ds, hes with
        | [.int j], hes => exact ⟨j, rfl, hes⟩
      obtain ⟨j, rfl, hj⟩ := hes'
      obtain ⟨v, t, T1, T2, rfl, r1, r2, _⟩ := id k.rep
      cases r1
      rw [show t = [] from r2] at k ⊢
      have bd : -(2 ^ 60) ≤ (0 : Int) ∧ (0 : Int) ≤ 2 ^ 60 ∧ -(2 ^ 60) ≤ j ∧ j ≤ 2 ^ 60 ∧ j - 0 ≤ 1000000 := by
        unfold rngD at hj
        split at hj
        · assumption
        · cases hj
      refine ⟨j, rfl, by omega, by omega, q _ H1 F1 S1 S2 _ (afl_i k) ?_⟩
      have := jok_rng hj (good := fun H F => RepL H F [.int j] [.int j] S1)
      simpa using this
    | ex x e1 => rw [hr] at q; exact q
    | bad => rw [hr] at q; exact q
  | rng2 =>
    obtain ⟨x, x2, rfl⟩ := len2 h4
    subst h1
    have hp : pl x = true ∧ pl x2 = true := by
      cases is with
      | nil => cases h5
      | cons a r =>
        simp only [chks, Bool.and_eq_true] at h5
        refine ⟨h5.1, ?_⟩
        cases r with
        | nil => exact absurd h5.2.2.2 Bool.false_ne_true
        | cons b r => simp only [chks, Bool.and_eq_true] at h5; exact h5.2.2.2.1
    refine gen (fun σ H R F S e rd q => ?_) (pi_range2 g1 g2 ie (by rw [star_pl hp.1, star_pl hp.2]; rfl) (star_pl hp.2 [] X.env))
    refine ⟨F, S, e, rd, ?_⟩
    cases hr : evs p.C is e with
    | ok ds e1 =>
      rw [hr] at q
      intro vs H1 F1 S1 S2 k
      obtain ⟨es, hes, q⟩ := q
      have hes' : ∃ i j, ds = [.int i, .int j] ∧ rngD i j = some es := by
        match ds, hes with
        | [.int i, .int j], hes => exact ⟨i, j, rfl, hes⟩
      obtain ⟨i, j, rfl, hj⟩ := hes'
      obtain ⟨v, t, T1, T2, rfl, r1, r2, _⟩ := id k.rep
      cases r1
      obtain ⟨v2, t2, U1, U2, rfl, r3, r4, _⟩ := r2
      cases r3
      rw [show t2 = [] from r4] at k ⊢
      have bd : -(2 ^ 60) ≤ i ∧ i ≤ 2 ^ 60 ∧ -(2 ^ 60) ≤ j ∧ j ≤ 2 ^ 60 ∧ j - i ≤ 1000000 := by
        unfold rngD at hj
        split at hj
        · assumption
        · cases hj
      exact ⟨i, j, rfl, ⟨by omega, by omega, by omega, by omega⟩, q _ H1 F1 S1 S2 _ (afl_i k) (jok_rng hj)⟩
    | ex x e1 => rw [hr] at q; exact q
    | bad => rw [hr] at q; exact q
  | enum =>
    obtain ⟨x, rfl⟩ := len1 h4
    obtain ⟨es0, k0, q0, rfl⟩ := htg (.inl rfl)
    subst h1
    have hp : pl x = true := by
      cases is with
      | nil => cases h5
      | cons a r => simp only [chks, Bool.and_eq_true] at h5; exact h5.1
    refine gen (fun σ H R F S e rd q => ?_) (pi_enum g1 g2 ie (star_pl hp [] X.env))
    refine ⟨F, S, e, rd, ?_⟩
    cases hr : evs p.C is e with
    | ok ds e1 =>
      rw [hr] at q
      intro vs H1 F1 S1 S2 k
      obtain ⟨es, hes, q⟩ := q
      have hes' : ∃ o xs, ds = [.lst o xs] ∧ es = List.zipWith (fun (i : Nat) x => .tup [.int (i : Int), x]) (List.range xs.length) xs := by
        match ds, hes with
        | [.lst o xs], hes => exact ⟨o, xs, rfl, (Option.some.inj hes).symm⟩
      obtain ⟨o, xs, rfl, rfl⟩ := hes'
      obtain ⟨v, t, T1, T2, rfl, r1, r2, _⟩ := id k.rep
      obtain ⟨a', vs, rfl, z, l, r⟩ := r1.lst_inv
      rw [show t = [] from r2] at k ⊢
      exact ⟨a', vs, rfl, .inl r, q _ H1 F1 S1 S2 _ (afl_i k) jok_enum⟩
    | ex x e1 => rw [hr] at q; exact q
    | bad => rw [hr] at q; exact q
  | zip =>
    obtain ⟨x, x2, rfl⟩ := len2 h4
    obtain ⟨es0, k0, q0, rfl⟩ := htg (.inr rfl)
    subst h1
    have hp : pl x = true ∧ pl x2 = true := by
      cases is with
      | nil => cases h5
      | cons a r =>
        simp only [chks, Bool.and_eq_true] at h5
        refine ⟨h5.1, ?_⟩
        cases r with
        | nil => exact absurd h5.2.2.2 Bool.false_ne_true
        | cons b r => simp only [chks, Bool.and_eq_true] at h5; exact h5.2.2.2.1
    refine gen (fun σ H R F S e rd q => ?_) (pi_zip g1 g2 ie (star_pl hp.1 [x2] X.env) (hpl_one hp.2 _ _))
    refine ⟨F, S, e, rd, ?_⟩
    cases hr : evs p.C is e with
    | ok ds e1 =>
      rw [hr] at q
      intro vs H1 F1 S1 S2 k
      obtain ⟨es, hes, q⟩ := q
      have hes' : ∃ o xs o2 ys, ds = [.lst o xs, .lst o2 ys] ∧ es = List.zipWith (fun x y => .tup [x, y]) xs ys := by
        match ds, hes with
        | [.lst o xs, .lst o2 ys], hes => exact ⟨o, xs, o2, ys, rfl, (Option.some.inj hes).symm⟩
      obtain ⟨o, xs, o2, ys, rfl, rfl⟩ := hes'
      obtain ⟨v, t, T1, T2, rfl, r1, r2, _⟩ := id k.rep
      obtain ⟨a', vs, rfl, z, l, r⟩ := r1.lst_inv
      obtain ⟨v2, t2, U1, U2, rfl, r3, r4, _⟩ := r2
      obtain ⟨b', us, rfl, z', l', r'⟩ := r3.lst_inv
      rw [show t2 = [] from r4] at k ⊢
      exact ⟨a', b', vs, us, rfl, .inl r, .inl r', q _ H1 F1 S1 S2 _ (afl_i k) jok_zip⟩
    | ex x e1 => rw [hr] at q; exact q
    | bad => rw [hr] at q; exact q
theorem items_len {H : Hp} {F S : AS} {ik : Ik} {xs ds : List D} {vs : List V} (h : itemsD ik xs = some ds) (r : RepL H F xs vs S) : ds.length ≤ sizeLine := by
  have lst : ∀ {o ys v S}, Rep H F (.lst o ys) v S → ys.length ≤ sizeLine := fun r => by
    obtain ⟨a, vs, rfl, z, l, _⟩ := r.lst_inv
    rw [← l.len]; exact z
  have rng : ∀ {lo hi}, rngD lo hi = some ds → ds.length ≤ sizeLine := fun {lo hi} h => by
    unfold rngD at h
    split at h
    · rename_i hb
      cases h
      rw [List.length_map, List.length_range]
      exact lim_ok (by omega)
    · cases h
  unfold itemsD at h
  split at h
  · cases h
    obtain ⟨v, t, T1, T2, rfl, r1, _⟩ := r
    exact lst r1
  · split at h
    · cases h
      obtain ⟨v, t, T1, T2, rfl, r1, _⟩ := r
      obtain ⟨a, vs, rfl, z, l, _⟩ := r1.tup_inv
      rw [← l.len]; exact z
    · cases h
  · cases h
    obtain ⟨v, t, T1, T2, rfl, r1, _⟩ := r
    obtain ⟨rfl, ok⟩ := r1
    have := ok.2
    unfold strItems
    rw [List.length_map]
    simpa [Str.length] using this
  · exact rng h
  · exact rng h
  · cases h
    obtain ⟨v, t, T1, T2, rfl, r1, _⟩ := r
    have := lst r1
    rw [List.length_zipWith, List.length_range]
    omega
  · cases h
    obtain ⟨v, t, T1, T2, rfl, r1, _⟩ := r
    have := lst r1
    rw [List.length_zipWith]
    omega
  · cases h
/-! ### the slots of a comprehension -/
theorem unσ {H : Hp} {F : AS} : ∀ {e : Nv} {σ : Sl} {S : AS} {i : Nat}, ERs H F e (σ.set i none) S → ERs H F (e.set i none) σ S
  | [], σ, _, i, h => by
    have : σ = [] := by
      have h : σ.set i none = [] := h
      cases σ with
      | nil => rfl
      | cons a b => cases i <;> cases h
    subst this; rfl
  | o :: e, σ, S, i, h => by
    obtain ⟨u, r, S1, S2, q, h1, h2, dj, s1, s2⟩ := h
    cases σ with
    | nil => cases q
    | cons w ws =>
      cases i with
      | zero =>
        obtain ⟨_, q2⟩ := List.cons.inj q
        subst q2
        exact ⟨w, ws, S1, S2, rfl, (fun d hd => by cases hd), h2, dj, s1, s2⟩
      | succ i =>
        obtain ⟨q1, q2⟩ := List.cons.inj q
        have q1 : w = u := q1
        have q2 : ws.set i none = r := q2
        subst q1 q2
        exact ⟨w, ws, S1, S2, rfl, h1, unσ h2, dj, s1, s2⟩
theorem wipeE_set (e : Nv) (v : Nat) : ∀ vs : List Nat, wipeE (e.set v none) vs = (wipeE e vs).set v none
  | [] => rfl
  | w :: vs => by
    show (wipeE (e.set v none) vs).set w none = ((wipeE e vs).set w none).set v none
    rw [wipeE_set e v vs]
    by_cases h : v = w
    · subst h; rfl
    · exact List.set_comm _ _ h
theorem ERs.unwipe {H : Hp} {F S : AS} : ∀ {e : Nv} {σ : Sl} {vs : List Nat}, ERs H F e (wipe σ vs) S → ERs H F (wipeE e vs) σ S
  | e, σ, [], h => h
  | e, σ, v :: vs, h => by
    have h : ERs H F e ((wipe σ vs).set v none) S := h
    have := ERs.unwipe (vs := vs) (unσ h)
    rw [wipeE_set] at this
    exact this
theorem ERs.wiped {H : Hp} {F S : AS} {e : Nv} {σ : Sl} (h : ERs H F e σ S) : ∀ vs : List Nat, ERs H F (wipeE e vs) (L2.wipe σ vs) S
  | [] => h
  | v :: vs => (ERs.wiped h vs).goneσ
theorem wipeE_idem (e : Nv) : ∀ vs : List Nat, wipeE (wipeE e vs) vs = wipeE e vs
  | [] => rfl
  | v :: vs => by
    show (wipeE ((wipeE e vs).set v none) vs).set v none = (wipeE e vs).set v none
    rw [wipeE_set, wipeE_idem e vs, List.set_set]
theorem wipe_in {σ : Sl} {j : Nat} : ∀ {vs : List Nat}, j ∈ vs → (L2.wipe σ vs)[j]? = if j < σ.length then some none else none
  | v :: vs, h => by
    show ((L2.wipe σ vs).set v none)[j]? = _
    by_cases e : v = j
    · subst e
      by_cases hl : v < σ.length
      · rw [if_pos hl, List.getElem?_set_self (by rw [wipe_length]; exact hl)]
      · rw [if_neg hl, List.getElem?_eq_none]
        rw [List.length_set, wipe_length]; omega
    · rw [List.getElem?_set_ne e]
      exact wipe_in ((List.mem_cons.mp h).resolve_left fun z => e z.symm)
theorem wipe_eq {σ σ2 : Sl} {vs : List Nat} (h : ∀ j, j ∉ vs → σ2[j]? = (L2.wipe σ vs)[j]?) (hl : σ2.length = σ.length) : L2.wipe σ2 vs = L2.wipe σ vs := by
  apply List.ext_getElem?
  intro j
  by_cases hj : j ∈ vs
  · rw [wipe_in hj, wipe_in hj, hl]
  · rw [wipe_out hj, h j hj]
/-! ### tests in a comprehension -/
theorem pts_ok {ifs : List E} {cs : List Expr} (h : chkTs g N sc ifs cs = true) (ii : ∀ a x, ifs = [a] → chk g N sc a x = true → PT X x (tT p a)) :
    PTs X cs (fun σ H Q => ∃ F S e, Rdy H F S e σ ∧ Vt p (smpL ifs) σ H F S (evTs p.C ifs e) Q) := by
  cases ifs with
  | nil =>
    simp only [chkTs, List.isEmpty_iff] at h
    subst h
    exact ⟨fun pins s σ H Q I ⟨F, S, e, rd, q⟩ => pts_nil.run pins s σ H Q I (q H F S (rd.refl.imp fun _ => rfl))⟩
  | cons a r =>
    unfold chkTs at h
    split at h
    · rw [Bool.and_eq_true, List.isEmpty_iff] at h
      obtain ⟨rfl, h⟩ := h
      refine ⟨fun pins s σ H Q I ⟨F, S, e, rd, q⟩ => (pts_one (ii a _ rfl h)).run pins s σ H Q I ⟨F, S, e, rd, ?_⟩⟩
      simp only [evTs] at q
      cases hr : asB (ev p.C a e) with
      | ok b e1 =>
        rw [hr] at q
        intro H' F' S2 k
        cases b <;> exact q H' F' S2 (k.imp fun z => by simpa [smpL, Bool.and_eq_true] using z)
      | ex x e1 => rw [hr] at q; exact q.elim
      | bad => rw [hr] at q; exact q
    · cases h
end
end Vm
namespace Vm
open PySem PySem.Spec L2
section
variable {g : Tab} {N : List Str} {p : Pm} {X : Cx} {sc : Scope}
abbrev noW : WX := fun _ _ _ _ => False
theorem takes_no {X : Cx} : Takes X noW := fun _ _ ⟨_, _, _, _, _, _, _, _, _, _, _, _, _, _, _, _, w⟩ => w.elim
theorem Gd.blk {C : Orc} {XR : Hp → AS → D → Value → Option Addr → Prop} {Wx : WX} (G : Gd g N ⟨C, XR, Wx⟩ X sc) (s : Shared) (H : Hp) (scope : Scope) (Cc : Addr) (cl : List (Str × Addr)) (fp : List Addr) :
    Gd g N ⟨C, XR, noW⟩ (X.blk s H scope (compEnvC scope cl Cc X.env) fp) (relS scope sc) where
  hN := G.hN
  nd := G.nd
  sc := by
    show relS scope X.env.scope = relS scope sc
    rw [G.sc]
  calm := G.calm
  un := G.un
  free := G.free
  cons := G.cons
  tk := takes_no
  call := G.call
theorem Vt.of_ok {sb : Bool} {σ : Sl} {H : Hp} {F S : AS} {r : R Bool} {Q : Bool → Hp → Prop} (h : ∀ b e', r = .ok b e' → ∀ H' F' S2, AftT sb σ H F S H' F' e' S2 → Q b H') (hx : ∀ x e', r = .ex x e' → False) (hb : r = .bad → False) : Vt p sb σ H F S r Q := by
  cases r with
  | ok b e' => exact h b e' rfl
  | ex x e' => exact (hx x e' rfl).elim
  | bad => exact (hb rfl).elim
theorem Vp.of_ok {vb sb : Bool} {σ : Sl} {H : Hp} {F S : AS} {r : R D} {Q : VK} (h : ∀ b e', r = .ok b e' → ∀ v H' F' S1 S2, Aft vb sb σ H F S H' F' b v S1 e' S2 → Q v H') (hx : ∀ x e', r = .ex x e' → False) (hb : r = .bad → False) : Vp p vb sb σ H F S r Q := by
  cases r with
  | ok b e' => exact h b e' rfl
  | ex x e' => exact (hx x e' rfl).elim
  | bad => exact (hb rfl).elim
theorem still_ok {α : Type} {r : R α} {x : α} {e : Nv} (h : r.still = .ok x e) : r = .ok x e := by
  cases r <;> first | exact h | cases h
/-- the turns of a comprehension -/
structure LcW (own : List Nat) (vb : Bool) (σ : Sl) (H : Hp) (F S : AS) (xs : List D) (vs : List V) (S1 : AS) (Dd : Addr) (i : Nat) (Hc : Hp) (Fc Sc : AS) (ec : Nv) (av : List V) (acc : List D) : Prop where
  A : AftT false (wipe σ own) H F S Hc Fc ec Sc
  src : RepL Hc Fc xs vs S1
  sd : vb = true → Dj S1 Sc
  sf : vb = true → Sb S1 Fc
  hD : Hc Dd = some (.lst av)
  rep : RepL Hc Fc acc av nos
  fD : Fc Dd
  nD : ¬ Sc Dd
  nS : ¬ S1 Dd
  len : acc.length ≤ i
theorem lc_turn {C : Orc} {XR : Hp → AS → D → Value → Option Addr → Prop} {own : List Nat} {vb : Bool} {σ : Sl} {H : Hp} {F S : AS} {xs : List D} {vs : List V} {S1 : AS} {Dd : Addr} {i : Nat} {Hc : Hp} {Fc Sc : AS} {ec : Nv} {av : List V} {acc : List D}
    {elt : E} {tg : Tg} {ifs : List E} {d : D} {x : V} {Hy : Hp} {e1 : Nv} (fd : ∀ a, F a → H a ≠ none) (hdD : H Dd = none)
    (w : LcW own vb σ H F S xs vs S1 Dd i Hc Fc Sc ec av acc) (hy : Hy = Hc ∨ ∃ T t, Hc T = none ∧ Hy = upd Hc T (.tup t)) (rx : Rep Hy Fc d x nos) (he : asgT tg d ec = some e1) (hz : acc.length < sizeLine)
    (hown : ∀ k, k ∈ tgSlots tg → k ∈ own) (hv : isV elt = true) (hm : vb = true ∨ (smp elt = true ∧ smpL ifs = true))
    {Nx : Hp → Prop} (go : match evTs C ifs e1 with
      | .ok true e2 => (match (ev C elt e2).still with
        | .ok y e3 => ∀ H' F' S' av', LcW own vb σ H F S xs vs S1 Dd (i + 1) H' F' S' (wipeE e3 own) av' (acc ++ [y.fz]) → Nx H'
        | _ => False)
      | .ok false e2 => ∀ H' F' S' av', LcW own vb σ H F S xs vs S1 Dd (i + 1) H' F' S' (wipeE e2 own) av' acc → Nx H'
      | _ => False) :
    tTg tg x (wipe σ own) Hy fun σ2 H2 => wipe σ2 own = wipe σ own ∧ (∃ F S e, Rdy H2 F S e σ2 ∧ Vt ⟨C, XR, noW⟩ (smpL ifs) σ2 H2 F S (evTs C ifs e) fun b H3 =>
      if b = true then tE ⟨C, XR, noW⟩ elt σ2 H3 fun y H4 => ∃ acc, H4 Dd = some (.lst acc) ∧ acc.length < sizeLine ∧ Nx (upd H4 Dd (.lst (acc ++ [y]))) else Nx H3) := by
  -- the new pair stands
  have kp : ∀ a o, Hc a = some o → Hy a = some o := fun a o h => by
    rcases hy with rfl | ⟨T, t, hT, rfl⟩
    · exact h
    · exact upd_keep hT h
  have kn : ∀ a, Hc a ≠ none → Hy a ≠ none := fun a h z => h (by
    cases q : Hc a with
    | none => rfl
    | some o => rw [kp a o q] at z; cases z)
  have A0 : AftT false (wipe σ own) H F S Hy Fc ec Sc := ⟨⟨fun a o h ns => kp a o (w.A.ch.keep a o h ns), w.A.ch.new, w.A.ch.old, fun a h => kn a (w.A.ch.dom a h), fun a h => kn a (w.A.ch.fd a h)⟩, w.A.er.step (fun a o h _ => kp a o h) fun a h => .inl h, w.A.s2, w.A.n2, fun z => by cases z⟩
  have src0 : RepL Hy Fc xs vs S1 := RepL.step xs vs S1 w.src (fun a o h _ => kp a o h) fun a h => .inl h
  have rep0 : RepL Hy Fc acc av nos := RepL.step acc av nos w.rep (fun a o h _ => kp a o h) fun a h => .inl h
  have hD0 : Hy Dd = some (.lst av) := kp _ _ w.hD
  refine ⟨Fc, nos, Sc, d, ec, e1, rx, A0.er, dj_nos, he, fun σ2 hs2 hl2 er2 => ?_⟩
  have er2 := er2.mono (T := Sc) fun a z => z.elim (fun z => z.elim) id
  have hw : wipe σ2 own = wipe σ own := wipe_eq (fun j hj => hs2 j fun z => hj (hown j z)) (by rw [hl2, wipe_length])
  refine ⟨hw, Fc, Sc, e1, ⟨er2, A0.s2, A0.ch.fd⟩, ?_⟩
  have A1 : AftT false σ2 H F S Hy Fc e1 Sc := ⟨A0.ch, er2, A0.s2, A0.n2, fun z => by cases z⟩
  refine Vt.of_ok (fun b e2 hb H3 F3 S3 k3 => ?_) (fun x e' h => by rw [h] at go; exact go) (fun h => by rw [h] at go; exact go)
  rw [hb] at go
  -- behind the tests
  have keep3 : ∀ a o, Hy a = some o → (¬ Fc a ∨ S1 a) → H3 a = some o := fun a o h z => by
    rcases hm with hm | hm
    · exact k3.ch.keep a o h fun q => z.elim (fun z => z (A0.s2 a q)) fun z => w.sd hm a z q
    · exact k3.ext hm.2 a o h
  have A3 := (A1.trans fd k3).weak
  have src3 : RepL H3 F3 xs vs S1 := RepL.step xs vs S1 src0 keep3 k3.ch.new
  have rep3 : RepL H3 F3 acc av nos := RepL.step acc av nos rep0 (fun a o h z => k3.ch.keep a o h fun q => z.elim (fun z => z (A0.s2 a q)) fun z => z) k3.ch.new
  have hD3 : H3 Dd = some (.lst av) := k3.ch.keep _ _ hD0 w.nD
  have fD3 : F3 Dd := k3.ch.old _ w.fD w.nD
  have nD3 : ¬ S3 Dd := fun q => (k3.n2 _ q).elim w.nD fun z => by rw [hD0] at z; cases z
  have sd3 : vb = true → Dj S1 S3 := fun hvb a z q => (k3.n2 a q).elim (fun q => w.sd hvb a z q) fun q => kn a (w.A.ch.fd a (w.sf hvb a z)) q
  have sf3 : vb = true → Sb S1 F3 := fun hvb a z => k3.ch.old a (w.sf hvb a z) (w.sd hvb a z)
  cases b with
  | false =>
    rw [if_neg Bool.false_ne_true]
    refine go H3 F3 S3 av ⟨?_, src3, sd3, sf3, hD3, rep3, fD3, nD3, w.nS, Nat.le_succ_of_le w.len⟩
    refine ⟨A3.ch, ?_, A3.s2, A3.n2, fun z => by cases z⟩
    rw [← hw]
    exact k3.er.wiped own
  | true =>
    rw [if_pos rfl]
    refine ⟨F3, S3, e2, .of_aftT k3, ?_⟩
    simp only at go
    refine Vp.of_ok (fun y e3 hy3 v H4 F4 U1 S4 k4 => ?_) (fun x e' h => by rw [h] at go; exact go) (fun h => by rw [h] at go; exact go)
    rw [hy3] at go
    have A4 := (A3.trans fd k4.t).weak
    obtain ⟨g1, g2⟩ := k4.give k3.ch.fd hv
    have keep4 : ∀ a o, H3 a = some o → (¬ F3 a ∨ S1 a) → H4 a = some o := fun a o h z => by
      rcases hm with hm | hm
      · exact k4.ch.keep a o h fun q => z.elim (fun z => z (k3.s2 a q)) fun z => sd3 hm a z q
      · exact k4.ext hm.1 a o h
    have hD4 : H4 Dd = some (.lst av) := k4.ch.keep _ _ hD3 nD3
    have nU : ¬ U1 Dd := fun q => (k4.n1 hv _ q).elim nD3 fun z => by rw [hD3] at z; cases z
    have fD4 : F4 Dd := k4.ch.old _ fD3 nD3
    have nD4 : ¬ S4 Dd := fun q => (k4.n2 _ q).elim nD3 fun z => by rw [hD3] at z; cases z
    have src4 : RepL H4 F4 xs vs S1 := RepL.step xs vs S1 src3 keep4 k4.ch.new
    have rep4 : RepL H4 F4 acc av nos := RepL.step acc av nos rep3 (fun a o h z => k4.ch.keep a o h fun q => z.elim (fun z => z (k3.s2 a q)) fun z => z) k4.ch.new
    have al : av.length = acc.length := rep4.len
    refine ⟨av, hD4, by rw [al]; exact hz, ?_⟩
    -- the list at Dd has grown
    have put : ∀ a o, H4 a = some o → a ≠ Dd → upd H4 Dd (.lst (av ++ [v])) a = some o := fun a o h z => by rw [upd_ne z]; exact h
    refine go (upd H4 Dd (.lst (av ++ [v]))) (fun a => F4 a ∧ ¬ U1 a) S4 (av ++ [v]) ⟨?_, ?_, fun hvb a z q => ?_, fun hvb a z => ⟨k4.ch.old a (sf3 hvb a z) (sd3 hvb a z), fun q => (k4.n1 hv a q).elim (sd3 hvb a z) (k3.ch.fd a (sf3 hvb a z))⟩, upd_same, ?_, ⟨fD4, nU⟩, nD4, w.nS, by rw [List.length_append]; exact Nat.succ_le_succ w.len⟩
    · have B := (A3.trans fd g1).weak
      refine ⟨⟨fun a o h ns => put a o (B.ch.keep a o h ns) (fun z => by rw [z, hdD] at h; cases h), B.ch.new, B.ch.old, fun a h => ?_, fun a h => ?_⟩, ?_, B.s2, B.n2, fun z => by cases z⟩
      · by_cases hz : a = Dd
        · rw [hz, upd_same]; simp
        · rw [upd_ne hz]; exact B.ch.dom a h
      · by_cases hz : a = Dd
        · rw [hz, upd_same]; simp
        · rw [upd_ne hz]; exact B.ch.fd a h
      · rw [← hw]
        refine ERs.wiped ?_ own
        exact B.er.step (fun a o h z => put a o h fun q => by
          rcases z with z | z
          · exact z (q ▸ ⟨fD4, nU⟩)
          · exact nD4 (q ▸ z)) fun a h => .inl h
    · refine RepL.step xs vs S1 (RepL.less src4 fun a h => h.1) (fun a o h z => put a o h fun q => ?_) fun a h => .inl h
      rcases z with z | z
      · exact z (q ▸ ⟨fD4, nU⟩)
      · exact w.nS (q ▸ z)
    · exact (k4.n2 a q).elim (fun q => sd3 hvb a z q) fun q => k3.ch.fd a (sf3 hvb a z) q
    · have r1 := RepL.less rep4 (F' := fun a => F4 a ∧ ¬ U1 a) fun a h => h.1
      have r2 := r1.app (RepL.cons g2 RepL.nil)
      refine RepL.step _ _ nos r2 (fun a o h z => put a o h fun q => ?_) fun a h => .inl h
      rcases z with z | z
      · exact z (q ▸ ⟨fD4, nU⟩)
      · exact z
theorem snd_lc {elt : E} {tg : Tg} {ik : Ik} {is ifs : List E} {own : List (Str × Nat)} (ie : SE g N p.C p.XR elt) (iq : ∀ (Wx : WX) (X : Cx) (sc : Scope) (a : E) (x : Expr), ifs = [a] → Gd g N ⟨p.C, p.XR, Wx⟩ X sc → chk g N sc a x = true → PT X x (tT ⟨p.C, p.XR, Wx⟩ a))
    (i1 : ∀ (a : E) (x : Expr), is = [a] → chk g N sc a x = true → PE X x (tE p a)) (il : ∀ xs, chks g N sc is xs = true → PA X xs (tEs p is)) {A : Expr} (G : Gd g N p X sc)
    (h : chk g N sc (.lc elt tg ik is ifs own) A = true) : ∃ x t i cs scope pos wi, A = .ListComp x [⟨t, i, cs, 0⟩] scope pos ∧ PI X t i wi ∧ BlkOk X.N X.env.scope scope own ∧
      (∀ (s : Shared) (H : Hp) (C : Addr) (cl : List (Str × Addr)) (fp : List Addr), PG (X.blk s H scope (compEnvC scope cl C X.env) fp) t (tTg tg)) ∧
      (∀ (s : Shared) (H : Hp) (C : Addr) (cl : List (Str × Addr)) (fp : List Addr), PTs (X.blk s H scope (compEnvC scope cl C X.env) fp) cs (fun σ H Q => ∃ F S e, Rdy H F S e σ ∧ Vt ⟨p.C, p.XR, noW⟩ (smpL ifs) σ H F S (evTs p.C ifs e) Q)) ∧
      (∀ (s : Shared) (H : Hp) (C : Addr) (cl : List (Str × Addr)) (fp : List Addr), PE (X.blk s H scope (compEnvC scope cl C X.env) fp) x (tE ⟨p.C, p.XR, noW⟩ elt)) ∧ (∀ x, foldedSetIterable i X.env x = pure x) ∧
      ∀ σ H Q, tE p (.lc elt tg ik is ifs own) σ H Q → tLc wi (tTg tg) (fun σ H Q => ∃ F S e, Rdy H F S e σ ∧ Vt ⟨p.C, p.XR, noW⟩ (smpL ifs) σ H F S (evTs p.C ifs e) Q) (tE ⟨p.C, p.XR, noW⟩ elt) (own.map (·.2)) σ H Q := by
  cases A with
  | ListComp x gs scope pos =>
    unfold chk at h
    split at h
    · rename_i heq
      cases heq
      rename_i t i cs
      simp only [Bool.and_eq_true, Bool.or_eq_true, List.all_eq_true] at h
      obtain ⟨hp, hk, hb, ht, hs, hv, hx, hc, hm, hi⟩ := h
      have hN : X.N = N := G.hN
      have bok : BlkOk X.N X.env.scope scope own := by rw [hN, G.sc]; exact blkOk_by hb
      have hown : ∀ k, k ∈ tgSlots tg → k ∈ own.map (·.2) := fun k hk => List.contains_iff_mem.mp (hs k hk)
      -- the source is one's own, or the turns write nothing
      obtain ⟨vb, hvb, hmm⟩ : ∃ vb : Bool, (vb = true → ∀ a ∈ is, isV a = true) ∧ (vb = true ∨ (smp elt = true ∧ smpL ifs = true)) := by
        rcases hm with hm | hm
        · exact ⟨true, fun _ => hm, .inl rfl⟩
        · exact ⟨false, (fun z => by cases z), .inr hm⟩
      have hpi : PI X t i (tI p ik is vb) := by
        cases ik with
        | seq =>
          cases is with
          | nil => cases hi
          | cons a r =>
            simp only [chkOne, Bool.and_eq_true, List.isEmpty_iff] at hi
            obtain ⟨rfl, hi⟩ := hi
            exact pi_seq (i1 a i rfl hi) fun z => hvb z a (by simp)
        | _ =>
          simp only at hi
          split at hi
          · simp only [Bool.and_eq_true, decide_eq_true_eq] at hi
            obtain ⟨h1, h2, h3, h4, h5⟩ := hi
            refine pi_call G (by decide) (fun z => ?_) h1 h2 h3 h4 h5 (il _ h5)
            first
              | (rcases z with z | z <;> cases z; done)
              | (cases tg with
                | tup ts =>
                  cases t with
                  | Tuple es k q => exact ⟨es, k, q, rfl⟩
                  | _ => exact absurd ht Bool.false_ne_true
                | nm j => exact absurd hk Bool.false_ne_true)
          · cases hi
      refine ⟨x, t, i, cs, scope, pos, tI p ik is vb, rfl, hpi, bok, fun s H C cl fp => ?_, fun s H C cl fp => ?_, fun s H C cl fp => ?_, sole_pl hp X.env, fun σ H Q ⟨F, S, e, rd, q⟩ => ?_⟩
      · exact tg_ok (X := X.blk s H scope (compEnvC scope cl C X.env) fp) (fn := fun x => scope.names.lookup x == some .cell) hN G.nd G.calm (G.blk s H scope C cl fp).sc (fun _ z => z) tg t ht
      · exact pts_ok hc fun a x ha hx => iq noW _ _ a x ha (G.blk s H scope C cl fp) hx
      · exact (ie noW _ _ x (G.blk s H scope C cl fp) hx).1
      · simp only [ev] at q
        refine ⟨F, S, e, rd, ?_⟩
        cases hr : evs p.C is e with
        | ok xs e1 =>
          rw [hr, R.bind_ok] at q
          cases hds : itemsD ik xs with
          | none => rw [hds] at q; exact q.elim
          | some ds =>
            rw [hds] at q
            simp only at q
            refine ⟨ds, hds, fun vs H1 F1 S1' S2 J k' jok' Dd hDd => ?_⟩
            obtain ⟨S1, k, jok, nS1⟩ : ∃ S1 : AS, AfI vb σ H F S H1 F1 xs vs S1 e1 S2 ∧ Jok ds J (fun H F => RepL H F xs vs S1) ∧ ¬ S1 Dd := by
              refine ⟨fun a => S1' a ∧ H1 a ≠ none, ⟨k'.t, RepL.dom xs vs S1' k'.rep, fun z a q => k'.s1 z a q.1, fun z a q => k'.dj z a q.1, fun z a q => k'.n1 z a q.1⟩, fun H F i r => jok' H F i (RepL.mono xs vs _ _ r fun a q => q.1), fun q => q.2 hDd⟩
            have hz := items_len hds k.rep
            have hdD : H Dd = none := Classical.byContradiction fun z => k.t.ch.dom Dd z hDd
            generalize hown' : own.map (·.2) = ow at *
            cases hf : (lcGo (fun e => wipeE e ow) (asgT tg) (fun e => evTs p.C ifs e) (fun e => (ev p.C elt e).still) ds (wipeE e1 ow)).still with
            | ex x e' => 
              exfalso
              cases hl : lcGo (fun e => wipeE e ow) (asgT tg) (fun e => evTs p.C ifs e) (fun e => (ev p.C elt e).still) ds (wipeE e1 ow) <;> rw [hl] at hf <;> cases hf
            | bad => rw [hf] at q; exact q.elim
            | ok rr ef =>
              rw [hf, R.bind_ok] at q
              have hf := still_ok hf
              -- the invariant
              refine ⟨fun i m Hc => m = ds.length - i ∧ i ≤ ds.length ∧ ∃ Fc Sc ec av acc r, LcW ow vb σ H F S xs vs S1 Dd i Hc Fc Sc ec av acc ∧ wipeE ec ow = ec ∧
                  lcGo (fun e => wipeE e ow) (asgT tg) (fun e => evTs p.C ifs e) (fun e => (ev p.C elt e).still) (ds.drop i) ec = .ok r ef ∧ acc ++ r = rr, ⟨ds.length, rfl, Nat.zero_le _, ?_⟩, fun i m Hc ⟨em, hi, Fc, Sc, ec, av, acc, r, w, hwe, hgo, hacc⟩ => ?_⟩
              · have b := k.t.new (o := .lst []) rd.fd hDd
                have nD : ¬ S2 Dd := fun z => k.t.ch.fd Dd (k.t.s2 _ z) hDd
                refine ⟨_, S2, wipeE e1 ow, [], [], rr, ⟨⟨b.ch, b.er.wiped ow, b.s2, b.n2, fun z => by cases z⟩, RepL.newF hDd k.rep, k.dj, fun z a q => .inl (k.s1 z a q), upd_same, rfl, .inr rfl, nD, nS1, Nat.le_refl _⟩, wipeE_idem e1 ow, by rw [List.drop_zero]; exact hf, rfl⟩
              · by_cases hlt : i < ds.length
                · have hd := List.getElem?_eq_getElem hlt
                  obtain ⟨j1, j2⟩ := jok Hc Fc i w.src
                  obtain ⟨jg, jy⟩ := j1 _ hd
                  refine .inr ⟨jg, fun H' => ∃ m', m' < m ∧ m' = ds.length - (i + 1) ∧ i + 1 ≤ ds.length ∧ ∃ Fc Sc ec av acc r, LcW ow vb σ H F S xs vs S1 Dd (i + 1) H' Fc Sc ec av acc ∧ wipeE ec ow = ec ∧
                    lcGo (fun e => wipeE e ow) (asgT tg) (fun e => evTs p.C ifs e) (fun e => (ev p.C elt e).still) (ds.drop (i + 1)) ec = .ok r ef ∧ acc ++ r = rr, fun H' z => z, fun x Hy hy => ?_⟩
                  obtain ⟨y1, y2⟩ := jy x Hy hy
                  rw [List.drop_eq_getElem_cons hlt] at hgo
                  simp only [lcGo] at hgo
                  cases he : asgT tg ds[i] ec with
                  | none => rw [he] at hgo; cases hgo
                  | some e1' =>
                    rw [he] at hgo
                    simp only at hgo
                    refine lc_turn rd.fd hdD w y1 (y2 w.A.ch.fd) he (Nat.lt_of_le_of_lt w.len (Nat.lt_of_lt_of_le hlt hz)) hown hv hmm ?_
                    cases ht : evTs p.C ifs e1' with
                    | ok b e2 =>
                      rw [ht, R.bind_ok] at hgo
                      cases b with
                      | true =>
                        rw [if_pos rfl] at hgo
                        simp only
                        cases hy3 : (ev p.C elt e2).still with
                        | ok y e3 =>
                          rw [hy3, R.bind_ok] at hgo
                          simp only
                          intro H' F' S' av' w'
                          cases hn : lcGo (fun e => wipeE e ow) (asgT tg) (fun e => evTs p.C ifs e) (fun e => (ev p.C elt e).still) (ds.drop (i + 1)) (wipeE e3 ow) with
                          | ok r' ef' =>
                            rw [hn, R.bind_ok] at hgo
                            cases hgo
                            exact ⟨_, by omega, rfl, hlt, F', S', _, av', _, r', w', wipeE_idem e3 ow, hn, by rw [← hacc]; simp⟩
                          | ex x' e' => rw [hn] at hgo; cases hgo
                          | bad => rw [hn] at hgo; cases hgo
                        | ex x' e' => rw [hy3] at hgo; cases hgo
                        | bad => rw [hy3] at hgo; cases hgo
                      | false =>
                        rw [if_neg Bool.false_ne_true] at hgo
                        simp only
                        intro H' F' S' av' w'
                        exact ⟨_, by omega, rfl, hlt, F', S', _, av', _, r, w', wipeE_idem e2 ow, hgo, hacc⟩
                    | ex x' e' => rw [ht] at hgo; cases hgo
                    | bad => rw [ht] at hgo; cases hgo
                · have ei : i = ds.length := by omega
                  refine .inl ⟨(jok Hc Fc i w.src).2 (by omega), ?_⟩
                  rw [ei, List.drop_length] at hgo
                  simp only [lcGo] at hgo
                  cases hgo
                  rw [List.append_nil] at hacc
                  subst hacc
                  have er : ERs Hc Fc ef σ Sc := by rw [← hwe]; exact w.A.er.unwipe
                  refine q (.ref Dd) Hc Fc (fun a => a = Dd) Sc ⟨w.A.ch, ⟨Dd, av, rfl, ?_, w.rep, .inr ⟨rfl, w.hD, rfl⟩⟩, er, fun _ a z => z ▸ w.fD, w.A.s2, w.A.n2, fun _ a z s => w.nD (z ▸ s), fun _ a z => .inr (z ▸ hdD), fun z => by cases z⟩
                  rw [w.rep.len]
                  exact Nat.le_trans w.len (Nat.le_trans hi hz)
        | ex x e1 => rw [hr] at q; exact q
        | bad => rw [hr] at q; exact q
    · exact absurd h Bool.false_ne_true
  | _ => exact absurd h Bool.false_ne_true
variable {C : Orc} {XR : Hp → AS → D → Value → Option Addr → Prop}
structure SL (g : Tab) (N : List Str) (C : Orc) (XR : Hp → AS → D → Value → Option Addr → Prop) (l : List E) : Prop where
  fes : ∀ (Wx : WX) (X : Cx) (sc : Scope) (xs : List Expr), Gd g N ⟨C, XR, Wx⟩ X sc → chks g N sc l xs = true → PA X xs (tEs ⟨C, XR, Wx⟩ l)
  fas : ∀ (Wx : WX) (X : Cx) (sc : Scope) (xs : List Expr), Gd g N ⟨C, XR, Wx⟩ X sc → chkA g N sc l xs = true → PA X xs (tA ⟨C, XR, Wx⟩ l)
  fks : ∀ (Wx : WX) (X : Cx) (sc : Scope) (ks : List Str) (xs : List Keyword), Gd g N ⟨C, XR, Wx⟩ X sc → chkK g N sc l ks xs = true → PK X xs (tA ⟨C, XR, Wx⟩ l)
  one : ∀ a, l = [a] → SE g N C XR a
theorem pk_none {a : E} (h : ∀ i, a ≠ .pk i) : pk? a = none := by
  cases a <;> first | rfl | exact absurd rfl (h _)
mutual
theorem snd : ∀ x : E, SE g N C XR x
  | .cst d => fun Wx X sc A G h => by
    have hp := snd_cst d G h
    cases A with
    | Constant c k pos => exact se_plain hp (fun _ => rfl) rfl
    | _ => exact absurd h Bool.false_ne_true
  | .nm i => fun Wx X sc A G h => by
    have hp := snd_nm i G h
    cases A with
    | Name c pos => exact se_plain hp (fun _ => rfl) rfl
    | _ => exact absurd h Bool.false_ne_true
  | .pk i => fun Wx X sc A G h => by
    have hp := snd_pk i G h
    cases A with
    | Name c pos => exact se_plain hp (fun _ => rfl) rfl
    | _ => exact absurd h Bool.false_ne_true
  | .mv i => fun Wx X sc A G h => by
    have hp := snd_mv i G h
    cases A with
    | Name c pos => exact se_plain hp (fun _ => rfl) rfl
    | _ => exact absurd h Bool.false_ne_true
  | .gc y d => fun Wx X sc A G h => by
    have hp := snd_gc y d G h
    cases A with
    | Name c pos => exact se_plain hp (fun _ => rfl) rfl
    | _ => exact absurd h Bool.false_ne_true
  | .bin o a b => fun Wx X sc A G h => snd_bin (p := ⟨C, XR, Wx⟩) (snd a) (snd b) G h
  | .neg a => fun Wx X sc A G h => snd_neg (p := ⟨C, XR, Wx⟩) (snd a) G h
  | .cmp o a b => fun Wx X sc A G h => snd_cmp (p := ⟨C, XR, Wx⟩) (snd a) (snd b) G h
  | .chn o1 o2 a b c => fun Wx X sc A G h => snd_chn (p := ⟨C, XR, Wx⟩) (snd a) (snd b) (snd c) G h
  | .isn n a => fun Wx X sc A G h => snd_isn (p := ⟨C, XR, Wx⟩) (snd a) G h
  | .and a b => fun Wx X sc A G h => snd_and (p := ⟨C, XR, Wx⟩) (snd a) (snd b) G h
  | .or a b => fun Wx X sc A G h => snd_or (p := ⟨C, XR, Wx⟩) (snd a) (snd b) G h
  | .not a => fun Wx X sc A G h => snd_not (p := ⟨C, XR, Wx⟩) (snd a) G h
  | .ite c a b => fun Wx X sc A G h => snd_ite (p := ⟨C, XR, Wx⟩) (snd c) (snd a) (snd b) G h
  | .ix a i => fun Wx X sc A G h => snd_ix (p := ⟨C, XR, Wx⟩) (snd a) (snd i) G h
  | .slc fl fh a lo hi => fun Wx X sc A G h => snd_slc (p := ⟨C, XR, Wx⟩) (snd a) (snd lo) (snd hi) G h
  | .tup es => fun Wx X sc A G h => snd_tup (p := ⟨C, XR, Wx⟩) (fun xs hx => (sndL es).fes Wx X sc xs G hx) G h
  | .lst es => fun Wx X sc A G h => snd_lst (p := ⟨C, XR, Wx⟩) (fun xs hx => (sndL es).fes Wx X sc xs G hx) G h
  | .lc elt tg ik is ifs own => fun Wx X sc A G h => by
    obtain ⟨x, t, i, cs, scope, pos, wi, rfl, h1, h2, h3, h4, h5, h6, h7⟩ := snd_lc (p := ⟨C, XR, Wx⟩) (snd elt) (fun Wx' X' sc' a x ha G' hx => ((sndL ifs).one a ha Wx' X' sc' x G' hx).2.1) (fun a x ha hx => ((sndL is).one a ha Wx X sc x G hx).1) (fun xs hx => (sndL is).fes Wx X sc xs G hx) G h
    exact se_plain (pe_weak (pe_lc G.calm (G.hN ▸ G.nd) h1 h2 h3 h4 h5 h6) h7) (fun _ => rfl) rfl
  | .cal f es => fun Wx X sc A G h => snd_cal (p := ⟨C, XR, Wx⟩) (fun xs hx => (sndL es).fas Wx X sc xs G hx) G h
  | .cak f es ks zs perm => fun Wx X sc A G h => snd_cak (p := ⟨C, XR, Wx⟩) (fun xs hx => (sndL es).fas Wx X sc xs G hx) (fun xs hx => (sndL zs).fks Wx X sc ks xs G hx) G h
  | .b1 f a => fun Wx X sc A G h => snd_b1 (p := ⟨C, XR, Wx⟩) (snd a) G h
  | .b2 f a b => fun Wx X sc A G h => snd_b2 (p := ⟨C, XR, Wx⟩) (snd a) (snd b) G h
  | .isi tp ts a => fun Wx X sc A G h => snd_isi (p := ⟨C, XR, Wx⟩) (snd a) G h
theorem sndL : ∀ es : List E, SL g N C XR es
  | [] => ⟨fun Wx X sc xs G h => by
      simp only [chks, List.isEmpty_iff] at h
      subst h
      exact pa_es_nil, fun Wx X sc xs G h => by
      simp only [chkA, List.isEmpty_iff] at h
      subst h
      exact pa_a_nil, fun Wx X sc ks xs G h => by
      simp only [chkK, Bool.and_eq_true, List.isEmpty_iff] at h
      obtain ⟨_, rfl⟩ := h
      exact pk_a_nil, fun a h => by cases h⟩
  | a :: es => by
    have ia : SE g N C XR a := snd a
    have il : SL g N C XR es := sndL es
    refine ⟨fun Wx X sc xs G h => ?_, fun Wx X sc xs G h => ?_, fun Wx X sc ks xs G h => ?_, fun b h => ?_⟩
    · cases xs with
      | nil => cases h
      | cons x xs =>
        simp only [chks, Bool.and_eq_true] at h
        obtain ⟨hp, hv, hx, hr⟩ := h
        exact pa_es_cons hp hv (ia Wx X sc x G hx).1 (il.fes Wx X sc xs G hr)
    · cases xs with
      | nil => cases h
      | cons x xs =>
        simp only [chkA, Bool.and_eq_true, Bool.or_eq_true] at h
        obtain ⟨hp, hv, hx, hr⟩ := h
        have ir := il.fas Wx X sc xs G hr
        by_cases hk : ∃ i, a = .pk i
        · obtain ⟨i, rfl⟩ := hk
          cases x with
          | Name y pos => exact pa_a_slot hp (pe_nm G hx) ir
          | _ => exact absurd hx Bool.false_ne_true
        · have hn := pk_none (a := a) fun i z => hk ⟨i, z⟩
          rw [hn] at hv
          exact pa_a_val hp (hv.resolve_left fun z => by cases z) hn (ia Wx X sc x G hx).1 ir
    · cases ks with
      | nil => cases xs <;> cases h
      | cons k kr =>
        cases xs with
        | nil => cases h
        | cons x xs =>
          obtain ⟨w, v, q⟩ := x
          simp only [chkK, Bool.and_eq_true, Bool.or_eq_true, decide_eq_true_eq] at h
          obtain ⟨rfl, hp, hv, hx, hr⟩ := h
          have ir := il.fks Wx X sc kr xs G hr
          by_cases hk : ∃ i, a = .pk i
          · obtain ⟨i, rfl⟩ := hk
            cases v with
            | Name y pos => exact pk_a_slot (pe_nm G hx) ir
            | _ => exact absurd hx Bool.false_ne_true
          · have hn := pk_none (a := a) fun i z => hk ⟨i, z⟩
            rw [hn] at hv
            exact pk_a_val (hv.resolve_left fun z => by cases z) hn (ia Wx X sc v G hx).1 ir
    · have h1 := List.cons.inj h
      rw [← h1.1]
      exact ia
end
end
end Vm
namespace Vm
open PySem PySem.Spec L2
mutual
/-- the slots that are stored -/
def asgd : S → List Nat
  | .asg t _ => tgSlots t
  | .aug i _ _ => [i]
  | .iff _ a b => asgdL a ++ asgdL b
  | .whl _ b => asgdL b
  | .for_ t _ _ b => tgSlots t ++ asgdL b
  | _ => []
def asgdL : List S → List Nat
  | [] => []
  | s :: r => asgd s ++ asgdL r
end
/-! ### the check -/
/-- does the comprehension take its name's store with it -/
def swL (sc : Scope) (v t : Expr) : Bool := match v with
  | .ListComp _ _ s _ | .SetComp _ _ s _ | .DictComp _ _ _ s _ => (match t with
    | .Name x pos => sc.names.lookup x == some .local && pos.line == v.pos.line && !(s.names.any fun (n, k) => n == x && (k == .local || k == .cell))
    | _ => false)
  | _ => false
theorem swL_ok {v t : Expr} {l : Nat} {env : Env} (hk : env.scope.kind = .function) : swapsWith v (some t) l env = pure (swL env.scope v t) := by
  have hb : env.blockKind = .function := by unfold Env.blockKind; rw [hk]; rfl
  have kk : ∀ x, env.kindOf x = env.scope.names.lookup x := fun _ => rfl
  cases v <;> first
    | rfl
    | (cases t <;> first
      | rfl
      | (unfold swapsWith swL
         simp only [hb, kk]
         rfl))
def isSt : Expr → Bool
  | .Starred .. => true
  | _ => false
def swNames (sc : Scope) (ts : List Expr) : List Str := ts.filterMap fun
  | .Name id pos => if (sc.names.lookup id == some .local && pos.line == (ts.head?.map (·.pos.line)).getD 0) = true then some id else none
  | _ => none
def swK2 (sc : Scope) (ts vs : List Expr) : Option (Option (List Str)) :=
  if (!(ts.length == 2 || ts.length == 3) || vs.length != ts.length) = true then some none
  else if vs.any isSt = true then some none
  else if ((swNames sc ts).length != ts.length || (swNames sc ts).eraseDups.length != (swNames sc ts).length) = true then some none
  else if vs.all (foldedForSure 8) = true then some none
  else if vs.all (constantsAlone 8) = true then none
  else some (some (swNames sc ts))
def swK (sc : Scope) (T V : Expr) : Option (Option (List Str)) := match T, V with
  | .Tuple ts _ _, .Tuple vs _ _ => swK2 sc ts vs
  | .List _ _, _ => none
  | _, _ => some none
theorem swK2_ok {ts vs : List Expr} {k k2 : Nat} {p p2 : Pos} {env : Env} (hk : env.scope.kind = .function) {r : Option (List Str)} (h : swK2 env.scope ts vs = some r) : swappedStores [.Tuple ts k p] (.Tuple vs k2 p2) env = pure r := by
  have hb : env.blockKind = .function := by unfold Env.blockKind; rw [hk]; rfl
  have e : swappedStores [.Tuple ts k p] (.Tuple vs k2 p2) env = (if (!(ts.length == 2 || ts.length == 3) || vs.length != ts.length || env.blockKind != .function) = true then pure none
      else if vs.any isSt = true then pure none
      else if ((swNames env.scope ts).length != ts.length || (swNames env.scope ts).eraseDups.length != (swNames env.scope ts).length) = true then pure none
      else if vs.all (foldedForSure 8) = true then pure none
      else if vs.all (constantsAlone 8) = true then (do let r ← unsupported "assign.tuple-of-constant-expressions:order-of-the-stores"; (fun (_ : PUnit) => pure (some (swNames env.scope ts))) r)
      else pure (some (swNames env.scope ts))) := rfl
  rw [e, hb]
  unfold swK2 at h
  split at h
  · rename_i hc
    cases h
    rw [if_pos (by simpa using hc)]
  · rename_i hc
    rw [if_neg (by simpa using hc)]
    split at h
    · rename_i hc2
      cases h
      rw [if_pos hc2]
    · rename_i hc2
      rw [if_neg hc2]
      split at h
      · rename_i hc3
        cases h
        rw [if_pos hc3]
      · rename_i hc3
        rw [if_neg hc3]
        split at h
        · rename_i hc4
          cases h
          rw [if_pos hc4]
        · rename_i hc4
          rw [if_neg hc4]
          split at h
          · cases h
          · rename_i hc5
            cases h
            rw [if_neg hc5]
theorem swK_ok {T V : Expr} {env : Env} (hk : env.scope.kind = .function) {r : Option (List Str)} (h : swK env.scope T V = some r) : swappedStores [T] V env = pure r := by
  cases T <;> first
    | (cases h; rfl)
    | (cases h; done)
    | skip
  · cases V <;> first
      | exact swK2_ok hk h
      | (cases h; rfl)
def chkIt (g : Tab) (N : List Str) (sc : Scope) (ik : Ik) (is : List E) (i : Expr) : Bool := match ik with
  | .seq => chkOne g N sc is i
  | ik => (match i with
    | .Call (.Name y _) xs [] _ => decide (y = ikname ik) && (okGl sc y && (g.free.contains y && (decide (xs.length = ikn ik) && chks g N sc is xs)))
    | _ => false)
def isCall : Expr → Bool
  | .Call .. => true
  | _ => false
def isTgE : Expr → Bool
  | .Name .. => true
  | .Tuple .. => true
  | _ => false
mutual
def chkS (g : Tab) (N : List Str) (sc : Scope) (L : List Nat) : S → Stmt → Bool
  | .asg t x, A => match A with
    | .Assign [T] V _ => isTgE T && (tgB N sc (fun _ => true) t T && ((tgSlots t).all (fun k => L.contains k) && (isV x && (chk g N sc x V && (swK sc T V).isSome))))
    | _ => false
  | .six i k v, A => match A with
    | .Assign [.Subscript (.Name o _) K _] V _ => okNm N sc i o && (pl K && (isV v && (chk g N sc v V && chk g N sc k K)))
    | _ => false
  | .aug i o x, A => match A with
    | .AugAssign (.Name y _) p X _ => decide (p = o) && (tgB N sc (fun _ => true) (.nm i) (.Name y ⟨0, 0, 0, 0⟩) && (L.contains i && (okNm N sc i y && chk g N sc x X)))
    | _ => false
  | .app i x, A => match A with
    | .Expr (.Call (.Attribute (.Name o _) m ap) [X] [] cp) _ => decide (m = "append") && (okNm N sc i o && ((ap.endLine == cp.line) && (pl X && (isV x && chk g N sc x X))))
    | _ => false
  | .ins i k x, A => match A with
    | .Expr (.Call (.Attribute (.Name o _) m ap) [K, X] [] cp) _ => decide (m = "insert") && (okNm N sc i o && ((ap.endLine == cp.line) && (pl K && (pl X && (isV k && (isV x && (chk g N sc k K && chk g N sc x X)))))))
    | _ => false
  | .exp x, A => match A with
    | .Expr X _ => isCall X && chk g N sc x X
    | _ => false
  | .iff c a b, A => match A with
    | .If C X Y _ => chk g N sc c C && (chkSs g N sc L a X && chkSs g N sc L b Y)
    | _ => false
  | .whl c b, A => match A with
    | .While C X [] _ => chk g N sc c C && chkSs g N sc L b X
    | _ => false
  | .for_ t ik is b, A => match A with
    | .For T I X [] _ => pl I && (isTgE T && (ikTg ik t && (tgB N sc (fun _ => true) t T && ((tgSlots t).all (fun k => L.contains k) && (is.all isV && (chkIt g N sc ik is I && chkSs g N sc L b X))))))
    | _ => false
  | .ret x, A => match A with
    | .Return (some X) _ => isV x && chk g N sc x X
    | _ => false
  | .retN, A => match A with
    | .Return none _ => true
    | _ => false
  | .brk, A => match A with
    | .Break _ => true
    | _ => false
  | .cnt, A => match A with
    | .Continue _ => true
    | _ => false
  | .pas, A => match A with
    | .Pass _ => true
    | _ => false
def chkSs (g : Tab) (N : List Str) (sc : Scope) (L : List Nat) : List S → List Stmt → Bool
  | [], xs => xs.isEmpty
  | s :: r, xs => match xs with
    | x :: xr => chkS g N sc L s x && chkSs g N sc L r xr
    | [] => false
end
/-! ### what stands behind a statement -/
structure AfS (L : List Nat) (σ σ' : Sl) (H : Hp) (F S : AS) (H' : Hp) (F' : AS) (e' : Nv) (S' : AS) : Prop where
  t : AftT false σ' H F S H' F' e' S'
  same : ∀ j, j ∉ L → σ'[j]? = σ[j]?
  len : σ'.length = σ.length
def Vs (p : Pm) (L : List Nat) (σ : Sl) (H : Hp) (F S : AS) (r : R Fl) (D : Ends) : Prop := match r with
  | .ok .next e' => ∀ σ' H' F' S', AfS L σ σ' H F S H' F' e' S' → D.nx σ' H'
  | .ok .brk e' => ∀ σ' H' F' S', AfS L σ σ' H F S H' F' e' S' → D.bk σ' H'
  | .ok .cnt e' => ∀ σ' H' F' S', AfS L σ σ' H F S H' F' e' S' → D.ct σ' H'
  | .ok (.ret d) e' => ∀ v σ' H' F' S1 S', AfS L σ σ' H F S H' F' e' S' → Rep H' F' d v S1 → Sb S1 F' → Dj S1 S' → Nw S H S1 → D.rt v H'
  | .ex x e' => ∀ cls dd σ' H' F' S', AfS L σ σ' H F S H' F' e' S' → p.XR H' F' x cls dd → p.Wx cls dd σ' H'
  | .bad => False
def tS (p : Pm) (W : Nat) (L : List Nat) (s : S) : TS := fun D σ H => ∃ F S e, Rdy H F S e σ ∧ Vs p L σ H F S (exS p.C W s e) D
def tSs (p : Pm) (W : Nat) (L : List Nat) (s : List S) : TS := fun D σ H => ∃ F S e, Rdy H F S e σ ∧ Vs p L σ H F S (exs p.C W s e) D
structure GdS (g : Tab) (N : List Str) (p : Pm) (X : Cx) (sc : Scope) : Prop where
  G : Gd g N p X sc
  kd : sc.kind = .function
  ps : PassesOwn (model X.prog X.w) X.A X.env X.xe
  fn : ∀ x, X.fn x = true
section
variable {g : Tab} {N : List Str} {p : Pm} {X : Cx} {sc : Scope} {L : List Nat} {W : Nat} {Z : Ends}
variable {σ σ' σ1 : Sl} {H H' H1 : Hp} {F F' F1 S0 S' S1 S2 : AS} {e e' e1 : Nv} {vb sb : Bool}
theorem AfS.refl (r : Rdy H F S0 e σ) : AfS L σ σ H F S0 H F e S0 := ⟨r.refl.weak, fun _ _ => rfl, rfl⟩
theorem AfS.trans (fd : ∀ a, F a → H a ≠ none) (a : AfS L σ σ1 H F S0 H1 F1 e1 S1) (b : AfS L σ1 σ' H1 F1 S1 H' F' e' S') : AfS L σ σ' H F S0 H' F' e' S' :=
  ⟨(a.t.trans fd b.t).weak, fun j hj => (b.same j hj).trans (a.same j hj), b.len.trans a.len⟩
theorem AftT.s (a : AftT sb σ H F S0 H1 F1 e1 S1) : AfS L σ σ H F S0 H1 F1 e1 S1 := ⟨a.weak, fun _ _ => rfl, rfl⟩
theorem Vs.pre {r : R Fl} (fd : ∀ a, F a → H a ≠ none) (a : AfS L σ σ1 H F S0 H1 F1 e1 S1) (h : Vs p L σ H F S0 r Z) : Vs p L σ1 H1 F1 S1 r Z := by
  cases r with
  | ok fl e' =>
    cases fl with
    | next => exact fun σ' H' F' S' b => h σ' H' F' S' (a.trans fd b)
    | brk => exact fun σ' H' F' S' b => h σ' H' F' S' (a.trans fd b)
    | cnt => exact fun σ' H' F' S' b => h σ' H' F' S' (a.trans fd b)
    | ret d => exact fun v σ' H' F' T1 S' b r s dj n => h v σ' H' F' T1 S' (a.trans fd b) r s dj ((a.t.n2).trans a.t.ch n)
  | ex x e' => exact fun cls dd σ' H' F' S' b xr => h cls dd σ' H' F' S' (a.trans fd b) xr
  | bad => exact h
/-- an expression at a statement's head -/
theorem vs_bind {r : R D} {f : D → Nv → R Fl} {Q : VK} (h : Vs p L σ H F S0 (r.bind f) Z) (k : ∀ d e', r = .ok d e' → Vs p L σ H F S0 (f d e') Z → ∀ v H' F' S1 S2, Aft vb sb σ H F S0 H' F' d v S1 e' S2 → Q v H') : Vp p vb sb σ H F S0 r Q := by
  cases r with
  | ok d e' => exact k d e' rfl h
  | ex x e' => exact fun cls dd H' F' S2 a xr => h cls dd σ H' F' S2 ⟨a, fun _ _ => rfl, rfl⟩ xr
  | bad => exact h
theorem vs_bind_t {r : R Bool} {f : Bool → Nv → R Fl} {Q : Bool → Hp → Prop} (h : Vs p L σ H F S0 (r.bind f) Z) (k : ∀ d e', r = .ok d e' → Vs p L σ H F S0 (f d e') Z → ∀ H' F' S2, AftT sb σ H F S0 H' F' e' S2 → Q d H') : Vt p sb σ H F S0 r Q := by
  cases r with
  | ok d e' => exact k d e' rfl h
  | ex x e' => exact fun cls dd H' F' S2 a xr => h cls dd σ H' F' S2 ⟨a, fun _ _ => rfl, rfl⟩ xr
  | bad => exact h
theorem ps_weak {st : Stmt} {t t' : TS} (h : PS X st t) (w : ∀ D σ H, t' D σ H → t D σ H) : PS X st t' := ⟨fun pins s σ H D I q => h.run pins s σ H D I (w D σ H q)⟩
theorem pss_weak {st : List Stmt} {t t' : TS} (h : PSs X st t) (w : ∀ D σ H, t' D σ H → t D σ H) : PSs X st t' := ⟨fun pins s σ H D I q => h.run pins s σ H D I (w D σ H q)⟩
/-! ### small statements -/
theorem sd_ret {x : E} {st : Stmt} (G : GdS g N p X sc) (h : chkS g N sc L (.ret x) st = true) : PS X st (tS p W L (.ret x)) := by
  cases st with
  | Return o pos =>
    cases o with
    | none => exact absurd h Bool.false_ne_true
    | some A =>
      simp only [chkS, Bool.and_eq_true] at h
      refine ps_weak (ps_ret (snd x p.Wx X sc A G.G h.2).1) fun D σ H ⟨F, S, e, rd, q⟩ => ⟨F, S, e, rd, ?_⟩
      simp only [exS] at q
      exact vs_bind q fun d e' _ q v H' F' S1 S2 a => q v σ H' F' S1 S2 a.t.s a.rep (a.s1 h.1) (a.dj h.1) (a.n1 h.1)
  | _ => exact absurd h Bool.false_ne_true
theorem sd_retN {st : Stmt} (h : chkS g N sc L .retN st = true) : PS X st (tS p W L .retN) := by
  cases st with
  | Return o pos =>
    cases o with
    | none => exact ps_weak ps_retN fun D σ H ⟨F, S, e, rd, q⟩ => q .non σ H F nos S (AfS.refl rd) rfl sb_nos dj_nos fun _ z => z.elim
    | some A => exact absurd h Bool.false_ne_true
  | _ => exact absurd h Bool.false_ne_true
theorem sd_brk {st : Stmt} (h : chkS g N sc L .brk st = true) : PS X st (tS p W L .brk) := by
  cases st with
  | Break pos => exact ps_weak ps_break fun D σ H ⟨F, S, e, rd, q⟩ => q σ H F S (AfS.refl rd)
  | _ => exact absurd h Bool.false_ne_true
theorem sd_cnt {st : Stmt} (h : chkS g N sc L .cnt st = true) : PS X st (tS p W L .cnt) := by
  cases st with
  | Continue pos => exact ps_weak ps_continue fun D σ H ⟨F, S, e, rd, q⟩ => q σ H F S (AfS.refl rd)
  | _ => exact absurd h Bool.false_ne_true
theorem sd_pas {st : Stmt} (h : chkS g N sc L .pas st = true) : PS X st (tS p W L .pas) := by
  cases st with
  | Pass pos => exact ps_weak ps_pass fun D σ H ⟨F, S, e, rd, q⟩ => q σ H F S (AfS.refl rd)
  | _ => exact absurd h Bool.false_ne_true
theorem sd_exp {x : E} {st : Stmt} (G : GdS g N p X sc) (h : chkS g N sc L (.exp x) st = true) : PS X st (tS p W L (.exp x)) := by
  cases st with
  | Expr A pos =>
    simp only [chkS, Bool.and_eq_true] at h
    have hs : swapsWith A none pos.line X.env = pure false := by
      have h1 := h.1
      cases A <;> first | rfl | (cases h1)
    refine ps_weak (ps_expr (snd x p.Wx X sc A G.G h.2).1 hs) fun D σ H ⟨F, S, e, rd, q⟩ => ⟨F, S, e, rd, ?_⟩
    simp only [exS] at q
    exact vs_bind q fun d e' _ q v H' F' S1 S2 a => q σ H' F' S2 a.t.s
  | _ => exact absurd h Bool.false_ne_true
end
end Vm
namespace Vm
open PySem PySem.Spec L2
section
variable {g : Tab} {N : List Str} {p : Pm} {X : Cx} {sc : Scope} {L : List Nat} {W : Nat} {Z : Ends}
theorem sub_L {t : Tg} (h : (tgSlots t).all (fun k => L.contains k) = true) {j : Nat} (hj : j ∉ L) : j ∉ tgSlots t := fun z => hj (List.contains_iff_mem.mp (List.all_eq_true.mp h j z))
/-! ### name = value, (a, b) = value -/
theorem asg_rd {t : Tg} {x : E} (hv : isV x = true) (hL : (tgSlots t).all (fun k => L.contains k) = true) : ∀ D σ H, tS p W L (.asg t x) D σ H → tAsg (tE p x) (tTg t) D σ H := fun D σ H ⟨F, S, e, rd, q⟩ => by
  refine ⟨F, S, e, rd, ?_⟩
  simp only [exS] at q
  refine vs_bind q fun d e' _ q v H' F' S1 S2 a => ?_
  cases ha : asgT t d e' with
  | none => rw [ha] at q; exact q.elim
  | some e2 =>
    rw [ha] at q
    refine ⟨F', S1, S2, d, e', e2, a.rep, a.er, a.dj hv, ha, fun σ' hs hl er => ?_⟩
    exact q σ' H' F' _ ⟨⟨a.ch, er, fun x z => z.elim (a.s1 hv x) (a.s2 x), fun x z => z.elim (a.n1 hv x) (a.n2 x), fun z => by cases z⟩, fun j hj => hs j (sub_L hL hj), hl⟩
theorem isTg_pl {T : Expr} (h : isTgE T = true) : pl T = true := by
  cases T <;> first | rfl | cases h
theorem nodup_of_erase {α : Type} [BEq α] [LawfulBEq α] : ∀ {l : List α}, l.eraseDups.length = l.length → l.Nodup := by
  intro l
  induction l with
  | nil => intro _; exact List.nodup_nil
  | cons a r ih =>
    intro h
    rw [List.eraseDups_cons, List.length_cons, List.length_cons] at h
    have h1 : (r.filter fun b => !b == a).eraseDups.length ≤ (r.filter fun b => !b == a).length := by
      have : ∀ (n : Nat) (l : List α), l.length ≤ n → l.eraseDups.length ≤ l.length := by
        intro n
        induction n with
        | zero =>
          intro l hl
          cases l with
          | nil => simp
          | cons x r => simp at hl
        | succ n ihn =>
          intro l hl
          cases l with
          | nil => simp
          | cons x r =>
            rw [List.eraseDups_cons, List.length_cons, List.length_cons]
            have h2 := List.length_filter_le (fun b => !b == x) r
            have h3 := ihn (r.filter fun b => !b == x) (by simp at hl; omega)
            omega
      exact this _ _ (Nat.le_refl _)
    have h2 := List.length_filter_le (fun b => !b == a) r
    have h3 : (r.filter fun b => !b == a).length = r.length := by omega
    have h4 : r.filter (fun b => !b == a) = r := by
      have := List.length_filter_eq_length_iff.mp h3
      exact List.filter_eq_self.mpr this
    rw [h4] at h
    refine List.nodup_cons.mpr ⟨fun hm => ?_, ih (by omega)⟩
    have := List.filter_eq_self.mp h4 a hm
    simp at this
/-- a name of a target list -/
theorem name_of {sc : Scope} {ts : List Expr} {t : Expr} {x : Str} (h : (match t with
    | .Name id pos => if (sc.names.lookup id == some .local && pos.line == (ts.head?.map (·.pos.line)).getD 0) = true then some id else none
    | _ => none) = some x) : ∃ pos, t = .Name x pos ∧ sc.names.lookup x = some .local := by
  cases t <;> (first | (cases h; done) | skip)
  rename_i id pos
  simp only at h
  split at h
  · rename_i hc
    cases h
    simp only [Bool.and_eq_true, beq_iff_eq] at hc
    exact ⟨pos, rfl, hc.1⟩
  · cases h
theorem names_all {sc : Scope} {ts : List Expr} : ∀ {l : List Expr} {ns : List Str}, (l.filterMap fun t => (match t with
    | .Name id pos => if (sc.names.lookup id == some .local && pos.line == (ts.head?.map (·.pos.line)).getD 0) = true then some id else none
    | _ => none)) = ns → ns.length = l.length → ∀ (k : Nat) (x : Str), ns[k]? = some x → ∃ pos : Pos, l[k]? = some (Expr.Name x pos) ∧ sc.names.lookup x = some .local
  | [], ns, h, _, k, x, hk => by subst h; simp at hk
  | t :: l, ns, h, hl, k, x, hk => by
    rw [List.filterMap_cons] at h
    split at h
    · rename_i hn
      exfalso
      have h2 := List.length_filterMap_le (fun t => (match t with
        | .Name id pos => if (sc.names.lookup id == some .local && pos.line == (ts.head?.map (·.pos.line)).getD 0) = true then some id else none
        | _ => none)) l
      rw [h, hl] at h2
      simp at h2
      omega
    · rename_i y hy
      subst h
      cases k with
      | zero =>
        have : y = x := by simpa using hk
        subst this
        obtain ⟨pos, e, hx⟩ := name_of hy
        exact ⟨pos, by rw [e]; rfl, hx⟩
      | succ k =>
        obtain ⟨pos, e, hx⟩ := names_all (l := l) rfl (by simpa using hl) k x (by simpa using hk)
        exact ⟨pos, by simpa using e, hx⟩
theorem swK2_some {sc : Scope} {ts vs : List Expr} {names : List Str} (h : swK2 sc ts vs = some (some names)) : (ts.length = 2 ∨ ts.length = 3) ∧ names.length = ts.length ∧ names.Nodup ∧ ∀ (k : Nat) (x : Str), names[k]? = some x → ∃ pos : Pos, ts[k]? = some (Expr.Name x pos) ∧ sc.names.lookup x = some .local := by
  unfold swK2 at h
  split at h
  · cases h
  · rename_i h1
    split at h
    · cases h
    · split at h
      · cases h
      · rename_i h3
        split at h
        · cases h
        · split at h
          · cases h
          · cases h
            have h1 : (ts.length = 2 ∨ ts.length = 3) := by
              simp only [Bool.or_eq_true, Bool.not_eq_true', Bool.or_eq_false_iff, beq_eq_false_iff_ne, bne_iff_ne, not_or, not_and] at h1
              have := h1.1
              by_cases h2 : ts.length = 2
              · exact .inl h2
              · exact .inr (Classical.byContradiction fun h4 => this h2 h4)
            have h3 : (swNames sc ts).length = ts.length ∧ (swNames sc ts).eraseDups.length = (swNames sc ts).length := by
              simp only [Bool.or_eq_true, bne_iff_ne, not_or, Decidable.not_not] at h3
              exact h3
            exact ⟨h1, h3.1, nodup_of_erase h3.2, names_all rfl h3.1⟩
/-- names stored one behind another -/
def setσ : List Nat → List V → Sl → Sl
  | i :: is, v :: vs, σ => setσ is vs (σ.set i (some v))
  | _, _, σ => σ
theorem stores_ok (hN : X.N.Nodup) {H : Hp} {pins : List (Addr × Obj)} : ∀ {ns : List Str} {is : List Nat} {vs : List V} {us : List Value} {σ : Sl} {s : Shared}, ns.length = is.length → ns.length = vs.length → (∀ (k : Nat) (x : Str) (i : Nat), ns[k]? = some x → is[k]? = some i → X.N[i]? = some x ∧ X.env.scope.names.lookup x = some .local) → Vals vs us → L2.Inv X pins σ H s →
    wpAny (model X.prog X.w) X.A (assignInOrder (ns.map fun n => bindName X.env n) us) (fun _ s' => L2.Inv X pins (setσ is vs σ) H s') X.xe s
  | [], is, vs, us, σ, s, h1, h2, _, r, I => by
    cases is with
    | nil => cases vs with
      | nil => exact PyProof.Rows.assignInOrder_nil I
      | cons v vs => cases h2
    | cons i is => cases h1
  | x :: ns, is, vs, us, σ, s, h1, h2, h3, r, I => by
    cases is with
    | nil => cases h1
    | cons i is =>
      cases vs with
      | nil => cases h2
      | cons v vs =>
        cases r with
        | cons r1 r2 =>
          obtain ⟨a, b⟩ := h3 0 x i rfl rfl
          refine PyProof.Rows.assignInOrder_cons (wpAny_bindName (store_ok I hN a (.inl b) r1 (fun s1 I1 => ?_) (.inr b)))
          exact stores_ok (is := is) (vs := vs) hN (by simpa using h1) (by simpa using h2) (fun k y j hk hj => h3 (k + 1) y j (by simpa using hk) (by simpa using hj)) r2 I1
theorem tgs_names {fn : Str → Bool} : ∀ {ts : List Tg} {es : List Expr}, tgsB N sc fn ts es = true → (∀ (k : Nat) (e : Expr), es[k]? = some e → ∃ (x : Str) (pos : Pos), e = Expr.Name x pos) → ∃ is : List Nat, ts = is.map Tg.nm ∧ is.length = es.length ∧ ∀ (k : Nat) (x : Str) (pos : Pos) (i : Nat), es[k]? = some (Expr.Name x pos) → is[k]? = some i → N[i]? = some x
  | [], [], _, _ => ⟨[], rfl, rfl, fun k x pos i h => by simp at h⟩
  | [], _ :: _, h, _ => by cases h
  | _ :: _, [], h, _ => by cases h
  | t :: ts, e :: es, h, hn => by
    simp only [tgsB, Bool.and_eq_true] at h
    obtain ⟨is, h1, h2, h3⟩ := tgs_names h.2.2 fun k e he => hn (k + 1) e (by simpa using he)
    obtain ⟨x, pos, rfl⟩ := hn 0 e rfl
    have h4 := h.2.1
    cases t with
    | tup ts => exact absurd h4 Bool.false_ne_true
    | nm i =>
      simp only [tgB, Bool.and_eq_true, decide_eq_true_eq] at h4
      refine ⟨i :: is, by rw [h1]; rfl, by rw [List.length_cons, List.length_cons, h2], fun k y q j hk hj => ?_⟩
      cases k with
      | zero =>
        have e1 : x = y := by
          have hk' : some (Expr.Name x pos) = some (Expr.Name y q) := hk
          injection hk' with hk'
          injection hk'
        have e2 : i = j := by simpa using hj
        rw [← e1, ← e2]; exact h4.1
      | succ k => exact h3 k y q j (by simpa using hk) (by simpa using hj)
def setE : List Nat → List D → Nv → Nv
  | i :: is, d :: ds, e => setE is ds (e.set i (some d))
  | _, _, e => e
theorem asgL_nm : ∀ {is : List Nat} {ds : List D} {e e' : Nv}, asgL (is.map Tg.nm) ds e = some e' → ds.length = is.length ∧ e' = setE is ds e ∧ ∀ i ∈ is, i < e.length
  | [], [], e, e', h => by cases h; exact ⟨rfl, rfl, fun i hi => by simp at hi⟩
  | [], _ :: _, e, e', h => by cases h
  | _ :: _, [], e, e', h => by cases h
  | i :: is, d :: ds, e, e', h => by
    simp only [List.map_cons, asgL, asgT] at h
    split at h
    · rename_i hi
      obtain ⟨a, b, c⟩ := asgL_nm (show asgL (is.map Tg.nm) ds (e.set i (some d)) = some e' from h)
      refine ⟨by rw [List.length_cons, List.length_cons, a], b, fun j hj => ?_⟩
      rcases List.mem_cons.mp hj with rfl | hj
      · exact hi
      · simpa using c j hj
    · cases h
theorem setE_set : ∀ (is : List Nat) (ds : List D) (e : Nv) (i : Nat) (d : D), i ∉ is → setE is ds (e.set i (some d)) = (setE is ds e).set i (some d)
  | [], _, _, _, _, _ => rfl
  | _ :: _, [], _, _, _, _ => rfl
  | j :: is, x :: ds, e, i, d, h => by
    show setE is ds ((e.set i (some d)).set j (some x)) = (setE is ds (e.set j (some x))).set i (some d)
    rw [List.set_comm _ _ (fun z : i = j => h (by simp [z])), setE_set is ds _ i d fun z => h (by simp [z])]
theorem setσ_set : ∀ (is : List Nat) (vs : List V) (σ : Sl) (i : Nat) (v : V), i ∉ is → setσ is vs (σ.set i (some v)) = (setσ is vs σ).set i (some v)
  | [], _, _, _, _, _ => rfl
  | _ :: _, [], _, _, _, _ => rfl
  | j :: is, x :: ds, e, i, d, h => by
    show setσ is ds ((e.set i (some d)).set j (some x)) = (setσ is ds (e.set j (some x))).set i (some d)
    rw [List.set_comm _ _ (fun z : i = j => h (by simp [z])), setσ_set is ds _ i d fun z => h (by simp [z])]
/-- from the right is from the left -/
theorem setσ_rev : ∀ (is : List Nat) (vs : List V) (σ : Sl), is.Nodup → is.length = vs.length → setσ is.reverse vs.reverse σ = setσ is vs σ := by
  intro is
  induction is with
  | nil => intro vs σ _ h; cases vs <;> rfl
  | cons i is ih =>
    intro vs σ nd h
    cases vs with
    | nil => cases h
    | cons v vs =>
      have app : ∀ (as : List Nat) (xs : List V) (σ : Sl) (i : Nat) (v : V), as.length = xs.length → setσ (as ++ [i]) (xs ++ [v]) σ = (setσ as xs σ).set i (some v) := by
        intro as
        induction as with
        | nil => intro xs σ i v h; cases xs with
          | nil => rfl
          | cons _ _ => cases h
        | cons a as ih2 => intro xs σ i v h; cases xs with
          | nil => cases h
          | cons x xs => exact ih2 xs _ i v (by simpa using h)
      rw [List.reverse_cons, List.reverse_cons, app _ _ _ _ _ (by simpa using h), ih vs σ (List.nodup_cons.mp nd).2 (by simpa using h)]
      exact (setσ_set is vs σ i v (List.nodup_cons.mp nd).1).symm
theorem setσ_len : ∀ (is : List Nat) (vs : List V) (σ : Sl), (setσ is vs σ).length = σ.length
  | [], _, _ => rfl
  | _ :: _, [], _ => rfl
  | i :: is, v :: vs, σ => by
    show (setσ is vs (σ.set i (some v))).length = _
    rw [setσ_len, List.length_set]
theorem setσ_out : ∀ (is : List Nat) (vs : List V) (σ : Sl) (j : Nat), j ∉ is → (setσ is vs σ)[j]? = σ[j]?
  | [], _, _, _, _ => rfl
  | _ :: _, [], _, _, _ => rfl
  | i :: is, v :: vs, σ, j, h => by
    show (setσ is vs (σ.set i (some v)))[j]? = _
    rw [setσ_out is vs _ j fun z => h (by simp [z]), List.getElem?_set_ne fun z : i = j => h (by simp [z])]
theorem ERs.setAll {H : Hp} {F : AS} : ∀ {is : List Nat} {ds : List D} {vs : List V} {e : Nv} {σ : Sl} {S1 S : AS}, ERs H F e σ S → RepL H F ds vs S1 → Dj S1 S → (∀ i ∈ is, i < e.length) → ERs H F (setE is ds e) (setσ is vs σ) (fun a => S1 a ∨ S a)
  | [], ds, vs, e, σ, S1, S, h, r, dj, hi => h.mono fun _ z => .inr z
  | i :: is, [], vs, e, σ, S1, S, h, r, dj, hi => by
    rw [show vs = [] from r]
    exact h.mono fun _ z => .inr z
  | i :: is, d :: ds, vs, e, σ, S1, S, h, r, dj, hi => by
    obtain ⟨v, t, T1, T2, rfl, r1, r2, d12, t1, t2⟩ := r
    have h2 := h.put (hi i (by simp)) r1 (dj.mono t1 Sb.refl)
    refine (ERs.setAll (is := is) h2 r2 (fun a x y => y.elim (fun y => d12 a y x) (dj a (t2 a x))) fun j hj => by simpa using hi j (by simp [hj])).mono fun a z => ?_
    rcases z with z | z | z
    · exact .inl (t2 a z)
    · exact .inl (t1 a z)
    · exact .inr z
theorem slots_nm : ∀ is : List Nat, tgSlots.tgsSlots (is.map Tg.nm) = is
  | [] => rfl
  | i :: is => by
    show [i] ++ tgSlots.tgsSlots (is.map Tg.nm) = i :: is
    rw [slots_nm is]; rfl
/-- the slots of two or three names, stored from the right -/
theorem sd_asg {t : Tg} {x : E} {st : Stmt} (G : GdS g N p X sc) (h : chkS g N sc L (.asg t x) st = true) : PS X st (tS p W L (.asg t x)) := by
  cases st with
  | Assign ts V pos =>
    unfold chkS at h
    split at h
    · rename_i heq
      cases heq
      rename_i T
      simp only [Bool.and_eq_true] at h
      obtain ⟨hT, ht, hL, hv, hx, hw⟩ := h
      have hk : X.env.scope.kind = .function := by rw [G.G.sc]; exact G.kd
      have he := (snd x p.Wx X sc V G.G hx).1
      have hg := tg_ok (X := X) (fn := fun _ => true) G.G.hN G.G.nd G.G.calm G.G.sc (fun x _ => G.fn x) t T ht
      have hsw := swL_ok (v := V) (t := T) (l := pos.line) hk
      rw [G.G.sc] at hsw
      cases hb : swL sc V T with
      | true =>
        -- a comprehension with its name's store
        rw [hb] at hsw
        cases T with
        | Name y py =>
          cases t with
          | tup ts => exact absurd ht Bool.false_ne_true
          | nm i =>
            simp only [tgB, Bool.and_eq_true, decide_eq_true_eq] at ht
            cases V with
            | ListComp elt gs scope vp =>
              cases x with
              | lc elt' tg ik is ifs own =>
                obtain ⟨x', t', i', cs, scope', pos', wi, e', h1, h2, h3, h4, h5, h6, h7⟩ := snd_lc (p := p) (snd elt') (fun Wx' X' sc' a x ha G' hx => ((sndL ifs).one a ha Wx' X' sc' x G' hx).2.1) (fun a x ha hx => ((sndL is).one a ha p.Wx X sc x G.G hx).1) (fun xs hx => (sndL is).fes p.Wx X sc xs G.G hx) G.G hx
                cases e'
                have hyl : X.env.scope.names.lookup y = some .local := by
                  rw [G.G.sc]
                  simp only [swL, Bool.and_eq_true, beq_iff_eq] at hb
                  exact hb.1.1
                refine ps_weak (ps_setLc G.G.calm (G.G.hN ▸ G.G.nd) (by rw [G.G.hN]; exact ht.1) hyl hsw h1 h2 h3 h4 h5 h6) fun D σ H q => ?_
                obtain ⟨F, S, e, rd, q⟩ := asg_rd hv hL D σ H q
                refine h7 σ H _ ⟨F, S, e, rd, ?_⟩
                -- the name's store by its slot
                have hi : i < X.N.length := by rw [G.G.hN]; exact (List.getElem?_eq_some_iff.mp ht.1).1
                have conv : ∀ v H', tTg (.nm i) v σ H' D.nx → gName i v σ H' D.nx := fun v H' ⟨F, S1, S, d, e, e', r, er, dj, ha, q⟩ => by
                  simp only [asgT] at ha
                  split at ha
                  · rename_i hi
                    cases ha
                    exact q _ (fun j hj => List.getElem?_set_ne (by simpa [tgSlots] using fun z : i = j => hj (by simp [tgSlots, z]))) (List.length_set ..) (er.put hi r dj)
                  · cases ha
                cases hr : ev p.C (.lc elt' tg ik is ifs own) e with
                | ok d e1 => rw [hr] at q; exact fun v H' F' S1 S2 a => conv v H' (q v H' F' S1 S2 a)
                | ex y e1 => rw [hr] at q; exact q
                | bad => rw [hr] at q; exact q
              | _ => exact absurd hx Bool.false_ne_true
            | _ => first | (cases hb; done) | (cases x <;> exact absurd hx Bool.false_ne_true)
        | _ =>
          exfalso
          cases V <;> cases hb
      | false =>
        rw [hb] at hsw
        obtain ⟨r, hr⟩ := Option.isSome_iff_exists.mp hw
        have hr' := swK_ok (T := T) (V := V) (env := X.env) hk (by rw [G.G.sc]; exact hr)
        cases r with
        | none =>
          refine ps_weak (ps_asg he hg hsw hr' ?_) (asg_rd hv hL)
          exact asgE_pl (isTg_pl hT) [] X.env
        | some names =>
          -- two or three names
          cases T <;> (first | (cases hT; done) | skip)
          · cases V <;> cases hr
          rename_i ts k p0
          cases V <;> (first | (cases hr; done) | skip)
          rename_i vs k2 p2
          obtain ⟨h1, h2, h3, h4⟩ := swK2_some hr
          cases t with
          | nm i => exact absurd ht Bool.false_ne_true
          | tup tgs =>
            have hnm : ∀ (k : Nat) (e : Expr), ts[k]? = some e → ∃ (x : Str) (pos : Pos), e = Expr.Name x pos := fun k e he => by
              have hk : k < names.length := by rw [h2]; exact (List.getElem?_eq_some_iff.mp he).1
              obtain ⟨pos, h5, _⟩ := h4 k _ (List.getElem?_eq_getElem hk)
              rw [he] at h5
              cases h5
              exact ⟨_, pos, rfl⟩
            obtain ⟨is, rfl, h6, h7⟩ := tgs_names (fn := fun _ => true) (show tgsB N sc (fun _ => true) tgs ts = true from ht) hnm
            have hnd : is.Nodup := by
              rw [List.nodup_iff_pairwise_ne, List.pairwise_iff_getElem]
              intro a b ha hb hab hz
              have hna : a < names.length := by rw [h2, ← h6]; exact ha
              have hnb : b < names.length := by rw [h2, ← h6]; exact hb
              obtain ⟨pa, ea, _⟩ := h4 a _ (List.getElem?_eq_getElem hna)
              obtain ⟨pb, eb, _⟩ := h4 b _ (List.getElem?_eq_getElem hnb)
              have e1 := h7 a _ pa _ ea (List.getElem?_eq_getElem ha)
              have e2 := h7 b _ pb _ eb (List.getElem?_eq_getElem hb)
              rw [hz, e2] at e1
              have := (List.getElem_inj h3).mp (Option.some.inj e1)
              omega
            refine ⟨fun pins s σ H D I q => ?_⟩
            obtain ⟨F, S, e, rd, q⟩ := q
            rw [exec_Assign_arm]
            refine wpAny_bind (wpAny_standAt ?_)
            rw [show swapsWithSole [.Tuple ts k p0] (.Tuple vs k2 p2) pos.line X.env = pure false from hsw]
            refine wpAny_bind (wpAny_pure ?_)
            rw [if_neg (by decide)]
            simp only [exS] at q
            refine wpAny_bind (thn (he.run pins s σ H _ I ⟨F, S, e, rd, vs_bind (Q := fun v H' => ∀ u s1, L2.Inv X pins σ H' s1 → RelV v u → wpAny (model X.prog X.w) X.A (do assignStores X.env u (← swappedStores [.Tuple ts k p0] (.Tuple vs k2 p2) X.env) ((assignEach [.Tuple ts k p0] X.env).map (·.2))) (SP X pins D) X.xe s1) q fun d e' hev q v H' F' S1 S2 a u s1 I1 ru => ?_⟩) fun u s1 ⟨v, H', I1, ru, k⟩ => k u s1 I1 ru)
            rw [hr']
            refine wpAny_bind (wpAny_pure ?_)
            cases d <;> (first | exact q.elim | skip)
            rename_i ds
            cases ha : asgT (.tup (is.map Tg.nm)) (.tup ds) e' with
            | none => rw [ha] at q; exact q.elim
            | some e2 =>
              rw [ha] at q
              simp only at q
              obtain ⟨hl, rfl, hi⟩ := asgL_nm (show asgL (is.map Tg.nm) ds e' = some e2 from ha)
              obtain ⟨a', ws, rfl, z, l, r⟩ := a.rep.tup_inv
              cases ru
              obtain ⟨its, rv, hT', _⟩ := I1.tuple (.inl r)
              have hsz : names.length = its.toArray.size := by
                rw [List.size_toArray, ← rv.length, l.len, hl, h6, h2]
              show wpAny _ _ (do rule "assign.swapped-stores"; let items ← unpackItems (.ref a') names.length none; assignInOrder (names.reverse.map fun n => bindName X.env n) items.reverse; pure Flow.next) _ _ _
              rw [hsz]
              refine wpAny_bind (wpAny_rule (wpAny_bind (PyProof.Rows.unpackItems_tuple (I1.ok.hd G.G.calm) hT' fun h' hx' => ?_)))
              have I3 := I1.kept (h' := h') (t' := s1.toks) fun b o e => hx' b o (Nat.ne_of_lt (Heap.lt_size e)) e
              have hlw : is.length = ws.length := by rw [l.len, hl]
              refine wpAny_bind (thn (stores_ok (is := is.reverse) (vs := ws.reverse) (G.G.hN ▸ G.G.nd) (by simp [h2, h6]) (by simp [h2, ← hlw, h6]) (fun k x i hk hj => ?_) (by simpa using rv.reverse) I3) fun _ s4 I4 => wpAny_pure ?_)
              · have hkl : k < names.length := by
                  have := (List.getElem?_eq_some_iff.mp hk).1
                  simpa using this
                rw [List.getElem?_reverse hkl] at hk
                rw [List.getElem?_reverse (by rw [h6, ← h2]; exact hkl)] at hj
                have e0 : is.length - 1 - k = names.length - 1 - k := by rw [h6, h2]
                rw [e0] at hj
                obtain ⟨pa, ea, hloc⟩ := h4 _ _ hk
                refine ⟨by rw [G.G.hN]; exact h7 _ _ pa _ ea hj, by rw [G.G.sc]; exact hloc⟩
              · rw [setσ_rev is ws σ hnd hlw] at I4
                refine ⟨_, H', I4, q _ H' F' _ ⟨⟨a.ch, ERs.setAll a.er l (a.dj hv) hi, fun x z => z.elim (a.s1 hv x) (a.s2 x), fun x z => z.elim (a.n1 hv x) (a.n2 x), fun z => by cases z⟩, fun j hj => setσ_out is ws σ j fun z => sub_L hL hj ?_, setσ_len is ws σ⟩⟩
                show j ∈ tgSlots.tgsSlots (is.map Tg.nm)
                rw [slots_nm]; exact z
    · exact absurd h Bool.false_ne_true
  | _ => exact absurd h Bool.false_ne_true
/-! ### slot[k] = value, slot.append(value), slot.insert(k, value) -/
/-- what a slot owns is changed -/
theorem own_upd {sb : Bool} {σ : Sl} {H H1 : Hp} {F F1 S S1 : AS} {e1 : Nv} {i : Nat} {xs ys : List D} {vs us : List V} {a : Addr} (fd : ∀ a, F a → H a ≠ none) (k : AftT sb σ H F S H1 F1 e1 S1) (he : e1[i]? = some (some (.lst true xs))) (hv : σ[i]? = some (some (.ref a))) (hH : H1 a = some (.lst vs))
    (r : RepL H1 F1 ys us nos) (hz : us.length ≤ sizeLine) : AftT false σ H F S (upd H1 a (.lst us)) F1 (e1.set i (some (.lst true ys))) S1 := by
  obtain ⟨v, T1, T2, hv', rp, er, dj, t1, t2⟩ := k.er.out he
  rw [hv] at hv'; cases hv'
  obtain ⟨a', vs', ea, z, l, c⟩ := rp
  cases ea
  obtain ⟨_, hH', hT⟩ : true = true ∧ H1 a = some (.lst vs') ∧ T1 a := by
    rcases c with ⟨c, _⟩ | c
    · cases c
    · exact c
  have fa : F1 a := k.s2 a (t1 a hT)
  have kp : ∀ x o, H1 x = some o → x ≠ a → upd H1 a (.lst us) x = some o := fun x o h n => by rw [upd_ne n]; exact h
  have dm : ∀ x, H1 x ≠ none → upd H1 a (.lst us) x ≠ none := fun x h => by
    by_cases hx : x = a
    · rw [hx, upd_same]; simp
    · rw [upd_ne hx]; exact h
  have na : ∀ x, ¬ F1 x ∨ T2 x → x ≠ a := fun x h e => by
    rcases h with h | h
    · exact h (e ▸ fa)
    · exact dj x (e ▸ hT) h
  have er2 : ERs (upd H1 a (.lst us)) F1 (e1.set i none) σ T2 := er.step (fun x o h n => kp x o h (na x n)) fun x h => .inl h
  have r2 : RepL (upd H1 a (.lst us)) F1 ys us nos := RepL.step ys us nos r (fun x o h n => kp x o h (na x (n.imp_right fun z => z.elim))) fun x h => .inl h
  have hi : i < (e1.set i none).length := by rw [List.length_set]; exact (List.getElem?_eq_some_iff.mp he).1
  have er3 := ERs.back (d := .lst true ys) er2 hi hv ⟨a, us, rfl, hz, r2, .inr ⟨rfl, upd_same, hT⟩⟩ dj
  rw [List.set_set] at er3
  refine ⟨⟨fun x o h ns => ?_, k.ch.new, k.ch.old, fun x h => dm x (k.ch.dom x h), fun x h => dm x (k.ch.fd x h)⟩, er3.mono fun x h => h.elim (t1 x) (t2 x), k.s2, k.n2, fun z => by cases z⟩
  exact kp x o (k.ch.keep x o h ns) fun e => (k.n2 a (t1 a hT)).elim (fun z => ns (e ▸ z)) fun z => by rw [e, z] at h; cases h
theorem slot_ref {H1 : Hp} {F1 S1 : AS} {e1 : Nv} {σ : Sl} {i : Nat} {xs : List D} (er : ERs H1 F1 e1 σ S1) (he : e1[i]? = some (some (.lst true xs))) : ∃ a vs, σ[i]? = some (some (.ref a)) ∧ H1 a = some (.lst vs) ∧ RepL H1 F1 xs vs nos ∧ vs.length ≤ sizeLine := by
  obtain ⟨v, hv, rp⟩ := er.get he
  obtain ⟨a, vs, rfl, z, l, c⟩ := rp
  rcases c with ⟨c, _⟩ | ⟨_, c, _⟩
  · cases c
  · exact ⟨a, vs, hv, c, l, z⟩
theorem ixN_ge {n : Nat} {i : Int} {j : Nat} (h : ixN n i = some j) : j < n := (ixN_seq h).2.1
theorem sd_six {i : Nat} {k v : E} {st : Stmt} (G : GdS g N p X sc) (h : chkS g N sc L (.six i k v) st = true) : PS X st (tS p W L (.six i k v)) := by
  cases st with
  | Assign ts V pos =>
    unfold chkS at h
    split at h
    · rename_i heq
      cases heq
      rename_i o po K sp
      simp only [Bool.and_eq_true] at h
      obtain ⟨ho, hp, hv, hV, hK⟩ := h
      have hk : X.env.scope.kind = .function := by rw [G.G.sc]; exact G.kd
      have i1 := (snd v p.Wx X sc V G.G hV).1
      have i2 := (snd k p.Wx X sc K G.G hK).1
      have hsw := swL_ok (v := V) (t := .Subscript (.Name o po) K sp) (l := pos.line) hk
      have hsf : swL X.env.scope V (.Subscript (.Name o po) K sp) = false := by cases V <;> rfl
      rw [hsf] at hsw
      have hst := swK_ok (T := .Subscript (.Name o po) K sp) (V := V) (env := X.env) hk (r := none) (by cases V <;> rfl)
      have ha : ∀ v, assign (.Subscript (.Name o po) K sp) X.env v = (do
          let ov ← holding [v] (eval (.Name o po) X.env)
          let iv ← holding [v, ov] (eval K X.env)
          standAt sp
          holding [v, ov, iv] (setItem ov iv v)
          release [v, ov, iv] []) := by
        cases K <;> first | (intro _; rfl) | (cases hp)
      refine ps_weak (ps_asg i1 (pg_sub (pe_nm G.G ho) i2 set_list ha) hsw hst rfl) fun D σ H ⟨F, S, e, rd, q⟩ => ⟨F, S, e, rd, ?_⟩
      simp only [exS] at q
      refine vs_bind q fun d e1 _ q v' H1 F1 S1 S2 a => ?_
      unfold onS at q
      split at q
      · rename_i d0 hd0
        obtain ⟨w, hw, _⟩ := a.er.get hd0
        refine ⟨w, hw, ?_⟩
        have q1 := Vs.pre rd.fd a.t.s q
        refine ⟨F1, S2, e1, .of_aft a, vs_bind q1 fun y e2 hev q2 y' H2 F2 T1 T2 b => ?_⟩
        have q3 : Vs p L σ H F S (updE i (fun d0 => setO d0 y d) e2) D := by rw [hev] at q; exact q
        unfold updE at q3
        split at q3
        · rename_i dd hdd
          cases hs : setO dd y d with
          | none => simp only [hs] at q3; exact q3.elim
          | some z =>
            simp only [hs] at q3
            cases dd <;> (first | (cases hs; done) | skip)
            rename_i o' xs
            cases o' <;> (first | (cases hs; done) | skip)
            cases y <;> (first | (cases hs; done) | skip)
            rename_i j
            simp only [setO] at hs
            obtain ⟨n, hn, rfl⟩ := Option.map_eq_some_iff.mp hs
            cases b.rep
            obtain ⟨b1, b2, b3⟩ := a.keepS b.t hv
            have tt := a.t.trans rd.fd b.t
            have a2 : Aft true false σ H F S H2 F2 d v' S1 e2 T2 := ⟨tt.ch, a.keep b.t (.inl hv), tt.er, fun _ => b1, tt.s2, tt.n2, fun _ => b2, fun _ => b3, fun z => by cases z⟩
            obtain ⟨k1, k2⟩ := a2.give rd.fd rfl
            obtain ⟨ad, vs, hσ, hH, l, hz⟩ := slot_ref k1.er hdd
            rw [hw] at hσ; cases hσ
            refine ⟨ad, vs, j, n, rfl, rfl, hH, by rw [l.len]; exact hn, ?_⟩
            exact q3 σ _ _ _ ⟨own_upd rd.fd k1 hdd hw hH (l.set n k2) (by rw [List.length_set]; exact hz), fun _ _ => rfl, rfl⟩
        · exact q3.elim
      · exact q.elim
    · exact absurd h Bool.false_ne_true
  | _ => exact absurd h Bool.false_ne_true
theorem updE_some {f : D → Option D} {i : Nat} {e : Nv} {P : R Fl → Prop} (h : P (updE i f e)) (hb : ¬ P .bad) : ∃ d d1, e[i]? = some (some d) ∧ f d = some d1 ∧ P (.ok .next (e.set i (some d1))) := by
  unfold updE at h
  split at h
  · rename_i d hd
    cases hf : f d with
    | none => simp only [hf] at h; exact (hb h).elim
    | some d1 => simp only [hf] at h; exact ⟨d, d1, hd, hf, h⟩
  · exact (hb h).elim
theorem onS_some {r : R Fl} {i : Nat} {e : Nv} {P : R Fl → Prop} (h : P (onS i e r)) (hb : ¬ P .bad) : (∃ d, e[i]? = some (some d)) ∧ P r := by
  unfold onS at h
  split at h
  · rename_i d hd; exact ⟨⟨d, hd⟩, h⟩
  · exact (hb h).elim
theorem onL_some {r : R Fl} {i : Nat} {e : Nv} {P : R Fl → Prop} (h : P (onL i e r)) (hb : ¬ P .bad) : (∃ o xs, e[i]? = some (some (.lst o xs))) ∧ P r := by
  unfold onL at h
  split at h
  · rename_i o xs hd; exact ⟨⟨o, xs, hd⟩, h⟩
  · exact (hb h).elim
theorem few1 {cpos : Pos} {e : Expr} {env : Env} (hp : pl e = true) : ((backTo cpos (starEach [e] env)).all (fun x => !x.1) && (backToKw cpos (keywordEach [] env)).all (fun x => x.1.isSome) && decide ([e].length + ([] : List Keyword).length + (if ([] : List Keyword).isEmpty then 0 else 1) < 30)) = true := by
  rw [star_pl hp]; rfl
theorem few2 {cpos : Pos} {e e2 : Expr} {env : Env} (hp : pl e = true) (hp2 : pl e2 = true) : ((backTo cpos (starEach [e, e2] env)).all (fun x => !x.1) && (backToKw cpos (keywordEach [] env)).all (fun x => x.1.isSome) && decide ([e, e2].length + ([] : List Keyword).length + (if ([] : List Keyword).isEmpty then 0 else 1) < 30)) = true := by
  rw [star_pl hp, star_pl hp2]; rfl
theorem lst_ty {K : PySem.W.Frag} {H : Hp} {F S : AS} {o : Bool} {xs : List Vm.D} {w : L2.V} (h : Rep H F (.lst o xs) w S) : ∃ a, w = .ref a ∧ tyV K "list" w H := by
  obtain ⟨a, vs, rfl, z, l, c⟩ := h
  refine ⟨a, rfl, .inl ⟨rfl, vs, .inl ?_⟩⟩
  rcases c with ⟨_, c⟩ | ⟨_, c, _⟩
  · exact c.1
  · exact .inl c
theorem sd_app {i : Nat} {x : E} {st : Stmt} (G : GdS g N p X sc) (h : chkS g N sc L (.app i x) st = true) : PS X st (tS p W L (.app i x)) := by
  cases st with
  | Expr A pos =>
    unfold chkS at h
    split at h
    · rename_i heq
      cases heq
      rename_i o po m ap Y cp
      simp only [Bool.and_eq_true, decide_eq_true_eq] at h
      obtain ⟨rfl, ho, hl, hp, hv, hx⟩ := h
      have i1 := (snd x p.Wx X sc Y G.G hx).1
      refine ps_weak (ps_expr (pe_bm F.plainAttrs_list F.slot_list_append F.type_list_append mt_append (pe_nm G.G ho) (pa_cons i1 pa_nil (star_pl hp [] _)) (by rfl) (few1 hp) hl (star_pl hp [] _) (by rfl)) (by rfl)) fun D σ H ⟨F, S, e, rd, q⟩ => ?_
      simp only [exS] at q
      obtain ⟨⟨o1, xs1, he⟩, q⟩ := onL_some (P := fun r => Vs p L σ H F S r D) q id
      obtain ⟨w, hw, rw⟩ := rd.er.get he
      obtain ⟨ad, rfl, ty⟩ := lst_ty (K := X.K) rw
      refine ⟨.ref ad, hw, ty, F, S, e, rd, vs_bind q fun d e1 _ q v' H1 F1 S1 S2 a => ?_⟩
      obtain ⟨dd, z, hdd, hs, q3⟩ := updE_some (P := fun r => Vs p L σ H F S r D) q id
      cases dd <;> (first | (cases hs; done) | skip)
      rename_i o' xs
      cases o' <;> (first | (cases hs; done) | skip)
      simp only [appO] at hs
      split at hs
      · rename_i hlen
        cases hs
        obtain ⟨k1, k2⟩ := Aft.give rd.fd a hv
        obtain ⟨ad', vs, hσ, hH, l, hz⟩ := slot_ref k1.er hdd
        rw [hw] at hσ; cases hσ
        refine ⟨ad, vs, v', rfl, rfl, hH, ?_, ?_⟩
        · rw [l.len]; exact Nat.lt_of_lt_of_le hlen (by decide : lim ≤ sizeLine)
        · exact q3 σ _ _ _ ⟨own_upd rd.fd k1 hdd hw hH (l.app (.cons k2 rfl)) (by rw [List.length_append, l.len]; exact Nat.le_trans (show xs.length + 1 ≤ lim from hlen) (by decide : lim ≤ sizeLine)), fun _ _ => rfl, rfl⟩
      · cases hs
    · exact absurd h Bool.false_ne_true
  | _ => exact absurd h Bool.false_ne_true
theorem insIdx_eq {α : Type} : ∀ (xs : List α) (n : Nat) (y : α), n ≤ xs.length → xs.take n ++ [y] ++ xs.drop n = xs.insertIdx n y
  | xs, 0, y, _ => by simp
  | [], n + 1, y, h => by simp at h
  | x :: xs, n + 1, y, h => by
    have := insIdx_eq xs n y (by simpa using h)
    simp only [List.take_succ_cons, List.drop_succ_cons, List.cons_append, List.insertIdx_succ_cons, ← this]
theorem sd_ins {i : Nat} {k x : E} {st : Stmt} (G : GdS g N p X sc) (h : chkS g N sc L (.ins i k x) st = true) : PS X st (tS p W L (.ins i k x)) := by
  cases st with
  | Expr A pos =>
    unfold chkS at h
    split at h
    · rename_i heq
      cases heq
      rename_i o po m ap K Y cp
      simp only [Bool.and_eq_true, decide_eq_true_eq] at h
      obtain ⟨rfl, ho, hl, hp, hp2, hvk, hv, hk, hx⟩ := h
      have i1 := (snd x p.Wx X sc Y G.G hx).1
      have i0 := (snd k p.Wx X sc K G.G hk).1
      refine ps_weak (ps_expr (pe_bm F.plainAttrs_list F.slot_list_insert F.type_list_insert mt_insert (pe_nm G.G ho) (pa_cons i0 (pa_cons i1 pa_nil (star_pl hp2 [] _)) (star_pl hp [_] _)) (by rfl) (few2 hp hp2) hl (star_pl hp [_] _) (by rw [star_pl hp2]; rfl)) (by rfl)) fun D σ H ⟨F, S, e, rd, q⟩ => ?_
      simp only [exS] at q
      obtain ⟨⟨o1, xs1, he⟩, q⟩ := onL_some (P := fun r => Vs p L σ H F S r D) q id
      obtain ⟨w, hw, rw⟩ := rd.er.get he
      obtain ⟨ad, rfl, ty⟩ := lst_ty (K := X.K) rw
      refine ⟨.ref ad, hw, ty, F, S, e, rd, vs_bind q fun y e0 _ q y' H0 F0 S0 S00 a0 => ?_⟩
      have q0 := Vs.pre rd.fd a0.t.s q
      refine ⟨F0, S00, e0, .of_aft a0, vs_bind q0 fun d e1 hev q1 v' H1 F1 S1 S2 a => ?_⟩
      have q : Vs p L σ H0 F0 S00 (updE i (fun d0 => insO d0 y d) e1) D := q1
      obtain ⟨dd, z, hdd, hs, q3⟩ := updE_some (P := fun r => Vs p L σ H0 F0 S00 r D) q id
      cases dd <;> (first | (cases hs; done) | skip)
      rename_i o' xs
      cases o' <;> (first | (cases hs; done) | skip)
      obtain ⟨j, rfl⟩ : ∃ j, y = .int j := by cases y <;> first | (cases hs; done) | exact ⟨_, rfl⟩
      simp only [insO] at hs
      split at hs
      · rename_i hlen
        cases hs
        obtain ⟨k1, k2⟩ := Aft.give a0.ch.fd a hv
        obtain ⟨ad', vs, hσ, hH, l, hz⟩ := slot_ref k1.er hdd
        rw [hw] at hσ; cases hσ
        cases a0.rep
        have hj : j.toNat ≤ vs.length := by rw [l.len]; omega
        refine ⟨ad, vs, j, v', rfl, rfl, hH, ?_, hlen.2.1, ?_, ?_⟩
        · rw [l.len]; exact Nat.lt_of_lt_of_le hlen.1 (by decide : lim ≤ sizeLine)
        · have := hlen.1; simp only [lim] at this; omega
        · rw [insIdx_eq _ _ _ hj]
          exact q3 σ _ _ _ ⟨own_upd a0.ch.fd k1 hdd hw hH (l.insertIdx j.toNat k2) (by rw [List.length_insertIdx_of_le_length hj, l.len]; exact Nat.le_trans hlen.1 (by decide : lim ≤ sizeLine)), fun _ _ => rfl, rfl⟩
      · cases hs
    · exact absurd h Bool.false_ne_true
  | _ => exact absurd h Bool.false_ne_true
/-! ### slot += value -/
def tIpD (o : Operator) : TIp := fun x y H Q => ∃ F S T d1 d2 z, Rep H F d1 x S ∧ Rep H F d2 y T ∧ augD o d1 d2 = some z ∧ ∀ v, Rep H F z v nos → Q v H
theorem ip_aug (o : Operator) : PIp X o (tIpD o) := by
  intro pins s σ H x y v u Q I r1 r2 ⟨F, S, T, d1, d2, z, p1, p2, ha, q⟩
  cases o <;> (first | (cases d1 <;> cases d2 <;> cases ha; done) | skip)
  · cases d1 <;> cases d2 <;> (first | (cases ha; done) | skip)
    · cases ha
      cases p1; cases p2
      exact iop_add pins s σ H _ _ v u Q I r1 r2 ⟨_, _, rfl, rfl, q _ rfl⟩
    · simp only [augD] at ha
      split at ha
      · rename_i hl
        cases ha
        obtain ⟨rfl, o1⟩ := p1
        obtain ⟨rfl, o2⟩ := p2
        exact iop_add_str pins s σ H _ _ v u Q I r1 r2 ⟨_, _, rfl, rfl, Nat.le_trans hl (by decide : lim ≤ sizeLine), q _ ⟨rfl, okS_app o1 o2 hl⟩⟩
      · cases ha
  · cases d1 <;> cases d2 <;> (first | (cases ha; done) | skip)
    · cases ha
      cases p1; cases p2
      exact iop_sub pins s σ H _ _ v u Q I r1 r2 ⟨_, _, rfl, rfl, q _ rfl⟩
theorem aug_rep {o : Operator} {a b z : Vm.D} (h : augD o a b = some z) {H H1 : Hp} {F F1 S : AS} {v : L2.V} (r : Rep H F a v S) : Rep H1 F1 a v nos := by
  cases a <;> first | exact r | (cases o <;> cases b <;> cases h)
theorem sd_aug {i : Nat} {o : Operator} {x : E} {st : Stmt} (G : GdS g N p X sc) (h : chkS g N sc L (.aug i o x) st = true) : PS X st (tS p W L (.aug i o x)) := by
  cases st with
  | AugAssign T o2 Y pos =>
    unfold chkS at h
    split at h
    · rename_i heq
      cases heq
      rename_i y py
      simp only [Bool.and_eq_true, decide_eq_true_eq] at h
      obtain ⟨rfl, ht, hL, hn, hx⟩ := h
      have i1 := (snd x p.Wx X sc Y G.G hx).1
      simp only [tgB, Bool.and_eq_true, Bool.or_eq_true, decide_eq_true_eq] at ht
      obtain ⟨h1, h2⟩ := ht
      have hlx : Loc X.env.scope y := by
        rw [G.G.sc]
        rcases h2 with h2 | h2
        · exact .inl h2
        · exact .inr h2.1
      have hmem : i ∈ L := List.contains_iff_mem.mp hL
      · refine ps_weak (ps_aug (G.G.hN ▸ G.G.nd) (by rw [G.G.hN]; exact h1) hlx i1 (ip_aug o2) (.inl (G.fn y))) fun D σ H ⟨F, S, e, rd, q⟩ => ?_
        simp only [exS] at q
        split at q
        · rename_i d hd
          obtain ⟨w, hw, rw⟩ := rd.er.get hd
          refine ⟨w, hw, F, S, e, rd, vs_bind q fun b e1 _ q v' H1 F1 S1 S2 a => ?_⟩
          cases ha : augD o2 d b with
          | none => simp only [ha] at q; exact q.elim
          | some z =>
            simp only [ha] at q
            have hil : i < e1.length := by
              have h3 := (List.getElem?_eq_some_iff.mp hd).1
              have h4 := rd.er.len
              have h5 := a.er.len
              omega
            have rw1 : Rep H1 F1 d w nos := aug_rep ha rw
            refine ⟨F1, nos, S1, d, b, z, rw1, a.rep, ha, fun v rv => ?_⟩
            exact q (σ.set i (some v)) H1 F1 _ ⟨⟨a.ch, a.er.put hil rv dj_nos, fun x z => z.elim (fun z => z.elim) (a.s2 x), fun x z => z.elim (fun z => z.elim) (a.n2 x), fun z => by cases z⟩, fun j hj => List.getElem?_set_ne fun z : i = j => hj (z ▸ hmem), List.length_set ..⟩
        · exact q.elim
    · exact absurd h Bool.false_ne_true
  | _ => exact absurd h Bool.false_ne_true
end
end Vm
namespace Vm
open PySem PySem.Spec L2
section
variable {g : Tab} {N : List Str} {p : Pm} {X : Cx} {sc : Scope} {L : List Nat} {W : Nat}
theorem sd_iff {c : E} {a b : List S} {st : Stmt} (G : GdS g N p X sc) (ia : ∀ xs, chkSs g N sc L a xs = true → PSs X xs (tSs p W L a)) (ib : ∀ xs, chkSs g N sc L b xs = true → PSs X xs (tSs p W L b))
    (h : chkS g N sc L (.iff c a b) st = true) : PS X st (tS p W L (.iff c a b)) := by
  cases st with
  | If C A B pos =>
    simp only [chkS, Bool.and_eq_true] at h
    obtain ⟨hc, ha, hb⟩ := h
    refine ps_weak (ps_if (snd c p.Wx X sc C G.G hc).2.1 (ia A ha) (ib B hb)) fun D σ H ⟨F, S, e, rd, q⟩ => ⟨F, S, e, rd, ?_⟩
    simp only [exS] at q
    refine vs_bind_t q fun t e1 _ q H1 F1 S1 k => ?_
    have q1 := Vs.pre rd.fd k.s q
    cases t with
    | true => rw [if_pos rfl] at q1 ⊢; exact ⟨F1, S1, e1, .of_aftT k, q1⟩
    | false => rw [if_neg Bool.false_ne_true] at q1 ⊢; exact ⟨F1, S1, e1, .of_aftT k, q1⟩
  | _ => exact absurd h Bool.false_ne_true
/-- one turn of a loop -/
theorem vs_loop {σ : Sl} {H : Hp} {F S : AS} {D : Ends} {r : R Fl} {gg : Nv → R Fl} {Nx : Sl → Hp → Prop} (h : Vs p L σ H F S (r.bind fun fl e2 => match fl with | .next => gg e2 | .cnt => gg e2 | .brk => .ok .next e2 | .ret d => .ok (.ret d) e2) D)
    (hN : ∀ e' σ' H' F' S', AfS L σ σ' H F S H' F' e' S' → Vs p L σ H F S (gg e') D → Nx σ' H') : Vs p L σ H F S r { D with nx := Nx, ct := Nx, bk := D.nx } := by
  cases r with
  | ok fl e' =>
    cases fl with
    | next => exact fun σ' H' F' S' a => hN e' σ' H' F' S' a h
    | cnt => exact fun σ' H' F' S' a => hN e' σ' H' F' S' a h
    | brk => exact h
    | ret d => exact h
  | ex x e' => exact h
  | bad => exact h
theorem sd_whl {c : E} {b : List S} {st : Stmt} (G : GdS g N p X sc) (ib : ∀ xs, chkSs g N sc L b xs = true → PSs X xs (tSs p W L b))
    (h : chkS g N sc L (.whl c b) st = true) : PS X st (tS p W L (.whl c b)) := by
  cases st with
  | While C B O pos =>
    cases O with
    | cons o r => exact absurd h Bool.false_ne_true
    | nil =>
      simp only [chkS, Bool.and_eq_true] at h
      obtain ⟨hc, hb⟩ := h
      refine ps_weak (ps_while G.ps (snd c p.Wx X sc C G.G hc).2.1 (ib B hb)) fun D σ H ⟨F, S, e, rd, q⟩ => ?_
      simp only [exS] at q
      refine ⟨fun n σ1 H1 => ∃ F1 S1 e1, AfS L σ σ1 H F S H1 F1 e1 S1 ∧ Vs p L σ1 H1 F1 S1 (whlGo (fun e => asB (ev p.C c e)) (fun e => exs p.C W b e) n e1) D, ⟨W, F, S, e, AfS.refl rd, q⟩, fun m σ1 H1 ⟨F1, S1, e1, a1, q1⟩ => ?_⟩
      cases m with
      | zero => exact q1.elim
      | succ m =>
        rw [whlGo] at q1
        have rd1 : Rdy H1 F1 S1 e1 σ1 := .of_aftT a1.t
        refine ⟨F1, S1, e1, rd1, vs_bind_t q1 fun t e2 _ q2 H2 F2 S2 k => ?_⟩
        have q3 := Vs.pre rd1.fd k.s q2
        have a2 := a1.trans rd.fd (k.s (L := L))
        have rd2 : Rdy H2 F2 S2 e2 σ1 := .of_aftT k
        cases t with
        | true =>
          rw [if_pos rfl] at q3 ⊢
          refine ⟨fun σ3 H3 => ∃ F3 S3 e3, AfS L σ σ3 H F S H3 F3 e3 S3 ∧ Vs p L σ3 H3 F3 S3 (whlGo (fun e => asB (ev p.C c e)) (fun e => exs p.C W b e) m e3) D, fun σ3 H3 z => ⟨m, Nat.lt_succ_self m, z⟩, F2, S2, e2, rd2, ?_⟩
          exact vs_loop q3 fun e3 σ3 H3 F3 S3 a3 q4 => ⟨F3, S3, e3, a2.trans rd.fd a3, Vs.pre rd2.fd a3 q4⟩
        | false =>
          rw [if_neg Bool.false_ne_true] at q3 ⊢
          exact q3 σ1 H2 F2 S2 (.refl rd2)
  | _ => exact absurd h Bool.false_ne_true
/-- the iterator has given a thing -/
theorem aft_yld {σ : Sl} {H H' : Hp} {F S : AS} {e : Nv} (rd : Rdy H F S e σ) (hy : H' = H ∨ ∃ T t, H T = none ∧ H' = upd H T (.tup t)) : AftT false σ H F S H' F e S ∧ ∀ a o, H a = some o → H' a = some o := by
  have kp : ∀ a o, H a = some o → H' a = some o := fun a o h => by
    rcases hy with rfl | ⟨T, t, hT, rfl⟩
    · exact h
    · exact upd_keep hT h
  have kn : ∀ a, H a ≠ none → H' a ≠ none := fun a h z => h (by
    cases q : H a with
    | none => rfl
    | some o => rw [kp a o q] at z; cases z)
  exact ⟨⟨⟨fun a o h ns => kp a o h, fun a h => .inl h, fun a h ns => h, kn, fun a h => kn a (rd.fd a h)⟩, rd.er.step (fun a o h _ => kp a o h) fun a h => .inl h, rd.sf, fun a h => .inl h, fun z => by cases z⟩, kp⟩
theorem sd_for {t : Tg} {ik : Ik} {is : List E} {b : List S} {st : Stmt} (G : GdS g N p X sc) (ib : ∀ xs, chkSs g N sc L b xs = true → PSs X xs (tSs p W L b))
    (h : chkS g N sc L (.for_ t ik is b) st = true) : PS X st (tS p W L (.for_ t ik is b)) := by
  cases st with
  | For T I B O pos =>
    cases O with
    | cons o r => exact absurd h Bool.false_ne_true
    | nil =>
      simp only [chkS, Bool.and_eq_true, List.all_eq_true] at h
      obtain ⟨hp, hT, hk, ht, hL, hv, hi, hb⟩ := h
      have hL : (tgSlots t).all (fun k => L.contains k) = true := List.all_eq_true.mpr hL
      have hpi : PI X T I (tI p ik is true) := by
        cases ik with
        | seq =>
          cases is with
          | nil => cases hi
          | cons a r =>
            simp only [chkIt, chkOne, Bool.and_eq_true, List.isEmpty_iff] at hi
            obtain ⟨rfl, hi⟩ := hi
            exact pi_seq (snd a p.Wx X sc I G.G hi).1 fun _ => hv a (by simp)
        | _ =>
          simp only [chkIt] at hi
          split at hi
          · simp only [Bool.and_eq_true, decide_eq_true_eq] at hi
            obtain ⟨h1, h2, h3, h4, h5⟩ := hi
            refine pi_call G.G (by decide) (fun z => ?_) h1 h2 h3 h4 h5 ((sndL is).fes p.Wx X sc _ G.G h5)
            first
              | (rcases z with z | z <;> cases z; done)
              | (cases t with
                | tup ts =>
                  cases T with
                  | Tuple es k q => exact ⟨es, k, q, rfl⟩
                  | _ => exact absurd ht Bool.false_ne_true
                | nm j => exact absurd hk Bool.false_ne_true)
          · cases hi
      have hg := tg_ok (X := X) (fn := fun _ => true) G.G.hN G.G.nd G.G.calm G.G.sc (fun x _ => G.fn x) t T ht
      refine ps_weak (ps_for G.ps G.G.calm hpi hg (ib B hb) (fun x => sole_pl hp X.env x)) fun D σ H ⟨F, S, e, rd, q⟩ => ⟨F, S, e, rd, ?_⟩
      simp only [exS] at q
      cases hr : evs p.C is e with
      | bad => rw [hr] at q; exact q.elim
      | ex x e1 => rw [hr] at q; exact fun cls dd H' F' S2 a xr => q cls dd σ H' F' S2 ⟨a, fun _ _ => rfl, rfl⟩ xr
      | ok xs e1 =>
        rw [hr, R.bind_ok] at q
        cases hds : itemsD ik xs with
        | none => rw [hds] at q; exact q.elim
        | some ds =>
          rw [hds] at q
          simp only at q
          refine ⟨ds, hds, fun vs H1 F1 S1 S2 J k jok => ?_⟩
          have q1 := Vs.pre rd.fd (k.t.s (L := L)) q
          have rd1 : Rdy H1 F1 S2 e1 σ := .of_aftT k.t
          refine ⟨fun i m σ' H' => ∃ F' S' e', AfS L σ σ' H1 F1 S2 H' F' e' S' ∧ RepL H' F' xs vs S1 ∧ Sb S1 F' ∧ Dj S1 S' ∧ m = ds.length - i ∧ Vs p L σ' H' F' S' (forGo (asgT t) (fun e => exs p.C W b e) (ds.drop i) e') D,
            ⟨ds.length, F1, S2, e1, AfS.refl rd1, k.rep, k.s1 rfl, k.dj rfl, by simp, q1⟩, fun i m σ' H' ⟨F', S', e', a', rp, sf, dj, hm, q'⟩ => ?_⟩
          obtain ⟨j1, j2⟩ := jok H' F' i rp
          have rd' : Rdy H' F' S' e' σ' := .of_aftT a'.t
          cases hd : ds[i]? with
          | none =>
            have hl : ds.length ≤ i := List.getElem?_eq_none_iff.mp hd
            rw [List.drop_eq_nil_of_le hl, forGo] at q'
            exact .inl ⟨j2 hl, q' σ' H' F' S' (.refl rd')⟩
          | some d =>
            obtain ⟨go, j3⟩ := j1 d hd
            obtain ⟨hl, hd'⟩ := List.getElem?_eq_some_iff.mp hd
            rw [List.drop_eq_getElem_cons hl, hd', forGo] at q'
            cases ha : asgT t d e' with
            | none => rw [ha] at q'; exact q'.elim
            | some e2 =>
              rw [ha] at q'
              simp only at q'
              refine .inr ⟨go, fun σ3 H3 => ∃ F3 S3 e3, AfS L σ σ3 H1 F1 S2 H3 F3 e3 S3 ∧ RepL H3 F3 xs vs S1 ∧ Sb S1 F3 ∧ Dj S1 S3 ∧ Vs p L σ3 H3 F3 S3 (forGo (asgT t) (fun e => exs p.C W b e) (ds.drop (i + 1)) e3) D,
                fun σ3 H3 ⟨F3, S3, e3, z1, z2, z3, z4, z5⟩ => ⟨ds.length - (i + 1), by omega, F3, S3, e3, z1, z2, z3, z4, rfl, z5⟩, fun x Hy hy => ?_⟩
              obtain ⟨hy1, hy2⟩ := j3 x Hy hy
              obtain ⟨ay, ky⟩ := aft_yld rd' hy1
              refine ⟨F', nos, S', d, e', e2, hy2 rd'.fd, ay.er, dj_nos, ha, fun σ2 hs2 hl2 er2 => ?_⟩
              have er2 := er2.mono (T := S') fun a z => z.elim (fun z => z.elim) id
              have a2 : AfS L σ' σ2 H' F' S' Hy F' e2 S' := ⟨⟨ay.ch, er2, ay.s2, ay.n2, fun z => by cases z⟩, fun j hj => hs2 j (sub_L hL hj), hl2⟩
              have rd2 : Rdy Hy F' S' e2 σ2 := .of_aftT a2.t
              have q2 := Vs.pre rd'.fd a2 q'
              refine ⟨F', S', e2, rd2, vs_loop q2 fun e3 σ3 H3 F3 S3 a3 q4 => ?_⟩
              refine ⟨F3, S3, e3, (a'.trans rd1.fd a2).trans rd1.fd a3, ?_, fun a z => a3.t.ch.old a (sf a z) (dj a z), fun a z w => (a3.t.n2 a w).elim (dj a z) fun n => ?_, Vs.pre rd2.fd a3 q4⟩
              · exact RepL.step xs vs S1 (RepL.step xs vs S1 rp (fun a o h _ => ky a o h) fun a h => .inl h) (fun a o h z => a3.t.ch.keep a o h fun w => z.elim (fun z => z (rd2.sf a w)) fun z => dj a z w) a3.t.ch.new
              · exact rd2.fd a (sf a z) n
  | _ => exact absurd h Bool.false_ne_true
mutual
theorem sdS : ∀ (s : S) (st : Stmt), GdS g N p X sc → chkS g N sc L s st = true → PS X st (tS p W L s)
  | .asg t x, st, G, h => sd_asg G h
  | .six i k v, st, G, h => sd_six G h
  | .aug i o x, st, G, h => sd_aug G h
  | .app i x, st, G, h => sd_app G h
  | .ins i k x, st, G, h => sd_ins G h
  | .exp x, st, G, h => sd_exp G h
  | .iff c a b, st, G, h => sd_iff G (fun xs => sdSs a xs G) (fun xs => sdSs b xs G) h
  | .whl c b, st, G, h => sd_whl G (fun xs => sdSs b xs G) h
  | .for_ t ik is b, st, G, h => sd_for G (fun xs => sdSs b xs G) h
  | .ret x, st, G, h => sd_ret G h
  | .retN, st, G, h => sd_retN h
  | .brk, st, G, h => sd_brk h
  | .cnt, st, G, h => sd_cnt h
  | .pas, st, G, h => sd_pas h
theorem sdSs : ∀ (s : List S) (sts : List Stmt), GdS g N p X sc → chkSs g N sc L s sts = true → PSs X sts (tSs p W L s)
  | [], sts, G, h => by
    simp only [chkSs, List.isEmpty_iff] at h
    subst h
    refine pss_weak pss_nil fun D σ H ⟨F, S, e, rd, q⟩ => ?_
    simp only [exs] at q
    exact q σ H F S (.refl rd)
  | s :: r, sts, G, h => by
    cases sts with
    | nil => cases h
    | cons st sts =>
      simp only [chkSs, Bool.and_eq_true] at h
      refine pss_weak (pss_cons (sdS s st G h.1) (sdSs r sts G h.2)) fun D σ H ⟨F, S, e, rd, q⟩ => ⟨F, S, e, rd, ?_⟩
      simp only [exs] at q
      cases hr : exS p.C W s e with
      | ok fl e1 =>
        rw [hr, R.bind_ok] at q
        cases fl with
        | next => exact fun σ' H' F' S' a => ⟨F', S', e1, .of_aftT a.t, Vs.pre rd.fd a q⟩
        | _ => exact q
      | ex x e1 => rw [hr] at q; exact q
      | bad => rw [hr] at q; exact q
end
end
end Vm
namespace Vm
open PySem PySem.Spec L2
theorem ERs.pad {H : Hp} {F : AS} : ∀ {e : Nv} {σ : Sl} {S : AS} (k : Nat), ERs H F e σ S → ERs H F (e ++ List.replicate k none) (σ ++ List.replicate k none) S
  | [], σ, S, k, h => by
    rw [show σ = [] from h]
    show ERs H F (List.replicate k none) (List.replicate k none) S
    induction k with
    | zero => rfl
    | succ k ih => exact ⟨none, _, nos, S, rfl, fun d hd => (by cases hd), ih, dj_nos, sb_nos, Sb.refl⟩
  | o :: e, σ, S, k, h => by
    obtain ⟨u, r, S1, S2, rfl, h1, h2, dj, s1, s2⟩ := h
    exact ⟨u, _, S1, S2, rfl, h1, ERs.pad k h2, dj, s1, s2⟩
theorem lastP_ers {H : Hp} {F : AS} : ∀ {ks : List Bool} {e : Nv} {σ τ : Sl} {S : AS}, ERs H F e σ S → ks.length = τ.length → τ.length ≤ σ.length → (∀ j : Nat, ks[j]? = some true → σ[j]? = τ[j]?) → ERs H F (lastP ks e) τ S
  | [], e, σ, τ, S, h, hl, hs, hk => by
    have : τ = [] := List.length_eq_zero_iff.mp hl.symm
    subst this
    cases e <;> rfl
  | k :: ks, [], σ, τ, S, h, hl, hs, hk => by
    rw [show σ = [] from h] at hs
    cases τ with
    | nil => cases hl
    | cons t τ => simp at hs
  | k :: ks, o :: e, σ, τ, S, h, hl, hs, hk => by
    obtain ⟨u, r, S1, S2, rfl, h1, h2, dj, s1, s2⟩ := h
    cases τ with
    | nil => cases hl
    | cons t τ =>
      refine ⟨t, τ, S1, S2, rfl, fun d hd => ?_, lastP_ers h2 (by simpa using hl) (by simpa using hs) fun j hj => by simpa using hk (j + 1) (by simpa using hj), dj, s1, s2⟩
      cases k with
      | false => cases hd
      | true =>
        have e0 : u = t := by simpa using hk 0 rfl
        rw [← e0]
        exact h1 d hd
/-! ### a def of the text -/
structure FnE where
  x : Str
  args : Arguments
  body : List Stmt
  scope : Scope
  fn : Fn
  L : List Nat
def nodupB : List Str → Bool
  | [] => true
  | x :: r => !r.contains x && nodupB r
theorem nodupB_ok : ∀ {l : List Str}, nodupB l = true → l.Nodup
  | [], _ => List.nodup_nil
  | x :: r, h => by
    simp only [nodupB, Bool.and_eq_true, Bool.not_eq_true'] at h
    exact List.nodup_cons.mpr ⟨fun z => (by have h1 := h.1; rw [List.contains_iff_mem.mpr z] at h1; exact Bool.noConfusion h1), nodupB_ok h.2⟩
def chkFn (g : Tab) (q : FnE) : Bool :=
  decide (q.scope.kind = .function) && (!q.scope.isCoroutine && (!q.scope.isGenerator && (nodupB q.fn.N && (decide (q.fn.N.take q.fn.ps.length = q.fn.ps) &&
  (q.fn.ps.all (fun x => decide (q.scope.names.lookup x = some .local) || decide (q.scope.names.lookup x = some .cell)) && (q.scope.names.all (fun y => !decide (y.2 = .free)) &&
  (decide (q.fn.keep.length = q.fn.ps.length) && ((List.range q.fn.keep.length).all (fun j => !(q.fn.keep.getD j false) || !q.L.contains j) && chkSs g q.fn.N q.scope q.L q.fn.body q.body))))))))
structure ChkFn (g : Tab) (q : FnE) : Prop where
  sc : FnScope q.fn.N q.fn.ps q.scope
  kl : q.fn.keep.length = q.fn.ps.length
  kp : ∀ j : Nat, q.fn.keep[j]? = some true → j ∉ q.L
  ch : chkSs g q.fn.N q.scope q.L q.fn.body q.body = true
theorem chkFn_ok {g : Tab} {q : FnE} (h : chkFn g q = true) : ChkFn g q := by
  simp only [chkFn, Bool.and_eq_true, decide_eq_true_eq, Bool.not_eq_true', List.all_eq_true, Bool.or_eq_true, decide_eq_false_iff_not] at h
  obtain ⟨h1, h2, h3, h4, h5, h6, h7, h8, h9, h10⟩ := h
  refine ⟨⟨h1, h2, h3, nodupB_ok h4, h5, h6, h7⟩, h8, fun j hj hm => ?_, h10⟩
  have hl : j < q.fn.keep.length := (List.getElem?_eq_some_iff.mp hj).1
  have := h9 j (List.mem_range.mpr hl)
  rw [List.getD_eq_getElem?_getD, hj] at this
  rcases this with z | z
  · cases z
  · rw [List.contains_iff_mem.mpr hm] at z; cases z
/-- the text's defs as they stand -/
structure PgOk (g : Tab) (es : List FnE) (K : PySem.W.Frag) (mg : Str → Option Value) : Prop where
  free : ∀ x, x ∈ g.free → mg x = none
  cons : ∀ q, q ∈ g.cons → ∃ u v, mg q.1 = some u ∧ RelV v u ∧ ∀ H F, Rep H F q.2 v nos
  fns : g.fns = es.map fun q => (q.x, q.fn)
  chk : es.all (chkFn g) = true
  defs : ∀ q, q ∈ es → ∃ a fd, mg q.x = some (.ref a) ∧ FunD K q.x q.x q.args q.body q.scope [] [] a fd ∧ (∀ (s : Shared) (us : List Value), us.length = q.fn.ps.length → BindsTo s fd ⟨us, []⟩ (q.fn.ps.zip us)) ∧
    (∀ n ks perm, (q.x, n, ks, perm) ∈ g.kws → ∀ (s : Shared) (us ws : List Value), us.length = n → ws.length = ks.length → BindsTo s fd ⟨us, ks.zip ws⟩ (q.fn.ps.zip (permL perm (us ++ ws))))
theorem lookup_map {es : List FnE} {f : Str} {fn : Fn} (h : (es.map fun q => (q.x, q.fn)).lookup f = some fn) : ∃ q ∈ es, q.x = f ∧ q.fn = fn := by
  induction es with
  | nil => cases h
  | cons q es ih =>
    rw [List.map_cons, List.lookup_cons] at h
    split at h
    · rename_i hb
      cases h
      exact ⟨q, by simp, (beq_iff_eq.mp hb).symm, rfl⟩
    · obtain ⟨q', h1, h2⟩ := ih h
      exact ⟨q', by simp [h1], h2⟩
section
variable {g : Tab} {es : List FnE} {P : Program} {w : World} {K : PySem.W.Frag} {mg : Str → Option Value} {base : Heap} {XR : Hp → AS → D → Value → Option Addr → Prop}
theorem fns_ok (O : PgOk g es K mg) (hK : K.In base) (hmg : base.Ns mainGlobals mg) : ∀ (k : Nat) (q : FnE), q ∈ es → g.fn q.x = some q.fn → ∀ a fd, FunD K q.x q.x q.args q.body q.scope [] [] a fd →
    ∀ W, FnOk P w K mg base (L2.CX P w) k a fd q.fn.ps (spC (callN g.fn W k) XR q.x q.fn.ps.length) := by
  intro k
  induction k with
  | zero =>
    intro q hq hf a fd h2 W
    refine ⟨fun vs H Q E h => h.1, fun A outer s H args us vs Q E hr he hb hv ⟨_, F, S, ds, _, h⟩ => ?_⟩
    exact h.elim
  | succ k ih =>
    intro q hq hf a fd h2 W
    have ck := chkFn_ok (List.all_eq_true.mp O.chk q hq)
    refine FunD.ok h2 ck.sc (fun vs H Q E h => h.1) fun cdv A outer s H vs Q E hr ⟨hn, F, S, ds, rd, h⟩ => ?_
    refine ⟨tSs ⟨callN g.fn W k, XR, fun cls d _ H' => E cls d H'⟩ W q.L q.fn.body, sdSs q.fn.body q.body ?_ ck.ch, ?_⟩
    · refine ⟨⟨rfl, ck.sc.nd, rfl, rfl, ?_, O.free, O.cons, takes_of rfl rfl rfl rfl, fun f fn hf => ?_⟩, ck.sc.kind, passes_of rfl, fun _ => rfl⟩
      · have := hr.un; show (A.deeper (PyProof.Rows.envOfC q.x q.scope s.heap.objs.size a cdv)).units + 200 < cLine; omega
      · obtain ⟨q', hq', rfl, rfl⟩ := lookup_map (es := es) (f := f) (fn := fn) (by rw [← O.fns]; exact hf)
        obtain ⟨a, fd, i1, i2, i3, i5⟩ := O.defs q' hq'
        exact ⟨a, fd, k, i1, i2.kp, fun s us _ hl => (by rw [List.append_nil] at hl ⊢; exact i3 s us hl), ih q' hq' hf a fd i2 W, hr, fun n ks perm hq s us ws _ => i5 n ks perm hq s us ws⟩
    · have hl : ds.length = vs.length := by simpa using rd.er.len.symm
      have rd' : Rdy H F S (ds.map some ++ List.replicate (q.fn.N.length - ds.length) none) (L2.start q.fn.N vs) := by
        rw [hl]
        exact ⟨rd.er.pad _, rd.sf, rd.fd⟩
      refine ⟨F, S, _, rd', ?_⟩
      rw [callN, hf] at h
      simp only at h
      rw [if_pos (hl.trans hn)] at h
      have hlen : (vs.map some).length = q.fn.ps.length := by rw [List.length_map]; exact hn
      have pre : ∀ (j : Nat), j < q.fn.ps.length → (L2.start q.fn.N vs)[j]? = (vs.map some)[j]? := fun j hj => by
        unfold L2.start
        rw [List.getElem?_append_left (by rw [hlen]; exact hj)]
      have lst : ∀ {σ' H' F' e' S'}, AfS q.L (L2.start q.fn.N vs) σ' H F S H' F' e' S' → AftT false (vs.map some) H F S H' F' (lastP q.fn.keep e') S' := fun {σ' H' F' e' S'} a => by
        refine ⟨a.t.ch, lastP_ers a.t.er (ck.kl.trans hlen.symm) ?_ (fun j hj => ?_), a.t.s2, a.t.n2, fun z => by cases z⟩
        · rw [a.len]
          unfold L2.start
          rw [List.length_append]
          exact Nat.le_add_right _ _
        · have hjl : j < q.fn.ps.length := by rw [← ck.kl]; exact (List.getElem?_eq_some_iff.mp hj).1
          rw [a.same j (ck.kp j hj), pre j hjl]
      cases hr : exs (callN g.fn W k) W q.fn.body (ds.map some ++ List.replicate (q.fn.N.length - ds.length) none) with
      | ok fl e' =>
        rw [hr] at h
        cases fl with
        | next =>
          intro σ' H' F' S' af
          have t := lst af
          exact h .non H' F' nos S' ⟨t.ch, rfl, t.er, fun _ => sb_nos, t.s2, t.n2, fun _ => dj_nos, fun _ _ z => z.elim, fun z => by cases z⟩
        | ret d =>
          intro v σ' H' F' S1 S' af rp s1 dj n1
          have t := lst af
          exact h v H' F' S1 S' ⟨t.ch, rp, t.er, fun _ => s1, t.s2, t.n2, fun _ => dj, fun _ => n1, fun z => by cases z⟩
        | brk => exact h.elim
        | cnt => exact h.elim
      | ex x e' =>
        rw [hr] at h
        intro cls dd σ' H' F' S' af xr
        exact h cls dd H' F' S' (lst af) xr
      | bad => rw [hr] at h; exact h.elim
end
/-! ### a law -/
/-- the facts without one address -/
def delK (a : Addr) (K : PySem.W.Frag) : PySem.W.Frag := K.filter fun q => !decide (q.1 = a)
theorem delK_lookup {a b : Addr} : ∀ {K : PySem.W.Frag}, (delK a K).lookup b = if b = a then none else K.lookup b
  | [] => by split <;> rfl
  | (c, o) :: K => by
    have ih := delK_lookup (a := a) (b := b) (K := K)
    unfold delK at ih ⊢
    rw [List.filter_cons]
    by_cases hc : c = a
    · subst hc
      rw [if_neg (by simp), ih]
      split
      · rfl
      · rename_i hb
        rw [List.lookup_cons]
        rw [show (b == c) = false from beq_eq_false_iff_ne.mpr hb]
    · rw [if_pos (by simpa using hc), List.lookup_cons, List.lookup_cons, ih]
      by_cases hb : b = c
      · subst hb
        simp [hc]
      · rw [show (b == c) = false from beq_eq_false_iff_ne.mpr hb]
theorem FunD.del {K : PySem.W.Frag} {h : Heap} {x qual : Str} {args : Arguments} {body : List Stmt} {scope : Scope} {f a : Addr} {fd : FuncData} {o : Obj} {vs : Array Value} {n : Nat} (F : FunD K x qual args body scope [] [] f fd) (KX : K.In h) (ha : h.get? a = some o) (ho : o.data = .seq vs n) : FunD (delK a K) x qual args body scope [] [] f fd := by
  obtain ⟨oc, od, dV, kV, doc, pm, an, cdv, ct, osl, rfl, lk, hcd, hD, hK⟩ := F.ex
  have nf : f ≠ a := fun z => by
    subst z
    have := KX _ _ lk
    rw [ha] at this
    cases this
    cases ho
  refine ⟨⟨oc, od, dV, kV, doc, pm, an, cdv, ct, osl, rfl, by rw [delK_lookup, if_neg nf]; exact lk, ?_, ?_, .inl rfl⟩, ?_⟩
  · unfold PySem.W.codeIn at hcd ⊢
    cases cdv <;> (first | (cases hcd; done) | skip)
    rename_i c
    simp only at hcd ⊢
    rw [delK_lookup]
    by_cases hc : c = a
    · subst hc
      exfalso
      cases hl : K.lookup c with
      | none => rw [hl] at hcd; cases hcd
      | some o2 =>
        have := KX _ _ hl
        rw [ha] at this
        cases this
        rw [hl] at hcd
        obtain ⟨c1, c2, c3, c4⟩ := o
        cases ho
        cases hcd
    · rw [if_neg hc]; exact hcd
  · rcases hD with hD | ⟨z, _⟩
    · exact .inl hD
    · exact absurd rfl z
  · show PySem.W.keepIn _ _ = true
    unfold PySem.W.keepIn
    simp only
    rw [delK_lookup, if_neg nf, lk]
theorem PgOk.del {g : Tab} {es : List FnE} {K : PySem.W.Frag} {mg : Str → Option Value} {h : Heap} {a : Addr} {o : Obj} {vs : Array Value} {n : Nat} (O : PgOk g es K mg) (KX : K.In h) (ha : h.get? a = some o) (ho : o.data = .seq vs n) : PgOk g es (delK a K) mg :=
  ⟨O.free, O.cons, O.fns, O.chk, fun q hq => by
    obtain ⟨b, fd, h1, h2, h3, h4⟩ := O.defs q hq
    exact ⟨b, fd, h1, FunD.del h2 KX ha ho, h3, h4⟩⟩
theorem rep_ints {H : Hp} {F : AS} : ∀ ns : List Int, RepL H F (ns.map D.int) (ns.map V.int) nos
  | [] => rfl
  | n :: ns => RepL.cons rfl (rep_ints ns)
/-- the law's end -/
theorem walk_vm {l : PySem.W.OpenLaw} {n k : Nat} {q : Program} {loose : List Str} {XP : (Str → Option Value) → Heap → Prop} {YP : World → Heap → Prop} {d : DefRec} {x : Str} {g : Tab} {es : List FnE} {fn : Fn}
    (hn : l.most = some n) (hn2 : n ≤ sizeLine) (hdf : d.params.defaults = []) (hr : Room k callerA) (hfn : g.fn d.name = some fn) (hps : fn.ps = [x])
    (F : ∀ (w : World) (mg : Str → Option Value) (fa : Addr) (h : Heap), YP w h → h.Ns mainGlobals mg → mg d.name = some (.ref fa) → ∃ K : PySem.W.Frag, K.In h ∧ PgOk g es K mg)
    (hlaw : ∀ ns : List Int, ns.length ≤ n → ∃ W e', callN g.fn W k d.name [.lst false (ns.map .int)] = .ok (.bl true) e') :
    PySem.W.WalkO q loose XP YP l.row.toRowW d [] (fun f vs => PySem.call f vs) := by
  refine Att.attach_call hn hdf fun w s₀ s₁ mg mb fa o pm cd doc a vs ns G Y ho hd hcd hmg hobj hints hlen hg => ?_
  obtain ⟨K, KX, O⟩ := F w mg fa _ Y G.T.g hmg
  have KX' : (delK a K).In s₁.heap := fun b o e => by
    rw [delK_lookup] at e
    split at e
    · cases e
    · exact KX b o e
  have O' := O.del KX hobj rfl
  have dead : ∀ (H : Hp) e s', L2.CX l.prog w [] H s₁ (fun _ _ _ => False) e s' → False := fun H e s' ⟨_, _, _, _, _, _, _, _, _, _, _, _, z⟩ => z
  obtain ⟨q', hq', hx, rfl⟩ := lookup_map (es := es) (f := d.name) (fn := fn) (by rw [← O.fns]; exact hfn)
  obtain ⟨a', fd, h1, h2, h3, h4⟩ := O'.defs q' hq'
  rw [hx, hmg] at h1
  cases h1
  refine law_call (x := x) (k := k) (fd := fd) (sp := fun vs H Q E => ∃ W, spC (callN g.fn W k) (fun _ _ _ _ _ => False) q'.x q'.fn.ps.length vs H Q E) KX' G.T.g G.T.b G.T.builtins G.T.nolimit hg hobj hints (Nat.le_trans hlen hn2) hr (fun base hb hm => ?_) (fun s u => ?_) (fun H hO hS => ?_) (dead ·)
  · have fo := fns_ok (P := l.prog) (w := w) (XR := fun _ _ _ _ _ => False) O' hb hm k q' hq' (hx ▸ hfn) _ fd h2
    refine ⟨fun vs H Q E ⟨W, h⟩ => ?_, fun A outer s H args us vs Q E hr he hb hv ⟨W, h⟩ => ?_⟩
    · have := (fo W).len vs H Q E h
      rw [this, hps]
    · rw [← hps] at hb
      exact (fo W).run A outer s H args us vs Q E hr he hb hv h
  · have := h3 s [u] (by rw [hps]; rfl)
    rw [hps] at this
    exact this
  · obtain ⟨W, e', hl⟩ := hlaw ns hlen
    have hrd : Rd H a (.lst (ns.map V.int)) := by
      rcases hS with hS | ⟨o, its, m, hk, _⟩
      · exact hS
      · rw [delK_lookup, if_pos rfl] at hk
        cases hk
    refine ⟨W, by rw [hps]; rfl, nos, nos, [.lst false (ns.map .int)], ⟨?_, sb_nos, fun _ z => z.elim⟩, ?_⟩
    · exact ⟨_, [], nos, nos, rfl, fun d hd => (by
        cases hd
        exact ⟨.ref a, rfl, a, ns.map V.int, rfl, by rw [List.length_map]; exact Nat.le_trans hlen hn2, rep_ints ns, .inl ⟨rfl, hrd, id⟩⟩), rfl, dj_nos, sb_nos, sb_nos⟩
    · rw [hx, hl]
      exact fun v H' F' S1 S2 a => a.rep
end Vm
namespace Vm
open PySem PySem.Spec L2
def faC : Str × D → He.Fa
  | (x, .int i) => .int x i
  | (x, .str s) => .str x s
  | (x, _) => .free x
def faOf (g : Tab) (es : List FnE) : List He.Fa := es.map (fun q => .glo q.x) ++ (g.free.map .free ++ g.cons.map faC)
def ddOf (es : List FnE) : List He.DefD := es.map fun q => ⟨(q.x, none), q.x, q.x, q.args, q.body, q.scope, [], []⟩
def BndOk (q : FnE) : Prop := ∀ (kV doc pm : Value) (an : Option Addr) (cdv ct : Value) (us : List Value), us.length = q.fn.ps.length → bindArgs (PySem.W.fnOf q.x q.x q.args q.body q.scope .none kV doc pm an cdv ct) ⟨us, []⟩ = pure (q.fn.ps.zip us)
def KwOk (q : FnE) (n : Nat) (ks : List Str) (perm : List Nat) : Prop := ∀ (kV doc pm : Value) (an : Option Addr) (cdv ct : Value) (us ws : List Value), us.length = n → ws.length = ks.length →
  bindArgs (PySem.W.fnOf q.x q.x q.args q.body q.scope .none kV doc pm an cdv ct) ⟨us, ks.zip ws⟩ = pure (q.fn.ps.zip (permL perm (us ++ ws)))
def consB (g : Tab) : Bool := g.cons.all fun q => match q.2 with
  | .int _ => true
  | .str s => PyData.strOk s && decide (s.length ≤ sizeLine)
  | _ => false
theorem fact_mem {fa : List He.Fa} {fn : List He.DefD} {K : PySem.W.Frag} (c : He.SaysD fa fn K) {f : He.Fa} (h : f ∈ fa) : f.ok K = true := by
  obtain ⟨i, hi⟩ := List.getElem?_of_mem h
  exact c.fact i hi
theorem pg_of {g : Tab} {es : List FnE} {K : PySem.W.Frag} {h : Heap} {mg : Str → Option Value} (X : K.In h) (G : h.Ns mainGlobals mg) (c : He.SaysD (faOf g es) (ddOf es) K)
    (hf : g.fns = es.map fun q => (q.x, q.fn)) (hk : es.all (chkFn g) = true) (hc : consB g = true) (hb : ∀ q ∈ es, BndOk q) (hkw : ∀ q ∈ es, ∀ n ks perm, (q.x, n, ks, perm) ∈ g.kws → KwOk q n ks perm) : PgOk g es K mg := by
  refine ⟨fun x hx => ?_, fun q hq => ?_, hf, hk, fun q hq => ?_⟩
  · exact He.free_ok X G (fact_mem c (by unfold faOf; simp [hx]))
  · have hq2 := List.all_eq_true.mp hc q hq
    obtain ⟨x, d⟩ := q
    have hm : faC (x, d) ∈ faOf g es := by
      unfold faOf
      exact List.mem_append_right _ (List.mem_append_right _ (List.mem_map.mpr ⟨_, hq, rfl⟩))
    cases d <;> (first | (cases hq2; done) | skip)
    · rename_i i
      obtain ⟨t, ht⟩ := He.int_ok X G (x := x) (i := i) (fact_mem c hm)
      exact ⟨_, .int i, ht, ⟨t, rfl⟩, fun _ _ => rfl⟩
    · rename_i s
      simp only [Bool.and_eq_true, decide_eq_true_eq] at hq2
      obtain ⟨t, ht⟩ := He.str_ok X G (x := x) (z := s) (fact_mem c hm)
      exact ⟨_, .str s, ht, ⟨t, rfl⟩, fun _ _ => ⟨rfl, hq2⟩⟩
  · have hg := He.glo_ok X G (x := q.x) (fact_mem c (by unfold faOf; exact List.mem_append_left _ (List.mem_map.mpr ⟨q, hq, rfl⟩)))
    obtain ⟨i, hi⟩ := List.getElem?_of_mem hq
    obtain ⟨fd, F⟩ := c.def_ i (d := ⟨(q.x, none), q.x, q.x, q.args, q.body, q.scope, [], []⟩) (by unfold ddOf; rw [List.getElem?_map, hi]; rfl)
    have F' : FunD K q.x q.x q.args q.body q.scope [] [] (He.ga K q.x) fd := F
    refine ⟨He.ga K q.x, fd, hg, F', ?_, fun n ks perm hm => ?_⟩
    · obtain ⟨oc, od, dV, kV, doc, pm, an, cdv, ct, osl, rfl, lk, hcd, hD, hK⟩ := F'.ex
      rcases hD with ⟨_, rfl⟩ | ⟨e, _⟩
      · exact fun s us hl => .of_eq (hb q hq kV doc pm an cdv ct us hl)
      · exact absurd rfl e
    · obtain ⟨oc, od, dV, kV, doc, pm, an, cdv, ct, osl, rfl, lk, hcd, hD, hK⟩ := F'.ex
      rcases hD with ⟨_, rfl⟩ | ⟨e, _⟩
      · exact fun s us ws h1 h2 => .of_eq (hkw q hq n ks perm hm kV doc pm an cdv ct us ws h1 h2)
      · exact absurd rfl e
theorem kw_of {g : Tab} {es : List FnE} (hn : nodupB (es.map fun q => q.x) = true) (kl : List (FnE × Nat × List Str × List Nat)) (hk : g.kws = kl.map fun r => (r.1.x, r.2)) (hin : ∀ r ∈ kl, r.1 ∈ es ∧ KwOk r.1 r.2.1 r.2.2.1 r.2.2.2) :
    ∀ q ∈ es, ∀ n ks perm, (q.x, n, ks, perm) ∈ g.kws → KwOk q n ks perm := by
  intro q hq n ks perm hm
  rw [hk] at hm
  obtain ⟨⟨q', r⟩, h1, h2⟩ := List.mem_map.mp hm
  obtain ⟨h3, h4⟩ : q' ∈ es ∧ KwOk q' r.1 r.2.1 r.2.2 := hin _ h1
  have e1 : q'.x = q.x := congrArg (fun z => z.1) h2
  have e2 : r = (n, ks, perm) := congrArg (fun z => z.2) h2
  have nd := nodupB_ok hn
  have : q' = q := by
    obtain ⟨i, hi, ei⟩ := List.getElem_of_mem h3
    obtain ⟨j, hj, ej⟩ := List.getElem_of_mem hq
    have : i = j := (List.getElem_inj (h₀ := by simpa using hi) (h₁ := by simpa using hj) nd).mp (by simp [ei, ej, e1])
    subst this
    rw [← ei, ← ej]
  subst this
  rw [e2] at h4
  exact h4
end Vm
namespace Vm.Lib
open PySem PySem.Spec L2 Vm
def bag_1 : List S := [(.asg (.nm 1) (.bin .Mod (.bin .Add (.bin .Add (.bin .Mult (.pk 1) (.cst (.int 39373))) (.bin .Mod (.pk 2) (.cst (.int 2147483587)))) (.cst (.int 17))) (.cst (.int 2147483647))))]
def bag_body : List S := [
    (.asg (.nm 1) (.cst (.int 9489))),
    (.for_ (.nm 2) .seq [(.slc false true (.pk 0) (.cst .non) (.cst (.int 63)))] bag_1),
    (.ret (.lst [(.b1 .lst (.slc false true (.pk 0) (.cst .non) (.cst (.int 63)))), (.cst (.int 0)), (.cst (.int 0)), (.nm 1)]))]
def pull_body : List S := [
    (.iff (.and (.cmp .Eq (.ix (.pk 0) (.cst (.int 2))) (.cst (.int 0))) (.cmp .Lt (.ix (.pk 0) (.cst (.int 1))) (.b1 .len (.ix (.pk 0) (.cst (.int 0)))))) [(.asg (.nm 3) (.ix (.ix (.pk 0) (.cst (.int 0))) (.ix (.pk 0) (.cst (.int 1))))), (.six 0 (.cst (.int 1)) (.bin .Add (.ix (.pk 0) (.cst (.int 1))) (.cst (.int 1)))), (.iff (.cmp .GtE (.pk 3) (.bin .Pow (.cst (.int 10)) (.cst (.int 18)))) [(.six 0 (.cst (.int 2)) (.nm 3))] [(.six 0 (.cst (.int 3)) (.bin .Mod (.bin .Add (.bin .Add (.bin .Mult (.ix (.pk 0) (.cst (.int 3))) (.cst (.int 40692))) (.bin .Mult (.bin .Mod (.pk 3) (.cst (.int 2147483587))) (.cst (.int 48271)))) (.cst (.int 7))) (.cst (.int 2147483647))))])] []),
    (.iff (.cmp .Gt (.ix (.pk 0) (.cst (.int 2))) (.cst (.int 0))) [(.asg (.nm 4) (.bin .Mod (.ix (.pk 0) (.cst (.int 2))) (.pk 1))), (.six 0 (.cst (.int 2)) (.bin .FloorDiv (.ix (.pk 0) (.cst (.int 2))) (.pk 1))), (.ret (.mv 4))] []),
    (.asg (.nm 2) (.ix (.pk 0) (.cst (.int 3)))),
    (.six 0 (.cst (.int 3)) (.bin .Mod (.bin .Add (.bin .Add (.bin .Mult (.pk 2) (.pk 2)) (.bin .Mult (.pk 2) (.cst (.int 69621)))) (.cst (.int 1013904223))) (.cst (.int 2147483647)))),
    (.ret (.bin .Mod (.bin .Add (.bin .FloorDiv (.ix (.pk 0) (.cst (.int 3))) (.cst (.int 89))) (.bin .Mult (.bin .Mod (.ix (.pk 0) (.cst (.int 3))) (.cst (.int 8191))) (.cst (.int 61)))) (.pk 1)))]
def of_body : List S := [
    (.ret (.ix (.nm 1) (.cal "_law_pull" [(.pk 0), (.b1 .len (.pk 1))])))]
def like_1 : E := (.cal "_law_like" [(.ix (.pk 0) (.pk 2)), (.ix (.pk 1) (.pk 2))])
def like_2 : E := (.lc like_1 (.nm 2) .rng1 [(.b1 .len (.pk 1))] [] [("_law_k", 2)])
def like_body : List S := [
    (.iff (.or (.cmp .NotEq (.isi false [.tuple] (.pk 1)) (.isi false [.tuple] (.pk 0))) (.cmp .NotEq (.isi false [.list] (.pk 1)) (.isi false [.list] (.pk 0)))) [(.ret (.cst (.bl false)))] []),
    (.iff (.not (.isi true [.tuple, .list] (.pk 1))) [(.ret (.and (.cmp .Eq (.isi false [.bool] (.pk 0)) (.isi false [.bool] (.pk 1))) (.cmp .Eq (.pk 0) (.pk 1))))] []),
    (.ret (.and (.cmp .Eq (.b1 .len (.pk 0)) (.b1 .len (.pk 1))) (.b1 .all like_2)))]
structure Is (T : Str → Option Fn) (f : Str) (n N : Nat) (keep : List Bool) (body : List S) : Prop where
  ex : ∃ fn, T f = some fn ∧ fn.ps.length = n ∧ fn.N.length = N ∧ fn.keep = keep ∧ fn.body = body
def fin (keep : List Bool) (r : R Fl) : R D := match r with
  | .ok (.ret d) e => .ok d (lastP keep e)
  | .ok .next e => .ok .non (lastP keep e)
  | .ok _ _ => .bad
  | .ex x e => .ex x (lastP keep e)
  | .bad => .bad
theorem fin_ret {keep : List Bool} {d : D} {e : Nv} : fin keep (.ok (.ret d) e) = .ok d (lastP keep e) := rfl
theorem fin_next {keep : List Bool} {e : Nv} : fin keep (.ok .next e) = .ok .non (lastP keep e) := rfl
theorem Is.eq {T : Str → Option Fn} {f : Str} {n N W k : Nat} {keep : List Bool} {body : List S} {ds : List D} (h : Is T f n N keep body) (hl : ds.length = n) :
    callN T W (k + 1) f ds = fin keep (exs (callN T W k) W body (ds.map some ++ List.replicate (N - n) none)) := by
  obtain ⟨fn, h1, h2, h3, h4, h5⟩ := h.ex
  rw [callN, h1]
  simp only
  rw [if_pos (hl.trans h2.symm), h3, h4, h5, hl]
  generalize exs (callN T W k) W body (ds.map some ++ List.replicate (N - n) none) = r
  cases r with
  | ok fl e => cases fl <;> rfl
  | _ => rfl
def Bag (b : D) : Prop := ∃ (cs : List Int) (i h s : Int), b = .lst true [.lst false (cs.map D.int), .int i, .int h, .int s] ∧ 0 ≤ i ∧ 0 ≤ h ∧ 0 ≤ s ∧ s < 2147483647
theorem atI_nat {α : Type} (xs : List α) (k : Nat) : atI xs (k : Int) = xs[k]? := by
  unfold atI ixN
  rw [if_pos (Int.natCast_nonneg k)]
  by_cases h : k < xs.length
  · rw [if_pos (by omega)]
    simp
  · rw [if_neg (by omega)]
    simp [List.getElem?_eq_none (Nat.le_of_not_lt h)]
theorem ixN_nat (n k : Nat) : ixN n (k : Int) = if k < n then some k else none := by
  unfold ixN
  rw [if_pos (Int.natCast_nonneg k)]
  by_cases h : k < n
  · rw [if_pos (by omega), if_pos h]; simp
  · rw [if_neg (by omega), if_neg h]
theorem atI_ints {cs : List Int} {i : Int} (h0 : 0 ≤ i) (h1 : i < cs.length) : ∃ c : Int, atI (cs.map D.int) i = some (.int c) := by
  obtain ⟨k, rfl⟩ := Int.eq_ofNat_of_zero_le h0
  refine ⟨cs[k]'(by omega), ?_⟩
  rw [atI_nat, List.getElem?_map, List.getElem?_eq_getElem (by omega)]
  rfl
theorem a0 {x : D} {r : List D} : atI (x :: r) 0 = some x := atI_nat (x :: r) 0
theorem a1 {x y : D} {r : List D} : atI (x :: y :: r) 1 = some y := atI_nat (x :: y :: r) 1
theorem a2 {x y z : D} {r : List D} : atI (x :: y :: z :: r) 2 = some z := atI_nat (x :: y :: z :: r) 2
theorem a3 {x y z w : D} {r : List D} : atI (x :: y :: z :: w :: r) 3 = some w := atI_nat (x :: y :: z :: w :: r) 3
theorem s1 {x y d : D} {r : List D} : setO (.lst true (x :: y :: r)) (.int 1) d = some (.lst true (x :: d.fz :: r)) := by
  show (ixN (r.length + 2) ((1 : Nat) : Int)).map _ = _
  rw [ixN_nat, if_pos (by omega)]
  rfl
theorem s2 {x y z d : D} {r : List D} : setO (.lst true (x :: y :: z :: r)) (.int 2) d = some (.lst true (x :: y :: d.fz :: r)) := by
  show (ixN (r.length + 3) ((2 : Nat) : Int)).map _ = _
  rw [ixN_nat, if_pos (by omega)]
  rfl
theorem s3 {x y z w d : D} {r : List D} : setO (.lst true (x :: y :: z :: w :: r)) (.int 3) d = some (.lst true (x :: y :: z :: d.fz :: r)) := by
  show (ixN (r.length + 4) ((3 : Nat) : Int)).map _ = _
  rw [ixN_nat, if_pos (by omega)]
  rfl
theorem asg_nm {i : Nat} {d : D} {e : Nv} : asgT (.nm i) d e = if i < e.length then some (e.set i (some d)) else none := rfl
theorem asg_tup {ts : List Tg} {xs : List D} {e : Nv} : asgT (.tup ts) (.tup xs) e = asgL ts xs e := rfl
theorem asgl_nil {e : Nv} : asgL [] [] e = some e := rfl
theorem asgl_cons {t : Tg} {ts : List Tg} {x : D} {xs : List D} {e : Nv} : asgL (t :: ts) (x :: xs) e = (asgT t x e).bind fun e1 => asgL ts xs e1 := rfl
theorem eq_ii {i j : Int} : eqD (.int i) (.int j) = (i == j) := rfl
theorem eq_bb {i j : Bool} : eqD (.bl i) (.bl j) = (i == j) := rfl
theorem eq_ss {i j : Str} : eqD (.str i) (.str j) = (i == j) := rfl
theorem eq_nn : eqD .non .non = true := rfl
theorem eq_ll {o p : Bool} {xs ys : List D} : eqD (.lst o xs) (.lst p ys) = eqL xs ys := rfl
theorem eq_tt {xs ys : List D} : eqD (.tup xs) (.tup ys) = eqL xs ys := rfl
theorem eql_nil : eqL [] [] = true := rfl
theorem eql_cons {x y : D} {xs ys : List D} : eqL (x :: xs) (y :: ys) = (eqD x y && eqL xs ys) := rfl
theorem asb_ok {b : Bool} {e : Nv} : asB (.ok (.bl b) e) = .ok b e := rfl
theorem ev_lc {C : Orc} {elt : E} {tg : Tg} {ik : Ik} {is ifs : List E} {own : List (Str × Nat)} {e e1 e2 : Nv} {xs ds r : List D} (h1 : evs C is e = .ok xs e1) (h2 : itemsD ik xs = some ds)
    (h3 : lcGo (fun e => wipeE e (own.map (·.2))) (asgT tg) (fun e => evTs C ifs e) (fun e => (ev C elt e).still) ds (wipeE e1 (own.map (·.2))) = .ok r e2) : ev C (.lc elt tg ik is ifs own) e = .ok (.lst true r) e2 := by
  rw [ev, h1, R.bind_ok]
  simp only [h2, h3]
  rfl
theorem nat_small {n : Nat} (h : n < 2 ^ 200) : n < 2 ^ 9000 := Nat.lt_of_lt_of_le h (Nat.pow_le_pow_right (by decide) (by decide))
theorem pull_ok {T : Str → Option Fn} {W k : Nat} (hT : Is T "_law_pull" 2 5 [true, true] pull_body) {b : D} (B : Bag b) {m : Int} (hm : 0 < m) (hm2 : m < 2 ^ 200) :
    ∃ r b', callN T W (k + 1) "_law_pull" [b, .int m] = .ok (.int r) [some b', some (.int m)] ∧ Bag b' ∧ 0 ≤ r ∧ r < m := by
  obtain ⟨cs, i, h, s, rfl, h0, h1, h2, h3⟩ := B
  rw [hT.eq rfl]
  have hm3 : m.natAbs < 2 ^ 9000 := nat_small (by omega)
  have hs : s.natAbs < 2 ^ 64 := by omega
  have h89 : 89 < 2 ^ 9000 := nat_small (by decide)
  by_cases c1 : h = 0
  · subst c1
    by_cases c2 : i < cs.length
    · obtain ⟨c, hc⟩ := atI_ints h0 c2
      by_cases c3 : 1000000000000000000 ≤ c
      · have hcm : 0 < c := by omega
        refine ⟨c % m, .lst true [.lst false (cs.map D.int), .int (i + 1), .int (c / m), .int s], ?_, ⟨cs, i + 1, c / m, s, rfl, by omega, Int.ediv_nonneg (by omega) (by omega), h2, h3⟩, Int.emod_nonneg _ (by omega), Int.emod_lt_of_pos _ hm⟩
        simp [pull_body, exs, exS, ev, asb_ok, asBD, R.of_some, ixD, cmpD, eq_ii, eq_bb, eq_ss, eq_nn, eq_ll, eq_tt, eql_nil, eql_cons, shal, a0, a1, a2, a3, s1, s2, s3, b1D, asg_nm, asg_tup, asgl_nil, asgl_cons, onS, updE, binD, D.fz, fzL, fin, lastP, c2, hc, c3, hcm, hm, hm3]
      · let s1' := (s * 40692 + c % 2147483587 * 48271 + 7) % 2147483647
        have e1 : 0 ≤ s1' ∧ s1' < 2147483647 := ⟨Int.emod_nonneg _ (by decide), Int.emod_lt_of_pos _ (by decide)⟩
        let s2' := (s1' * s1' + s1' * 69621 + 1013904223) % 2147483647
        have e2 : 0 ≤ s2' ∧ s2' < 2147483647 := ⟨Int.emod_nonneg _ (by decide), Int.emod_lt_of_pos _ (by decide)⟩
        have e3 : ((s * 40692 + c % 2147483587 * 48271 + 7) % 2147483647).natAbs < 18446744073709551616 := by omega
        refine ⟨(s2' / 89 + s2' % 8191 * 61) % m, .lst true [.lst false (cs.map D.int), .int (i + 1), .int 0, .int s2'], ?_, ⟨cs, i + 1, 0, s2', rfl, by omega, by omega, e2.1, e2.2⟩, Int.emod_nonneg _ (by omega), Int.emod_lt_of_pos _ hm⟩
        simp [pull_body, exs, exS, ev, asb_ok, asBD, R.of_some, ixD, cmpD, eq_ii, eq_bb, eq_ss, eq_nn, eq_ll, eq_tt, eql_nil, eql_cons, shal, a0, a1, a2, a3, s1, s2, s3, b1D, asg_nm, asg_tup, asgl_nil, asgl_cons, onS, updE, binD, D.fz, fzL, fin, lastP, c2, hc, c3, hm, hm3, e3, h89]
        exact ⟨rfl, rfl⟩
    · let s2' := (s * s + s * 69621 + 1013904223) % 2147483647
      have e2 : 0 ≤ s2' ∧ s2' < 2147483647 := ⟨Int.emod_nonneg _ (by decide), Int.emod_lt_of_pos _ (by decide)⟩
      have e3 : s.natAbs < 18446744073709551616 := by omega
      refine ⟨(s2' / 89 + s2' % 8191 * 61) % m, .lst true [.lst false (cs.map D.int), .int i, .int 0, .int s2'], ?_, ⟨cs, i, 0, s2', rfl, by omega, by omega, e2.1, e2.2⟩, Int.emod_nonneg _ (by omega), Int.emod_lt_of_pos _ hm⟩
      simp [pull_body, exs, exS, ev, asb_ok, asBD, R.of_some, ixD, cmpD, eq_ii, eq_bb, eq_ss, eq_nn, eq_ll, eq_tt, eql_nil, eql_cons, shal, a0, a1, a2, a3, s1, s2, s3, b1D, asg_nm, asg_tup, asgl_nil, asgl_cons, onS, updE, binD, D.fz, fzL, fin, lastP, c2, hm, hm3, e3, h89]
      exact ⟨rfl, rfl⟩
  · have hp : 0 < h := by omega
    refine ⟨h % m, .lst true [.lst false (cs.map D.int), .int i, .int (h / m), .int s], ?_, ⟨cs, i, h / m, s, rfl, by omega, Int.ediv_nonneg (by omega) (by omega), h2, h3⟩, Int.emod_nonneg _ (by omega), Int.emod_lt_of_pos _ hm⟩
    simp [pull_body, exs, exS, ev, asb_ok, asBD, R.of_some, ixD, cmpD, eq_ii, eq_bb, eq_ss, eq_nn, eq_ll, eq_tt, eql_nil, eql_cons, shal, a0, a1, a2, a3, s1, s2, s3, b1D, asg_nm, asg_tup, asgl_nil, asgl_cons, onS, updE, binD, D.fz, fzL, fin, lastP, c1, hp, hm, hm3]
/-! ### loops -/
theorem for_ok {tg : D → Nv → Option Nv} {b : Nv → R Fl} (I : Nat → Nv → Prop) : ∀ (ds : List D) (i : Nat) (e : Nv), I i e →
    (∀ j x e, ds[j]? = some x → I (i + j) e → ∃ e1 fl e2, tg x e = some e1 ∧ b e1 = .ok fl e2 ∧ (fl = .next ∨ fl = .cnt) ∧ I (i + j + 1) e2) → ∃ e', forGo tg b ds e = .ok .next e' ∧ I (i + ds.length) e'
  | [], i, e, h, _ => ⟨e, rfl, h⟩
  | x :: ds, i, e, h, st => by
    obtain ⟨e1, fl, e2, h1, h2, h3, h4⟩ := st 0 x e rfl h
    obtain ⟨e', h5, h6⟩ := for_ok I ds (i + 1) e2 h4 fun j y e hj hI => by
      have := st (j + 1) y e (by simpa using hj) (by rw [show i + (j + 1) = i + 1 + j by omega]; exact hI)
      rw [show i + (j + 1) = i + 1 + j by omega] at this
      exact this
    refine ⟨e', ?_, by rw [List.length_cons, show i + (ds.length + 1) = i + 1 + ds.length by omega]; exact h6⟩
    unfold forGo
    rw [h1]
    simp only [h2, R.bind_ok]
    rcases h3 with rfl | rfl <;> exact h5
theorem whl_ok {c : Nv → R Bool} {b : Nv → R Fl} (I : Nat → Nv → Prop) : ∀ (m n : Nat) (e : Nv), n ≤ m → I n e → (∀ n e, I n e → (∃ e1, c e = .ok false e1) ∨ (∃ e1 fl e2 k, c e = .ok true e1 ∧ b e1 = .ok fl e2 ∧ (fl = .next ∨ fl = .cnt) ∧ k < n ∧ I k e2)) →
    ∃ n e0 e', I n e0 ∧ c e0 = .ok false e' ∧ whlGo c b (m + 1) e = .ok .next e' := by
  intro m
  induction m with
  | zero =>
    intro n e hn h st
    rcases st n e h with ⟨e1, h1⟩ | ⟨e1, fl, e2, k, _, _, _, hk, _⟩
    · exact ⟨n, e, e1, h, h1, by unfold whlGo; rw [h1]; rfl⟩
    · omega
  | succ m ih =>
    intro n e hn h st
    rcases st n e h with ⟨e1, h1⟩ | ⟨e1, fl, e2, k, h1, h2, h3, hk, h4⟩
    · exact ⟨n, e, e1, h, h1, by unfold whlGo; rw [h1]; rfl⟩
    · obtain ⟨n', e0, e', h5, h6, h7⟩ := ih k e2 (by omega) h4 st
      refine ⟨n', e0, e', h5, h6, ?_⟩
      unfold whlGo
      rw [h1]
      simp only [R.bind_ok, if_pos, h2]
      rcases h3 with rfl | rfl <;> exact h7
theorem lc_ok {w : Nv → Nv} {tg : D → Nv → Option Nv} {tt : Nv → R Bool} {f : Nv → R D} (I : Nv → Prop) (P : Nat → D → Prop) : ∀ (ds : List D) (i : Nat) (e : Nv), I e →
    (∀ j x e, ds[j]? = some x → I e → ∃ e1 e2 d e3, tg x e = some e1 ∧ tt e1 = .ok true e2 ∧ f e2 = .ok d e3 ∧ I (w e3) ∧ P (i + j) d) → ∃ r e', lcGo w tg tt f ds e = .ok r e' ∧ I e' ∧ r.length = ds.length ∧ ∀ j d, r[j]? = some d → ∃ d0, d = d0.fz ∧ P (i + j) d0
  | [], i, e, h, _ => ⟨[], e, rfl, h, rfl, fun j d hj => by simp at hj⟩
  | x :: ds, i, e, h, st => by
    obtain ⟨e1, e2, d, e3, h1, h2, h3, h4, h5⟩ := st 0 x e rfl h
    obtain ⟨r, e', h6, h7, h8, h9⟩ := lc_ok I P ds (i + 1) (w e3) h4 fun j y e hj hI => by
      have := st (j + 1) y e (by simpa using hj) hI
      rw [show i + (j + 1) = i + 1 + j by omega] at this
      exact this
    refine ⟨d.fz :: r, e', ?_, h7, by simp [h8], fun j d' hj => ?_⟩
    · unfold lcGo
      rw [h1]
      simp only [h2, R.bind_ok, if_pos, h3, h6]
    · cases j with
      | zero => exact ⟨d, by simpa using hj.symm, h5⟩
      | succ j =>
        have := h9 j d' (by simpa using hj)
        rw [show i + (j + 1) = i + 1 + j by omega]
        exact this
theorem fzL_ints : ∀ cs : List Int, fzL (cs.map D.int) = cs.map D.int
  | [] => rfl
  | c :: cs => by rw [List.map_cons, fzL, fzL_ints cs]; rfl
theorem isFL_ints : ∀ cs : List Int, isFL (cs.map D.int) = true
  | [] => rfl
  | c :: cs => by rw [List.map_cons, isFL, isFL_ints cs]; rfl
theorem slc_ints {o : Bool} {ns : List Int} {k : Nat} : slcD (.lst o (ns.map D.int)) none (some (k : Int)) = some (.lst true ((ns.take k).map D.int)) := by
  unfold slcD
  simp only [HT.sIx_none, HT.sIx_nat, List.length_map, List.drop_zero, Nat.sub_zero, List.map_take]
  congr 2
  by_cases h : k ≤ ns.length
  · rw [Nat.min_eq_left h]
  · rw [Nat.min_eq_right (by omega), List.take_of_length_le (by simp), List.take_of_length_le (by simp; omega)]
theorem bag_ok {T : Str → Option Fn} {W k : Nat} (hT : Is T "_law_bag" 1 3 [true] bag_body) (o : Bool) (ns : List Int) :
    ∃ b, callN T W (k + 1) "_law_bag" [.lst o (ns.map .int)] = .ok b [some (.lst o (ns.map .int))] ∧ Bag b := by
  rw [hT.eq rfl]
  have key : ∃ e', forGo (asgT (.nm 2)) (fun e => exs (callN T W k) W bag_1 e) ((ns.take 63).map D.int) [some (.lst o (ns.map .int)), some (.int 9489), none] = .ok .next e' ∧ ∃ (s : Int) (x : Option D), e' = [some (.lst o (ns.map .int)), some (.int s), x] ∧ 0 ≤ s ∧ s < 2147483647 := by
    refine for_ok (I := fun _ e' => ∃ (s : Int) (x : Option D), e' = [some (.lst o (ns.map .int)), some (.int s), x] ∧ 0 ≤ s ∧ s < 2147483647) _ 0 _ ⟨9489, none, rfl, by decide, by decide⟩ ?_
    rintro j d e hd ⟨s, x, rfl, h1, h2⟩
    rw [List.getElem?_map] at hd
    obtain ⟨c, _, rfl⟩ := Option.map_eq_some_iff.mp hd
    have hs : s.natAbs < 18446744073709551616 := by omega
    refine ⟨[some (.lst o (ns.map .int)), some (.int s), some (.int c)], .next, [some (.lst o (ns.map .int)), some (.int ((s * 39373 + c % 2147483587 + 17) % 2147483647)), some (.int c)], rfl, by simp [bag_1, exs, exS, ev, evs, evA, asb_ok, asBD, R.of_some, ixD, cmpD, eq_ii, eq_bb, eq_ss, eq_nn, eq_ll, eq_tt, eql_nil, eql_cons, shal, a0, a1, a2, a3, s1, s2, s3, b1D, asg_nm, asg_tup, asgl_nil, asgl_cons, onS, updE, binD, D.fz, fzL, fin, lastP, partD, itemsD, callA, takeA, putA, isTy, hs], .inl rfl, _, _, rfl, Int.emod_nonneg _ (by decide), Int.emod_lt_of_pos _ (by decide)⟩
  obtain ⟨e', h1, s, x, rfl, h2, h3⟩ := key
  have hsl : slcD (.lst o (ns.map D.int)) none (some 63) = some (.lst true ((ns.take 63).map D.int)) := slc_ints (o := o) (ns := ns) (k := 63)
  refine ⟨.lst true [.lst false ((ns.take 63).map D.int), .int 0, .int 0, .int s], ?_, _, 0, 0, s, rfl, by decide, by decide, h2, h3⟩
  simp [bag_body, exs, exS, ev, evs, evA, asb_ok, asBD, R.of_some, ixD, cmpD, eq_ii, eq_bb, eq_ss, eq_nn, eq_ll, eq_tt, eql_nil, eql_cons, shal, a0, a1, a2, a3, s1, s2, s3, b1D, asg_nm, asg_tup, asgl_nil, asgl_cons, onS, updE, binD, D.fz, fzL, fin, lastP, partD, itemsD, callA, takeA, putA, isTy, hsl, h1, -List.map_take]
  exact fzL_ints _
theorem fzL_isF : ∀ {xs : List D}, isFL xs = true → fzL xs = xs := by
  have h : ∀ n : Nat, (∀ d : D, sizeOf d < n → d.isF = true → d.fz = d) := by
    intro n
    induction n with
    | zero => intro d h; omega
    | succ n ih =>
      have hl : ∀ xs : List D, sizeOf xs < n + 1 → isFL xs = true → fzL xs = xs := by
        intro xs
        induction xs with
        | nil => intros; rfl
        | cons x r ihr =>
          intro hs hf
          simp only [isFL, Bool.and_eq_true] at hf
          simp at hs
          rw [fzL, ihr (by omega) hf.2, ih x (by omega) hf.1]
      intro d hs hf
      cases d with
      | tup xs => simp only [D.isF] at hf; simp at hs; rw [D.fz, hl xs (by omega) hf]
      | lst o xs => simp only [D.isF, Bool.and_eq_true, Bool.not_eq_true'] at hf; simp at hs; rw [D.fz, hl xs (by omega) hf.2, hf.1]
      | _ => rfl
  intro xs
  induction xs with
  | nil => intros; rfl
  | cons x r ih =>
    intro hf
    simp only [isFL, Bool.and_eq_true] at hf
    rw [fzL, ih hf.2, h (sizeOf x + 1) x (by omega) hf.1]
theorem of_ok {T : Str → Option Fn} {W k : Nat} (hT : Is T "_law_of" 2 2 [true, true] of_body) (hP : Is T "_law_pull" 2 5 [true, true] pull_body) {b : D} (B : Bag b) {o : Bool} {xs : List D} (hx : isFL xs = true) (h0 : xs ≠ []) (hl : xs.length < 1000000000) :
    ∃ x b', callN T W (k + 2) "_law_of" [b, .lst o xs] = .ok x [some b', some (.lst false xs)] ∧ Bag b' ∧ x ∈ xs := by
  rw [hT.eq rfl]
  have hpos : 0 < xs.length := List.length_pos_iff.mpr h0
  obtain ⟨r, b', h1, h2, h3, h4⟩ := pull_ok (W := W) (k := k) hP B (m := (xs.length : Int)) (by omega) (by omega)
  obtain ⟨j, rfl⟩ := Int.eq_ofNat_of_zero_le h3
  have hj : j < xs.length := by omega
  refine ⟨xs[j], b', ?_, h2, List.getElem_mem hj⟩
  have hat : atI xs (j : Int) = some xs[j] := by rw [atI_nat, List.getElem?_eq_getElem hj]
  simp [of_body, exs, exS, ev, evs, evA, asb_ok, asBD, R.of_some, ixD, cmpD, eq_ii, eq_bb, eq_ss, eq_nn, eq_ll, eq_tt, eql_nil, eql_cons, shal, a0, a1, a2, a3, s1, s2, s3, b1D, asg_nm, asg_tup, asgl_nil, asgl_cons, onS, updE, binD, D.fz, fzL, fin, lastP, partD, itemsD, callA, takeA, putA, isTy, h1, fzL_isF hx, hat]
/-! ### _law_like -/
def lk : Nat → D → D → Bool
  | _, .int i, .int j => i == j
  | _, .str i, .str j => i == j
  | _, .bl i, .bl j => i == j
  | _, .non, .non => true
  | n + 1, .lst _ xs, .lst _ ys => decide (xs.length = ys.length) && (decide (xs.length < 1000000) && (xs.zip ys).all fun p => lk n p.1 p.2)
  | n + 1, .tup xs, .tup ys => isFL xs && (isFL ys && (decide (xs.length = ys.length) && (decide (xs.length < 1000000) && (xs.zip ys).all fun p => lk n p.1 p.2)))
  | _, _, _ => false
theorem rng_nat {n : Nat} (h : n < 1000000) : rngD 0 (n : Int) = some ((List.range n).map fun (k : Nat) => .int (k : Int)) := by
  unfold rngD
  rw [if_pos (by omega)]
  simp
theorem bools_all : ∀ {r : List D}, (∀ (j : Nat) (d : D), r[j]? = some d → d = D.bl true) → boolsOf r = some (List.replicate r.length true)
  | [], _ => rfl
  | x :: r, h => by
    have e := h 0 x rfl
    subst e
    rw [boolsOf, bools_all fun j d hj => h (j + 1) d (by simpa using hj)]
    rfl
theorem atI_isF {xs : List D} {d : D} {j : Nat} (h : isFL xs = true) (hj : xs[j]? = some d) : d.isF = true := by
  induction xs generalizing j with
  | nil => simp at hj
  | cons x r ih =>
    simp only [isFL, Bool.and_eq_true] at h
    cases j with
    | zero => have : x = d := by simpa using hj
              exact this ▸ h.1
    | succ j => exact ih h.2 (by simpa using hj)
theorem like_ok {T : Str → Option Fn} {W : Nat} (hT : Is T "_law_like" 2 3 [true, true] like_body) : ∀ (k n : Nat) (a b : D), n < k → lk n a b = true → callN T W k "_law_like" [a, b] = .ok (.bl true) [some a, some b] := by
  intro k
  induction k with
  | zero => intro n a b h; omega
  | succ k ih =>
    intro n a b hn h
    rw [hT.eq rfl]
    have seqs : ∀ (xs ys : List D) (A B : D), (∀ j : Nat, ixD A (.int j) = xs[j]?) → (∀ j : Nat, ixD B (.int j) = ys[j]?) → xs.length = ys.length → xs.length < 1000000 → (∀ m, n = m + 1 → (xs.zip ys).all (fun p => lk m p.1 p.2) = true) → n ≠ 0 →
        ∃ r e', lcGo (fun e => wipeE e [2]) (asgT (.nm 2)) (fun e => evTs (callN T W k) [] e) (fun e => (ev (callN T W k) like_1 e).still) ((List.range ys.length).map fun (k : Nat) => .int (k : Int)) [some A, some B, none] = .ok r e' ∧ e' = [some A, some B, none] ∧ r.length = ys.length ∧ ∀ (j : Nat) (d : D), r[j]? = some d → d = D.bl true := by
      intro xs ys A B hA hB hl hs hall hn0
      obtain ⟨m, rfl⟩ := Nat.exists_eq_succ_of_ne_zero hn0
      obtain ⟨r, e', h1, h2, h3, h4⟩ := lc_ok (w := fun e => wipeE e [2]) (tg := asgT (.nm 2)) (tt := fun e => evTs (callN T W k) [] e) (f := fun e => (ev (callN T W k) like_1 e).still) (fun e => e = [some A, some B, none]) (fun _ d => d = D.bl true) ((List.range ys.length).map fun (k : Nat) => .int (k : Int)) 0 [some A, some B, none] rfl (by
        rintro j x e hx rfl
        rw [List.getElem?_map] at hx
        obtain ⟨j', hj', rfl⟩ := Option.map_eq_some_iff.mp hx
        obtain ⟨hjl, rfl⟩ := List.getElem?_eq_some_iff.mp hj'
        simp only [List.length_range] at hjl
        rw [List.getElem_range]
        have hjx : j < xs.length := by omega
        have ha := hA j
        have hb := hB j
        rw [List.getElem?_eq_getElem hjx] at ha
        rw [List.getElem?_eq_getElem hjl] at hb
        have hz := hall m rfl
        rw [List.all_eq_true] at hz
        have hlk : lk m xs[j] ys[j] = true := hz (xs[j], ys[j]) (List.mem_iff_getElem?.mpr ⟨j, by simp [List.getElem?_zip_eq_some, List.getElem?_eq_getElem hjx, List.getElem?_eq_getElem hjl]⟩)
        have hc := ih m xs[j] ys[j] (by omega) hlk
        have hev : ev (callN T W k) like_1 [some A, some B, some (.int j)] = .ok (.bl true) [some A, some B, some (.int j)] := by
          simp only [like_1, ev, evA, List.getElem?_cons_zero, List.getElem?_cons_succ, R.bind_ok, ha, hb, R.of_some, callA, takeA, Option.bind_some, hc, putA]
        refine ⟨[some A, some B, some (.int j)], [some A, some B, some (.int j)], D.bl true, [some A, some B, some (.int j)], rfl, rfl, by rw [hev]; rfl, rfl, rfl⟩)
      refine ⟨r, e', h1, h2, by simpa using h3, fun j d hj => ?_⟩
      obtain ⟨d0, rfl, rfl⟩ := h4 j d hj
      rfl
    unfold lk at h
    split at h
    · have : _ = _ := beq_iff_eq.mp h
      subst this
      simp [like_body, exs, exS, ev, evs, evA, asb_ok, asBD, R.of_some, ixD, cmpD, eq_ii, eq_bb, eq_ss, eq_nn, eq_ll, eq_tt, eql_nil, eql_cons, shal, a0, a1, a2, a3, s1, s2, s3, b1D, asg_nm, asg_tup, asgl_nil, asgl_cons, onS, updE, binD, D.fz, fzL, fin, lastP, partD, itemsD, callA, takeA, putA, isTy]
    · have : _ = _ := beq_iff_eq.mp h
      subst this
      simp [like_body, exs, exS, ev, evs, evA, asb_ok, asBD, R.of_some, ixD, cmpD, eq_ii, eq_bb, eq_ss, eq_nn, eq_ll, eq_tt, eql_nil, eql_cons, shal, a0, a1, a2, a3, s1, s2, s3, b1D, asg_nm, asg_tup, asgl_nil, asgl_cons, onS, updE, binD, D.fz, fzL, fin, lastP, partD, itemsD, callA, takeA, putA, isTy]
    · have : _ = _ := beq_iff_eq.mp h
      subst this
      simp [like_body, exs, exS, ev, evs, evA, asb_ok, asBD, R.of_some, ixD, cmpD, eq_ii, eq_bb, eq_ss, eq_nn, eq_ll, eq_tt, eql_nil, eql_cons, shal, a0, a1, a2, a3, s1, s2, s3, b1D, asg_nm, asg_tup, asgl_nil, asgl_cons, onS, updE, binD, D.fz, fzL, fin, lastP, partD, itemsD, callA, takeA, putA, isTy]
    · simp [like_body, exs, exS, ev, evs, evA, asb_ok, asBD, R.of_some, ixD, cmpD, eq_ii, eq_bb, eq_ss, eq_nn, eq_ll, eq_tt, eql_nil, eql_cons, shal, a0, a1, a2, a3, s1, s2, s3, b1D, asg_nm, asg_tup, asgl_nil, asgl_cons, onS, updE, binD, D.fz, fzL, fin, lastP, partD, itemsD, callA, takeA, putA, isTy]
    · rename_i m o xs o' ys
      simp only [Bool.and_eq_true, decide_eq_true_eq] at h
      obtain ⟨h1, h2, h3⟩ := h
      obtain ⟨r, e', g1, rfl, g3, g4⟩ := seqs xs ys (.lst o xs) (.lst o' ys) (fun j => atI_nat xs j) (fun j => atI_nat ys j) h1 h2 (fun m' e => by cases e; exact h3) (by simp)
      have hb := bools_all g4
      have hlc : ev (callN T W k) like_2 [some (.lst o xs), some (.lst o' ys), none] = .ok (.lst true r) [some (.lst o xs), some (.lst o' ys), none] := by
        unfold like_2
        exact ev_lc (xs := [.int ys.length]) (e1 := [some (.lst o xs), some (.lst o' ys), none]) (by simp [exs, exS, ev, evs, evA, asb_ok, asBD, R.of_some, ixD, cmpD, eq_ii, eq_bb, eq_ss, eq_nn, eq_ll, eq_tt, eql_nil, eql_cons, shal, a0, a1, a2, a3, s1, s2, s3, b1D, asg_nm, asg_tup, asgl_nil, asgl_cons, onS, updE, binD, D.fz, fzL, fin, lastP, partD, itemsD, callA, takeA, putA, isTy]) (rng_nat (n := ys.length) (by omega)) g1
      simp [like_body, exs, exS, ev, evs, evA, asb_ok, asBD, R.of_some, ixD, cmpD, eq_ii, eq_bb, eq_ss, eq_nn, eq_ll, eq_tt, eql_nil, eql_cons, shal, a0, a1, a2, a3, s1, s2, s3, b1D, asg_nm, asg_tup, asgl_nil, asgl_cons, onS, updE, binD, D.fz, fzL, fin, lastP, partD, itemsD, callA, takeA, putA, isTy, h1, hlc, hb]
    · rename_i m xs ys
      simp only [Bool.and_eq_true, decide_eq_true_eq] at h
      obtain ⟨f1, f2, h1, h2, h3⟩ := h
      have tupix : ∀ zs : List D, isFL zs = true → ∀ j : Nat, ixD (.tup zs) (.int j) = zs[j]? := fun zs hz j => by
        show (atI zs (j : Int)).bind _ = _
        rw [atI_nat]
        cases hj : zs[j]? with
        | none => rfl
        | some d => simp [atI_isF hz hj]
      obtain ⟨r, e', g1, rfl, g3, g4⟩ := seqs xs ys (.tup xs) (.tup ys) (tupix xs f1) (tupix ys f2) h1 h2 (fun m' e => by cases e; exact h3) (by simp)
      have hb := bools_all g4
      have hlc : ev (callN T W k) like_2 [some (.tup xs), some (.tup ys), none] = .ok (.lst true r) [some (.tup xs), some (.tup ys), none] := by
        unfold like_2
        exact ev_lc (xs := [.int ys.length]) (e1 := [some (.tup xs), some (.tup ys), none]) (by simp [exs, exS, ev, evs, evA, asb_ok, asBD, R.of_some, ixD, cmpD, eq_ii, eq_bb, eq_ss, eq_nn, eq_ll, eq_tt, eql_nil, eql_cons, shal, a0, a1, a2, a3, s1, s2, s3, b1D, asg_nm, asg_tup, asgl_nil, asgl_cons, onS, updE, binD, D.fz, fzL, fin, lastP, partD, itemsD, callA, takeA, putA, isTy]) (rng_nat (n := ys.length) (by omega)) g1
      simp [like_body, exs, exS, ev, evs, evA, asb_ok, asBD, R.of_some, ixD, cmpD, eq_ii, eq_bb, eq_ss, eq_nn, eq_ll, eq_tt, eql_nil, eql_cons, shal, a0, a1, a2, a3, s1, s2, s3, b1D, asg_nm, asg_tup, asgl_nil, asgl_cons, onS, updE, binD, D.fz, fzL, fin, lastP, partD, itemsD, callA, takeA, putA, isTy, h1, hlc, hb]
    · cases h
end Vm.Lib
namespace Lw
open PySem PySem.Spec L2 Vm
def stm (i : Nat) : Stmt := PySem.Challenge.pw_raisekeys_k01_rectangles.main.body.getD i (.Pass ⟨0, 0, 0, 0⟩)
def is_rectangle_1 : E := (.cmp .LtE (.b1 .abs (.pk 5)) (.gc "MOST_COORDINATE" (.int 1000000000)))
def is_rectangle_2 : E := (.lc is_rectangle_1 (.nm 5) .seq [(.nm 0)] [] [("number", 5)])
def is_rectangle_body : List S := [
    (.asg (.tup [(.nm 1), (.nm 2), (.nm 3), (.nm 4)]) (.nm 0)),
    (.ret (.and (.cmp .Lt (.pk 1) (.pk 3)) (.and (.cmp .Lt (.pk 2) (.pk 4)) (.b1 .all is_rectangle_2))))]
def F_is_rectangle : Fn where
  ps := ["rectangle"]
  N := ["rectangle", "left", "top", "right", "bottom", "number"]
  keep := [true]
  body := is_rectangle_body
def q_is_rectangle : FnE := ⟨"is_rectangle", defArgs (stm 2), defBody (stm 2), defScope (stm 2), F_is_rectangle, [1, 2, 3, 4]⟩
def covers_body : List S := [
    (.asg (.tup [(.nm 3), (.nm 4), (.nm 5), (.nm 6)]) (.nm 0)),
    (.ret (.and (.chn .LtE .Lt (.pk 3) (.pk 1) (.pk 5)) (.chn .LtE .Lt (.pk 4) (.pk 2) (.pk 6))))]
def F_covers : Fn where
  ps := ["rectangle", "x", "y"]
  N := ["rectangle", "x", "y", "left", "top", "right", "bottom"]
  keep := [true, true, true]
  body := covers_body
def q_covers : FnE := ⟨"covers", defArgs (stm 3), defBody (stm 3), defScope (stm 3), F_covers, [3, 4, 5, 6]⟩
def common_body : List S := [
    (.asg (.tup [(.nm 2), (.nm 3)]) (.tup [(.b2 .max (.ix (.pk 0) (.cst (.int 0))) (.ix (.pk 1) (.cst (.int 0)))), (.b2 .max (.ix (.pk 0) (.cst (.int 1))) (.ix (.pk 1) (.cst (.int 1))))])),
    (.asg (.tup [(.nm 4), (.nm 5)]) (.tup [(.b2 .min (.ix (.pk 0) (.cst (.int 2))) (.ix (.pk 1) (.cst (.int 2)))), (.b2 .min (.ix (.pk 0) (.cst (.int 3))) (.ix (.pk 1) (.cst (.int 3))))])),
    (.ret (.ite (.and (.cmp .Lt (.pk 2) (.pk 4)) (.cmp .Lt (.pk 3) (.pk 5))) (.tup [(.nm 2), (.nm 3), (.nm 4), (.nm 5)]) (.cst .non)))]
def F_common : Fn where
  ps := ["one", "other"]
  N := ["one", "other", "left", "top", "right", "bottom"]
  keep := [true, true]
  body := common_body
def q_common : FnE := ⟨"common", defArgs (stm 4), defBody (stm 4), defScope (stm 4), F_common, [2, 3, 4, 5]⟩
def F_bag : Fn where
  ps := ["_law_script"]
  N := ["_law_script", "_law_salt", "_law_cell"]
  keep := [true]
  body := Vm.Lib.bag_body
def q_bag : FnE := ⟨"_law_bag", defArgs (stm 6), defBody (stm 6), defScope (stm 6), F_bag, [1, 2]⟩
def F_pull : Fn where
  ps := ["_law_bag_here", "_law_amount"]
  N := ["_law_bag_here", "_law_amount", "_law_seed", "_law_cell", "_law_got"]
  keep := [true, true]
  body := Vm.Lib.pull_body
def q_pull : FnE := ⟨"_law_pull", defArgs (stm 7), defBody (stm 7), defScope (stm 7), F_pull, [2, 3, 4]⟩
def F_like : Fn where
  ps := ["_law_found", "_law_due"]
  N := ["_law_found", "_law_due", "_law_k"]
  keep := [true, true]
  body := Vm.Lib.like_body
def q_like : FnE := ⟨"_law_like", defArgs (stm 8), defBody (stm 8), defScope (stm 8), F_like, []⟩
def rectangle_body : List S := [
    (.asg (.tup [(.nm 2), (.nm 3)]) (.tup [(.bin .Sub (.cal "_law_pull" [(.pk 0), (.cst (.int 9))]) (.cst (.int 4))), (.bin .Sub (.cal "_law_pull" [(.pk 0), (.cst (.int 9))]) (.cst (.int 4)))])),
    (.asg (.tup [(.nm 4), (.nm 5)]) (.tup [(.bin .Add (.bin .Add (.pk 2) (.cst (.int 1))) (.cal "_law_pull" [(.pk 0), (.cst (.int 4))])), (.bin .Add (.bin .Add (.pk 3) (.cst (.int 1))) (.cal "_law_pull" [(.pk 0), (.cst (.int 4))]))])),
    (.ret (.tup [(.bin .Mult (.pk 1) (.pk 2)), (.bin .Mult (.pk 1) (.pk 3)), (.bin .Mult (.pk 1) (.pk 4)), (.bin .Mult (.pk 1) (.pk 5))]))]
def F_rectangle : Fn where
  ps := ["_law_bag_here", "_law_scale"]
  N := ["_law_bag_here", "_law_scale", "_law_left", "_law_top", "_law_right", "_law_bottom"]
  keep := [true, true]
  body := rectangle_body
def q_rectangle : FnE := ⟨"_law_rectangle", defArgs (stm 9), defBody (stm 9), defScope (stm 9), F_rectangle, [2, 3, 4, 5]⟩
def tuple_right_body : List S := [
    (.ret (.cal "_law_like" [(.lst [(.cal "is_rectangle" [(.pk 0)]), (.cak "is_rectangle" [] ["rectangle"] [(.pk 0)] [0])]), (.lst [(.nm 1), (.nm 1)])]))]
def F_tuple_right : Fn where
  ps := ["_law_rect", "_law_due"]
  N := ["_law_rect", "_law_due"]
  keep := [true, true]
  body := tuple_right_body
def q_tuple_right : FnE := ⟨"_law_tuple_right", defArgs (stm 10), defBody (stm 10), defScope (stm 10), F_tuple_right, []⟩
def law_1 : E := (.tup [(.nm 13), (.nm 15)])
def law_2 : E := (.lc law_1 (.nm 15) .rng2 [(.neg (.cst (.int 5))), (.cst (.int 10))] [] [("_law_y_z", 15)])
def law_3 : List S := [(.asg (.nm 12) (.bin .Add (.nm 12) law_2))]
def law_4 : E := (.and (.chn .LtE .Lt (.ix (.pk 18) (.cst (.int 0))) (.pk 13) (.ix (.pk 18) (.cst (.int 2)))) (.chn .LtE .Lt (.ix (.pk 18) (.cst (.int 1))) (.pk 15) (.ix (.pk 18) (.cst (.int 3)))))
def law_5 : E := (.lc law_4 (.nm 18) .seq [(.lst [(.nm 10), (.nm 11)])] [] [("_law_rect", 18)])
def law_6 : List S := [(.asg (.nm 16) law_5), (.iff (.not (.cal "_law_like" [(.lst [(.cal "covers" [(.pk 10), (.pk 13), (.pk 15)]), (.cak "covers" [] ["y", "x", "rectangle"] [(.pk 15), (.pk 13), (.pk 11)] [2, 1, 0])]), (.pk 16)])) [(.ret (.cst (.bl false)))] []), (.asg (.nm 17) (.and (.isn true (.pk 14)) (.and (.chn .LtE .Lt (.ix (.pk 14) (.cst (.int 0))) (.pk 13) (.ix (.pk 14) (.cst (.int 2)))) (.chn .LtE .Lt (.ix (.pk 14) (.cst (.int 1))) (.pk 15) (.ix (.pk 14) (.cst (.int 3))))))), (.iff (.cmp .NotEq (.pk 17) (.and (.ix (.pk 16) (.cst (.int 0))) (.ix (.pk 16) (.cst (.int 1))))) [(.ret (.cst (.bl false)))] [])]
def law_7 : List S := [(.asg (.tup [(.nm 10), (.nm 11)]) (.tup [(.cal "_law_rectangle" [(.pk 1), (.cst (.int 1))]), (.cal "_law_rectangle" [(.pk 1), (.cst (.int 1))])])), (.asg (.nm 12) (.lst [])), (.for_ (.nm 13) .rng2 [(.neg (.cst (.int 5))), (.cst (.int 10))] law_3), (.asg (.nm 14) (.cal "common" [(.pk 10), (.pk 11)])), (.for_ (.tup [(.nm 13), (.nm 15)]) .seq [(.nm 12)] law_6), (.iff (.or (.cmp .NotEq (.cal "common" [(.pk 11), (.pk 10)]) (.pk 14)) (.and (.isn true (.pk 14)) (.not (.cmp .Lt (.ix (.pk 14) (.cst (.int 0))) (.ix (.pk 14) (.cst (.int 2))))))) [(.ret (.cst (.bl false)))] [])]
def law_8 : E := (.cal "_law_tuple_right" [(.pk 18), (.cst (.bl false))])
def law_9 : E := (.lc law_8 (.nm 18) .seq [(.nm 8)] [] [("_law_rect", 18)])
def law_10 : E := (.cal "_law_tuple_right" [(.pk 18), (.cst (.bl true))])
def law_11 : E := (.lc law_10 (.nm 18) .seq [(.nm 7)] [] [("_law_rect", 18)])
def law_body : List S := [
    (.asg (.nm 1) (.cal "_law_bag" [(.pk 0)])),
    (.for_ (.nm 2) .rng1 [(.cst (.int 6))] law_7),
    (.asg (.tup [(.nm 3), (.nm 4), (.nm 5), (.nm 6)]) (.cal "_law_rectangle" [(.pk 1), (.bin .Pow (.cst (.int 10)) (.cst (.int 8)))])),
    (.asg (.nm 7) (.lst [(.tup [(.nm 3), (.nm 4), (.nm 5), (.nm 6)]), (.tup [(.neg (.bin .Pow (.cst (.int 10)) (.cst (.int 9)))), (.bin .Sub (.bin .Pow (.cst (.int 10)) (.cst (.int 9))) (.cst (.int 1))), (.bin .Pow (.cst (.int 10)) (.cst (.int 9))), (.bin .Pow (.cst (.int 10)) (.cst (.int 9)))])])),
    (.asg (.nm 8) (.lst [(.tup [(.nm 5), (.nm 4), (.nm 3), (.nm 6)]), (.tup [(.nm 3), (.nm 6), (.nm 5), (.nm 4)]), (.tup [(.nm 3), (.nm 4), (.nm 3), (.nm 6)]), (.tup [(.nm 3), (.nm 4), (.nm 5), (.nm 4)])])),
    (.asg (.nm 8) (.bin .Add (.nm 8) (.lst [(.tup [(.nm 3), (.nm 4), (.bin .Add (.bin .Pow (.cst (.int 10)) (.cst (.int 9))) (.cst (.int 1))), (.nm 6)]), (.tup [(.bin .Sub (.neg (.bin .Pow (.cst (.int 10)) (.cst (.int 9)))) (.cst (.int 1))), (.nm 4), (.nm 5), (.nm 6)]), (.tup [(.nm 3), (.nm 4), (.nm 5), (.bin .Pow (.cst (.int 10)) (.cst (.int 29)))])]))),
    (.asg (.nm 9) (.bin .Add law_11 law_9)),
    (.ret (.and (.cmp .NotIn (.cst (.bl false)) (.pk 9)) (.cmp .Eq (.gc "MOST_COORDINATE" (.int 1000000000)) (.bin .Pow (.cst (.int 10)) (.cst (.int 9))))))]
def F_law : Fn where
  ps := ["_law_script"]
  N := ["_law_script", "_law_bag_here", "_law_turn", "_law_left", "_law_top", "_law_right", "_law_bottom", "_law_good", "_law_bad", "_law_rows", "_law_one", "_law_other", "_law_cells", "_law_x_z", "_law_both", "_law_y_z", "_law_inside", "_law_here", "_law_rect"]
  keep := [true]
  body := law_body
def q_law : FnE := ⟨"law", defArgs (stm 11), defBody (stm 11), defScope (stm 11), F_law, [1, 2, 3, 4, 5, 6, 7, 8, 9, 10, 11, 12, 13, 14, 15, 16, 17]⟩
def defsOf : List FnE := [q_is_rectangle, q_covers, q_common, q_bag, q_pull, q_like, q_rectangle, q_tuple_right, q_law]
def tab : Tab := ⟨["abs", "all", "bool", "isinstance", "len", "list", "max", "min", "range", "tuple"], [("MOST_COORDINATE", (.int 1000000000))], defsOf.map fun q => (q.x, q.fn), [("is_rectangle", 0, ["rectangle"], [0]), ("covers", 0, ["y", "x", "rectangle"], [2, 1, 0])]⟩
theorem b_is_rectangle : BndOk q_is_rectangle := fun _ _ _ _ _ _ us hl => match us, hl with | [_], _ => rfl
theorem b_covers : BndOk q_covers := fun _ _ _ _ _ _ us hl => match us, hl with | [_, _, _], _ => rfl
theorem b_common : BndOk q_common := fun _ _ _ _ _ _ us hl => match us, hl with | [_, _], _ => rfl
theorem b_bag : BndOk q_bag := fun _ _ _ _ _ _ us hl => match us, hl with | [_], _ => rfl
theorem b_pull : BndOk q_pull := fun _ _ _ _ _ _ us hl => match us, hl with | [_, _], _ => rfl
theorem b_like : BndOk q_like := fun _ _ _ _ _ _ us hl => match us, hl with | [_, _], _ => rfl
theorem b_rectangle : BndOk q_rectangle := fun _ _ _ _ _ _ us hl => match us, hl with | [_, _], _ => rfl
theorem b_tuple_right : BndOk q_tuple_right := fun _ _ _ _ _ _ us hl => match us, hl with | [_, _], _ => rfl
theorem b_law : BndOk q_law := fun _ _ _ _ _ _ us hl => match us, hl with | [_], _ => rfl
theorem bnds : ∀ q ∈ defsOf, BndOk q := List.forall_mem_cons.mpr ⟨b_is_rectangle, List.forall_mem_cons.mpr ⟨b_covers, List.forall_mem_cons.mpr ⟨b_common, List.forall_mem_cons.mpr ⟨b_bag, List.forall_mem_cons.mpr ⟨b_pull, List.forall_mem_cons.mpr ⟨b_like, List.forall_mem_cons.mpr ⟨b_rectangle, List.forall_mem_cons.mpr ⟨b_tuple_right, List.forall_mem_cons.mpr ⟨b_law, fun _ z => nomatch z⟩⟩⟩⟩⟩⟩⟩⟩⟩
theorem w_0 : KwOk q_is_rectangle 0 ["rectangle"] [0] := fun _ _ _ _ _ _ us ws h1 h2 => match us, ws, h1, h2 with | [], [_], _, _ => rfl
theorem w_1 : KwOk q_covers 0 ["y", "x", "rectangle"] [2, 1, 0] := fun _ _ _ _ _ _ us ws h1 h2 => match us, ws, h1, h2 with | [], [_, _, _], _, _ => rfl
theorem kwds : ∀ q ∈ defsOf, ∀ n ks perm, (q.x, n, ks, perm) ∈ tab.kws → KwOk q n ks perm := kw_of (by decide +kernel) [(q_is_rectangle, 0, ["rectangle"], [0]), (q_covers, 0, ["y", "x", "rectangle"], [2, 1, 0])] rfl (List.forall_mem_cons.mpr ⟨⟨by simp [defsOf], w_0⟩, List.forall_mem_cons.mpr ⟨⟨by simp [defsOf], w_1⟩, fun _ z => nomatch z⟩⟩)
theorem chkd : defsOf.all (chkFn tab) = true := by decide +kernel
end Lw
namespace Lw
open PySem PySem.Spec L2 Vm Vm.Lib
abbrev deep : Nat := 40
theorem iPull : Is tab.fn "_law_pull" 2 5 [true, true] pull_body := ⟨F_pull, rfl, rfl, rfl, rfl, rfl⟩
theorem iBag : Is tab.fn "_law_bag" 1 3 [true] bag_body := ⟨F_bag, rfl, rfl, rfl, rfl, rfl⟩
theorem iLike : Is tab.fn "_law_like" 2 3 [true, true] like_body := ⟨F_like, rfl, rfl, rfl, rfl, rfl⟩
theorem iIsr : Is tab.fn "is_rectangle" 1 6 [true] is_rectangle_body := ⟨F_is_rectangle, rfl, rfl, rfl, rfl, rfl⟩
theorem iCov : Is tab.fn "covers" 3 7 [true, true, true] covers_body := ⟨F_covers, rfl, rfl, rfl, rfl, rfl⟩
theorem iCom : Is tab.fn "common" 2 6 [true, true] common_body := ⟨F_common, rfl, rfl, rfl, rfl, rfl⟩
theorem iRect : Is tab.fn "_law_rectangle" 2 6 [true, true] rectangle_body := ⟨F_rectangle, rfl, rfl, rfl, rfl, rfl⟩
theorem iTup : Is tab.fn "_law_tuple_right" 2 2 [true, true] tuple_right_body := ⟨F_tuple_right, rfl, rfl, rfl, rfl, rfl⟩
theorem iLaw : Is tab.fn "law" 1 19 [true] law_body := ⟨F_law, rfl, rfl, rfl, rfl, rfl⟩
def mx (i j : Int) : Int := if j > i then j else i
def mn (i j : Int) : Int := if j < i then j else i
def ab (i : Int) : Int := if i < 0 then -i else i
theorem b2max {i j : Int} : b2D .max (.int i) (.int j) = some (.int (mx i j)) := rfl
theorem b2min {i j : Int} : b2D .min (.int i) (.int j) = some (.int (mn i j)) := rfl
theorem b1abs {i : Int} : b1D .abs (.int i) = some (.int (ab i)) := rfl
theorem b1all {o : Bool} {xs : List D} : b1D .all (.lst o xs) = (boolsOf xs).map fun bs => .bl (bs.all id) := rfl
theorem still_k {α : Type} {a : α} {e : Nv} : (R.ok a e).still = .ok a e := rfl
theorem evts_n {C : Orc} {e : Nv} : evTs C [] e = .ok true e := rfl
theorem isf_tup {xs : List D} : (D.tup xs).isF = isFL xs := rfl
theorem isf_int {i : Int} : (D.int i).isF = true := rfl
theorem isfl_nil : isFL [] = true := rfl
theorem isfl_cons {x : D} {xs : List D} : isFL (x :: xs) = (x.isF && isFL xs) := rfl
def rc (l t r b : Int) : D := .tup [.int l, .int t, .int r, .int b]
def cov (l t r b x y : Int) : Bool := decide (l ≤ x) && (decide (x < r) && (decide (t ≤ y) && decide (y < b)))
theorem covers_ok {W k : Nat} {l t r b x y : Int} : callN tab.fn W (k + 1) "covers" [rc l t r b, .int x, .int y] = .ok (.bl (cov l t r b x y)) [some (rc l t r b), some (.int x), some (.int y)] := by
  rw [iCov.eq rfl]
  by_cases c1 : l ≤ x <;> by_cases c2 : x < r <;> by_cases c3 : t ≤ y <;> by_cases c4 : y < b <;> simp [covers_body, rc, cov, exs, exS, ev, evs, evA, asb_ok, asBD, R.of_some, ixD, cmpD, eq_ii, eq_bb, eq_ss, eq_nn, eq_ll, eq_tt, eql_nil, eql_cons, shal, a0, a1, a2, a3, s1, s2, s3, b1D, asg_nm, asg_tup, asgl_nil, asgl_cons, onS, updE, binD, D.fz, fzL, fin, lastP, partD, itemsD, callA, takeA, putA, isTy, c1, c2, c3, c4]
def com (l t r b l2 t2 r2 b2 : Int) : D := if mx l l2 < mn r r2 ∧ mx t t2 < mn b b2 then rc (mx l l2) (mx t t2) (mn r r2) (mn b b2) else .non
theorem common_ok {W k : Nat} {l t r b l2 t2 r2 b2 : Int} : callN tab.fn W (k + 1) "common" [rc l t r b, rc l2 t2 r2 b2] = .ok (com l t r b l2 t2 r2 b2) [some (rc l t r b), some (rc l2 t2 r2 b2)] := by
  rw [iCom.eq rfl]
  by_cases c1 : mx l l2 < mn r r2 <;> by_cases c2 : mx t t2 < mn b b2 <;> simp [common_body, rc, com, exs, exS, ev, evs, evA, asb_ok, asBD, R.of_some, ixD, cmpD, eq_ii, eq_bb, eq_ss, eq_nn, eq_ll, eq_tt, eql_nil, eql_cons, shal, a0, a1, a2, a3, s1, s2, s3, b1D, asg_nm, asg_tup, asgl_nil, asgl_cons, onS, updE, binD, D.fz, fzL, fin, lastP, partD, itemsD, callA, takeA, putA, isTy, b2max, b2min, isf_int, c1, c2]
def isr (l t r b : Int) : Bool := decide (l < r) && (decide (t < b) && (decide (ab l ≤ 1000000000) && (decide (ab t ≤ 1000000000) && (decide (ab r ≤ 1000000000) && decide (ab b ≤ 1000000000)))))
theorem isr_ok {W k : Nat} {l t r b : Int} : callN tab.fn W (k + 1) "is_rectangle" [rc l t r b] = .ok (.bl (isr l t r b)) [some (rc l t r b)] := by
  rw [iIsr.eq rfl]
  have hlc : ev (callN tab.fn W k) is_rectangle_2 [some (rc l t r b), some (.int l), some (.int t), some (.int r), some (.int b), none] = .ok (.lst true [.bl (decide (ab l ≤ 1000000000)), .bl (decide (ab t ≤ 1000000000)), .bl (decide (ab r ≤ 1000000000)), .bl (decide (ab b ≤ 1000000000))]) [some (rc l t r b), some (.int l), some (.int t), some (.int r), some (.int b), none] := by
    unfold is_rectangle_2
    refine ev_lc (xs := [rc l t r b]) (ds := [.int l, .int t, .int r, .int b]) (e1 := [some (rc l t r b), some (.int l), some (.int t), some (.int r), some (.int b), none]) (by simp [exs, exS, ev, evs, evA, asb_ok, asBD, R.of_some, ixD, cmpD, eq_ii, eq_bb, eq_ss, eq_nn, eq_ll, eq_tt, eql_nil, eql_cons, shal, a0, a1, a2, a3, s1, s2, s3, b1D, asg_nm, asg_tup, asgl_nil, asgl_cons, onS, updE, binD, D.fz, fzL, fin, lastP, partD, itemsD, callA, takeA, putA, isTy, rc]) rfl ?_
    simp [lcGo, wipeE, is_rectangle_1, exs, exS, ev, evs, evA, asb_ok, asBD, R.of_some, ixD, cmpD, eq_ii, eq_bb, eq_ss, eq_nn, eq_ll, eq_tt, eql_nil, eql_cons, shal, a0, a1, a2, a3, s1, s2, s3, b1D, asg_nm, asg_tup, asgl_nil, asgl_cons, onS, updE, binD, D.fz, fzL, fin, lastP, partD, itemsD, callA, takeA, putA, isTy, b1abs, still_k, evts_n]
    exact ⟨Iff.rfl, Iff.rfl, Iff.rfl, Iff.rfl⟩
  have hlc' := hlc
  unfold rc at hlc'
  by_cases c1 : l < r <;> by_cases c2 : t < b <;> simp [is_rectangle_body, rc, isr, exs, exS, ev, evs, evA, asb_ok, asBD, R.of_some, ixD, cmpD, eq_ii, eq_bb, eq_ss, eq_nn, eq_ll, eq_tt, eql_nil, eql_cons, shal, a0, a1, a2, a3, s1, s2, s3, b1D, asg_nm, asg_tup, asgl_nil, asgl_cons, onS, updE, binD, D.fz, fzL, fin, lastP, partD, itemsD, callA, takeA, putA, isTy, isf_int, c1, c2, hlc', b1all, boolsOf]
theorem rect_ok {W k : Nat} {b : D} (B : Bag b) {sc : Int} (h0 : 0 ≤ sc) (h1 : sc ≤ 100000000) : ∃ b' l t r u, callN tab.fn W (k + 2) "_law_rectangle" [b, .int sc] = .ok (rc (sc * l) (sc * t) (sc * r) (sc * u)) [some b', some (.int sc)] ∧ Bag b' ∧ -4 ≤ l ∧ l ≤ 4 ∧ -4 ≤ t ∧ t ≤ 4 ∧ l < r ∧ r ≤ 8 ∧ t < u ∧ u ≤ 8 := by
  rw [iRect.eq rfl]
  obtain ⟨x1, b1, p1, B1, u1, v1⟩ := pull_ok (W := W) (k := k) iPull B (m := 9) (by decide) (by decide)
  obtain ⟨x2, b2, p2, B2, u2, v2⟩ := pull_ok (W := W) (k := k) iPull B1 (m := 9) (by decide) (by decide)
  obtain ⟨x3, b3, p3, B3, u3, v3⟩ := pull_ok (W := W) (k := k) iPull B2 (m := 4) (by decide) (by decide)
  obtain ⟨x4, b4, p4, B4, u4, v4⟩ := pull_ok (W := W) (k := k) iPull B3 (m := 4) (by decide) (by decide)
  have hs : sc.natAbs < 18446744073709551616 := by omega
  refine ⟨b4, x1 - 4, x2 - 4, x1 - 4 + 1 + x3, x2 - 4 + 1 + x4, ?_, B4, by omega, by omega, by omega, by omega, by omega, by omega, by omega, by omega⟩
  simp [rectangle_body, rc, exs, exS, ev, evs, evA, asb_ok, asBD, R.of_some, ixD, cmpD, eq_ii, eq_bb, eq_ss, eq_nn, eq_ll, eq_tt, eql_nil, eql_cons, shal, a0, a1, a2, a3, s1, s2, s3, b1D, asg_nm, asg_tup, asgl_nil, asgl_cons, onS, updE, binD, D.fz, fzL, fin, lastP, partD, itemsD, callA, takeA, putA, isTy, p1, p2, p3, p4, hs]
theorem tup_ok {W k : Nat} {l t r b : Int} {due : Bool} (h : isr l t r b = due) : callN tab.fn W (k + 4) "_law_tuple_right" [rc l t r b, .bl due] = .ok (.bl true) [some (rc l t r b), some (.bl due)] := by
  rw [iTup.eq rfl]
  have p1 := isr_ok (W := W) (k := k + 2) (l := l) (t := t) (r := r) (b := b)
  rw [h] at p1
  have p2 : callN tab.fn W (k + 3) "_law_like" [.lst true [.bl due, .bl due], .lst true [.bl due, .bl due]] = .ok (.bl true) [some (.lst true [.bl due, .bl due]), some (.lst true [.bl due, .bl due])] := like_ok iLike (k + 3) 1 _ _ (by omega) (by simp [lk])
  simp [tuple_right_body, exs, exS, ev, evs, evA, asb_ok, asBD, R.of_some, ixD, cmpD, eq_ii, eq_bb, eq_ss, eq_nn, eq_ll, eq_tt, eql_nil, eql_cons, shal, a0, a1, a2, a3, s1, s2, s3, b1D, asg_nm, asg_tup, asgl_nil, asgl_cons, onS, updE, binD, D.fz, fzL, fin, lastP, partD, itemsD, callA, takeA, putA, isTy, p1, p2, permA, permL]

def mk (p : Int × Int) : D := .tup [.int p.1, .int p.2]
theorem mks : ∀ {r : List D}, (∀ (j : Nat) (d : D), r[j]? = some d → ∃ p, d = mk p) → ∃ qs : List (Int × Int), r = qs.map mk
  | [], _ => ⟨[], rfl⟩
  | x :: r, h => by
    obtain ⟨p, hp⟩ := h 0 x rfl
    obtain ⟨qs, hq⟩ := mks fun j d hj => h (j + 1) d (by simpa using hj)
    exact ⟨p :: qs, by rw [hp, hq]; rfl⟩
theorem isFL_mk : ∀ qs : List (Int × Int), isFL (qs.map mk) = true
  | [] => rfl
  | q :: qs => by rw [List.map_cons, isfl_cons, isFL_mk qs]; rfl
theorem fz_rc {l t r b : Int} : (rc l t r b).fz = rc l t r b := rfl
abbrev C0 := callN tab.fn 200 39
theorem rng15 : rngD (-5) 10 = some ((List.range 15).map fun (k : Nat) => .int (-5 + (k : Int))) := by
  unfold rngD
  rw [if_pos (by decide)]
  rfl
theorem row_ok {S0 b B1 B2 : D} {t o3 o4 o5 o6 o7 o8 o9 o14 o15 o16 o17 o18 : Option D} {x : Int} {ps : List (Int × Int)} (hl : ps.length + 15 ≤ 1000) : ∃ qs : List (Int × Int), exs C0 200 law_3 [some S0, some b, t, o3, o4, o5, o6, o7, o8, o9, some B1, some B2, some (.lst true (ps.map mk)), some (.int x), o14, o15, o16, o17, o18] =
    .ok .next [some S0, some b, t, o3, o4, o5, o6, o7, o8, o9, some B1, some B2, some (.lst true ((ps ++ qs).map mk)), some (.int x), o14, none, o16, o17, o18] ∧ qs.length = 15 := by
  obtain ⟨r, e', h1, h2, h3, h4⟩ := lc_ok (w := fun e => wipeE e [15]) (tg := asgT (.nm 15)) (tt := fun e => evTs C0 [] e) (f := fun e => (ev C0 law_1 e).still)
    (fun e => e = [some S0, some b, t, o3, o4, o5, o6, o7, o8, o9, some B1, some B2, some (.lst false (ps.map mk)), some (.int x), o14, none, o16, o17, o18]) (fun _ d => ∃ p, d = mk p) ((List.range 15).map fun (k : Nat) => .int (-5 + (k : Int))) 0 _ rfl (by
    rintro j d e hd rfl
    rw [List.getElem?_map] at hd
    obtain ⟨k, _, rfl⟩ := Option.map_eq_some_iff.mp hd
    refine ⟨[some S0, some b, t, o3, o4, o5, o6, o7, o8, o9, some B1, some B2, some (.lst false (ps.map mk)), some (.int x), o14, some (.int (-5 + (k : Int))), o16, o17, o18], _, mk (x, -5 + (k : Int)), [some S0, some b, t, o3, o4, o5, o6, o7, o8, o9, some B1, some B2, some (.lst false (ps.map mk)), some (.int x), o14, some (.int (-5 + (k : Int))), o16, o17, o18], rfl, rfl, by simp [law_1, exs, exS, ev, evs, evA, asb_ok, asBD, R.of_some, ixD, cmpD, eq_ii, eq_bb, eq_ss, eq_nn, eq_ll, eq_tt, eql_nil, eql_cons, shal, a0, a1, a2, a3, s1, s2, s3, b1D, asg_nm, asg_tup, asgl_nil, asgl_cons, onS, updE, binD, D.fz, fzL, fin, lastP, partD, itemsD, callA, takeA, putA, isTy, still_k, mk], rfl, ⟨_, rfl⟩⟩)
  obtain ⟨qs, hqs⟩ := mks (r := r) fun j d hj => by
    obtain ⟨d0, rfl, p, rfl⟩ := h4 j d hj
    exact ⟨p, rfl⟩
  subst h2
  have hlen : qs.length = 15 := by
    have := congrArg List.length hqs
    simp at this h3
    omega
  refine ⟨qs, ?_, hlen⟩
  have hlc : ev C0 law_2 [some S0, some b, t, o3, o4, o5, o6, o7, o8, o9, some B1, some B2, some (.lst false (ps.map mk)), some (.int x), o14, o15, o16, o17, o18] = .ok (.lst true (qs.map mk)) [some S0, some b, t, o3, o4, o5, o6, o7, o8, o9, some B1, some B2, some (.lst false (ps.map mk)), some (.int x), o14, none, o16, o17, o18] := by
    unfold law_2
    rw [← hqs]
    exact ev_lc (xs := [.int (-5), .int 10]) (e1 := [some S0, some b, t, o3, o4, o5, o6, o7, o8, o9, some B1, some B2, some (.lst false (ps.map mk)), some (.int x), o14, o15, o16, o17, o18]) (by simp [exs, exS, ev, evs, evA, asb_ok, asBD, R.of_some, ixD, cmpD, eq_ii, eq_bb, eq_ss, eq_nn, eq_ll, eq_tt, eql_nil, eql_cons, shal, a0, a1, a2, a3, s1, s2, s3, b1D, asg_nm, asg_tup, asgl_nil, asgl_cons, onS, updE, binD, D.fz, fzL, fin, lastP, partD, itemsD, callA, takeA, putA, isTy]) rng15 h1
  have hz := fzL_isF (isFL_mk ps)
  have hle : ps.length + qs.length ≤ 1000000 := by omega
  simp [law_3, exs, exS, ev, evs, evA, asb_ok, asBD, R.of_some, ixD, cmpD, eq_ii, eq_bb, eq_ss, eq_nn, eq_ll, eq_tt, eql_nil, eql_cons, shal, a0, a1, a2, a3, s1, s2, s3, b1D, asg_nm, asg_tup, asgl_nil, asgl_cons, onS, updE, binD, D.fz, fzL, fin, lastP, partD, itemsD, callA, takeA, putA, isTy, hz, hlc, hle]
theorem in2_ok {S0 b : D} {t o3 o4 o5 o6 o7 o8 o9 o12 o14 o16 o17 o18 : Option D} {x y l1 t1 r1 u1 l2 t2 r2 u2 : Int} : ev C0 law_5 [some S0, some b, t, o3, o4, o5, o6, o7, o8, o9, some (rc l1 t1 r1 u1), some (rc l2 t2 r2 u2), o12, some (.int x), o14, some (.int y), o16, o17, o18] =
    .ok (.lst true [.bl (cov l1 t1 r1 u1 x y), .bl (cov l2 t2 r2 u2 x y)]) [some S0, some b, t, o3, o4, o5, o6, o7, o8, o9, some (rc l1 t1 r1 u1), some (rc l2 t2 r2 u2), o12, some (.int x), o14, some (.int y), o16, o17, none] := by
  have one : ∀ {l t' r u : Int} {R1 R2 : D}, ev C0 law_4 [some S0, some b, t, o3, o4, o5, o6, o7, o8, o9, some R1, some R2, o12, some (.int x), o14, some (.int y), o16, o17, some (rc l t' r u)] = .ok (.bl (cov l t' r u x y)) [some S0, some b, t, o3, o4, o5, o6, o7, o8, o9, some R1, some R2, o12, some (.int x), o14, some (.int y), o16, o17, some (rc l t' r u)] := by
    intro l t' r u R1 R2
    by_cases c1 : l ≤ x <;> by_cases c2 : x < r <;> by_cases c3 : t' ≤ y <;> by_cases c4 : y < u <;> simp [law_4, rc, cov, exs, exS, ev, evs, evA, asb_ok, asBD, R.of_some, ixD, cmpD, eq_ii, eq_bb, eq_ss, eq_nn, eq_ll, eq_tt, eql_nil, eql_cons, shal, a0, a1, a2, a3, s1, s2, s3, b1D, asg_nm, asg_tup, asgl_nil, asgl_cons, onS, updE, binD, D.fz, fzL, fin, lastP, partD, itemsD, callA, takeA, putA, isTy, isf_int, c1, c2, c3, c4]
  unfold law_5
  refine ev_lc (xs := [.lst true [rc l1 t1 r1 u1, rc l2 t2 r2 u2]]) (ds := [rc l1 t1 r1 u1, rc l2 t2 r2 u2]) (e1 := [some S0, some b, t, o3, o4, o5, o6, o7, o8, o9, some (rc l1 t1 r1 u1), some (rc l2 t2 r2 u2), o12, some (.int x), o14, some (.int y), o16, o17, o18]) (by simp [exs, exS, ev, evs, evA, asb_ok, asBD, R.of_some, ixD, cmpD, eq_ii, eq_bb, eq_ss, eq_nn, eq_ll, eq_tt, eql_nil, eql_cons, shal, a0, a1, a2, a3, s1, s2, s3, b1D, asg_nm, asg_tup, asgl_nil, asgl_cons, onS, updE, binD, D.fz, fzL, fin, lastP, partD, itemsD, callA, takeA, putA, isTy, fz_rc]) rfl ?_
  simp [lcGo, wipeE, exs, exS, ev, evs, evA, asb_ok, asBD, R.of_some, ixD, cmpD, eq_ii, eq_bb, eq_ss, eq_nn, eq_ll, eq_tt, eql_nil, eql_cons, shal, a0, a1, a2, a3, s1, s2, s3, b1D, asg_nm, asg_tup, asgl_nil, asgl_cons, onS, updE, binD, D.fz, fzL, fin, lastP, partD, itemsD, callA, takeA, putA, isTy, still_k, evts_n, one]

end Lw
namespace Lw
open PySem PySem.Spec L2 Vm Vm.Lib
def HE : E := (.and (.isn true (.pk 14)) (.and (.chn .LtE .Lt (.ix (.pk 14) (.cst (.int 0))) (.pk 13) (.ix (.pk 14) (.cst (.int 2)))) (.chn .LtE .Lt (.ix (.pk 14) (.cst (.int 1))) (.pk 15) (.ix (.pk 14) (.cst (.int 3))))))
theorem law6_eq : law_6 = [(.asg (.nm 16) law_5), (.iff (.not (.cal "_law_like" [(.lst [(.cal "covers" [(.pk 10), (.pk 13), (.pk 15)]), (.cak "covers" [] ["y", "x", "rectangle"] [(.pk 15), (.pk 13), (.pk 11)] [2, 1, 0])]), (.pk 16)])) [(.ret (.cst (.bl false)))] []), (.asg (.nm 17) HE), (.iff (.cmp .NotEq (.pk 17) (.and (.ix (.pk 16) (.cst (.int 0))) (.ix (.pk 16) (.cst (.int 1))))) [(.ret (.cst (.bl false)))] [])] := rfl
theorem he_non {S0 b B1 B2 : D} {t o3 o4 o5 o6 o7 o8 o9 o12 o16 o17 o18 : Option D} {x y : Int} : ev C0 HE [some S0, some b, t, o3, o4, o5, o6, o7, o8, o9, some B1, some B2, o12, some (.int x), some .non, some (.int y), o16, o17, o18] = .ok (.bl false) [some S0, some b, t, o3, o4, o5, o6, o7, o8, o9, some B1, some B2, o12, some (.int x), some .non, some (.int y), o16, o17, o18] := by
  simp [HE, exs, exS, ev, evs, evA, asb_ok, asBD, R.of_some, ixD, cmpD, eq_ii, eq_bb, eq_ss, eq_nn, eq_ll, eq_tt, eql_nil, eql_cons, shal, a0, a1, a2, a3, s1, s2, s3, b1D, asg_nm, asg_tup, asgl_nil, asgl_cons, onS, updE, binD, D.fz, fzL, fin, lastP, partD, itemsD, callA, takeA, putA, isTy]
theorem he_rc {S0 b B1 B2 : D} {t o3 o4 o5 o6 o7 o8 o9 o12 o16 o17 o18 : Option D} {x y l t' r u : Int} : ev C0 HE [some S0, some b, t, o3, o4, o5, o6, o7, o8, o9, some B1, some B2, o12, some (.int x), some (rc l t' r u), some (.int y), o16, o17, o18] = .ok (.bl (cov l t' r u x y)) [some S0, some b, t, o3, o4, o5, o6, o7, o8, o9, some B1, some B2, o12, some (.int x), some (rc l t' r u), some (.int y), o16, o17, o18] := by
  by_cases c1 : l ≤ x <;> by_cases c2 : x < r <;> by_cases c3 : t' ≤ y <;> by_cases c4 : y < u <;> simp [HE, rc, cov, exs, exS, ev, evs, evA, asb_ok, asBD, R.of_some, ixD, cmpD, eq_ii, eq_bb, eq_ss, eq_nn, eq_ll, eq_tt, eql_nil, eql_cons, shal, a0, a1, a2, a3, s1, s2, s3, b1D, asg_nm, asg_tup, asgl_nil, asgl_cons, onS, updE, binD, D.fz, fzL, fin, lastP, partD, itemsD, callA, takeA, putA, isTy, isf_int, c1, c2, c3, c4]
theorem six_ok {S0 b both : D} {t o3 o4 o5 o6 o7 o8 o9 o12 o16 o17 o18 : Option D} {x y l1 t1 r1 u1 l2 t2 r2 u2 : Int} {h : Bool}
    (hh : ∀ o16 o17 o18, ev C0 HE [some S0, some b, t, o3, o4, o5, o6, o7, o8, o9, some (rc l1 t1 r1 u1), some (rc l2 t2 r2 u2), o12, some (.int x), some both, some (.int y), o16, o17, o18] = .ok (.bl h) [some S0, some b, t, o3, o4, o5, o6, o7, o8, o9, some (rc l1 t1 r1 u1), some (rc l2 t2 r2 u2), o12, some (.int x), some both, some (.int y), o16, o17, o18])
    (hcc : h = (cov l1 t1 r1 u1 x y && cov l2 t2 r2 u2 x y)) : ∃ o16' o17' o18', exs C0 200 law_6 [some S0, some b, t, o3, o4, o5, o6, o7, o8, o9, some (rc l1 t1 r1 u1), some (rc l2 t2 r2 u2), o12, some (.int x), some both, some (.int y), o16, o17, o18] =
      .ok .next [some S0, some b, t, o3, o4, o5, o6, o7, o8, o9, some (rc l1 t1 r1 u1), some (rc l2 t2 r2 u2), o12, some (.int x), some both, some (.int y), o16', o17', o18'] := by
  have p1 := covers_ok (W := 200) (k := 38) (l := l1) (t := t1) (r := r1) (b := u1) (x := x) (y := y)
  have p2 := covers_ok (W := 200) (k := 38) (l := l2) (t := t2) (r := r2) (b := u2) (x := x) (y := y)
  have p1 : C0 "covers" [rc l1 t1 r1 u1, .int x, .int y] = .ok (.bl (cov l1 t1 r1 u1 x y)) [some (rc l1 t1 r1 u1), some (.int x), some (.int y)] := p1
  have p2 : C0 "covers" [rc l2 t2 r2 u2, .int x, .int y] = .ok (.bl (cov l2 t2 r2 u2 x y)) [some (rc l2 t2 r2 u2), some (.int x), some (.int y)] := p2
  have hin := fun o16 o17 o18 => in2_ok (S0 := S0) (b := b) (t := t) (o3 := o3) (o4 := o4) (o5 := o5) (o6 := o6) (o7 := o7) (o8 := o8) (o9 := o9) (o12 := o12) (o14 := some both) (o16 := o16) (o17 := o17) (o18 := o18) (x := x) (y := y) (l1 := l1) (t1 := t1) (r1 := r1) (u1 := u1) (l2 := l2) (t2 := t2) (r2 := r2) (u2 := u2)
  generalize cov l1 t1 r1 u1 x y = c1 at *
  generalize cov l2 t2 r2 u2 x y = c2 at *
  have p3 : C0 "_law_like" [.lst true [.bl c1, .bl c2], .lst true [.bl c1, .bl c2]] = .ok (.bl true) [some (.lst true [.bl c1, .bl c2]), some (.lst true [.bl c1, .bl c2])] := like_ok iLike 39 1 _ _ (by decide) (by simp [lk])
  refine ⟨some (.lst true [.bl c1, .bl c2]), some (.bl h), none, ?_⟩
  rw [law6_eq]
  cases c1 <;> cases c2 <;> simp at hcc <;> subst hcc <;> simp [exs, exS, ev, evs, evA, asb_ok, asBD, R.of_some, ixD, cmpD, eq_ii, eq_bb, eq_ss, eq_nn, eq_ll, eq_tt, eql_nil, eql_cons, shal, a0, a1, a2, a3, s1, s2, s3, b1D, asg_nm, asg_tup, asgl_nil, asgl_cons, onS, updE, binD, D.fz, fzL, fin, lastP, partD, itemsD, callA, takeA, putA, isTy, hin, hh, p1, p2, p3, permA, permL]
theorem mx_le {i j x : Int} : mx i j ≤ x ↔ i ≤ x ∧ j ≤ x := by
  unfold mx
  split <;> omega
theorem lt_mn {i j x : Int} : x < mn i j ↔ x < i ∧ x < j := by
  unfold mn
  split <;> omega
theorem com_cov {x y l1 t1 r1 u1 l2 t2 r2 u2 : Int} : cov (mx l1 l2) (mx t1 t2) (mn r1 r2) (mn u1 u2) x y = (cov l1 t1 r1 u1 x y && cov l2 t2 r2 u2 x y) := by
  rw [Bool.eq_iff_iff]
  simp only [cov, Bool.and_eq_true, decide_eq_true_eq, mx_le, lt_mn]
  omega
theorem com_cov0 {x y l1 t1 r1 u1 l2 t2 r2 u2 : Int} (h : ¬ (mx l1 l2 < mn r1 r2 ∧ mx t1 t2 < mn u1 u2)) : false = (cov l1 t1 r1 u1 x y && cov l2 t2 r2 u2 x y) := by
  symm
  rw [Bool.eq_false_iff]
  intro hz
  simp only [cov, Bool.and_eq_true, decide_eq_true_eq] at hz
  obtain ⟨⟨a, b, c, d⟩, a', b', c', d'⟩ := hz
  apply h
  simp only [mx, mn]
  constructor <;> split <;> split <;> omega
theorem six_all {S0 b : D} {t o3 o4 o5 o6 o7 o8 o9 o12 o16 o17 o18 : Option D} {x y l1 t1 r1 u1 l2 t2 r2 u2 : Int} : ∃ o16' o17' o18', exs C0 200 law_6 [some S0, some b, t, o3, o4, o5, o6, o7, o8, o9, some (rc l1 t1 r1 u1), some (rc l2 t2 r2 u2), o12, some (.int x), some (com l1 t1 r1 u1 l2 t2 r2 u2), some (.int y), o16, o17, o18] =
      .ok .next [some S0, some b, t, o3, o4, o5, o6, o7, o8, o9, some (rc l1 t1 r1 u1), some (rc l2 t2 r2 u2), o12, some (.int x), some (com l1 t1 r1 u1 l2 t2 r2 u2), some (.int y), o16', o17', o18'] := by
  by_cases h : mx l1 l2 < mn r1 r2 ∧ mx t1 t2 < mn u1 u2
  · rw [show com l1 t1 r1 u1 l2 t2 r2 u2 = rc (mx l1 l2) (mx t1 t2) (mn r1 r2) (mn u1 u2) from if_pos h]
    exact six_ok (fun _ _ _ => he_rc) com_cov
  · rw [show com l1 t1 r1 u1 l2 t2 r2 u2 = .non from if_neg h]
    exact six_ok (fun _ _ _ => he_non) (com_cov0 h)

theorem mx_comm {i j : Int} : mx i j = mx j i := by
  unfold mx
  split <;> split <;> omega
theorem mn_comm {i j : Int} : mn i j = mn j i := by
  unfold mn
  split <;> split <;> omega
theorem com_comm {l1 t1 r1 u1 l2 t2 r2 u2 : Int} : com l2 t2 r2 u2 l1 t1 r1 u1 = com l1 t1 r1 u1 l2 t2 r2 u2 := by
  unfold com
  rw [mx_comm (i := l2), mx_comm (i := t2), mn_comm (i := r2), mn_comm (i := u2)]
def OE : E := (.or (.cmp .NotEq (.cal "common" [(.pk 11), (.pk 10)]) (.pk 14)) (.and (.isn true (.pk 14)) (.not (.cmp .Lt (.ix (.pk 14) (.cst (.int 0))) (.ix (.pk 14) (.cst (.int 2)))))))
theorem law7_eq : law_7 = [(.asg (.tup [(.nm 10), (.nm 11)]) (.tup [(.cal "_law_rectangle" [(.pk 1), (.cst (.int 1))]), (.cal "_law_rectangle" [(.pk 1), (.cst (.int 1))])])), (.asg (.nm 12) (.lst [])), (.for_ (.nm 13) .rng2 [(.neg (.cst (.int 5))), (.cst (.int 10))] law_3), (.asg (.nm 14) (.cal "common" [(.pk 10), (.pk 11)])), (.for_ (.tup [(.nm 13), (.nm 15)]) .seq [(.nm 12)] law_6), (.iff OE [(.ret (.cst (.bl false)))] [])] := rfl
theorem oe_ok {S0 b : D} {t o3 o4 o5 o6 o7 o8 o9 o12 o13 o15 o16 o17 o18 : Option D} {l1 t1 r1 u1 l2 t2 r2 u2 : Int} : ev C0 OE [some S0, some b, t, o3, o4, o5, o6, o7, o8, o9, some (rc l1 t1 r1 u1), some (rc l2 t2 r2 u2), o12, o13, some (com l1 t1 r1 u1 l2 t2 r2 u2), o15, o16, o17, o18] =
    .ok (.bl false) [some S0, some b, t, o3, o4, o5, o6, o7, o8, o9, some (rc l1 t1 r1 u1), some (rc l2 t2 r2 u2), o12, o13, some (com l1 t1 r1 u1 l2 t2 r2 u2), o15, o16, o17, o18] := by
  have p1 := common_ok (W := 200) (k := 38) (l := l2) (t := t2) (r := r2) (b := u2) (l2 := l1) (t2 := t1) (r2 := r1) (b2 := u1)
  rw [com_comm] at p1
  have p1 : C0 "common" [rc l2 t2 r2 u2, rc l1 t1 r1 u1] = .ok (com l1 t1 r1 u1 l2 t2 r2 u2) [some (rc l2 t2 r2 u2), some (rc l1 t1 r1 u1)] := p1
  by_cases h : mx l1 l2 < mn r1 r2 ∧ mx t1 t2 < mn u1 u2
  · rw [show com l1 t1 r1 u1 l2 t2 r2 u2 = rc (mx l1 l2) (mx t1 t2) (mn r1 r2) (mn u1 u2) from if_pos h] at p1 ⊢
    have e1 : eqD (rc (mx l1 l2) (mx t1 t2) (mn r1 r2) (mn u1 u2)) (rc (mx l1 l2) (mx t1 t2) (mn r1 r2) (mn u1 u2)) = true := by simp [rc, eq_tt, eql_cons, eql_nil, eq_ii]
    have e2 : ∀ a b c d : Int, shal 8 (rc a b c d) = true := fun _ _ _ _ => rfl
    have e3 : ∀ a b c d : Int, atI [D.int a, D.int b, D.int c, D.int d] 2 = some (.int c) := fun _ _ _ _ => a2
    have hx := h.1
    simp [OE, exs, exS, ev, evs, evA, asb_ok, asBD, R.of_some, ixD, cmpD, eq_ii, eq_bb, eq_ss, eq_nn, eq_ll, eq_tt, eql_nil, eql_cons, shal, a0, a1, a2, a3, s1, s2, s3, b1D, asg_nm, asg_tup, asgl_nil, asgl_cons, onS, updE, binD, D.fz, fzL, fin, lastP, partD, itemsD, callA, takeA, putA, isTy, p1, e1, e2]
    simp [rc, exs, exS, ev, evs, evA, asb_ok, asBD, R.of_some, ixD, cmpD, eq_ii, eq_bb, eq_ss, eq_nn, eq_ll, eq_tt, eql_nil, eql_cons, shal, a0, a1, a2, a3, s1, s2, s3, b1D, asg_nm, asg_tup, asgl_nil, asgl_cons, onS, updE, binD, D.fz, fzL, fin, lastP, partD, itemsD, callA, takeA, putA, isTy, isf_int, hx]
  · rw [show com l1 t1 r1 u1 l2 t2 r2 u2 = .non from if_neg h] at p1 ⊢
    simp [OE, exs, exS, ev, evs, evA, asb_ok, asBD, R.of_some, ixD, cmpD, eq_ii, eq_bb, eq_ss, eq_nn, eq_ll, eq_tt, eql_nil, eql_cons, shal, a0, a1, a2, a3, s1, s2, s3, b1D, asg_nm, asg_tup, asgl_nil, asgl_cons, onS, updE, binD, D.fz, fzL, fin, lastP, partD, itemsD, callA, takeA, putA, isTy, p1]
theorem turn_ok {S0 b : D} {t o3 o4 o5 o6 o7 o8 o9 o10 o11 o12 o13 o14 o15 o16 o17 o18 : Option D} (B : Bag b) : ∃ b' o10' o11' o12' o13' o14' o15' o16' o17' o18', exs C0 200 law_7 [some S0, some b, t, o3, o4, o5, o6, o7, o8, o9, o10, o11, o12, o13, o14, o15, o16, o17, o18] =
    .ok .next [some S0, some b', t, o3, o4, o5, o6, o7, o8, o9, o10', o11', o12', o13', o14', o15', o16', o17', o18'] ∧ Bag b' := by
  obtain ⟨b1, l1, t1, r1, u1, p1, B1, _⟩ := rect_ok (W := 200) (k := 37) B (sc := 1) (by decide) (by decide)
  obtain ⟨b2, l2, t2, r2, u2, p2, B2, _⟩ := rect_ok (W := 200) (k := 37) B1 (sc := 1) (by decide) (by decide)
  simp only [Int.one_mul] at p1 p2
  have p1 : C0 "_law_rectangle" [b, .int 1] = .ok (rc l1 t1 r1 u1) [some b1, some (.int 1)] := p1
  have p2 : C0 "_law_rectangle" [b1, .int 1] = .ok (rc l2 t2 r2 u2) [some b2, some (.int 1)] := p2
  have p3 : C0 "common" [rc l1 t1 r1 u1, rc l2 t2 r2 u2] = .ok (com l1 t1 r1 u1 l2 t2 r2 u2) [some (rc l1 t1 r1 u1), some (rc l2 t2 r2 u2)] := common_ok (W := 200) (k := 38)
  obtain ⟨e', h1, ps, x13, x15, h2, h3⟩ := for_ok (tg := asgT (.nm 13)) (b := fun e => exs C0 200 law_3 e) (fun j e => ∃ (ps : List (Int × Int)) (x13 x15 : Option D), e = [some S0, some b2, t, o3, o4, o5, o6, o7, o8, o9, some (rc l1 t1 r1 u1), some (rc l2 t2 r2 u2), some (.lst true (ps.map mk)), x13, o14, x15, o16, o17, o18] ∧ ps.length = 15 * j)
    ((List.range 15).map fun (k : Nat) => .int (-5 + (k : Int))) 0 [some S0, some b2, t, o3, o4, o5, o6, o7, o8, o9, some (rc l1 t1 r1 u1), some (rc l2 t2 r2 u2), some (.lst true []), o13, o14, o15, o16, o17, o18] ⟨[], o13, o15, rfl, rfl⟩ (by
    rintro j d e hd ⟨ps, x13, x15, rfl, hl⟩
    have hj : j < 15 := by
      have := (List.getElem?_eq_some_iff.mp hd).1
      simpa using this
    rw [List.getElem?_map] at hd
    obtain ⟨k, _, rfl⟩ := Option.map_eq_some_iff.mp hd
    obtain ⟨qs, h5, h6⟩ := row_ok (S0 := S0) (b := b2) (B1 := rc l1 t1 r1 u1) (B2 := rc l2 t2 r2 u2) (t := t) (o3 := o3) (o4 := o4) (o5 := o5) (o6 := o6) (o7 := o7) (o8 := o8) (o9 := o9) (o14 := o14) (o15 := x15) (o16 := o16) (o17 := o17) (o18 := o18) (x := -5 + (k : Int)) (ps := ps) (by omega)
    exact ⟨[some S0, some b2, t, o3, o4, o5, o6, o7, o8, o9, some (rc l1 t1 r1 u1), some (rc l2 t2 r2 u2), some (.lst true (ps.map mk)), some (.int (-5 + (k : Int))), o14, x15, o16, o17, o18], .next, _, rfl, h5, .inl rfl, ps ++ qs, _, _, rfl, by rw [List.length_append, hl, h6]; omega⟩)
  subst h2
  obtain ⟨e', h4, y13, y15, y16, y17, y18, h5⟩ := for_ok (tg := asgT (.tup [.nm 13, .nm 15])) (b := fun e => exs C0 200 law_6 e) (fun j e => ∃ (x13 x15 x16 x17 x18 : Option D), e = [some S0, some b2, t, o3, o4, o5, o6, o7, o8, o9, some (rc l1 t1 r1 u1), some (rc l2 t2 r2 u2), some (.lst false (ps.map mk)), x13, some (com l1 t1 r1 u1 l2 t2 r2 u2), x15, x16, x17, x18])
    (ps.map mk) 0 [some S0, some b2, t, o3, o4, o5, o6, o7, o8, o9, some (rc l1 t1 r1 u1), some (rc l2 t2 r2 u2), some (.lst false (ps.map mk)), x13, some (com l1 t1 r1 u1 l2 t2 r2 u2), x15, o16, o17, o18] ⟨_, _, _, _, _, rfl⟩ (by
    rintro j d e hd ⟨x13, x15, x16, x17, x18, rfl⟩
    rw [List.getElem?_map] at hd
    obtain ⟨q, _, rfl⟩ := Option.map_eq_some_iff.mp hd
    obtain ⟨z16, z17, z18, h7⟩ := six_all (S0 := S0) (b := b2) (t := t) (o3 := o3) (o4 := o4) (o5 := o5) (o6 := o6) (o7 := o7) (o8 := o8) (o9 := o9) (o12 := some (.lst false (ps.map mk))) (o16 := x16) (o17 := x17) (o18 := x18) (x := q.1) (y := q.2) (l1 := l1) (t1 := t1) (r1 := r1) (u1 := u1) (l2 := l2) (t2 := t2) (r2 := r2) (u2 := u2)
    exact ⟨[some S0, some b2, t, o3, o4, o5, o6, o7, o8, o9, some (rc l1 t1 r1 u1), some (rc l2 t2 r2 u2), some (.lst false (ps.map mk)), some (.int q.1), some (com l1 t1 r1 u1 l2 t2 r2 u2), some (.int q.2), x16, x17, x18], .next, _, rfl, h7, .inl rfl, _, _, _, _, _, rfl⟩)
  subst h5
  have hz := fzL_isF (isFL_mk ps)
  refine ⟨b2, some (rc l1 t1 r1 u1), some (rc l2 t2 r2 u2), some (.lst false (ps.map mk)), y13, some (com l1 t1 r1 u1 l2 t2 r2 u2), y15, y16, y17, y18, ?_, B2⟩
  rw [law7_eq]
  have hr := rng15
  generalize (List.range 15).map (fun (k : Nat) => D.int (-5 + (k : Int))) = ds at h1 hr
  simp [exs, exS, ev, evs, evA, asb_ok, asBD, R.of_some, ixD, cmpD, eq_ii, eq_bb, eq_ss, eq_nn, eq_ll, eq_tt, eql_nil, eql_cons, shal, a0, a1, a2, a3, s1, s2, s3, b1D, asg_nm, asg_tup, asgl_nil, asgl_cons, onS, updE, binD, D.fz, fzL, fin, lastP, partD, itemsD, callA, takeA, putA, isTy, p1, p2, p3, hr, h1, hz, h4, oe_ok]

theorem lc11 {S0 b : D} {t o3 o4 o5 o6 o8 o9 o10 o11 o12 o13 o14 o15 o16 o17 o18 : Option D} {o : Bool} {xs : List D} (hx : isFL xs = true) (h : ∀ x ∈ xs, C0 "_law_tuple_right" [x, .bl true] = .ok (.bl true) [some x, some (.bl true)]) :
    ev C0 law_11 [some S0, some b, t, o3, o4, o5, o6, some (.lst o xs), o8, o9, o10, o11, o12, o13, o14, o15, o16, o17, o18] = .ok (.lst true (xs.map fun _ => .bl true)) [some S0, some b, t, o3, o4, o5, o6, some (.lst false xs), o8, o9, o10, o11, o12, o13, o14, o15, o16, o17, none] := by
  obtain ⟨r, e', h1, rfl, h3, h4⟩ := lc_ok (w := fun e => wipeE e [18]) (tg := asgT (.nm 18)) (tt := fun e => evTs C0 [] e) (f := fun e => (ev C0 law_10 e).still)
    (fun e => e = [some S0, some b, t, o3, o4, o5, o6, some (.lst false xs), o8, o9, o10, o11, o12, o13, o14, o15, o16, o17, none]) (fun _ d => d = D.bl true) xs 0 _ rfl (by
    rintro j d e hd rfl
    have hm : d ∈ xs := List.mem_of_getElem? hd
    have hc := h d hm
    refine ⟨[some S0, some b, t, o3, o4, o5, o6, some (.lst false xs), o8, o9, o10, o11, o12, o13, o14, o15, o16, o17, some d], _, D.bl true, [some S0, some b, t, o3, o4, o5, o6, some (.lst false xs), o8, o9, o10, o11, o12, o13, o14, o15, o16, o17, some d], rfl, rfl, by simp [law_10, exs, exS, ev, evs, evA, asb_ok, asBD, R.of_some, ixD, cmpD, eq_ii, eq_bb, eq_ss, eq_nn, eq_ll, eq_tt, eql_nil, eql_cons, shal, a0, a1, a2, a3, s1, s2, s3, b1D, asg_nm, asg_tup, asgl_nil, asgl_cons, onS, updE, binD, D.fz, fzL, fin, lastP, partD, itemsD, callA, takeA, putA, isTy, hc, still_k], rfl, rfl⟩)
  have hr : r = xs.map fun _ => D.bl true := by
    apply List.ext_getElem?
    intro j
    rw [List.getElem?_map]
    cases hj : r[j]? with
    | none => rw [List.getElem?_eq_none_iff] at hj; rw [List.getElem?_eq_none (by omega)]; rfl
    | some d =>
      obtain ⟨d0, rfl, rfl⟩ := h4 j d hj
      have := (List.getElem?_eq_some_iff.mp hj).1
      rw [List.getElem?_eq_getElem (by omega)]
      rfl
  subst hr
  unfold law_11
  have hz := fzL_isF hx
  exact ev_lc (xs := [.lst false xs]) (e1 := [some S0, some b, t, o3, o4, o5, o6, some (.lst false xs), o8, o9, o10, o11, o12, o13, o14, o15, o16, o17, o18]) (by simp [exs, exS, ev, evs, evA, asb_ok, asBD, R.of_some, ixD, cmpD, eq_ii, eq_bb, eq_ss, eq_nn, eq_ll, eq_tt, eql_nil, eql_cons, shal, a0, a1, a2, a3, s1, s2, s3, b1D, asg_nm, asg_tup, asgl_nil, asgl_cons, onS, updE, binD, D.fz, fzL, fin, lastP, partD, itemsD, callA, takeA, putA, isTy, hz]) rfl h1
theorem lc9 {S0 b : D} {t o3 o4 o5 o6 o7 o9 o10 o11 o12 o13 o14 o15 o16 o17 o18 : Option D} {o : Bool} {xs : List D} (hx : isFL xs = true) (h : ∀ x ∈ xs, C0 "_law_tuple_right" [x, .bl false] = .ok (.bl true) [some x, some (.bl false)]) :
    ev C0 law_9 [some S0, some b, t, o3, o4, o5, o6, o7, some (.lst o xs), o9, o10, o11, o12, o13, o14, o15, o16, o17, o18] = .ok (.lst true (xs.map fun _ => .bl true)) [some S0, some b, t, o3, o4, o5, o6, o7, some (.lst false xs), o9, o10, o11, o12, o13, o14, o15, o16, o17, none] := by
  obtain ⟨r, e', h1, rfl, h3, h4⟩ := lc_ok (w := fun e => wipeE e [18]) (tg := asgT (.nm 18)) (tt := fun e => evTs C0 [] e) (f := fun e => (ev C0 law_8 e).still)
    (fun e => e = [some S0, some b, t, o3, o4, o5, o6, o7, some (.lst false xs), o9, o10, o11, o12, o13, o14, o15, o16, o17, none]) (fun _ d => d = D.bl true) xs 0 _ rfl (by
    rintro j d e hd rfl
    have hm : d ∈ xs := List.mem_of_getElem? hd
    have hc := h d hm
    refine ⟨[some S0, some b, t, o3, o4, o5, o6, o7, some (.lst false xs), o9, o10, o11, o12, o13, o14, o15, o16, o17, some d], _, D.bl true, [some S0, some b, t, o3, o4, o5, o6, o7, some (.lst false xs), o9, o10, o11, o12, o13, o14, o15, o16, o17, some d], rfl, rfl, by simp [law_8, exs, exS, ev, evs, evA, asb_ok, asBD, R.of_some, ixD, cmpD, eq_ii, eq_bb, eq_ss, eq_nn, eq_ll, eq_tt, eql_nil, eql_cons, shal, a0, a1, a2, a3, s1, s2, s3, b1D, asg_nm, asg_tup, asgl_nil, asgl_cons, onS, updE, binD, D.fz, fzL, fin, lastP, partD, itemsD, callA, takeA, putA, isTy, hc, still_k], rfl, rfl⟩)
  have hr : r = xs.map fun _ => D.bl true := by
    apply List.ext_getElem?
    intro j
    rw [List.getElem?_map]
    cases hj : r[j]? with
    | none => rw [List.getElem?_eq_none_iff] at hj; rw [List.getElem?_eq_none (by omega)]; rfl
    | some d =>
      obtain ⟨d0, rfl, rfl⟩ := h4 j d hj
      have := (List.getElem?_eq_some_iff.mp hj).1
      rw [List.getElem?_eq_getElem (by omega)]
      rfl
  subst hr
  unfold law_9
  have hz := fzL_isF hx
  exact ev_lc (xs := [.lst false xs]) (e1 := [some S0, some b, t, o3, o4, o5, o6, o7, some (.lst false xs), o9, o10, o11, o12, o13, o14, o15, o16, o17, o18]) (by simp [exs, exS, ev, evs, evA, asb_ok, asBD, R.of_some, ixD, cmpD, eq_ii, eq_bb, eq_ss, eq_nn, eq_ll, eq_tt, eql_nil, eql_cons, shal, a0, a1, a2, a3, s1, s2, s3, b1D, asg_nm, asg_tup, asgl_nil, asgl_cons, onS, updE, binD, D.fz, fzL, fin, lastP, partD, itemsD, callA, takeA, putA, isTy, hz]) rfl h1
theorem ab_le {i n : Int} : ab i ≤ n ↔ -n ≤ i ∧ i ≤ n := by
  unfold ab
  split <;> omega
theorem isr_iff {l t r b : Int} : isr l t r b = true ↔ l < r ∧ t < b ∧ -1000000000 ≤ l ∧ l ≤ 1000000000 ∧ -1000000000 ≤ t ∧ t ≤ 1000000000 ∧ -1000000000 ≤ r ∧ r ≤ 1000000000 ∧ -1000000000 ≤ b ∧ b ≤ 1000000000 := by
  simp only [isr, Bool.and_eq_true, decide_eq_true_eq, ab_le]
  omega
theorem isr_no {l t r b : Int} (h : ¬ (l < r ∧ t < b ∧ -1000000000 ≤ l ∧ l ≤ 1000000000 ∧ -1000000000 ≤ t ∧ t ≤ 1000000000 ∧ -1000000000 ≤ r ∧ r ≤ 1000000000 ∧ -1000000000 ≤ b ∧ b ≤ 1000000000)) : isr l t r b = false := by
  rw [Bool.eq_false_iff]
  exact fun z => h (isr_iff.mp z)
theorem law_ok (ns : List Int) (h : ns.length ≤ 63) : ∃ W e', callN tab.fn W deep "law" [.lst false (ns.map .int)] = .ok (.bl true) e' := by
  refine ⟨200, ?_⟩
  obtain ⟨b, hb, B⟩ := bag_ok (W := 200) (k := 38) iBag false ns
  have hb : C0 "_law_bag" [.lst false (ns.map .int)] = .ok b [some (.lst false (ns.map .int))] := hb
  obtain ⟨e', h1, b', o2, o10, o11, o12, o13, o14, o15, o16, o17, o18, rfl, B'⟩ := for_ok (tg := asgT (.nm 2)) (b := fun e => exs C0 200 law_7 e) (fun j e => ∃ b o2 o10 o11 o12 o13 o14 o15 o16 o17 o18, e = [some (.lst false (ns.map .int)), some b, o2, none, none, none, none, none, none, none, o10, o11, o12, o13, o14, o15, o16, o17, o18] ∧ Bag b)
    ((List.range 6).map fun (k : Nat) => .int (k : Int)) 0 [some (.lst false (ns.map .int)), some b, none, none, none, none, none, none, none, none, none, none, none, none, none, none, none, none, none] ⟨b, _, _, _, _, _, _, _, _, _, _, rfl, B⟩ (by
    rintro j x e hx ⟨b, o2, o10, o11, o12, o13, o14, o15, o16, o17, o18, rfl, B⟩
    obtain ⟨b', z10, z11, z12, z13, z14, z15, z16, z17, z18, h1, B'⟩ := turn_ok (S0 := .lst false (ns.map .int)) (t := some x) (o3 := none) (o4 := none) (o5 := none) (o6 := none) (o7 := none) (o8 := none) (o9 := none) (o10 := o10) (o11 := o11) (o12 := o12) (o13 := o13) (o14 := o14) (o15 := o15) (o16 := o16) (o17 := o17) (o18 := o18) B
    exact ⟨[some (.lst false (ns.map .int)), some b, some x, none, none, none, none, none, none, none, o10, o11, o12, o13, o14, o15, o16, o17, o18], .next, _, rfl, h1, .inl rfl, b', _, _, _, _, _, _, _, _, _, _, rfl, B'⟩)
  obtain ⟨b2, l, t, r, u, p1, B2, q⟩ := rect_ok (W := 200) (k := 37) B' (sc := 100000000) (by decide) (by decide)
  obtain ⟨L0, hL⟩ : ∃ z, z = 100000000 * l := ⟨_, rfl⟩
  obtain ⟨T0, hT⟩ : ∃ z, z = 100000000 * t := ⟨_, rfl⟩
  obtain ⟨R0, hR⟩ : ∃ z, z = 100000000 * r := ⟨_, rfl⟩
  obtain ⟨U0, hU⟩ : ∃ z, z = 100000000 * u := ⟨_, rfl⟩
  rw [← hL, ← hT, ← hR, ← hU] at p1
  have p1 : C0 "_law_rectangle" [b', .int 100000000] = .ok (rc L0 T0 R0 U0) [some b2, some (.int 100000000)] := p1
  have ht : ∀ x ∈ [rc L0 T0 R0 U0, rc (-1000000000) 999999999 1000000000 1000000000], C0 "_law_tuple_right" [x, .bl true] = .ok (.bl true) [some x, some (.bl true)] := by
    intro x hx
    simp only [List.mem_cons, List.not_mem_nil, or_false] at hx
    rcases hx with rfl | rfl
    · exact tup_ok (W := 200) (k := 35) (isr_iff.mpr (by omega))
    · exact tup_ok (W := 200) (k := 35) (isr_iff.mpr (by omega))
  have hf : ∀ x ∈ [rc R0 T0 L0 U0, rc L0 U0 R0 T0, rc L0 T0 L0 U0, rc L0 T0 R0 T0, rc L0 T0 1000000001 U0, rc (-1000000001) T0 R0 U0, rc L0 T0 R0 100000000000000000000000000000], C0 "_law_tuple_right" [x, .bl false] = .ok (.bl true) [some x, some (.bl false)] := by
    intro x hx
    simp only [List.mem_cons, List.not_mem_nil, or_false] at hx
    rcases hx with rfl | rfl | rfl | rfl | rfl | rfl | rfl <;> exact tup_ok (W := 200) (k := 35) (isr_no (by omega))
  have hr : rngD 0 6 = some ((List.range 6).map fun (k : Nat) => .int (k : Int)) := rng_nat (n := 6) (by decide)
  show ∃ e', callN tab.fn 200 (39 + 1) "law" [.lst false (ns.map .int)] = .ok (.bl true) e'
  rw [iLaw.eq rfl]
  change ∃ e', fin [true] (exs C0 200 law_body _) = _
  generalize (List.range 6).map (fun (k : Nat) => D.int (k : Int)) = ds at h1 hr
  have g11 := fun (S0 b : D) (t o3 o4 o5 o6 o8 o9 o10 o11 o12 o13 o14 o15 o16 o17 o18 : Option D) (o : Bool) => lc11 (S0 := S0) (b := b) (t := t) (o3 := o3) (o4 := o4) (o5 := o5) (o6 := o6) (o8 := o8) (o9 := o9) (o10 := o10) (o11 := o11) (o12 := o12) (o13 := o13) (o14 := o14) (o15 := o15) (o16 := o16) (o17 := o17) (o18 := o18) (o := o) rfl ht
  have g9 := fun (S0 b : D) (t o3 o4 o5 o6 o7 o9 o10 o11 o12 o13 o14 o15 o16 o17 o18 : Option D) (o : Bool) => lc9 (S0 := S0) (b := b) (t := t) (o3 := o3) (o4 := o4) (o5 := o5) (o6 := o6) (o7 := o7) (o9 := o9) (o10 := o10) (o11 := o11) (o12 := o12) (o13 := o13) (o14 := o14) (o15 := o15) (o16 := o16) (o17 := o17) (o18 := o18) (o := o) rfl hf
  simp only [rc, List.map_cons, List.map_nil] at p1 g11 g9
  simp [law_body, exs, exS, ev, evs, evA, asb_ok, asBD, R.of_some, ixD, cmpD, eq_ii, eq_bb, eq_ss, eq_nn, eq_ll, eq_tt, eql_nil, eql_cons, shal, a0, a1, a2, a3, s1, s2, s3, b1D, asg_nm, asg_tup, asgl_nil, asgl_cons, onS, updE, binD, D.fz, fzL, fin, lastP, partD, itemsD, callA, takeA, putA, isTy, hb, hr, h1, p1, g11, g9, memD, lim]

end Lw
set_option maxHeartbeats 0
namespace Lw
open PySem PySem.Spec L2 Vm
abbrev TheRow : PySem.W.OpenRow := PySem.W.OpenLaw.row PySem.Challenge.rw_raisekeys_k01_rectangles
abbrev hook : PySem.W.Hook := He.hookD 4 (faOf tab defsOf) (ddOf defsOf)
def watch (s : PySem.W.SharedT) : He.AlD := He.obsDG 4 (faOf tab defsOf) (ddOf defsOf) (HandSHeadRun.getT s)
theorem watch_eq (s : PySem.W.SharedT) : watch s = hook.obs s.abs := He.obsDG_eq (HandSHeadRun.getT_eq s)
theorem ran (w : World) : HandSHeadRun.RunEq TheRow (PySem.W.view TheRow.prog [11]) hook watch 400 ["is_rectangle", "covers", "common", "_law_bag", "_law_pull", "_law_like", "_law_rectangle", "_law_tuple_right", "MOST_COORDINATE"] w := by
  intro os
  kernel_rfl
end Lw
open PySem PySem.W PySem.Calls PyProof.Rows
theorem PySem.Challenge.cw_raisekeys_k01_rectangles_holds : PySem.Challenge.rw_raisekeys_k01_rectangles.Holds := by
  w_on
  o_law
  refine HandSHeadRun.head_any (r := OpenLaw.row PySem.Challenge.rw_raisekeys_k01_rectangles) (q := view (OpenLaw.row PySem.Challenge.rw_raisekeys_k01_rectangles).prog [11]) (H := Lw.hook) (ob := Lw.watch) (M := 400) (loose := ["is_rectangle", "covers", "common", "_law_bag", "_law_pull", "_law_like", "_law_rectangle", "_law_tuple_right", "MOST_COORDINATE"]) (d := HandSHeadRun.topDef (OpenLaw.row PySem.Challenge.rw_raisekeys_k01_rectangles).prog 11) (kwd := []) Lw.watch_eq
    (by kernel_rfl) (fun s => by kernel_rfl) Lw.ran (by kernel_rfl) (by kernel_rfl) (by kernel_rfl) (by rfl) (by first | assumption | decide +kernel) (by decide +kernel) ⟨rfl, rfl, rfl, rfl, rfl, by decide +kernel⟩ ?hw ?hc
  case hw => w_witness2
  case hc =>
    refine Vm.walk_vm (l := PySem.Challenge.rw_raisekeys_k01_rectangles) (n := 63) (k := Lw.deep) (x := "_law_script") (g := Lw.tab) (es := Lw.defsOf) (fn := Lw.F_law) rfl (by decide) (by kernel_rfl) ⟨rfl, by decide, by decide⟩ (by kernel_rfl) rfl ?facts (fun ns h => ?law)
    case facts =>
      intro w mg fa h Y G hm
      obtain ⟨K, KX, c⟩ := Y
      exact ⟨K, KX, Vm.pg_of KX G c rfl Lw.chkd (by decide +kernel) Lw.bnds Lw.kwds⟩
    case law =>
      have e : (HandSHeadRun.topDef (OpenLaw.row PySem.Challenge.rw_raisekeys_k01_rectangles).prog 11).name = ("law" : PySem.Str) := by kernel_rfl
      rw [e]
      exact Lw.law_ok ns h
