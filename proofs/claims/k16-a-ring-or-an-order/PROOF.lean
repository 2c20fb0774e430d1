import PyProof.Rows.All
import Wide.All
import OpenK.AllK
import Wide.FinOn
import HandS.ForMost
import HandS.Wide
import HandS.More
import HandS.Defaults
import HandS.Head0
import HandS.Head1
import HandS.Head2
import HandS.HeadEnd
import HandS.HeadHook1
import HandS.HeadHook2
import HandS.Words
import HandS.Exc
import HandS.Base
import HandS.Conv
import HandS.Deep
import HandS.DictComp
import HandS.DictEq
import HandS.ExcField
import HandS.ExcInit
import HandS.ExcOwn
import HandS.HeadHook3
import HandS.HotCalls
import HandS.IsInst
import HandS.Iter
import HandS.Lambda
import HandS.SetFor
import HandS.Small
import HandS.Strs
import HandS.Style
import HandS.TryMany
import HandS.TupAny
import HandS.TupLe
import HandS.Zip
import HandS.Zip0
import KE.DataMinMax
import KE.GoesEnum
import KE.KDflt
import KE.KDictZip
import KE.KExcInit
import KE.KNestM
import KE.KTryMore
import KE.SortData
import PyProof.P3Eq
import PyProof.ReprRoads
import PyProof.Rows.Range3
import PyProof.Rows.StrInSeq3
import PySem.Challenge.RW_raisekeys_k16_whole_a_ring_or_an_order
set_option Elab.async false
set_option linter.all false
set_option maxRecDepth 100000
set_option maxHeartbeats 4000000
namespace Vm
open PySem PySem.Spec
inductive FE where
  | att (f : Str)
  | ite (w : Str) (a b : FE)
def evFE {α : Type} (l : List (Str × α)) (w : Str) : FE → Option α
  | .att f => l.lookup f
  | .ite z a b => if w = z then evFE l w a else evFE l w b
def evFS {α : Type} (no : α) (l : List (Str × α)) (w : Str) : List (List Str × FE) → Option α
  | [] => some no
  | (ws, fe) :: r => if w ∈ ws then evFE l w fe else evFS no l w r
def theFS : List (List Str × FE) :=
  [(["BadName", "BadRectangle", "BadCost", "Unknown"], .att "name"), (["BadStep", "BadWish", "BadFact", "BadDeed", "BadText"], .att "at"), (["Taken", "Clash", "NoStamp"], .att "stamp"),
   (["Full", "NoWatch", "BadPage"], .ite "Full" (.att "most") (.ite "BadPage" (.att "row") (.att "number")))]
/-- the parameters of such a lambda -/
def lamPar (ps : Arguments) : Option (List Str) := match ps with
  | ⟨[], [], none, [], [], none, []⟩ => some []
  | ⟨[], [⟨y, none, _⟩], none, [], [], none, [.Constant (.int 0) _ _]⟩ => some [y]
  | _ => none
structure LamC (sc scope : Scope) (ps : Arguments) (N : List Str) : Prop where
  kind : scope.kind = .function
  co : scope.isCoroutine = false
  gen : scope.isGenerator = false
  nocell : ∀ z ∈ scope.names, z.2 ≠ .cell
  par : ∃ ys, lamPar ps = some ys ∧ ∀ y ∈ ys, scope.names.lookup y = some .local
  loc : ∀ y ∈ N, scope.names.lookup y ≠ some .local
  free : ∀ z ∈ scope.names, z.2 = .free → sc.names.lookup z.1 = some .cell ∨ sc.names.lookup z.1 = some .free
def lamCB (sc scope : Scope) (ps : Arguments) (N : List Str) : Bool :=
  decide (scope.kind = .function) && (!scope.isCoroutine && (!scope.isGenerator && ((scope.names.all fun z => !decide (z.2 = .cell)) && ((match lamPar ps with
    | some ys => ys.all fun y => decide (scope.names.lookup y = some .local)
    | none => false) && ((N.all fun y => !decide (scope.names.lookup y = some .local)) && scope.names.all fun z => !decide (z.2 = .free) || (decide (sc.names.lookup z.1 = some .cell) || decide (sc.names.lookup z.1 = some .free)))))))
theorem lamC_by {sc scope : Scope} {ps : Arguments} {N : List Str} (h : lamCB sc scope ps N = true) : LamC sc scope ps N := by
  unfold lamCB at h
  simp only [Bool.and_eq_true, Bool.or_eq_true, Bool.not_eq_true', decide_eq_true_eq, decide_eq_false_iff_not, List.all_eq_true] at h
  obtain ⟨h1, h2, h3, h4, h5, h6, h7⟩ := h
  refine ⟨h1, h2, h3, h4, ?_, h6, fun z hz e => (h7 z hz).resolve_left fun q => q e⟩
  split at h5
  · rename_i ys e
    simp only [List.all_eq_true, decide_eq_true_eq] at h5
    exact ⟨ys, e, h5⟩
  · cases h5
end Vm
namespace Vm
open PySem PySem.Spec PyProof.Rows L2

/-- data; o: owned (may be written through the one place that holds it) -/
inductive D where
  | non | bl (b : Bool) | int (i : Int) | str (s : Str)
  | tup (xs : List D) | lst (o : Bool) (xs : List D)
  /-- a dict: its keys, its values -/
  | dct (o : Bool) (ks vs : List D)
  /-- an instance: its class, its fields -/
  | ins (o : Bool) (c : Str) (fs : List Str) (vs : List D)
  deriving Inhabited

mutual
/-- given up to be shared -/
def D.fz : D → D
  | .tup xs => .tup (fzL xs)
  | .lst _ xs => .lst false (fzL xs)
  | .dct _ ks vs => .dct false ks (fzL vs)
  | .ins _ c fs vs => .ins false c fs (fzL vs)
  | .non => .non | .bl b => .bl b | .int i => .int i | .str s => .str s
def fzL : List D → List D
  | [] => []
  | d :: ds => d.fz :: fzL ds
end
mutual
def D.isF : D → Bool
  | .tup xs => isFL xs
  | .lst o xs => !o && isFL xs
  | .dct o _ vs => !o && isFL vs
  | .ins o _ _ vs => !o && isFL vs
  | .non => true | .bl _ => true | .int _ => true | .str _ => true
def isFL : List D → Bool
  | [] => true
  | d :: ds => d.isF && isFL ds
end
mutual
/-- == -/
def eqD : D → D → Bool
  | .non, .non => true
  | .bl a, .bl b => a == b
  | .bl a, .int j => (if a then 1 else 0) == j
  | .int i, .bl b => i == (if b then 1 else 0)
  | .int i, .int j => i == j
  | .str x, .str y => x == y
  | .lst _ xs, .lst _ ys => eqL xs ys
  | .tup xs, .tup ys => eqL xs ys
  | _, _ => false
def eqL : List D → List D → Bool
  | [], [] => true
  | x :: xs, y :: ys => eqD x y && eqL xs ys
  | _, _ => false
end
/-- what is told of an exception -/
def tryD : D → Option D
  | .ins false c fs vs => match (fs.zip vs).lookup ("word" : Str) with
    | some (.str w) => if c = ("NothingLeft" : Str) then some (.tup [.str w, .non]) else (evFS D.non (fs.zip vs) w theFS).map fun d => .tup [.str w, d]
    | _ => none
  | _ => none
/-- at most n deep -/
def shal : Nat → D → Bool
  | 0, .tup _ => false
  | 0, .lst _ _ => false
  | _, .dct _ _ _ => false
  | _, .ins _ _ _ _ => false
  | n + 1, .tup xs => xs.all (shal n)
  | n + 1, .lst _ xs => xs.all (shal n)
  | _, _ => true

abbrev Nv := List (Option D)
inductive R (α : Type) where
  | ok (a : α) (e : Nv)
  | ex (x : D) (e : Nv)
  | bad
def R.bind {α β : Type} (r : R α) (f : α → Nv → R β) : R β := match r with
  | .ok a e => f a e
  | .ex x e => .ex x e
  | .bad => .bad
@[simp] theorem R.bind_ok {α β : Type} (a : α) (e : Nv) (f : α → Nv → R β) : (R.ok a e).bind f = f a e := rfl
@[simp] theorem R.bind_ex {α β : Type} (a : D) (e : Nv) (f : α → Nv → R β) : (R.ex a e).bind f = .ex a e := rfl
@[simp] theorem R.bind_bad {α β : Type} (f : α → Nv → R β) : (R.bad : R α).bind f = .bad := rfl
def R.of {α : Type} (o : Option α) (e : Nv) : R α := match o with
  | some a => .ok a e
  | none => .bad
@[simp] theorem R.of_some {α : Type} (a : α) (e : Nv) : R.of (some a) e = .ok a e := rfl
@[simp] theorem R.of_none {α : Type} (e : Nv) : (R.of none e : R α) = .bad := rfl

/-- what a call gives: the value and the parameters' last values -/
abbrev Orc := Str → List D → R D

/-- targets -/
inductive Tg where
  | nm (i : Nat)
  | tup (ts : List Tg)
inductive Ik where
  | seq | rng1 | rng2 | rng3 | enum | zip
  deriving DecidableEq
inductive B1 where
  | len | abs | all | any | sum | lst | tup | max | min | str | int | sorted | dct
  deriving DecidableEq
/-- what a set is asked -/
inductive S1 where
  | len | srt
  deriving DecidableEq
inductive B2 where
  | max | min
  deriving DecidableEq
/-- methods of one argument that change nothing -/
inductive M1 where
  | index
  deriving DecidableEq
inductive Ty where
  | bool | int | str | tuple | list
  deriving DecidableEq

/-! ### paths: a slot, its fields, its keys -/
inductive Ky where
  | sl (j : Nat) | ct (d : D)
inductive Pth where
  | sl (i : Nat)
  | fld (p : Pth) (cs : List Str) (f : Str)
  | key (p : Pth) (k : Ky)
def Pth.root : Pth → Nat
  | .sl i => i
  | .fld p _ _ => p.root
  | .key p _ => p.root
inductive E where
  | cst (d : D)
  | nm (i : Nat) | pk (i : Nat) | mv (i : Nat)
  | gc (x : Str) (d : D)
  | bin (o : Operator) (a b : E)
  | neg (a : E)
  | cmp (o : CmpOp) (a b : E)
  | chn (o1 o2 : CmpOp) (a b c : E)
  | isn (n : Bool) (a : E)
  | and (a b : E) | or (a b : E) | not (a : E)
  | ite (c a b : E)
  | ix (a i : E)
  | slc (fl fh : Bool) (a lo hi : E)
  | tup (es : List E) | lst (es : List E)
  | lc (elt : E) (tg : Tg) (ik : Ik) (is : List E) (ifs : List E) (own : List (Str × Nat))
  | cal (f : Str) (es : List E)
  | cak (f : Str) (es : List E) (ks : List Str) (zs : List E) (perm : List Nat)
  | b1 (f : B1) (a : E)
  | b2 (f : B2) (a b : E)
  | isi (tp : Bool) (ts : List Ty) (a : E)
  | nev
  | m1 (f : M1) (o a : E)
  /-- a field of an instance of one of these classes -/
  | fld (cs : List Str) (f : Str) (a : E)
  /-- a method; by the class: which def -/
  | met (ds : List (Str × Str)) (m : Str) (a : E) (es : List E)
  /-- an instance made -/
  | mk (c key : Str) (es : List E)
  /-- given up to be shared -/
  | fz (a : E)
  /-- a[::-1] -/
  | rev (a : E)
  | dzip (es : List E)
  /-- len(set(a)), sorted(set(a)) -/
  | st1 (f : S1) (a : E)
  /-- repr(a), in the law's own body -/
  | rpr (a : E)
  /-- the def that asks a lambda -/
  | tryl (a : E)
  /-- == of two instances of one class, by its own __eq__ -/
  | eqi (ds : List (Str × Str)) (a b : E)
  /-- == of two dicts -/
  | eqd (a b : E)
  /-- a look into a dict of the text -/
  | ixg (x : Str) (kvs : List (Str × Str)) (i : E)
  /-- isinstance(a, c) of an instance of c -/
  | isc (c : Str) (a : E)
  /-- a dict comprehension whose values stay one's own -/
  | dco (k v : E) (tg : Tg) (ik : Ik) (is : List E) (ifs : List E) (own : List (Str × Nat))
  /-- a list comprehension over slot i's own list, which is given back -/
  | lcb (elt : E) (tg : Tg) (i : Nat) (ifs : List E) (own : List (Str × Nat))
  /-- a look into a dict -/
  | ixp (a i : E)
  /-- pop(), pop(0) -/
  | pop (z : Bool) (i : Nat)
  /-- .. of the list at a path -/
  | ppop (z : Bool) (p : Pth)
  /-- looked at only: all stays one's own -/
  | bor (a : E)
  /-- a list comprehension of two fors; w1: the inner target's slots -/
  | lc2 (elt : E) (tg : Tg) (ik : Ik) (is : List E) (ifs : List E) (tg1 : Tg) (ik1 : Ik) (is1 : List E) (ifs1 : List E) (own : List (Str × Nat)) (w1 : List Nat)
  /-- a dict comprehension -/
  | dc (k v : E) (tg : Tg) (ik : Ik) (is : List E) (ifs : List E) (own : List (Str × Nat))

mutual
/-- nothing is written, nothing given up -/
def smp : E → Bool
  | .cst _ => true | .pk _ => true | .gc _ _ => true
  | .bin _ a b => smp a && smp b
  | .neg a => smp a
  | .cmp _ a b => smp a && smp b
  | .chn _ _ a b c => smp a && (smp b && smp c)
  | .isn _ a => smp a
  | .and a b => smp a && smp b
  | .or a b => smp a && smp b
  | .not a => smp a
  | .ite c a b => smp c && (smp a && smp b)
  | .ix a i => smp a && smp i
  | .ixp a i => smp a && smp i
  | .slc _ _ a l h => smp a && (smp l && smp h)
  | .tup es => smpL es
  | .lst es => smpL es
  | .b1 _ a => smp a
  | .b2 _ a b => smp a && smp b
  | .isi _ _ a => smp a
  | .nev => true
  | .m1 _ a b => smp a && smp b
  | .fld _ _ a => smp a
  | .rev a => smp a
  | .st1 _ a => smp a
  | .rpr a => smp a
  | .eqi .. => false
  | .eqd a b => smp a && smp b
  | .isc _ a => smp a
  | .ixg _ _ a => smp a
  | .fz a => smp a
  | .dzip es => smpL es
  | .bor _ => true | .ppop .. => false
  | .tryl _ => false
  | .pop .. => false | .lcb .. => false | .dco .. => false | .met .. => false | .mk .. => false | .dc .. => false | .lc2 .. => false
  | .nm _ => false | .mv _ => false | .lc .. => false | .cal .. => false | .cak .. => false
def smpL : List E → Bool
  | [] => true
  | a :: r => smp a && smpL r
end
/-! ### data as the library has them -/
mutual
def toPy : D → PyData
  | .non => .none | .bl b => .bool b | .int i => .int i | .str s => .str s
  | .tup ds => .tuple (toPyL ds)
  | .lst _ ds => .list (toPyL ds)
  | .dct _ _ _ => .dict []
  | .ins _ _ _ _ => .dict []
def toPyL : List D → List PyData
  | [] => []
  | d :: ds => toPy d :: toPyL ds
end
/-- sorted: all of one kind, place by place -/
def nonT : D → Bool
  | .non => false
  | .tup _ => false
  | _ => true
def tup1 : D → Bool
  | .tup (_ :: _) => true
  | _ => false
def srtB (xs : List D) : Bool := xs.all (shal 7) && ((xs.all fun d => xs.all fun e => PySem.W.alike (toPy d) (toPy e)) && (xs.all tup1 || xs.all nonT))
def srt (xs : List D) : List D := xs.mergeSort (PySem.W.dataLe false toPy)
/-! ### operations -/
abbrev lim : Nat := 1000000
def binD : Operator → D → D → Option D
  | .Add, .int i, .int j => some (.int (i + j))
  | .Add, .str x, .str y => if x.length + y.length ≤ lim then some (.str (x ++ y)) else none
  | .Add, .lst _ xs, .lst _ ys => if xs.length + ys.length ≤ lim then some (.lst true (xs ++ ys)) else none
  | .Sub, .int i, .int j => some (.int (i - j))
  | .Mult, .int i, .int j => if i.natAbs < 2 ^ 64 ∨ j.natAbs < 2 ^ 64 then some (.int (i * j)) else none
  | .Mult, .str x, .int j => if 0 ≤ j ∧ j ≤ 1000 ∧ x.length ≤ 1000 then some (.str ⟨(List.replicate j.toNat x.cps.toList).flatten.toArray⟩) else none
  | .Mult, .lst o xs, .int j => if o = true ∧ 0 ≤ j ∧ j ≤ 1000 ∧ xs.length ≤ 1000 then some (.lst true (List.replicate j.toNat xs).flatten) else none
  | .FloorDiv, .int i, .int j => if 0 < j ∧ j.natAbs < 2 ^ 9000 then some (.int (i / j)) else none
  | .Mod, .int i, .int j => if 0 < j then some (.int (i % j)) else none
  | .Pow, .int i, .int j => if 0 ≤ j ∧ j ≤ 1000 ∧ i.natAbs < 2 ^ 64 then some (.int (i ^ j.toNat)) else none
  | .LShift, .int i, .int j => if 0 ≤ j ∧ j ≤ 1000 ∧ i.natAbs < 2 ^ 64 then some (.int (i * 2 ^ j.toNat)) else none
  | .RShift, .int i, .int j => if 0 ≤ j then some (.int (i / 2 ^ j.toNat)) else none
  | .BitAnd, .int i, .int j => some (.int (Builtin.bitAnd i j))
  | _, _, _ => none
/-- a dict's key -/
def isK : D → Bool
  | .int _ => true
  | .str _ => true
  | _ => false
def look (k : D) : List D → List D → Option D
  | k' :: ks, v :: vs => if eqD k' k then some v else look k ks vs
  | _, _ => none
/-- a thing that nobody may write -/
def onlyF (d : D) : Option D := if d.isF then some d else none
def lookF (f : Str) : List Str → List D → Option D
  | g :: fs, v :: vs => if f = g then some v else lookF f fs vs
  | _, _ => none
def putFd (f : Str) (x : D) : List Str → List D → List Str × List D
  | g :: fs, v :: vs => if g = f then (g :: fs, x :: vs) else (g :: (putFd f x fs vs).1, v :: (putFd f x fs vs).2)
  | _, _ => ([f], [x])
def fldD (cs : List Str) (f : Str) : D → Option D
  | .ins _ c fs vs => if cs.contains c then (lookF f fs vs).bind onlyF else none
  | _ => none
def setFd (cs : List Str) (f : Str) (x : D) : D → Option D
  | .ins true c fs vs => if cs.contains c && decide (fs.length < 900) then some (.ins true c (putFd f x fs vs).1 (putFd f x fs vs).2) else none
  | _ => none
def memD (x : D) (ys : List D) : Bool := ys.any fun y => eqD y x
def putD (k x : D) (ks vs : List D) : List D × List D := if memD k ks then (ks, List.zipWith (fun k' v => if eqD k' k then x else v) ks vs) else (ks ++ [k], vs ++ [x])
def strLt (x y : Str) : Bool := decide (x.cps.toList < y.cps.toList)
def cmpD : CmpOp → D → D → Option Bool
  | .Eq, a, b => if shal 8 a && shal 8 b then some (eqD a b) else none
  | .NotEq, a, b => if shal 8 a && shal 8 b then some (!eqD a b) else none
  | .Lt, .int i, .int j => some (decide (i < j))
  | .LtE, .int i, .int j => some (decide (i ≤ j))
  | .Gt, .int i, .int j => some (decide (j < i))
  | .GtE, .int i, .int j => some (decide (j ≤ i))
  | .Lt, .str x, .str y => some (strLt x y)
  | .Is, .bl a, .bl b => some (a == b)
  | .IsNot, .bl a, .bl b => some (!(a == b))
  | .In, a, .lst _ ys => if shal 7 a && ys.all (shal 7) then some (memD a ys) else none
  | .NotIn, a, .lst _ ys => if shal 7 a && ys.all (shal 7) then some (!memD a ys) else none
  | .In, a, .tup ys => if shal 0 a && ys.all (shal 0) then some (memD a ys) else none
  | .NotIn, a, .tup ys => if shal 0 a && ys.all (shal 0) then some (!memD a ys) else none
  | .In, .str x, .str y => some (!(Builtin.Str.occurrences y x 0 y.length 1).isEmpty)
  | .In, a, .dct _ ks _ => if isK a then some (memD a ks) else none
  | .NotIn, a, .dct _ ks _ => if isK a then some (!memD a ks) else none
  | .NotIn, .str x, .str y => some (!(!(Builtin.Str.occurrences y x 0 y.length 1).isEmpty))
  | _, _, _ => none
def ixD : D → D → Option D
  | .dct _ ks vs, k => if isK k then (look k ks vs).bind onlyF else none
  | .lst _ xs, .int i => atI xs i
  | .tup xs, .int i => (atI xs i).bind fun d => if d.isF then some d else none
  | .str s, .int i => (atI s.cps.toList i).map fun c => .str ⟨#[c]⟩
  | _, _ => none
/-- a look at what a dict holds -/
def pkD : D → D → Option D
  | .dct _ ks vs, k => if isK k then look k ks vs else none
  | _, _ => none
def onF (f : Str) (g : D → Option (D × D)) : List Str → List D → Option (List D × D)
  | h :: fs, v :: vs => if f = h then (g v).map fun p => (p.1 :: vs, p.2) else (onF f g fs vs).map fun p => (v :: p.1, p.2)
  | _, _ => none
def onK (k : D) (g : D → Option (D × D)) : List D → List D → Option (List D × D)
  | k' :: ks, v :: vs => if eqD k' k then (g v).map fun p => (p.1 :: vs, p.2) else (onK k g ks vs).map fun p => (v :: p.1, p.2)
  | _, _ => none
def onN (g : D → Option (D × D)) : Nat → List D → Option (List D × D)
  | 0, v :: vs => (g v).map fun p => (p.1 :: vs, p.2)
  | n + 1, v :: vs => (onN g n vs).map fun p => (v :: p.1, p.2)
  | _, [] => none
def onFd (cs : List Str) (f : Str) (g : D → Option (D × D)) : D → Option (D × D)
  | .ins o c fs vs => if cs.contains c then (onF f g fs vs).map fun p => (.ins o c fs p.1, p.2) else none
  | _ => none
def onKd (k : D) (g : D → Option (D × D)) : D → Option (D × D)
  | .dct o ks vs => if isK k then (onK k g ks vs).map fun p => (.dct o ks p.1, p.2) else none
  | .tup xs => match k with
    | .int i => (ixN xs.length i).bind fun n => (onN g n xs).map fun p => (.tup p.1, p.2)
    | _ => none
  | _ => none
def kyD (e : Nv) : Ky → Option D
  | .sl j => (e[j]?).bind id
  | .ct d => some d
/-- what becomes of the slot's thing -/
def Pth.fn (e : Nv) : Pth → (D → Option (D × D)) → Option (D → Option (D × D))
  | .sl _, g => some g
  | .fld p cs f, g => p.fn e (onFd cs f g)
  | .key p k, g => (kyD e k).bind fun kd => p.fn e (onKd kd g)
/-- the thing at the path is changed -/
def onPt (e : Nv) (p : Pth) (g : D → Option (D × D)) : Option (Nv × D) := (p.fn e g).bind fun h => ((e[p.root]?).bind id).bind fun d => (h d).map fun q => (e.set p.root (some q.1), q.2)
def keepG (d : D) : Option (D × D) := some (d, .non)
def popG (z : Bool) : D → Option (D × D)
  | .lst true xs => match (if z then xs.head? else xs.getLast?) with
    | some d => some (.lst true (if z then xs.drop 1 else xs.take (xs.length - 1)), d)
    | none => none
  | _ => none
/-- all given up -/
def fzE (e : Nv) : Nv := e.map (Option.map D.fz)
/-- nothing that stood before -/
def newF : D → Bool
  | .lst o xs => o && xs.all (shal 0)
  | .tup _ => false
  | .dct _ _ _ => false
  | .ins _ _ _ _ => false
  | _ => true
/-- the value of a key is another one -/
def putL (k x : D) : List D → List D → List D
  | k' :: ks, v :: vs => if eqD k' k then x :: vs else v :: putL k x ks vs
  | _, _ => []
def partD : Bool → D → Option (Option Int)
  | false, _ => some none
  | true, .int i => some (some i)
  | true, _ => none
def slcD (a : D) (lo hi : Option Int) : Option D := match a with
  | .lst _ xs => some (.lst true ((xs.drop (HT.sIx xs.length 0 lo)).take (HT.sIx xs.length xs.length hi - HT.sIx xs.length 0 lo)))
  | .str z => some (.str (cutS z lo hi))
  | .tup xs => if isFL xs then some (.tup ((xs.drop (HT.sIx xs.length 0 lo)).take (HT.sIx xs.length xs.length hi - HT.sIx xs.length 0 lo))) else none
  | _ => none
def revD : D → Option D
  | .lst _ xs => some (.lst true xs.reverse)
  | _ => none
def nodupK : List D → Bool
  | [] => true
  | k :: r => !memD k r && nodupK r
/-- dict(zip(keys, values)) -/
def dzipD : List D → Option D
  | [.lst _ ks, .lst _ vs] => if decide (ks.length = vs.length) && (ks.all isK && nodupK ks) then some (.dct true ks vs) else none
  | _ => none
def boolsOf : List D → Option (List Bool)
  | [] => some []
  | .bl b :: r => (boolsOf r).map (b :: ·)
  | _ => none
def strsOf : List D → Option (List Str)
  | [] => some []
  | .str s :: r => (strsOf r).map (s :: ·)
  | _ => none
/-- the least of texts -/
def minS (n : Str) (ns : List Str) : Str := ns.foldl (fun a y => if strLt y a then y else a) n
def intsOf : List D → Option (List Int)
  | [] => some []
  | .int b :: r => (intsOf r).map (b :: ·)
  | _ => none
/-- each once -/
def addS (acc : List Str) (n : Str) : List Str := if n ∈ acc then acc else acc ++ [n]
def dedS (ns : List Str) : List Str := ns.foldl addS []
/-- each once, in order -/
def insI (x : Int) : List Int → List Int
  | [] => [x]
  | y :: r => if x < y then x :: y :: r else if x = y then y :: r else y :: insI x r
def asc (is : List Int) : List Int := is.foldr insI []
def st1D : S1 → D → Option D
  | .len, .lst _ xs => (strsOf xs).bind fun ns => if ns.length ≤ 4000 then some (.int ((dedS ns).length : Nat)) else none
  | .len, .tup xs => (strsOf xs).bind fun ns => if ns.length ≤ 4000 then some (.int ((dedS ns).length : Nat)) else none
  | .srt, .lst _ xs => (intsOf xs).bind fun is => if is.length < 63 then some (.lst true ((asc is).map .int)) else none
  | _, _ => none
/-- the text of nested lists and tuples -/
def rprD (d : D) : Option D := match d with
  | .non => some (.str "None")
  | .lst _ _ => if shal 8 d && ((toPy d).showable && (PyData.strOk (toPy d).shown && decide ((toPy d).shown.length ≤ 1000000))) then some (.str (toPy d).shown) else none
  | .tup _ => if shal 8 d && ((toPy d).showable && (PyData.strOk (toPy d).shown && decide ((toPy d).shown.length ≤ 1000000))) then some (.str (toPy d).shown) else none
  | _ => none
def b1D : B1 → D → Option D
  | .len, .lst _ xs => some (.int xs.length)
  | .len, .tup xs => some (.int xs.length)
  | .len, .str s => some (.int s.length)
  | .abs, .int i => some (.int (if i < 0 then -i else i))
  | .all, .lst _ xs => (boolsOf xs).map fun bs => .bl (bs.all id)
  | .any, .lst _ xs => (boolsOf xs).map fun bs => .bl (bs.any id)
  | .lst, .lst _ xs => some (.lst true xs)
  | .lst, .tup xs => if isFL xs then some (.lst true xs) else none
  | .tup, .lst _ xs => some (.tup xs)
  | .tup, .tup xs => if isFL xs then some (.tup xs) else none
  | .len, .dct _ ks _ => some (.int ks.length)
  | .lst, .dct _ ks _ => some (.lst true ks)
  | .sorted, .lst _ xs => if srtB xs then some (.lst true (srt xs)) else none
  | .sorted, .tup xs => if isFL xs && srtB xs then some (.lst true (srt xs)) else none
  | .sorted, .dct _ ks _ => if srtB ks then some (.lst true (srt ks)) else none
  | .dct, .dct _ ks vs => if isFL vs then some (.dct true ks vs) else none
  | .sum, .lst _ xs => (intsOf xs).map fun is => .int is.sum
  | .max, .lst _ xs => (intsOf xs).bind fun is => is.max?.map .int
  | .min, .lst _ xs => match strsOf xs with
    | some (n :: ns) => some (.str (minS n ns))
    | _ => (intsOf xs).bind fun is => is.min?.map .int
  | .int, .bl b => some (.int (if b then 1 else 0))
  | .int, .int i => some (.int i)
  | _, _ => none
def m1Ty : M1 → D → Bool
  | .index, .lst _ _ => true
  | _, _ => false
def m1D : M1 → D → D → Option D
  | .index, .lst _ xs, y => if shal 7 y && xs.all (shal 7) then (xs.findIdx? fun x => eqD x y).map fun (n : Nat) => .int (n : Int) else none
  | _, _, _ => none
def b2D : B2 → D → D → Option D
  | .max, .int i, .int j => some (.int (if j > i then j else i))
  | .min, .int i, .int j => some (.int (if j < i then j else i))
  | _, _, _ => none
def isTy : Ty → D → Bool
  | .bool, .bl _ => true
  | .int, .bl _ => true
  | .int, .int _ => true
  | .str, .str _ => true
  | .tuple, .tup _ => true
  | .list, .lst _ _ => true
  | _, _ => false
/-- data of a built-in type -/
def bTy : D → Bool
  | .dct _ _ _ => false
  | .ins _ _ _ _ => false
  | _ => true
/-- what a loop walks -/
def rngD (lo hi : Int) : Option (List D) := if -(2 ^ 60) ≤ lo ∧ lo ≤ 2 ^ 60 ∧ -(2 ^ 60) ≤ hi ∧ hi ≤ 2 ^ 60 ∧ hi - lo ≤ 1000000 then some ((List.range (hi - lo).toNat).map fun (k : Nat) => .int (lo + (k : Int))) else none
def strItems (s : Str) : List D := s.cps.toList.map fun c => .str ⟨#[c]⟩
def seqD : D → Option (List D)
  | .lst _ xs => some xs
  | .tup xs => if isFL xs then some xs else none
  | _ => none
/-- range(i, j, -1) -/
def rngD3 (hi lo : Int) : Option (List D) := if -(2 ^ 60) ≤ lo ∧ lo ≤ 2 ^ 60 ∧ -(2 ^ 60) ≤ hi ∧ hi ≤ 2 ^ 60 ∧ hi - lo ≤ 1000000 then some ((List.range (hi - lo).toNat).map fun (k : Nat) => .int (hi - (k : Int))) else none
def itemsD : Ik → List D → Option (List D)
  | .seq, [.lst _ xs] => some xs
  | .seq, [.tup xs] => if isFL xs then some xs else none
  | .seq, [.str s] => some (strItems s)
  | .rng1, [.int j] => rngD 0 j
  | .rng2, [.int i, .int j] => rngD i j
  | .rng3, [.int i, .int j, .int k] => if k = -1 then rngD3 i j else none
  | .enum, [.lst _ xs] => some (List.zipWith (fun (i : Nat) x => .tup [.int (i : Int), x]) (List.range xs.length) xs)
  | .enum, [.tup xs] => if isFL xs then some (List.zipWith (fun (i : Nat) x => .tup [.int (i : Int), x]) (List.range xs.length) xs) else none
  | .zip, [.tup xs, .tup ys] => if isFL xs && isFL ys then some (List.zipWith (fun x y => .tup [x, y]) xs ys) else none
  | .zip, [.lst _ xs, .lst _ ys] => some (List.zipWith (fun x y => .tup [x, y]) xs ys)
  | _, _ => none
mutual
def asgT : Tg → D → Nv → Option Nv
  | .nm i, d, e => if i < e.length then some (e.set i (some d)) else none
  | .tup ts, .tup xs, e => asgL ts xs e
  | .tup _, _, _ => none
def asgL : List Tg → List D → Nv → Option Nv
  | [], [], e => some e
  | t :: ts, x :: xs, e => (asgT t x e).bind fun e1 => asgL ts xs e1
  | _, _, _ => none
end
def wipeE (e : Nv) : List Nat → Nv
  | [] => e
  | v :: vs => (wipeE e vs).set v none
/-- a comprehension's turns -/
def lcGo (w : Nv → Nv) (tg : D → Nv → Option Nv) (tt : Nv → R Bool) (f : Nv → R D) : List D → Nv → R (List D)
  | [], e => .ok [] e
  | x :: xs, e => match tg x e with
    | none => .bad
    | some e1 => (tt e1).bind fun b e2 => if b then (f e2).bind fun d e3 => (lcGo w tg tt f xs (w e3)).bind fun r e4 => .ok (d.fz :: r) e4 else lcGo w tg tt f xs (w e2)
/-- the turns of the outer for -/
def lc2Go (w : Nv → Nv) (tg : D → Nv → Option Nv) (tt : Nv → R Bool) (inner : Nv → R (List D)) : List D → Nv → R (List D)
  | [], e => .ok [] e
  | x :: xs, e => match tg x e with
    | none => .bad
    | some e1 => (tt e1).bind fun b e2 => if b then (inner e2).bind fun r e3 => (lc2Go w tg tt inner xs (w e3)).bind fun r' e4 => .ok (r ++ r') e4 else lc2Go w tg tt inner xs (w e2)
/-- a dict comprehension's turns -/
def dcGo (w : Nv → Nv) (tg : D → Nv → Option Nv) (tt : Nv → R Bool) (fk fv : Nv → R D) : List D → List D → List D → Nv → R (List D × List D)
  | [], ks, vs, e => .ok (ks, vs) e
  | x :: xs, ks, vs, e => match tg x e with
    | none => .bad
    | some e1 => (tt e1).bind fun b e2 => if b then (fk e2).bind fun k e3 => if isK k then (fv e3).bind fun d e4 => dcGo w tg tt fk fv xs (putD k d.fz ks vs).1 (putD k d.fz ks vs).2 (w e4) else .bad else dcGo w tg tt fk fv xs ks vs (w e2)
/-- .. whose values stay one's own -/
def dcoGo (w : Nv → Nv) (tg : D → Nv → Option Nv) (tt : Nv → R Bool) (fk fv : Nv → R D) : List D → List D → List D → Nv → R (List D × List D)
  | [], ks, vs, e => .ok (ks, vs) e
  | x :: xs, ks, vs, e => match tg x e with
    | none => .bad
    | some e1 => (tt e1).bind fun b e2 => if b then (fk e2).bind fun k e3 => if isK k && !memD k ks then (fv e3).bind fun d e4 => dcoGo w tg tt fk fv xs (ks ++ [k]) (vs ++ [d]) (w e4) else .bad else dcoGo w tg tt fk fv xs ks vs (w e2)
def asB (r : R D) : R Bool := r.bind fun d e => match d with
  | .bl b => .ok b e
  | _ => .bad
def asBD (r : R D) : R D := (asB r).bind fun b e => .ok (.bl b) e
/-- inside a comprehension nothing is raised -/
def R.still {α : Type} : R α → R α
  | .ex _ _ => .bad
  | r => r
/-- the arguments' places: names handed on as they are, by slot -/
inductive Av where
  | d (d : D) | sl (i : Nat)
/-- the named slots are handed over -/
def takeA : List Av → Nv → Option (List D × Nv)
  | [], e => some ([], e)
  | .d x :: r, e => (takeA r e).bind fun p => some (x :: p.1, p.2)
  | .sl i :: r, e => match e[i]? with
    | some (some x) => (takeA r (e.set i none)).bind fun p => some (x :: p.1, p.2)
    | _ => none
def putA : List Av → Nv → Nv → Nv
  | .sl i :: r, x :: xs, e => putA r xs (e.set i x)
  | .d _ :: r, _ :: xs, e => putA r xs e
  | _, _, e => e
def permL {α : Type} (perm : List Nat) (as : List α) : List α := perm.filterMap fun i => as[i]?
def permA (perm : List Nat) (as : List Av) : Option (List Av) := if perm.length = as.length ∧ perm.Nodup ∧ (perm.all fun i => decide (i < as.length)) = true then some (permL perm as) else none
def callA (C : Orc) (f : Str) (as : List Av) (e : Nv) : R D := match takeA as e with
  | none => .bad
  | some (ds, e1) => match C f ds with
    | .ok d ps => .ok d (putA as ps e1)
    | .ex x ps => .ex x (putA as ps e1)
    | .bad => .bad
/-- the def of a method -/
def recv (ds : List (Str × Str)) (m : Str) : D → Option Str
  | .ins _ c fs _ => if fs.contains m then none else ds.lookup c
  | _ => none
def metA (C : Orc) (ds : List (Str × Str)) (m : Str) (x : D) (a : Av) (r : R (List Av)) : R D := match recv ds m x with
  | some key => r.bind fun as e2 => callA C key (a :: as) e2
  | none => .bad
/-- the def of ==, of two shared instances of one class -/
def eqKey (ds : List (Str × Str)) : D → D → Option Str
  | .ins o c fs vs, .ins o' c' fs' vs' => if c = c' ∧ (D.ins o c fs vs).isF = true ∧ (D.ins o' c' fs' vs').isF = true then ds.lookup c else none
  | _, _ => none
def eqA (C : Orc) (ds : List (Str × Str)) (x y : D) (e : Nv) : R D := match eqKey ds x y with
  | some key => (asBD (callA C key [.d x, .d y] e)).still
  | none => .bad
/-- == of dicts -/
def deqD : D → D → Option D
  | .dct _ ks vs, .dct _ ks' vs' => if vs.all (shal 6) && vs'.all (shal 6) then some (.bl (decide (ks.length = ks'.length) && ((ks.zip vs).all fun p => match look p.1 ks' vs' with
    | some w => eqD p.2 w
    | none => false))) else none
  | _, _ => none
def lookG (kvs : List (Str × Str)) : D → Option D
  | .str k => (kvs.lookup k).map .str
  | _ => none
def iscD (c : Str) : D → Option D
  | .ins _ c' _ _ => if c' = c then some (.bl true) else none
  | _ => none
/-- a new instance, then its __init__ -/
def mkA (C : Orc) (c key : Str) (as : List Av) (e : Nv) : R D := match takeA as e with
  | none => .bad
  | some (ds, e1) => match C key (.ins true c [] [] :: ds) with
    | .ok .non (some o :: ps) => .ok o (putA as ps e1)
    | .ex x (_ :: ps) => .ex x (putA as ps e1)
    | _ => .bad
mutual
def ev (C : Orc) : E → Nv → R D
  | .cst d, e => .ok d e
  | .nm i, e => match e[i]? with
    | some (some d) => .ok d.fz (e.set i (some d.fz))
    | _ => .bad
  | .pk i, e => match e[i]? with
    | some (some d) => .ok d e
    | _ => .bad
  | .mv i, e => match e[i]? with
    | some (some d) => .ok d (e.set i none)
    | _ => .bad
  | .gc _ d, e => .ok d e
  | .bin o a b, e => (ev C a e).bind fun x e1 => (ev C b e1).bind fun y e2 => R.of (binD o x y) e2
  | .neg a, e => (ev C a e).bind fun x e1 => match x with
    | .int i => .ok (.int (-i)) e1
    | _ => .bad
  | .cmp o a b, e => (ev C a e).bind fun x e1 => (ev C b e1).bind fun y e2 => R.of ((cmpD o x y).map D.bl) e2
  | .chn o1 o2 a b c, e => (ev C a e).bind fun x e1 => (ev C b e1).bind fun y e2 => match cmpD o1 x y with
    | some true => (ev C c e2).bind fun z e3 => R.of ((cmpD o2 y z).map D.bl) e3
    | some false => .ok (.bl false) e2
    | none => .bad
  | .isn n a, e => (ev C a e).bind fun x e1 => .ok (.bl (match x with
    | .non => !n
    | _ => n)) e1
  | .and a b, e => (asB (ev C a e)).bind fun x e1 => if x then asBD (ev C b e1) else .ok (.bl false) e1
  | .or a b, e => (asB (ev C a e)).bind fun x e1 => if x then .ok (.bl true) e1 else asBD (ev C b e1)
  | .not a, e => (asB (ev C a e)).bind fun x e1 => .ok (.bl (!x)) e1
  | .ite c a b, e => (asB (ev C c e)).bind fun x e1 => if x then ev C a e1 else ev C b e1
  | .ix a i, e => (ev C a e).bind fun x e1 => (ev C i e1).bind fun y e2 => R.of (ixD x y) e2
  | .ixp a i, e => (ev C a e).bind fun x e1 => (ev C i e1).bind fun y e2 => R.of (pkD x y) e2
  | .slc fl fh a lo hi, e => (ev C a e).bind fun x e1 => (ev C lo e1).bind fun l e2 => match partD fl l with
    | none => .bad
    | some l => (ev C hi e2).bind fun h e3 => R.of ((partD fh h).bind fun h => slcD x l h) e3
  | .tup es, e => (evs C es e).bind fun xs e1 => .ok (.tup xs) e1
  | .lst es, e => (evs C es e).bind fun xs e1 => .ok (.lst true (fzL xs)) e1
  | .lc elt tg ik is ifs own, e => (evs C is e).bind fun xs e1 => match itemsD ik xs with
    | none => .bad
    | some ds => (lcGo (fun e => wipeE e (own.map (·.2))) (asgT tg) (fun e => evTs C ifs e) (fun e => (ev C elt e).still) ds (wipeE e1 (own.map (·.2)))).still.bind fun r e2 => .ok (.lst true r) e2
  | .lcb elt tg i ifs own, e => match e[i]? with
    | some (some (.lst o ds)) => (lcGo (fun e => wipeE e (own.map (·.2))) (asgT tg) (fun e => evTs C ifs e) (fun e => (ev C elt e).still) ds (wipeE (e.set i none) (own.map (·.2)))).still.bind fun r e2 => if i < e2.length then .ok (.lst true r) (e2.set i (some (.lst o ds))) else .bad
    | _ => .bad
  | .lc2 elt tg ik is ifs tg1 ik1 is1 ifs1 own w1, e => (evs C is e).bind fun xs e1 => match itemsD ik xs with
    | none => .bad
    | some ds => (lc2Go (fun e => wipeE e (own.map (·.2))) (asgT tg) (fun e => evTs C ifs e) (fun e => (evs C is1 e).still.bind fun xs1 e2 => match itemsD ik1 xs1 with
        | none => .bad
        | some ds1 => lcGo (fun e => wipeE e w1) (asgT tg1) (fun e => evTs C ifs1 e) (fun e => (ev C elt e).still) ds1 (wipeE e2 w1)) ds (wipeE e1 (own.map (·.2)))).still.bind fun r e2 => if r.length < lim then .ok (.lst true r) e2 else .bad
  | .dc kx vx tg ik is ifs own, e => (evs C is e).bind fun xs e1 => match itemsD ik xs with
    | none => .bad
    | some ds => (dcGo (fun e => wipeE e (own.map (·.2))) (asgT tg) (fun e => evTs C ifs e) (fun e => (ev C kx e).still) (fun e => (ev C vx e).still) ds [] [] (wipeE e1 (own.map (·.2)))).still.bind fun r e2 => .ok (.dct true r.1 r.2) e2
  | .dco kx vx tg ik is ifs own, e => (evs C is e).bind fun xs e1 => match itemsD ik xs with
    | none => .bad
    | some ds => (dcoGo (fun e => wipeE e (own.map (·.2))) (asgT tg) (fun e => evTs C ifs e) (fun e => (ev C kx e).still) (fun e => (ev C vx e).still) ds [] [] (wipeE e1 (own.map (·.2)))).still.bind fun r e2 => .ok (.dct true r.1 r.2) e2
  | .cal f es, e => (evA C es e).bind fun as e1 => callA C f as e1
  | .cak f es _ zs perm, e => (evA C es e).bind fun as e1 => (evA C zs e1).bind fun bs e2 => match permA perm (as ++ bs) with
    | some cs => callA C f cs e2
    | none => .bad
  | .b1 f a, e => (ev C a e).bind fun x e1 => R.of (b1D f x) e1
  | .b2 f a b, e => (ev C a e).bind fun x e1 => (ev C b e1).bind fun y e2 => R.of (b2D f x y) e2
  | .m1 f o a, e => (ev C o e).bind fun x e1 => if m1Ty f x then (ev C a e1).bind fun y e2 => R.of (m1D f x y) e2 else .bad
  | .nev, e => .bad
  | .fz a, e => (ev C a e).bind fun x e1 => .ok x.fz e1
  | .rev a, e => (ev C a e).bind fun x e1 => R.of (revD x) e1
  | .tryl a, e => match ev C a e with
    | .ok d e1 => .ok (.tup [.str "value", d]) e1
    | .ex x e1 => match tryD x with
      | some d => .ok d e1
      | none => .bad
    | .bad => .bad
  | .rpr a, e => (ev C a e).bind fun x e1 => R.of (rprD x) e1
  | .eqi ds a b, e => (ev C a e).bind fun x e1 => (ev C b e1).bind fun y e2 => eqA C ds x y e2
  | .eqd a b, e => (ev C a e).bind fun x e1 => (ev C b e1).bind fun y e2 => R.of (deqD x y) e2
  | .ixg _ kvs i, e => (ev C i e).bind fun y e1 => R.of (lookG kvs y) e1
  | .isc c a, e => (ev C a e).bind fun x e1 => R.of (iscD c x) e1
  | .st1 f a, e => (ev C a e).bind fun x e1 => R.of (st1D f x) e1
  | .pop z i, e => match e[i]? with
    | some (some (.lst true xs)) => match (if z then xs.head? else xs.getLast?) with
      | some d => .ok d (e.set i (some (.lst true (if z then xs.drop 1 else xs.take (xs.length - 1)))))
      | none => .bad
    | _ => .bad
  | .ppop z p, e => match onPt e p (popG z) with
    | some (e', d) => .ok d e'
    | none => .bad
  | .bor a, e => match ev C a (fzE e) with
    | .ok d _ => if newF d then .ok d e else .bad
    | _ => .bad
  | .dzip es, e => (evs C es e).bind fun xs e1 => R.of (dzipD xs) e1
  | .fld cs f a, e => (ev C a e).bind fun x e1 => R.of (fldD cs f x) e1
  | .met ds m (.pk i) es, e => (match e[i]? with
    | some (some x) => metA C ds m x (.sl i) (evA C es e)
    | _ => .bad)
  | .met ds m a es, e => (ev C a e).bind fun x e1 => metA C ds m x (.d x) (evA C es e1)
  | .mk c key es, e => (evA C es e).bind fun as e1 => mkA C c key as e1
  | .isi _ ts a, e => (ev C a e).bind fun x e1 => if bTy x then .ok (.bl (ts.any fun t => isTy t x)) e1 else .bad
def evs (C : Orc) : List E → Nv → R (List D)
  | [], e => .ok [] e
  | a :: r, e => (ev C a e).bind fun x e1 => (evs C r e1).bind fun xs e2 => .ok (x :: xs) e2
/-- tests, one behind another -/
def evTs (C : Orc) : List E → Nv → R Bool
  | [], e => .ok true e
  | a :: r, e => (asB (ev C a e)).still.bind fun x e1 => if x then evTs C r e1 else .ok false e1
/-- arguments -/
def evA (C : Orc) : List E → Nv → R (List Av)
  | [], e => .ok [] e
  | .pk i :: r, e => match e[i]? with
    | some (some _) => (evA C r e).bind fun xs e2 => .ok (.sl i :: xs) e2
    | _ => .bad
  | a :: r, e => (ev C a e).bind fun x e1 => (evA C r e1).bind fun xs e2 => .ok (.d x :: xs) e2
end
/-! ### statements -/
inductive M0 where
  | rev | clr
  deriving DecidableEq
inductive S where
  | m0 (k : M0) (i : Nat)
  /-- p.append(x) -/
  | pap (p : Pth) (x : E)
  /-- p.reverse(), p.clear() -/
  | pm0 (k : M0) (p : Pth)
  /-- p[k] = v, of a dict -/
  | pst (p : Pth) (k v : E)
  /-- slot i [slot j] .append(slot l) -/
  | apx (i j l : Nat)
  | ext (i : Nat) (x : E)
  | rem (i : Nat) (x : E)
  | asg (t : Tg) (e : E)
  | six (i : Nat) (k v : E)
  | aug (i : Nat) (o : Operator) (e : E)
  | app (i : Nat) (e : E)
  | ins (i : Nat) (k e : E)
  /-- a field of the instance in the slot -/
  | fst (cs : List Str) (i : Nat) (f : Str) (x : E)
  | exp (e : E)
  | iff (c : E) (a b : List S)
  | whl (c : E) (b : List S)
  | for_ (t : Tg) (ik : Ik) (is : List E) (b : List S)
  /-- raise of an own class: its word; its field -/
  | rai (c w : Str) (fa : Option (Str × E))
  | ret (e : E) | retN | brk | cnt | pas | nev
inductive Fl where
  | next | ret (d : D) | brk | cnt
def forGo (tg : D → Nv → Option Nv) (b : Nv → R Fl) : List D → Nv → R Fl
  | [], e => .ok .next e
  | x :: xs, e => match tg x e with
    | none => .bad
    | some e1 => (b e1).bind fun fl e2 => match fl with
      | .next => forGo tg b xs e2
      | .cnt => forGo tg b xs e2
      | .brk => .ok .next e2
      | .ret d => .ok (.ret d) e2
def whlGo (c : Nv → R Bool) (b : Nv → R Fl) : Nat → Nv → R Fl
  | 0, _ => .bad
  | n + 1, e => (c e).bind fun t e1 => if t then (b e1).bind fun fl e2 => match fl with
      | .next => whlGo c b n e2
      | .cnt => whlGo c b n e2
      | .brk => .ok .next e2
      | .ret d => .ok (.ret d) e2
    else .ok .next e1
def setO (d k x : D) : Option D := match d, k with
  | .lst true xs, .int j => (ixN xs.length j).map fun n => .lst true (xs.set n x.fz)
  | .dct true ks vs, k => if isK k && decide (ks.length < lim) then some (.dct true (putD k x.fz ks vs).1 (putD k x.fz ks vs).2) else none
  | _, _ => none
def appO (d x : D) : Option D := match d with
  | .lst true xs => if xs.length < lim then some (.lst true (xs ++ [x.fz])) else none
  | _ => none
def insO (d k x : D) : Option D := match d, k with
  | .lst true xs, .int j => if xs.length < lim ∧ 0 ≤ j ∧ j ≤ xs.length then some (.lst true (xs.insertIdx j.toNat x.fz)) else none
  | _, _ => none
def m0D : M0 → D → Option D
  | .rev, .lst true xs => some (.lst true xs.reverse)
  | .clr, .lst true _ => some (.lst true [])
  | _, _ => none
def extO (d x : D) : Option D := match d, x with
  | .lst true xs, .lst true ys => if xs.length + ys.length ≤ lim then some (.lst true (xs ++ ys)) else none
  | _, _ => none
def remO (d x : D) : Option D := match d, x with
  | .lst true xs, .str k => (strsOf xs).bind fun ns => if k ∈ ns then some (.lst true ((ns.eraseIdx (ns.idxOf k)).map .str)) else none
  | _, _ => none
def augD : Operator → D → D → Option D
  | .Add, .int i, .int j => some (.int (i + j))
  | .Sub, .int i, .int j => some (.int (i - j))
  | .Add, .str x, .str y => if x.length + y.length ≤ lim then some (.str (x ++ y)) else none
  | _, _, _ => none
/-- the slot is bound -/
def onS {α : Type} (i : Nat) (e : Nv) (r : R α) : R α := match e[i]? with
  | some (some _) => r
  | _ => .bad
/-- the slot holds a list -/
def onL {α : Type} (i : Nat) (e : Nv) (r : R α) : R α := match e[i]? with
  | some (some (.lst _ _)) => r
  | _ => .bad
/-- a slot's content is changed -/
def updE (i : Nat) (f : D → Option D) (e : Nv) : R Fl := match e[i]? with
  | some (some d) => match f d with
    | some d1 => .ok .next (e.set i (some d1))
    | none => .bad
  | _ => .bad
/-- the thing at the path is changed -/
def updP (p : Pth) (f : D → Option D) (e : Nv) : R Fl := match onPt e p (fun d => (f d).map fun d' => (d', .non)) with
  | some (e', _) => .ok .next e'
  | none => .bad
def setK (k x d : D) : Option D := match d with
  | .dct true ks vs => if isK k && decide (ks.length < lim) then some (.dct true (putD k x.fz ks vs).1 (putD k x.fz ks vs).2) else none
  | _ => none
mutual
def exS (C : Orc) (W : Nat) : S → Nv → R Fl
  | .pap p x, e => match onPt e p (fun d => (appO d .non).map fun d' => (d', .non)) with
    | none => .bad
    | some _ => if smp x then (ev C x e).bind fun y e1 => updP p (fun d => appO d y) e1
      else (ev C x (e.set p.root none)).bind fun y e1 => updP p (fun d => appO d y) (e1.set p.root (e.getD p.root none))
  | .pm0 k p, e => updP p (m0D k) e
  | .pst p k v, e => (ev C v e).bind fun x e1 => match onPt e1 p (setK (.int 0) .non · |>.map fun d' => (d', .non)) with
    | none => .bad
    | some _ => (ev C k e1).bind fun y e2 => updP p (setK y x) e2
  | .asg t x, e => (ev C x e).bind fun d e1 => match asgT t d e1 with
    | some e2 => .ok .next e2
    | none => .bad
  | .six i k v, e => (ev C v e).bind fun x e1 => onS i e1 ((ev C k e1).bind fun y e2 => updE i (fun d => setO d y x) e2)
  | .aug i o x, e => match e[i]? with
    | some (some d) => (ev C x e).bind fun y e1 => match augD o d y with
      | some z => .ok .next (e1.set i (some z))
      | none => .bad
    | _ => .bad
  | .app i x, e => onL i e ((ev C x e).bind fun y e1 => updE i (fun d => appO d y) e1)
  | .apx i j l, e => match e[i]?, e[j]?, e[l]? with
    | some (some (.dct true ks vs)), some (some y), some (some z) => if isK y && z.isF then (match look y ks vs with
      | some (.lst true xs) => if xs.length < lim then .ok .next (e.set i (some (.dct true ks (putL y (.lst true (xs ++ [z])) ks vs)))) else .bad
      | _ => .bad) else .bad
    | _, _, _ => .bad
  | .m0 k i, e => onL i e (updE i (fun d => m0D k d) e)
  | .ext i x, e => onL i e ((ev C x e).bind fun y e1 => updE i (fun d => extO d y) e1)
  | .rem i x, e => onL i e ((ev C x e).bind fun y e1 => updE i (fun d => remO d y) e1)
  | .ins i k x, e => onL i e ((ev C k e).bind fun y e1 => (ev C x e1).bind fun z e2 => updE i (fun d => insO d y z) e2)
  | .fst cs i f x, e => (ev C x e).bind fun y e1 => updE i (fun d => setFd cs f y d) e1
  | .exp x, e => (ev C x e).bind fun _ e1 => .ok .next e1
  | .iff c a b, e => (asB (ev C c e)).bind fun t e1 => if t then exs C W a e1 else exs C W b e1
  | .whl c b, e => whlGo (fun e => asB (ev C c e)) (fun e => exs C W b e) W e
  | .for_ t ik is b, e => (evs C is e).bind fun xs e1 => match itemsD ik xs with
    | some ds => forGo (asgT t) (fun e => exs C W b e) ds e1
    | none => .bad
  | .ret x, e => (ev C x e).bind fun d e1 => .ok (.ret d) e1
  | .retN, e => .ok (.ret .non) e
  | .brk, e => .ok .brk e
  | .cnt, e => .ok .cnt e
  | .pas, e => .ok .next e
  | .rai c w none, e => .ex (.ins false c ["word"] [.str w]) e
  | .rai c w (some (f, a)), e => (ev C a e).bind fun d e1 => .ex (.ins false c [f, "word"] [d.fz, .str w]) e1
  | .nev, e => .bad
def exs (C : Orc) (W : Nat) : List S → Nv → R Fl
  | [], e => .ok .next e
  | s :: r, e => (exS C W s e).bind fun fl e1 => match fl with
    | .next => exs C W r e1
    | f => .ok f e1
end
/-! ### defs -/
structure Fn where
  ps : List Str
  N : List Str
  keep : List Bool
  body : List S
def lastP : List Bool → Nv → Nv
  | k :: ks, o :: e => (if k then o else none) :: lastP ks e
  | _, _ => []
def callN (T : Str → Option Fn) (W : Nat) : Nat → Orc
  | 0, _, _ => .bad
  | k + 1, f, ds => match T f with
    | none => .bad
    | some fn => if ds.length = fn.ps.length then
        match exs (callN T W k) W fn.body (ds.map some ++ List.replicate (fn.N.length - ds.length) none) with
        | .ok (.ret d) e => .ok d (lastP fn.keep e)
        | .ok .next e => .ok .non (lastP fn.keep e)
        | .ok _ _ => .bad
        | .ex x e => .ex x (lastP fn.keep e)
        | .bad => .bad
      else .bad
end Vm
namespace Vm
open PySem PySem.Spec L2

abbrev AS := Addr → Prop
def Dj (S T : AS) : Prop := ∀ a, S a → T a → False
def Sb (S T : AS) : Prop := ∀ a, S a → T a
def nos : AS := fun _ => False
def okS (s : Str) : Prop := PyData.strOk s = true ∧ s.length ≤ sizeLine
/-- where a class of the text stands -/
class CN where
  cn : Str → Addr
  /-- where a def stands -/
  ad : Str → Addr
  /-- the tables of code objects, with the name of what they hold -/
  tb : List (Addr × Str)
  /-- the text's exception classes -/
  ex : List Str
variable [CN]
def kD : L2.Key → D
  | .inl i => .int i
  | .inr x => .str x
def kyOk : L2.Key → Prop
  | .inl _ => True
  | .inr x => okS x
/-- a dict's content -/
def DctO (ks : List D) (us : List V) (u : HO) : Prop := ∃ kvs : List (L2.Key × V), u = .dK kvs ∧ ks = kvs.map (fun p => kD p.1) ∧ us = kvs.map (·.2) ∧ ∀ p ∈ kvs, kyOk p.1
mutual
def Rep (H : Hp) (F : AS) : D → V → AS → Prop
  | .non, v, _ => v = .non
  | .bl b, v, _ => v = .bl b
  | .int i, v, _ => v = .int i
  | .str s, v, _ => v = .str s ∧ okS s
  | .tup ds, v, S => ∃ a vs, v = .ref a ∧ Rd H a (.tup vs) ∧ ¬ F a ∧ vs.length ≤ sizeLine ∧ RepL H F ds vs S
  | .lst o ds, v, S => ∃ a vs, v = .ref a ∧ vs.length ≤ sizeLine ∧ RepL H F ds vs nos ∧ ((o = false ∧ Rd H a (.lst vs) ∧ ¬ F a) ∨ (o = true ∧ H a = some (.lst vs) ∧ S a))
  | .dct o ks ds, v, S => ∃ a us T u, v = .ref a ∧ us.length ≤ sizeLine ∧ DctO ks us u ∧ RepL H F ds us T ∧ ((o = false ∧ (∀ x, ¬ T x) ∧ H a = some u ∧ ¬ F a) ∨ (o = true ∧ H a = some u ∧ S a ∧ ¬ T a ∧ Sb T S))
  | .ins o c fs ds, v, S => ∃ a us T dx, v = .ref a ∧ fs.length = us.length ∧ RepL H F ds us T ∧ H a = some (.ins (CN.cn c) dx (fs.zip us)) ∧ ((o = false ∧ (∀ x, ¬ T x) ∧ ¬ F a) ∨ (o = true ∧ S a ∧ ¬ T a ∧ Sb T S))
def RepL (H : Hp) (F : AS) : List D → List V → AS → Prop
  | [], vs, _ => vs = []
  | d :: ds, vs, S => ∃ v r S1 S2, vs = v :: r ∧ Rep H F d v S1 ∧ RepL H F ds r S2 ∧ Dj S1 S2 ∧ Sb S1 S ∧ Sb S2 S
end
/-- stands, and is no table of code objects -/
def Kt (H : Hp) (a : Addr) (o : HO) : Prop := H a = some o ∧ ∀ ps, o ≠ .tbl ps
theorem dctO_kt {ks : List D} {us : List V} {u : HO} (h : DctO ks us u) : ∀ ps, u ≠ .tbl ps := by
  obtain ⟨kvs, rfl, _⟩ := h
  exact fun ps z => by cases z
/-- from the state (H, F) with what S owns: only S's cells are changed -/
structure Chg (S : AS) (H H' : Hp) (F F' : AS) : Prop where
  keep : ∀ a o, H a = some o → ¬ S a → H' a = some o
  new : ∀ a, F' a → F a ∨ H a = none
  old : ∀ a, F a → ¬ S a → F' a
section
variable {H H' H'' : Hp} {F F' F'' S S' T : AS}
theorem Sb.refl : Sb S S := fun _ h => h
theorem Sb.trans (a : Sb S T) (b : Sb T F) : Sb S F := fun x h => b x (a x h)
theorem Dj.symm (h : Dj S T) : Dj T S := fun a x y => h a y x
theorem Dj.mono (h : Dj S T) (a : Sb S' S) (b : Sb F T) : Dj S' F := fun x p q => h x (a x p) (b x q)
theorem dj_nos : Dj nos S := fun _ h => h.elim
theorem sb_nos : Sb nos S := fun _ h => h.elim
theorem Chg.refl : Chg S H H F F := ⟨fun _ _ e _ => e, fun _ h => .inl h, fun _ h _ => h⟩
theorem Rd.keep (r : Rd H a u) (k : ∀ o, H a = some o → H' a = some o) : Rd H' a u := r.elim (fun h => .inl (k _ h)) fun ⟨o, h⟩ => .inr ⟨o, k _ h⟩
theorem Rd.keepK (r : Rd H a u) (hu : ∀ ps, u ≠ .tbl ps) (k : ∀ o, Kt H a o → H' a = some o) : Rd H' a u := r.elim (fun h => .inl (k _ ⟨h, hu⟩)) fun ⟨o, h⟩ => .inr ⟨o, k _ ⟨h, fun ps z => by cases z⟩⟩
theorem Rd.there (r : Rd H a u) : H a ≠ none := fun e => r.elim (fun h => by rw [e] at h; cases h) fun ⟨o, h⟩ => by rw [e] at h; cases h
mutual
theorem Rep.step : ∀ (d : D) (v : V) (S : AS), Rep H F d v S → (∀ a o, Kt H a o → ¬ F a ∨ S a → H' a = some o) → (∀ a, F' a → F a ∨ H a = none) → Rep H' F' d v S
  | .non, _, _, h, _, _ => h
  | .bl _, _, _, h, _, _ => h
  | .int _, _, _, h, _, _ => h
  | .str _, _, _, h, _, _ => h
  | .tup ds, v, S, h, k, n => by
    obtain ⟨a, vs, e, r, f, z, l⟩ := h
    exact ⟨a, vs, e, Rd.keepK r (fun ps z => by cases z) fun o q => k a o q (.inl f), fun q => (n a q).elim f (Rd.there r), z, RepL.step ds vs S l k n⟩
  | .lst o ds, v, S, h, k, n => by
    obtain ⟨a, vs, e, z, l, c⟩ := h
    refine ⟨a, vs, e, z, RepL.step ds vs nos l (fun a o q h => k a o q (h.elim .inl fun z => z.elim)) n, ?_⟩
    rcases c with ⟨e1, r, f⟩ | ⟨e1, r, s⟩
    · exact .inl ⟨e1, Rd.keepK r (fun ps z => by cases z) fun o q => k a o q (.inl f), fun q => (n a q).elim f (Rd.there r)⟩
    · exact .inr ⟨e1, k a _ ⟨r, fun ps z => by cases z⟩ (.inr s), s⟩
  | .dct o ks ds, v, S, h, k, n => by
    obtain ⟨a, us, T, u, e, z, dc, l, c⟩ := h
    refine ⟨a, us, T, u, e, z, dc, RepL.step ds us T l (fun a o q h => k a o q (h.imp_right fun t => ?_)) n, ?_⟩
    · rcases c with ⟨_, nt, _⟩ | ⟨_, _, _, _, s⟩
      · exact (nt _ t).elim
      · exact s _ t
    · rcases c with ⟨e1, nt, r, f⟩ | ⟨e1, r, s, nt, sb⟩
      · exact .inl ⟨e1, nt, k a _ ⟨r, dctO_kt dc⟩ (.inl f), fun q => (n a q).elim f (fun w => by rw [r] at w; cases w)⟩
      · exact .inr ⟨e1, k a _ ⟨r, dctO_kt dc⟩ (.inr s), s, nt, sb⟩
  | .ins o cl fs ds, v, S, h, k, n => by
    obtain ⟨a, us, T, dx, e, z, l, r, c⟩ := h
    refine ⟨a, us, T, dx, e, z, RepL.step ds us T l (fun a o q h => k a o q (h.imp_right fun t => ?_)) n, k a _ ⟨r, fun ps z => by cases z⟩ (c.imp (fun c => c.2.2) fun c => c.2.1), ?_⟩
    · rcases c with ⟨_, nt, _⟩ | ⟨_, _, _, s⟩
      · exact (nt _ t).elim
      · exact s _ t
    · rcases c with ⟨e1, nt, f⟩ | ⟨e1, s, nt, sb⟩
      · exact .inl ⟨e1, nt, fun q => (n a q).elim f (fun w => by rw [r] at w; cases w)⟩
      · exact .inr ⟨e1, s, nt, sb⟩
theorem RepL.step : ∀ (ds : List D) (vs : List V) (S : AS), RepL H F ds vs S → (∀ a o, Kt H a o → ¬ F a ∨ S a → H' a = some o) → (∀ a, F' a → F a ∨ H a = none) → RepL H' F' ds vs S
  | [], _, _, h, _, _ => h
  | d :: ds, vs, S, h, k, n => by
    obtain ⟨v, r, S1, S2, e, h1, h2, dj, s1, s2⟩ := h
    exact ⟨v, r, S1, S2, e, Rep.step d v S1 h1 (fun a o q z => k a o q (z.imp_right (s1 a))) n, RepL.step ds r S2 h2 (fun a o q z => k a o q (z.imp_right (s2 a))) n, dj, s1, s2⟩
end
mutual
theorem Rep.mono : ∀ (d : D) (v : V) (S T : AS), Rep H F d v S → Sb S T → Rep H F d v T
  | .non, _, _, _, h, _ => h
  | .bl _, _, _, _, h, _ => h
  | .int _, _, _, _, h, _ => h
  | .str _, _, _, _, h, _ => h
  | .tup ds, v, S, T, h, k => by
    obtain ⟨a, vs, e, r, f, z, l⟩ := h
    exact ⟨a, vs, e, r, f, z, RepL.mono ds vs S T l k⟩
  | .lst o ds, v, S, T, h, k => by
    obtain ⟨a, vs, e, z, l, c⟩ := h
    exact ⟨a, vs, e, z, l, c.imp_right fun ⟨x, y, s⟩ => ⟨x, y, k a s⟩⟩
  | .dct o ks ds, v, S, T, h, k => by
    obtain ⟨a, us, T', u, e, z, dc, l, c⟩ := h
    exact ⟨a, us, T', u, e, z, dc, l, c.imp_right fun ⟨x, y, s, nt, sb⟩ => ⟨x, y, k a s, nt, sb.trans k⟩⟩
  | .ins o cl fs ds, v, S, T, h, k => by
    obtain ⟨a, us, T', dx, e, z, l, r, c⟩ := h
    exact ⟨a, us, T', dx, e, z, l, r, c.imp_right fun ⟨x, s, nt, sb⟩ => ⟨x, k a s, nt, sb.trans k⟩⟩
theorem RepL.mono : ∀ (d : List D) (v : List V) (S T : AS), RepL H F d v S → Sb S T → RepL H F d v T
  | [], _, _, _, h, _ => h
  | d :: ds, vs, S, T, h, k => by
    obtain ⟨v, r, S1, S2, e, h1, h2, dj, s1, s2⟩ := h
    exact ⟨v, r, S1, S2, e, h1, h2, dj, s1.trans k, s2.trans k⟩
end
/-- the forbidden set shrinks -/
theorem Rep.less {d : D} {v : V} (h : Rep H F d v S) (n : Sb F' F) : Rep H F' d v S := Rep.step d v S h (fun _ _ e _ => e.1) fun a q => .inl (n a q)
theorem RepL.less {d : List D} {v : List V} (h : RepL H F d v S) (n : Sb F' F) : RepL H F' d v S := RepL.step d v S h (fun _ _ e _ => e.1) fun a q => .inl (n a q)
mutual
/-- given up: what S owned may be forbidden no longer -/
theorem Rep.frz : ∀ (d : D) (v : V) (S : AS), Rep H F d v S → Rep H (fun a => F a ∧ ¬ S a) d.fz v nos
  | .non, _, _, h => h
  | .bl _, _, _, h => h
  | .int _, _, _, h => h
  | .str _, _, _, h => h
  | .tup ds, v, S, h => by
    obtain ⟨a, vs, e, r, f, z, l⟩ := h
    exact ⟨a, vs, e, r, fun q => f q.1, z, RepL.frz ds vs S l⟩
  | .lst o ds, v, S, h => by
    obtain ⟨a, vs, e, z, l, c⟩ := h
    have l2 := RepL.frz ds vs nos l
    refine ⟨a, vs, e, z, RepL.less l2 (fun a q => ⟨q.1, fun z => z.elim⟩), .inl ⟨rfl, ?_⟩⟩
    rcases c with ⟨e1, r, f⟩ | ⟨e1, r, s⟩
    · exact ⟨r, fun q => f q.1⟩
    · exact ⟨.inl r, fun q => q.2 s⟩
  | .dct o ks ds, v, S, h => by
    obtain ⟨a, us, T, u, e, z, dc, l, c⟩ := h
    have l2 := RepL.frz ds us T l
    have sb : Sb T S := by
      rcases c with ⟨_, nt, _⟩ | ⟨_, _, _, _, s⟩
      · exact fun x t => (nt x t).elim
      · exact s
    refine ⟨a, us, nos, u, e, z, dc, RepL.less l2 (fun a q => ⟨q.1, fun z => q.2 (sb a z)⟩), .inl ⟨rfl, fun _ w => w, ?_⟩⟩
    rcases c with ⟨e1, nt, r, f⟩ | ⟨e1, r, s, nt, _⟩
    · exact ⟨r, fun q => f q.1⟩
    · exact ⟨r, fun q => q.2 s⟩
  | .ins o cl fs ds, v, S, h => by
    obtain ⟨a, us, T, dx, e, z, l, r, c⟩ := h
    have l2 := RepL.frz ds us T l
    have sb : Sb T S := by
      rcases c with ⟨_, nt, _⟩ | ⟨_, _, _, s⟩
      · exact fun x t => (nt x t).elim
      · exact s
    refine ⟨a, us, nos, dx, e, z, RepL.less l2 (fun a q => ⟨q.1, fun z => q.2 (sb a z)⟩), r, .inl ⟨rfl, fun _ w => w, ?_⟩⟩
    rcases c with ⟨e1, nt, f⟩ | ⟨e1, s, nt, _⟩
    · exact fun q => f q.1
    · exact fun q => q.2 s
theorem RepL.frz : ∀ (d : List D) (v : List V) (S : AS), RepL H F d v S → RepL H (fun a => F a ∧ ¬ S a) (fzL d) v nos
  | [], _, _, h => h
  | d :: ds, vs, S, h => by
    obtain ⟨v, r, S1, S2, e, h1, h2, dj, s1, s2⟩ := h
    exact ⟨v, r, nos, nos, e, (Rep.frz d v S1 h1).less fun a q => ⟨q.1, fun z => q.2 (s1 a z)⟩, (RepL.frz ds r S2 h2).less fun a q => ⟨q.1, fun z => q.2 (s2 a z)⟩, dj_nos, sb_nos, sb_nos⟩
end
mutual
/-- a shared thing owns nothing -/
theorem Rep.isF : ∀ (d : D) (v : V) (S : AS), d.isF = true → Rep H F d v S → Rep H F d v nos
  | .non, _, _, _, h => h
  | .bl _, _, _, _, h => h
  | .int _, _, _, _, h => h
  | .str _, _, _, _, h => h
  | .tup ds, v, S, c, h => by
    obtain ⟨a, vs, e, r, f, z, l⟩ := h
    exact ⟨a, vs, e, r, f, z, RepL.isF ds vs S (by simpa [D.isF] using c) l⟩
  | .lst o ds, v, S, c, h => by
    have c2 : o = false ∧ isFL ds = true := by simpa [D.isF] using c
    obtain ⟨a, vs, e, z, l, q⟩ := h
    refine ⟨a, vs, e, z, l, .inl ?_⟩
    rcases q with q | ⟨q, _⟩
    · exact q
    · rw [c2.1] at q; cases q
  | .dct o ks ds, v, S, c, h => by
    have c2 : o = false ∧ isFL ds = true := by simpa [D.isF] using c
    obtain ⟨a, us, T, u, e, z, dc, l, q⟩ := h
    refine ⟨a, us, T, u, e, z, dc, l, .inl ?_⟩
    rcases q with q | ⟨q, _⟩
    · exact q
    · rw [c2.1] at q; cases q
  | .ins o cl fs ds, v, S, c, h => by
    have c2 : o = false ∧ isFL ds = true := by simpa [D.isF] using c
    obtain ⟨a, us, T, dx, e, z, l, r, q⟩ := h
    refine ⟨a, us, T, dx, e, z, l, r, .inl ?_⟩
    rcases q with q | ⟨q, _⟩
    · exact q
    · rw [c2.1] at q; cases q
theorem RepL.isF : ∀ (d : List D) (v : List V) (S : AS), isFL d = true → RepL H F d v S → RepL H F d v nos
  | [], _, _, _, h => h
  | d :: ds, vs, S, c, h => by
    have c2 : d.isF = true ∧ isFL ds = true := by simpa [Vm.isFL] using c
    obtain ⟨v, r, S1, S2, e, h1, h2, dj, s1, s2⟩ := h
    exact ⟨v, r, nos, nos, e, Rep.isF d v S1 c2.1 h1, RepL.isF ds r S2 c2.2 h2, dj_nos, sb_nos, sb_nos⟩
end
theorem RepL.len : ∀ {ds : List D} {vs : List V} {S : AS}, RepL H F ds vs S → vs.length = ds.length
  | [], _, _, h => by rw [show _ = [] from h]; rfl
  | d :: ds, vs, S, h => by
    obtain ⟨v, r, S1, S2, e, h1, h2, _⟩ := h
    rw [e, List.length_cons, List.length_cons, RepL.len h2]
theorem RepL.get : ∀ {ds : List D} {vs : List V} {S : AS} {i : Nat} {d : D}, RepL H F ds vs S → ds[i]? = some d → ∃ v, vs[i]? = some v ∧ Rep H F d v S
  | [], _, _, _, _, _, e => by simp at e
  | d :: ds, vs, S, 0, x, h, e => by
    obtain ⟨v, r, S1, S2, q, h1, h2, dj, s1, s2⟩ := h
    have e' : d = x := by simpa using e
    subst e'
    exact ⟨v, by rw [q]; rfl, h1.mono _ _ _ _ s1⟩
  | d :: ds, vs, S, i + 1, x, h, e => by
    obtain ⟨v, r, S1, S2, q, h1, h2, dj, s1, s2⟩ := h
    obtain ⟨w, a, b⟩ := RepL.get (i := i) h2 (by simpa using e)
    exact ⟨w, by rw [q]; simpa using a, b.mono _ _ _ _ s2⟩
theorem RepL.get' {ds : List D} {vs : List V} {S : AS} {i : Nat} {v : V} (h : RepL H F ds vs S) (e : vs[i]? = some v) : ∃ d, ds[i]? = some d ∧ Rep H F d v S := by
  have hi : i < ds.length := by rw [← h.len]; exact (List.getElem?_eq_some_iff.mp e).1
  obtain ⟨w, a, b⟩ := h.get (List.getElem?_eq_getElem hi)
  rw [e] at a; cases a
  exact ⟨_, List.getElem?_eq_getElem hi, b⟩
theorem RepL.nil : RepL H F [] [] S := rfl
theorem RepL.cons {d : D} {ds : List D} {v : V} {vs : List V} (a : Rep H F d v nos) (b : RepL H F ds vs nos) : RepL H F (d :: ds) (v :: vs) nos := ⟨v, vs, nos, nos, rfl, a, b, dj_nos, sb_nos, sb_nos⟩
theorem RepL.app : ∀ {ds es : List D} {vs us : List V}, RepL H F ds vs nos → RepL H F es us nos → RepL H F (ds ++ es) (vs ++ us) nos
  | [], _, _, _, h, k => by rw [show _ = [] from h]; exact k
  | d :: ds, es, vs, us, h, k => by
    obtain ⟨v, r, S1, S2, e, h1, h2, dj, s1, s2⟩ := h
    subst e
    exact RepL.cons (h1.mono _ _ _ _ s1) (RepL.app (h2.mono _ _ _ _ s2) k)
theorem RepL.take : ∀ {ds : List D} {vs : List V} (n : Nat), RepL H F ds vs nos → RepL H F (ds.take n) (vs.take n) nos
  | _, _, 0, _ => by simp [RepL]
  | [], _, n + 1, h => by rw [show _ = [] from h]; rfl
  | d :: ds, vs, n + 1, h => by
    obtain ⟨v, r, S1, S2, e, h1, h2, dj, s1, s2⟩ := h
    subst e
    exact RepL.cons (h1.mono _ _ _ _ s1) (RepL.take n (h2.mono _ _ _ _ s2))
theorem RepL.drop : ∀ {ds : List D} {vs : List V} (n : Nat), RepL H F ds vs nos → RepL H F (ds.drop n) (vs.drop n) nos
  | _, _, 0, h => h
  | [], _, n + 1, h => by rw [show _ = [] from h]; rfl
  | d :: ds, vs, n + 1, h => by
    obtain ⟨v, r, S1, S2, e, h1, h2, dj, s1, s2⟩ := h
    subst e
    exact RepL.drop n (h2.mono _ _ _ _ s2)
theorem RepL.set : ∀ {ds : List D} {vs : List V} (n : Nat) {d : D} {v : V}, RepL H F ds vs nos → Rep H F d v nos → RepL H F (ds.set n d) (vs.set n v) nos
  | [], _, _, _, _, h, _ => by rw [show _ = [] from h]; rfl
  | d :: ds, vs, 0, _, _, h, k => by
    obtain ⟨v, r, S1, S2, e, h1, h2, dj, s1, s2⟩ := h
    subst e
    exact RepL.cons k (h2.mono _ _ _ _ s2)
  | d :: ds, vs, n + 1, _, _, h, k => by
    obtain ⟨v, r, S1, S2, e, h1, h2, dj, s1, s2⟩ := h
    subst e
    exact RepL.cons (h1.mono _ _ _ _ s1) (RepL.set n (h2.mono _ _ _ _ s2) k)
theorem RepL.insertIdx : ∀ {ds : List D} {vs : List V} (n : Nat) {d : D} {v : V}, RepL H F ds vs nos → Rep H F d v nos → RepL H F (ds.insertIdx n d) (vs.insertIdx n v) nos
  | ds, vs, 0, _, _, h, k => by simpa using RepL.cons k h
  | [], _, n + 1, _, _, h, _ => by rw [show _ = [] from h]; rfl
  | d :: ds, vs, n + 1, _, _, h, k => by
    obtain ⟨v, r, S1, S2, e, h1, h2, dj, s1, s2⟩ := h
    subst e
    simpa using RepL.cons (h1.mono _ _ _ _ s1) (RepL.insertIdx n (h2.mono _ _ _ _ s2) k)
mutual
/-- what is owned stands -/
theorem Rep.dom : ∀ (d : D) (v : V) (S : AS), Rep H F d v S → Rep H F d v (fun a => S a ∧ H a ≠ none)
  | .non, _, _, h => h
  | .bl _, _, _, h => h
  | .int _, _, _, h => h
  | .str _, _, _, h => h
  | .tup ds, v, S, h => by
    obtain ⟨a, vs, e, r, f, z, l⟩ := h
    exact ⟨a, vs, e, r, f, z, RepL.dom ds vs S l⟩
  | .lst o ds, v, S, h => by
    obtain ⟨a, vs, e, z, l, c⟩ := h
    exact ⟨a, vs, e, z, l, c.imp_right fun ⟨x, y, s⟩ => ⟨x, y, s, by rw [y]; simp⟩⟩
  | .dct o ks ds, v, S, h => by
    obtain ⟨a, us, T, u, e, z, dc, l, c⟩ := h
    exact ⟨a, us, _, u, e, z, dc, RepL.dom ds us T l, c.imp (fun ⟨x, nt, y⟩ => ⟨x, fun b w => nt b w.1, y⟩) fun ⟨x, y, s, nt, sb⟩ => ⟨x, y, ⟨s, by rw [y]; simp⟩, fun w => nt w.1, fun b w => ⟨sb b w.1, w.2⟩⟩⟩
  | .ins o cl fs ds, v, S, h => by
    obtain ⟨a, us, T, dx, e, z, l, r, c⟩ := h
    exact ⟨a, us, _, dx, e, z, RepL.dom ds us T l, r, c.imp (fun ⟨x, nt, y⟩ => ⟨x, fun b w => nt b w.1, y⟩) fun ⟨x, s, nt, sb⟩ => ⟨x, ⟨s, by rw [r]; simp⟩, fun w => nt w.1, fun b w => ⟨sb b w.1, w.2⟩⟩⟩
theorem RepL.dom : ∀ (d : List D) (v : List V) (S : AS), RepL H F d v S → RepL H F d v (fun a => S a ∧ H a ≠ none)
  | [], _, _, h => h
  | d :: ds, vs, S, h => by
    obtain ⟨v, r, S1, S2, e, h1, h2, dj, s1, s2⟩ := h
    exact ⟨v, r, _, _, e, Rep.dom d v S1 h1, RepL.dom ds r S2 h2, fun a x y => dj a x.1 y.1, fun a x => ⟨s1 a x.1, x.2⟩, fun a x => ⟨s2 a x.1, x.2⟩⟩
end
theorem Rep.ofR {d : D} {v : V} (h : Rep H F d v S) (hs : Sb S T) : Rep H F d v T := h.mono _ _ _ _ hs

/-! ### the slots -/
def ERs (H : Hp) (F : AS) : Nv → St → AS → Prop
  | [], σ, _ => σ = []
  | o :: e, σ, S => ∃ u r S1 S2, σ = u :: r ∧ (∀ d, o = some d → ∃ v, u = some v ∧ Rep H F d v S1) ∧ ERs H F e r S2 ∧ Dj S1 S2 ∧ Sb S1 S ∧ Sb S2 S
theorem ERs.mono : ∀ {e : Nv} {σ : St} {S T : AS}, ERs H F e σ S → Sb S T → ERs H F e σ T
  | [], _, _, _, h, _ => h
  | o :: e, σ, S, T, h, k => by
    obtain ⟨u, r, S1, S2, q, h1, h2, dj, s1, s2⟩ := h
    exact ⟨u, r, S1, S2, q, h1, h2, dj, s1.trans k, s2.trans k⟩
theorem ERs.step : ∀ {e : Nv} {σ : St} {S : AS}, ERs H F e σ S → (∀ a o, Kt H a o → ¬ F a ∨ S a → H' a = some o) → (∀ a, F' a → F a ∨ H a = none) → ERs H' F' e σ S
  | [], _, _, h, _, _ => h
  | o :: e, σ, S, h, k, n => by
    obtain ⟨u, r, S1, S2, q, h1, h2, dj, s1, s2⟩ := h
    refine ⟨u, r, S1, S2, q, fun d hd => ?_, ERs.step h2 (fun a o q z => k a o q (z.imp_right (s2 a))) n, dj, s1, s2⟩
    obtain ⟨v, hv, hr⟩ := h1 d hd
    exact ⟨v, hv, Rep.step d v S1 hr (fun a o q z => k a o q (z.imp_right (s1 a))) n⟩
theorem ERs.less {e : Nv} {σ : St} (h : ERs H F e σ S) (n : Sb F' F) : ERs H F' e σ S := h.step (fun _ _ e _ => e.1) fun a q => .inl (n a q)
theorem ERs.len : ∀ {e : Nv} {σ : St} {S : AS}, ERs H F e σ S → σ.length = e.length
  | [], _, _, h => by rw [show _ = [] from h]; rfl
  | o :: e, σ, S, h => by
    obtain ⟨u, r, S1, S2, q, h1, h2, _⟩ := h
    rw [q, List.length_cons, List.length_cons, ERs.len h2]
theorem ERs.get : ∀ {e : Nv} {σ : St} {S : AS} {i : Nat} {d : D}, ERs H F e σ S → e[i]? = some (some d) → ∃ v, σ[i]? = some (some v) ∧ Rep H F d v S
  | [], _, _, _, _, _, e => by simp at e
  | o :: e, σ, S, 0, x, h, q => by
    obtain ⟨u, r, S1, S2, q', h1, h2, dj, s1, s2⟩ := h
    have e' : o = some x := by simpa using q
    obtain ⟨v, hv, hr⟩ := h1 x e'
    exact ⟨v, by rw [q', hv]; rfl, hr.ofR s1⟩
  | o :: e, σ, S, i + 1, x, h, q => by
    obtain ⟨u, r, S1, S2, q', h1, h2, dj, s1, s2⟩ := h
    obtain ⟨w, a, b⟩ := ERs.get (i := i) h2 (by simpa using q)
    exact ⟨w, by rw [q']; simpa using a, b.ofR s2⟩
/-- a slot's content is taken out -/
theorem ERs.out : ∀ {e : Nv} {σ : St} {S : AS} {i : Nat} {d : D}, ERs H F e σ S → e[i]? = some (some d) → ∃ v S1 S2, σ[i]? = some (some v) ∧ Rep H F d v S1 ∧ ERs H F (e.set i none) σ S2 ∧ Dj S1 S2 ∧ Sb S1 S ∧ Sb S2 S
  | [], _, _, _, _, _, e => by simp at e
  | o :: e, σ, S, 0, x, h, q => by
    obtain ⟨u, r, S1, S2, q', h1, h2, dj, s1, s2⟩ := h
    have e' : o = some x := by simpa using q
    obtain ⟨v, hv, hr⟩ := h1 x e'
    exact ⟨v, S1, S2, by rw [q', hv]; rfl, hr, ⟨u, r, nos, S2, q', (fun d hd => by cases hd), h2, dj_nos, sb_nos, Sb.refl⟩, dj, s1, s2⟩
  | o :: e, σ, S, i + 1, x, h, q => by
    obtain ⟨u, r, S1, S2, q', h1, h2, dj, s1, s2⟩ := h
    obtain ⟨w, T1, T2, a, b, c, dj', t1, t2⟩ := ERs.out (i := i) h2 (by simpa using q)
    refine ⟨w, T1, fun a => S1 a ∨ T2 a, by rw [q']; simpa using a, b, ⟨u, r, S1, T2, q', h1, by simpa using c, dj.mono Sb.refl t2, fun _ z => .inl z, fun _ z => .inr z⟩, fun a x y => ?_, t1.trans s2, fun a z => z.elim (s1 a) fun z => s2 a (t2 a z)⟩
    rcases y with y | y
    · exact dj a y (t1 a x)
    · exact dj' a x y
/-- .. put in -/
theorem ERs.put : ∀ {e : Nv} {σ : St} {S1 S2 : AS} {i : Nat} {d : D} {v : V}, ERs H F e σ S2 → i < e.length → Rep H F d v S1 → Dj S1 S2 → ERs H F (e.set i (some d)) (σ.set i (some v)) (fun a => S1 a ∨ S2 a)
  | [], _, _, _, _, _, _, _, hi, _, _ => by simp at hi
  | o :: e, σ, S1, S2, 0, d, v, h, _, k, dj => by
    obtain ⟨u, r, T1, T2, q', h1, h2, dj', s1, s2⟩ := h
    refine ⟨some v, r, S1, T2, by rw [q']; rfl, (fun d' hd => ?_), h2, dj.mono Sb.refl s2, fun _ z => .inl z, fun a z => .inr (s2 a z)⟩
    cases hd
    exact ⟨v, rfl, k⟩
  | o :: e, σ, S1, S2, i + 1, d, v, h, hi, k, dj => by
    obtain ⟨u, r, T1, T2, q', h1, h2, dj', s1, s2⟩ := h
    have h3 := ERs.put (i := i) h2 (by simpa using hi) k (dj.mono Sb.refl s2)
    refine ⟨u, r.set i (some v), T1, _, by rw [q']; rfl, h1, h3, fun a x y => ?_, fun a z => .inr (s1 a z), fun a z => z.elim .inl fun z => .inr (s2 a z)⟩
    rcases y with y | y
    · exact dj a y (s1 a x)
    · exact dj' a x y
/-- the same place, the same value -/
theorem set_at {σ : St} {i : Nat} {v : V} (h : σ[i]? = some (some v)) : σ.set i (some v) = σ := by
  have hi := (List.getElem?_eq_some_iff.mp h).1
  apply List.ext_getElem?
  intro j
  by_cases e : i = j
  · subst e; rw [List.getElem?_set_self hi, h]
  · rw [List.getElem?_set_ne e]
theorem ERs.back {e : Nv} {σ : St} {S1 S2 : AS} {i : Nat} {d : D} {v : V} (h : ERs H F e σ S2) (hi : i < e.length) (hv : σ[i]? = some (some v)) (r : Rep H F d v S1) (dj : Dj S1 S2) : ERs H F (e.set i (some d)) σ (fun a => S1 a ∨ S2 a) := by
  have := ERs.put h hi r dj
  rwa [set_at hv] at this
theorem ERs.gone : ∀ {e : Nv} {σ : St} {S : AS} {i : Nat}, ERs H F e σ S → ERs H F (e.set i none) σ S
  | [], _, _, _, h => by simpa using h
  | o :: e, σ, S, 0, h => by
    obtain ⟨u, r, S1, S2, q', h1, h2, dj, s1, s2⟩ := h
    exact ⟨u, r, S1, S2, q', (fun d hd => by cases hd), h2, dj, s1, s2⟩
  | o :: e, σ, S, i + 1, h => by
    obtain ⟨u, r, S1, S2, q', h1, h2, dj, s1, s2⟩ := h
    exact ⟨u, r, S1, S2, q', h1, ERs.gone (i := i) h2, dj, s1, s2⟩
theorem ERs.goneσ : ∀ {e : Nv} {σ : St} {S : AS} {i : Nat}, ERs H F e σ S → ERs H F (e.set i none) (σ.set i none) S
  | [], _, _, _, h => by rw [show _ = [] from h]; rfl
  | o :: e, σ, S, 0, h => by
    obtain ⟨u, r, S1, S2, q', h1, h2, dj, s1, s2⟩ := h
    exact ⟨none, r, S1, S2, by rw [q']; rfl, (fun d hd => by cases hd), h2, dj, s1, s2⟩
  | o :: e, σ, S, i + 1, h => by
    obtain ⟨u, r, S1, S2, q', h1, h2, dj, s1, s2⟩ := h
    exact ⟨u, r.set i none, S1, S2, by rw [q']; rfl, h1, ERs.goneσ (i := i) h2, dj, s1, s2⟩
theorem ERs.frz {e : Nv} {σ : St} {T : AS} (h : ERs H F e σ S) : ERs H (fun a => F a ∧ ¬ T a) e σ S := h.less fun _ q => q.1
end
end Vm
namespace Vm
open PySem PySem.Spec L2
abbrev Sl := L2.St

/-! ### the check: the text is what the language says -/
structure Tab where
  free : List Str
  cons : List (Str × D)
  fns : List (Str × Fn)
  kws : List (Str × Nat × List Str × List Nat)
  /-- class, method, def; class, __init__; class, field -/
  globs : List Str
  mets : List (Str × Str × Str)
  mks : List (Str × Str)
  flds : List (Str × Str)
  /-- the law's own body -/
  rb : Bool
  /-- classes that isinstance is asked for -/
  iscs : List Str
  /-- dicts of the text -/
  dcts : List (Str × List (Str × Str))
  /-- exception classes: the word, the field -/
  excs : List (Str × Str × Option Str)
  /-- the defs with lambdas -/
  lams : List Str
  /-- such a def's body -/
  lam : Bool
def Tab.fn (g : Tab) (f : Str) : Option Fn := g.fns.lookup f
/-- the law itself is not called -/
def Tab.fn' (g : Tab) (f : Str) : Option Fn := if f = ("law" : Str) then none else g.fn f
def pl : Expr → Bool
  | .Starred _ _ => false
  | .Slice _ _ _ _ => false
  | .Set _ _ _ => false
  | _ => true
def visB (sc : Scope) (x : Str) : Bool := match sc.names.lookup x with
  | some .local => true
  | some .cell => true
  | some .free => true
  | _ => false
def okNm (N : List Str) (sc : Scope) (i : Nat) (x : Str) : Bool := decide (N[i]? = some x) && (visB sc x && (!(x == ("__debug__" : Str)) && !(x == ("__classdict__" : Str))))
def okGl (sc : Scope) (x : Str) : Bool := decide (sc.names.lookup x = some .globalImplicit) && (!(x == ("__debug__" : Str)) && !decide (x = ("__name__" : Str)))
def constD : Const → D → Bool
  | .none, .non => true
  | .bool b, .bl c => b == c
  | .int i, .int j => decide (i = j)
  | .str s, .str t => decide (s = t) && (PyData.strOk s && decide (s.length ≤ 1000000))
  | _, _ => false
def bname : B1 → Str
  | .len => "len" | .abs => "abs" | .all => "all" | .any => "any" | .sum => "sum" | .lst => "list" | .tup => "tuple" | .max => "max" | .min => "min" | .str => "str" | .int => "int" | .sorted => "sorted" | .dct => "dict"
def s1name : S1 → Str
  | .len => "len" | .srt => "sorted"
def b2name : B2 → Str
  | .max => "max" | .min => "min"
def tyname : Ty → Str
  | .bool => "bool" | .int => "int" | .str => "str" | .tuple => "tuple" | .list => "list"
def tyA (sc : Scope) (free : List Str) (t : Ty) : Expr → Bool
  | .Name x _ => decide (x = tyname t) && (okGl sc x && free.contains x)
  | _ => false
def tysA (sc : Scope) (free : List Str) : List Ty → List Expr → Bool
  | [], [] => true
  | t :: ts, e :: es => tyA sc free t e && tysA sc free ts es
  | _, _ => false
def goodOp : Operator → Bool
  | .Add => true | .Sub => true | .Mult => true | .FloorDiv => true | .Mod => true | .Pow => true | .LShift => true | .RShift => true | .BitAnd => true
  | _ => false
def goodCmp : CmpOp → Bool
  | .Is => true | .IsNot => true | .Eq => true | .NotEq => true | .Lt => true | .LtE => true | .Gt => true | .GtE => true | .In => true | .NotIn => true
/-- the value is one's own or shared (no bare look at a slot) -/
def isV : E → Bool
  | .pk _ => false
  | .ixp _ _ => false
  | .ite _ a b => isV a && isV b
  | .and a b => true
  | _ => true
def pk? : E → Option Nat
  | .pk i => some i
  | _ => none
def tgSlots : Tg → List Nat
  | .nm i => [i]
  | .tup ts => tgsSlots ts
where tgsSlots : List Tg → List Nat
  | [] => []
  | t :: ts => tgSlots t ++ tgsSlots ts
mutual
def tgB (N : List Str) (sc : Scope) (fn : Str → Bool) : Tg → Expr → Bool
  | .nm i, A => match A with
    | .Name x _ => decide (N[i]? = some x) && (decide (sc.names.lookup x = some .local) || (decide (sc.names.lookup x = some .cell) && fn x))
    | _ => false
  | .tup ts, A => match A with
    | .Tuple es _ _ => tgsB N sc fn ts es
    | _ => false
def tgsB (N : List Str) (sc : Scope) (fn : Str → Bool) : List Tg → List Expr → Bool
  | [], es => es.isEmpty
  | t :: ts, es => match es with
    | e :: er => pl e && (tgB N sc fn t e && tgsB N sc fn ts er)
    | [] => false
end
def ikname : Ik → Str
  | .seq => "" | .rng1 => "range" | .rng2 => "range" | .rng3 => "range" | .enum => "enumerate" | .zip => "zip"
def ikn : Ik → Nat
  | .seq => 0 | .rng1 => 1 | .rng2 => 2 | .rng3 => 3 | .enum => 1 | .zip => 2
def ikTg : Ik → Tg → Bool
  | .enum, .nm _ => false
  | .zip, .nm _ => false
  | _, _ => true
def m1name : M1 → Str
  | .index => "index"
/-- a receiver -/
def rcvE : Expr → Bool
  | .Name .. => true
  | .Attribute .. => true
  | .Subscript .. => true
  | .Call _ (_ :: _) _ _ => true
  | _ => false
def chkKy (N : List Str) (sc : Scope) : Ky → Expr → Bool
  | .sl j, A => match A with
    | .Name x _ => okNm N sc j x
    | _ => false
  | .ct d, A => match A with
    | .Constant c _ _ => constD c d && (match d with | .int _ => true | .str _ => true | _ => false)
    | _ => false
/-- a path -/
def chkP (g : Tab) (N : List Str) (sc : Scope) : Pth → Expr → Bool
  | .sl i, A => match A with
    | .Name x _ => okNm N sc i x
    | _ => false
  | .fld p cs f, A => match A with
    | .Attribute B n _ => decide (n = f) && (rcvE B && ((cs.all fun c => g.flds.any fun q => decide (q = (c, f))) && chkP g N sc p B))
    | _ => false
  | .key p k, A => match A with
    | .Subscript B K _ => pl K && (chkP g N sc p B && chkKy N sc k K)
    | _ => false
mutual
def chk (g : Tab) (N : List Str) : Scope → E → Expr → Bool
  | sc, .cst d, A => match A with
    | .Constant c _ _ => constD c d
    | _ => false
  | sc, .nm i, A => match A with
    | .Name x _ => okNm N sc i x
    | _ => false
  | sc, .pk i, A => match A with
    | .Name x _ => okNm N sc i x
    | _ => false
  | sc, .mv i, A => match A with
    | .Name x _ => okNm N sc i x
    | _ => false
  | sc, .gc y d, A => match A with
    | .Name x _ => decide (x = y) && (okGl sc x && decide (∃ p ∈ g.cons, p.1 = x ∧ constEq p.2 d = true))
    | _ => false
  | sc, .bin o a b, A => match A with
    | .BinOp x p y _ => decide (p = o) && (goodOp o && ((isV a || smp b) && (chk g N sc a x && chk g N sc b y)))
    | _ => false
  | sc, .neg a, A => match A with
    | .UnaryOp .USub x _ => chk g N sc a x
    | _ => false
  | sc, .cmp o a b, A => match A with
    | .Compare x [p] [y] _ => decide (p = o) && (goodCmp o && (pl y && ((isV a || smp b) && (chk g N sc a x && chk g N sc b y))))
    | _ => false
  | sc, .chn o1 o2 a b c, A => match A with
    | .Compare x [p, q] [y, z] _ => decide (p = o1) && (decide (q = o2) && (goodCmp o1 && (goodCmp o2 && (pl y && (pl z && ((isV a || smp b) && ((isV b || smp c) && (chk g N sc a x && (chk g N sc b y && chk g N sc c z)))))))))
    | _ => false
  | sc, .isn n a, A => match A with
    | .Compare x [.Is] [.Constant .none _ _] _ => !n && chk g N sc a x
    | .Compare x [.IsNot] [.Constant .none _ _] _ => n && chk g N sc a x
    | _ => false
  | sc, .and a b, A => match A with
    | .BoolOp .And (x :: y :: r) p => chk g N sc a x && (match r with
      | [] => chk g N sc b y
      | _ => chk g N sc b (.BoolOp .And (y :: r) p))
    | _ => false
  | sc, .or a b, A => match A with
    | .BoolOp .Or (x :: y :: r) p => chk g N sc a x && (match r with
      | [] => chk g N sc b y
      | _ => chk g N sc b (.BoolOp .Or (y :: r) p))
    | _ => false
  | sc, .not a, A => match A with
    | .UnaryOp .Not x _ => chk g N sc a x
    | _ => false
  | sc, .ite c a b, A => match A with
    | .IfExp z x y _ => chk g N sc c z && (chk g N sc a x && chk g N sc b y)
    | _ => false
  | sc, .ix a i, A => match A with
    | .Subscript x y _ => pl y && ((isV a || smp i) && (chk g N sc a x && chk g N sc i y))
    | _ => false
  | sc, .ixp a i, A => match A with
    | .Subscript x y _ => pl y && ((isV a || smp i) && (chk g N sc a x && chk g N sc i y))
    | _ => false
  | sc, .slc fl fh a lo hi, A => match A with
    | .Subscript x (.Slice l h none _) _ => (isV a || (smp lo && smp hi)) && (isV lo && (isV hi && (chk g N sc a x && ((match l with
        | none => !fl && isUnit lo
        | some l => fl && chk g N sc lo l) && (match h with
        | none => !fh && isUnit hi
        | some h => fh && chk g N sc hi h)))))
    | _ => false
  | sc, .tup es, A => match A with
    | .Tuple xs _ _ => decide (xs.length ≤ 1000) && chks g N sc es xs
    | _ => false
  | sc, .lst es, A => match A with
    | .List xs _ => decide (xs.length ≤ 1000) && chks g N sc es xs
    | _ => false
  | sc, .lc elt tg ik is ifs own, A => match A with
    | .ListComp x [⟨t, i, cs, 0⟩] scope _ => pl i && (ikTg ik tg && (blkC N sc scope own && (tgB N (relS scope sc) (fun x => scope.names.lookup x == some .cell) tg t && ((tgSlots tg).all (fun k => (own.map (·.2)).contains k) && (isV elt && (chk g N (relS scope sc) elt x && (chkTs g N (relS scope sc) ifs cs && (((is.all isV) || (smp elt && smpL ifs)) && (match ik with
      | .seq => chkOne g N sc is i
      | ik => (match i with
        | .Call (.Name y _) xs [] _ => decide (y = ikname ik) && (okGl sc y && (g.free.contains y && (decide (xs.length = ikn ik) && chks g N sc is xs)))
        | _ => false))))))))))
    | _ => false
  | sc, .lcb elt tg j ifs own, A => match A with
    | .ListComp x [⟨t, .Name y _, cs, 0⟩] scope _ => okNm N sc j y && (blkC N sc scope own && (tgB N (relS scope sc) (fun x => scope.names.lookup x == some .cell) tg t && ((tgSlots tg).all (fun k => (own.map (·.2)).contains k) && (isV elt && (chk g N (relS scope sc) elt x && chkTs g N (relS scope sc) ifs cs)))))
    | _ => false
  | sc, .lc2 elt tg ik is ifs tg1 ik1 is1 ifs1 own w1, A => match A with
    | .ListComp x [⟨t, i, cs, 0⟩, ⟨t1, i1, cs1, 0⟩] scope _ => pl i && (pl i1 && (ikTg ik tg && (ikTg ik1 tg1 && (blkC N sc scope own && (tgB N (relS scope sc) (fun x => scope.names.lookup x == some .cell) tg t && (tgB N (relS scope sc) (fun x => scope.names.lookup x == some .cell) tg1 t1 && ((tgSlots tg).all (fun k => (own.map (·.2)).contains k) && ((tgSlots tg1).all (fun k => w1.contains k) && (w1.all (fun k => (own.map (·.2)).contains k) && (isV elt && (chk g N (relS scope sc) elt x && (chkTs g N (relS scope sc) ifs cs && (chkTs g N (relS scope sc) ifs1 cs1 && (is.all isV && (is1.all isV && ((match ik with
      | .seq => chkOne g N sc is i
      | ik => (match i with
        | .Call (.Name y _) xs [] _ => decide (y = ikname ik) && (okGl sc y && (g.free.contains y && (decide (xs.length = ikn ik) && chks g N sc is xs)))
        | _ => false)) && (match ik1 with
      | .seq => chkOne g N (relS scope sc) is1 i1
      | ik => (match i1 with
        | .Call (.Name y _) xs [] _ => decide (y = ikname ik) && (okGl (relS scope sc) y && (g.free.contains y && (decide (xs.length = ikn ik) && chks g N (relS scope sc) is1 xs)))
        | _ => false))))))))))))))))))
    | _ => false
  | sc, .dc kx vx tg ik is ifs own, A => match A with
    | .DictComp x y [⟨t, i, cs, 0⟩] scope _ => pl i && (ikTg ik tg && (blkC N sc scope own && (tgB N (relS scope sc) (fun x => scope.names.lookup x == some .cell) tg t && ((tgSlots tg).all (fun k => (own.map (·.2)).contains k) && (isV vx && (chk g N (relS scope sc) kx x && (chk g N (relS scope sc) vx y && (chkTs g N (relS scope sc) ifs cs && (((is.all isV) || (smp kx && (smp vx && smpL ifs))) && (match ik with
      | .seq => chkOne g N sc is i
      | ik => (match i with
        | .Call (.Name y _) xs [] _ => decide (y = ikname ik) && (okGl sc y && (g.free.contains y && (decide (xs.length = ikn ik) && chks g N sc is xs)))
        | _ => false)))))))))))
    | _ => false
  | sc, .dco kx vx tg ik is ifs own, A => match A with
    | .DictComp x y [⟨t, i, cs, 0⟩] scope _ => pl i && (ikTg ik tg && (blkC N sc scope own && (tgB N (relS scope sc) (fun x => scope.names.lookup x == some .cell) tg t && ((tgSlots tg).all (fun k => (own.map (·.2)).contains k) && (isV vx && (chk g N (relS scope sc) kx x && (chk g N (relS scope sc) vx y && (chkTs g N (relS scope sc) ifs cs && (((is.all isV) || (smp kx && (smp vx && smpL ifs))) && (match ik with
      | .seq => chkOne g N sc is i
      | ik => (match i with
        | .Call (.Name y _) xs [] _ => decide (y = ikname ik) && (okGl sc y && (g.free.contains y && (decide (xs.length = ikn ik) && chks g N sc is xs)))
        | _ => false)))))))))))
    | _ => false
  | sc, .cal f es, A => match A with
    | .Call (.Name x _) xs [] _ => decide (x = f) && (okGl sc x && ((g.globs.contains f && match g.fn' f with
      | some fn => decide (xs.length = fn.ps.length)
      | none => false) && chkA g N sc es xs))
    | _ => false
  | sc, .cak f es ks zs perm, A => match A with
    | .Call (.Name x _) xs kws _ => decide (x = f) && (okGl sc x && ((g.globs.contains f && match g.fn' f with
      | some fn => decide (xs.length + kws.length = fn.ps.length)
      | none => false) && (chkA g N sc es xs && (chkK g N sc zs ks kws && (!kws.isEmpty && (g.kws.any fun q => decide (q = (f, es.length, ks, perm))))))))
    | _ => false
  | sc, .b1 f a, A => match A with
    | .Call (.Name x _) [y] [] _ => decide (x = bname f) && (okGl sc x && (g.free.contains x && (pl y && chk g N sc a y)))
    | _ => false
  | sc, .b2 f a b, A => match A with
    | .Call (.Name x _) [y, z] [] _ => decide (x = b2name f) && (okGl sc x && (g.free.contains x && (pl y && (pl z && ((isV a || smp b) && (chk g N sc a y && chk g N sc b z))))))
    | _ => false
  | sc, .nev, A => true
  | sc, .m1 f a b, A => match A with
    | .Call (.Attribute B m ap) [Y] [] cp => decide (m = m1name f) && (rcvE B && ((ap.endLine == cp.line) && (pl Y && ((isV a || smp b) && (chk g N sc a B && chk g N sc b Y)))))
    | _ => false
  | sc, .fz a, A => isV a && (match A with | .Call .. => true | _ => false) && chk g N sc a A
  | sc, .bor a, A => isV a && (match A with | .Call .. => true | .Compare .. => true | .BoolOp .. => true | .UnaryOp .. => true | .Subscript .. => true | .BinOp .. => true | _ => false) && chk g N sc a A
  | sc, .ppop z q, A => match A with
    | .Call (.Attribute B m ap) xs [] cp => decide (m = "pop") && (chkP g N sc q B && (rcvE B && ((ap.endLine == cp.line) && (match xs with
      | [] => !z
      | [.Constant (.int 0) _ _] => z
      | _ => false))))
    | _ => false
  | sc, .pop z i, A => match A with
    | .Call (.Attribute (.Name o _) m ap) xs [] cp => decide (m = "pop") && (okNm N sc i o && ((ap.endLine == cp.line) && (match xs with
      | [] => !z
      | [.Constant (.int 0) _ _] => z
      | _ => false)))
    | _ => false
  | sc, .rev a, A => match A with
    | .Subscript X (.Slice none none (some (.UnaryOp .USub (.Constant (.int 1) _ _) _)) _) _ => chk g N sc a X
    | _ => false
  | sc, .tryl a, A => match A with
    | .Call (.Name x _) [.Lambda ps body scope _] [] _ => decide (x = ("_law_try" : Str)) && (okGl sc x && (g.lam && (lamCB sc scope ps N && (isV a && chk { g with lam := false, rb := false } N scope a body))))
    | _ => false
  | sc, .rpr a, A => match A with
    | .Call (.Name x _) [y] [] _ => decide (x = "repr") && (okGl sc x && (g.free.contains x && (g.rb && (pl y && chk g N sc a y))))
    | _ => false
  | sc, .eqi ds a b, A => match A with
    | .Compare x [.Eq] [y] _ => pl y && ((isV a && isV b) && ((!ds.isEmpty && ds.all fun q => (g.mets.any fun r => decide (r = (q.1, ("__eq__" : Str), q.2))) && (match g.fn' q.2 with
      | some fn => decide (fn.ps.length = 2)
      | none => false)) && (chk g N sc a x && chk g N sc b y)))
    | _ => false
  | sc, .eqd a b, A => match A with
    | .Compare x [.Eq] [y] _ => pl y && ((isV a || smp b) && (chk g N sc a x && chk g N sc b y))
    | _ => false
  | sc, .ixg x kvs i, A => match A with
    | .Subscript (.Name y _) z _ => decide (y = x) && (okGl sc y && ((g.dcts.any fun q => decide (q = (x, kvs))) && (pl z && chk g N sc i z)))
    | _ => false
  | sc, .isc c a, A => match A with
    | .Call (.Name x _) [y, .Name z _] [] _ => decide (x = "isinstance") && (okGl sc x && (g.free.contains x && (pl y && (decide (z = c) && (okGl sc z && (g.iscs.contains c && chk g N sc a y))))))
    | _ => false
  | sc, .st1 f a, A => match A with
    | .Call (.Name x _) [.Call (.Name y _) [z] [] _] [] _ => decide (x = s1name f) && (okGl sc x && (g.free.contains x && (decide (y = "set") && (okGl sc y && (g.free.contains y && (pl z && chk g N sc a z))))))
    | _ => false
  | sc, .dzip es, A => match A with
    | .Call (.Name x _) [.Call (.Name y _) xs [] _] [] _ => decide (x = "dict") && (okGl sc x && (g.free.contains x && (decide (y = "zip") && (okGl sc y && (g.free.contains y && (decide (xs.length = 2) && chks g N sc es xs))))))
    | _ => false
  | sc, .fld cs f a, A => match A with
    | .Attribute B n _ => decide (n = f) && (rcvE B && ((cs.all fun c => g.flds.any fun q => decide (q = (c, f))) && chk g N sc a B))
    | _ => false
  | sc, .met ds m a es, A => match A with
    | .Call (.Attribute B n ap) xs [] cp => decide (n = m) && (((ap.endLine == cp.line) && decide (xs.length < 25)) && (rcvE B && (((pk? a).isSome || isV a) && ((!ds.isEmpty && ds.all fun q => (g.mets.any fun r => decide (r = (q.1, m, q.2))) && (match g.fn' q.2 with
      | some fn => decide (xs.length + 1 = fn.ps.length)
      | none => false)) && (chk g N sc a B && chkA g N sc es xs)))))
    | _ => false
  | sc, .mk c key es, A => match A with
    | .Call (.Name x _) xs [] _ => decide (x = c) && (okGl sc x && ((g.mks.any fun r => decide (r = (c, key))) && ((match g.fn' key with
      | some fn => decide (xs.length + 1 = fn.ps.length)
      | none => false) && chkA g N sc es xs)))
    | _ => false
  | sc, .isi tp ts a, A => match A with
    | .Call (.Name x _) [y, z] [] _ => decide (x = "isinstance") && (okGl sc x && (g.free.contains x && (pl y && (pl z && (chk g N sc a y && (match ts with
      | [t] => !tp && tyA sc g.free t z
      | ts => tp && (match z with
        | .Tuple zs _ _ => decide (zs.length ≤ 1000) && tysA sc g.free ts zs
        | _ => false)))))))
    | _ => false
def chks (g : Tab) (N : List Str) : Scope → List E → List Expr → Bool
  | _, [], xs => xs.isEmpty
  | sc, a :: r, xs => match xs with
    | x :: xr => pl x && (isV a && (chk g N sc a x && chks g N sc r xr))
    | [] => false
/-- arguments: a bare name is handed on -/
def chkA (g : Tab) (N : List Str) : Scope → List E → List Expr → Bool
  | _, [], xs => xs.isEmpty
  | sc, a :: r, xs => match xs with
    | x :: xr => pl x && (((pk? a).isSome || isV a) && (chk g N sc a x && chkA g N sc r xr))
    | [] => false
/-- tests: at most one -/
def chkTs (g : Tab) (N : List Str) : Scope → List E → List Expr → Bool
  | _, [], xs => xs.isEmpty
  | sc, a :: r, xs => match xs with
    | [x] => r.isEmpty && chk g N sc a x
    | _ => false
def chkOne (g : Tab) (N : List Str) : Scope → List E → Expr → Bool
  | _, [], _ => false
  | sc, a :: r, x => r.isEmpty && chk g N sc a x
def chkK (g : Tab) (N : List Str) : Scope → List E → List Str → List Keyword → Bool
  | _, [], ks, kws => ks.isEmpty && kws.isEmpty
  | sc, z :: zs, ks, kws => match ks, kws with
    | k :: kr, ⟨w, v, _⟩ :: wr => decide (w = some k) && (pl v && (((pk? z).isSome || isV z) && (chk g N sc z v && chkK g N sc zs kr wr)))
    | _, _ => false
def isUnit : E → Bool
  | .cst .non => true
  | _ => false
def constEq : D → D → Bool
  | .non, .non => true
  | .bl b, .bl c => b == c
  | .int i, .int j => decide (i = j)
  | .str s, .str t => decide (s = t)
  | _, _ => false
end

variable [CN]
/-! ### what stands behind an expression -/
/-- the parameters of the proof: who is called, how an exception stands in the heap, what is wanted of one -/
structure Pm where
  C : Orc
  XR : Hp → AS → D → Value → Option Addr → Prop
  Wx : WX
/-- an exception of the text, as it stands -/
def XRv (H : Hp) (F : AS) : D → Value → Option Addr → Prop
  | .ins false c fs vs, cls, dd => c ∈ CN.ex ∧ cls = .ref (CN.cn c) ∧ ∃ d us, dd = some d ∧ H d = some (.xd (fs.zip us)) ∧ fs.length = us.length ∧ RepL H F vs us nos
  | _, _, _ => False
/-- what stands: the things that may be written; the tables of code objects -/
structure FD (H : Hp) (F : AS) : Prop where
  d : ∀ a, F a → H a ≠ none
  tb : LamX.Tabs CN.tb H
instance {H : Hp} {F : AS} : CoeFun (FD H F) fun _ => ∀ a, F a → H a ≠ none := ⟨FD.d⟩
/-- what a write leaves alone -/
def Hard (o : HO) : Prop := (∃ ps, o = .tbl ps) ∨ ∃ f, o = .ext f
theorem tabs_hard {T : List (Addr × Str)} {H H' : Hp} (t : LamX.Tabs T H) (k : ∀ a o, H a = some o → Hard o → H' a = some o) : LamX.Tabs T H' := fun p hp => by
  obtain ⟨ps, h1, h2, h3⟩ := t p hp
  refine ⟨ps, k _ _ h1 (.inl ⟨_, rfl⟩), h2, fun pos cv hc => ?_⟩
  obtain ⟨c, e, h⟩ := h3 pos cv hc
  exact ⟨c, e, k _ _ h (.inr ⟨_, rfl⟩)⟩
theorem FD.hard {H H' : Hp} {F F' : AS} (fd : FD H F) (k : ∀ a o, H a = some o → Hard o → H' a = some o) (d : ∀ a, F' a → H' a ≠ none) : FD H' F' := ⟨d, tabs_hard fd.tb k⟩
theorem FD.less {H : Hp} {F F' : AS} (fd : FD H F) (h : ∀ a, F' a → F a) : FD H F' := ⟨fun a z => fd.d a (h a z), fd.tb⟩
theorem FD.new {H : Hp} {F : AS} {q : Addr} {o : HO} (fd : FD H F) (hq : H q = none) : FD (L2.upd H q o) (fun x => F x ∨ x = q) := by
  refine fd.hard (fun a o' h _ => ?_) fun x h => ?_
  · rw [upd_ne (fun z => by rw [z, hq] at h; cases h)]; exact h
  · by_cases hx : x = q
    · rw [hx, upd_same]; simp
    · rw [upd_ne hx]; exact h.elim (fd.d x) fun z => (hx z).elim
theorem FD.newK {H : Hp} {F : AS} {q : Addr} {o : HO} (fd : FD H F) (hq : H q = none) : FD (L2.upd H q o) F := (fd.new hq).less fun _ => .inl
/-- a write at a thing that is no table -/
theorem FD.upd {H : Hp} {F : AS} {q : Addr} {o o' : HO} (fd : FD H F) (hq : H q = some o) (hn : ¬ Hard o) : FD (L2.upd H q o') F := by
  refine fd.hard (fun a u h hu => ?_) fun x h => ?_
  · rw [upd_ne (fun z => by rw [z, hq] at h; cases h; exact hn hu)]; exact h
  · by_cases hx : x = q
    · rw [hx, upd_same]; simp
    · rw [upd_ne hx]; exact fd.d x h
theorem not_hard_lst {vs : List V} : ¬ Hard (.lst vs) := fun h => by rcases h with ⟨_, h⟩ | ⟨_, h⟩ <;> cases h
theorem not_hard_ins {c : Addr} {dx : Addr} {fs : List (Str × V)} : ¬ Hard (.ins c dx fs) := fun h => by rcases h with ⟨_, h⟩ | ⟨_, h⟩ <;> cases h
theorem not_hard_dK {k : List (L2.Key × V)} : ¬ Hard (.dK k) := fun h => by rcases h with ⟨_, h⟩ | ⟨_, h⟩ <;> cases h
theorem not_hard_dct {ks : List D} {us : List V} {u : HO} (h : DctO ks us u) : ¬ Hard u := fun z => by
  obtain ⟨kvs, rfl, _⟩ := h
  rcases z with ⟨_, h⟩ | ⟨_, h⟩ <;> cases h
def Nw (S : AS) (H : Hp) (T : AS) : Prop := ∀ a, T a → S a ∨ H a = none
structure Ch (S : AS) (H : Hp) (F : AS) (H' : Hp) (F' : AS) : Prop where
  keep : ∀ a o, Kt H a o → ¬ S a → H' a = some o
  new : ∀ a, F' a → F a ∨ H a = none
  old : ∀ a, F a → ¬ S a → F' a
  dom : ∀ a, H a ≠ none → H' a ≠ none
  fd : FD H' F'
/-- ready: the slots stand -/
structure Rdy (H : Hp) (F S : AS) (e : Nv) (σ : Sl) : Prop where
  er : ERs H F e σ S
  sf : Sb S F
  fd : FD H F
structure Aft (vb sb : Bool) (σ : Sl) (H : Hp) (F S : AS) (H' : Hp) (F' : AS) (d : D) (v : V) (S1 : AS) (e' : Nv) (S2 : AS) : Prop where
  ch : Ch S H F H' F'
  rep : Rep H' F' d v S1
  er : ERs H' F' e' σ S2
  s1 : vb = true → Sb S1 F'
  s2 : Sb S2 F'
  n2 : Nw S H S2
  dj : vb = true → Dj S1 S2
  n1 : vb = true → Nw S H S1
  ext : sb = true → ∀ a o, Kt H a o → H' a = some o
structure AftT (sb : Bool) (σ : Sl) (H : Hp) (F S : AS) (H' : Hp) (F' : AS) (e' : Nv) (S2 : AS) : Prop where
  ch : Ch S H F H' F'
  er : ERs H' F' e' σ S2
  s2 : Sb S2 F'
  n2 : Nw S H S2
  ext : sb = true → ∀ a o, Kt H a o → H' a = some o
def Vx (p : Pm) (σ : Sl) (H : Hp) (F S : AS) (x : D) (e' : Nv) : Prop :=
  ∀ cls dd H' F' S2, AftT false σ H F S H' F' e' S2 → p.XR H' F' x cls dd → p.Wx cls dd σ H'
def Vp (p : Pm) (vb sb : Bool) (σ : Sl) (H : Hp) (F S : AS) (r : R D) (Q : VK) : Prop := match r with
  | .ok d e' => ∀ v H' F' S1 S2, Aft vb sb σ H F S H' F' d v S1 e' S2 → Q v H'
  | .ex x e' => Vx p σ H F S x e'
  | .bad => False
def Vt (p : Pm) (sb : Bool) (σ : Sl) (H : Hp) (F S : AS) (r : R Bool) (Q : Bool → Hp → Prop) : Prop := match r with
  | .ok b e' => ∀ H' F' S2, AftT sb σ H F S H' F' e' S2 → Q b H'
  | .ex x e' => Vx p σ H F S x e'
  | .bad => False
def tE (p : Pm) (x : E) : TE := fun σ H Q => ∃ F S e, Rdy H F S e σ ∧ Vp p (isV x) (smp x) σ H F S (ev p.C x e) Q
def tT (p : Pm) (x : E) : TT := fun σ H Q => ∃ F S e, Rdy H F S e σ ∧ Vt p (smp x) σ H F S (asB (ev p.C x e)) Q
section
variable {p : Pm} {σ : Sl} {H H' H1 H2 H3 : Hp} {F F' F1 F2 F3 S S1 S2 S3 T1 T2 U1 U2 : AS} {e e' e1 e2 e3 : Nv} {d d1 d2 : D} {v v1 v2 : V} {vb sb vb1 sb1 vb2 sb2 : Bool}
theorem Ch.refl (fd : FD H F) : Ch S H F H F := ⟨fun _ _ e _ => e.1, fun _ h => .inl h, fun _ h _ => h, fun _ h => h, fd⟩
theorem Ch.trans (a : Ch S H F H1 F1) (n : Nw S H S1) (b : Ch S1 H1 F1 H2 F2) (fd : FD H F) : Ch S H F H2 F2 where
  keep := fun x o h ns => b.keep x o ⟨a.keep x o h ns, h.2⟩ fun q => (n x q).elim ns fun z => by rw [h.1] at z; cases z
  new := fun x h => (b.new x h).elim (a.new x) fun z => .inr (Classical.byContradiction fun w => a.dom x w z)
  old := fun x h ns => b.old x (a.old x h ns) fun q => (n x q).elim ns (fd x h)
  dom := fun x h => b.dom x (a.dom x h)
  fd := b.fd
theorem Nw.trans (a : Nw S H S1) (c : Ch S H F H1 F1) (b : Nw S1 H1 S2) : Nw S H S2 := fun x h => (b x h).elim (a x) fun z => .inr (Classical.byContradiction fun w => c.dom x w z)
theorem Rdy.of_aft (a : Aft vb sb σ H F S H1 F1 d v S1 e1 S2) : Rdy H1 F1 S2 e1 σ := ⟨a.er, a.s2, a.ch.fd⟩
theorem Rdy.of_aftT (a : AftT sb σ H F S H1 F1 e1 S2) : Rdy H1 F1 S2 e1 σ := ⟨a.er, a.s2, a.ch.fd⟩
theorem Rdy.refl (r : Rdy H F S e σ) : AftT true σ H F S H F e S := ⟨.refl r.fd, r.er, r.sf, fun _ h => .inl h, fun _ _ _ h => h.1⟩
theorem Aft.t (a : Aft vb sb σ H F S H1 F1 d v S1 e1 S2) : AftT sb σ H F S H1 F1 e1 S2 := ⟨a.ch, a.er, a.s2, a.n2, a.ext⟩
theorem AftT.weak (a : AftT sb σ H F S H1 F1 e1 S2) : AftT false σ H F S H1 F1 e1 S2 := ⟨a.ch, a.er, a.s2, a.n2, fun h => by cases h⟩
theorem AftT.imp (a : AftT sb1 σ H F S H1 F1 e1 S2) (h : sb2 = true → sb1 = true) : AftT sb2 σ H F S H1 F1 e1 S2 := ⟨a.ch, a.er, a.s2, a.n2, fun z => a.ext (h z)⟩
theorem AftT.trans {σ1 : Sl} (r : FD H F) (a : AftT sb1 σ1 H F S H1 F1 e1 S1) (b : AftT sb2 σ H1 F1 S1 H2 F2 e2 S2) : AftT (sb1 && sb2) σ H F S H2 F2 e2 S2 :=
  ⟨a.ch.trans a.n2 b.ch r, b.er, b.s2, a.n2.trans a.ch b.n2, fun h x o q => by
    rw [Bool.and_eq_true] at h
    exact b.ext h.2 x o ⟨a.ext h.1 x o q, q.2⟩⟩
/-- the first value behind the second's evaluation -/
theorem Aft.keep (a : Aft vb1 sb1 σ H F S H1 F1 d v S1 e1 S2) (b : AftT sb2 σ H1 F1 S2 H2 F2 e2 T2) (h : vb1 = true ∨ sb2 = true) : Rep H2 F2 d v S1 := by
  refine Rep.step d v S1 a.rep (fun x o q z => ?_) b.ch.new
  rcases h with h | h
  · rcases z with z | z
    · exact b.ch.keep x o q fun w => z (a.s2 x w)
    · exact b.ch.keep x o q fun w => a.dj h x z w
  · exact b.ext h x o q
theorem Aft.keepS (a : Aft vb1 sb1 σ H F S H1 F1 d v S1 e1 S2) (b : AftT sb2 σ H1 F1 S2 H2 F2 e2 T2) (h : vb1 = true) : Sb S1 F2 ∧ Dj S1 T2 ∧ Nw S H S1 :=
  ⟨fun x q => b.ch.old x (a.s1 h x q) fun w => a.dj h x q w, fun x q w => (b.n2 x w).elim (fun z => a.dj h x q z) fun z => a.ch.fd x (a.s1 h x q) z, a.n1 h⟩
theorem Aft.keepJ (a : Aft vb1 sb1 σ H F S H1 F1 d v S1 e1 S2) (b : Aft vb2 sb2 σ H1 F1 S2 H2 F2 d2 v2 T1 e2 T2) (h : vb1 = true) (h2 : vb2 = true) : Dj S1 T1 :=
  fun x q w => (b.n1 h2 x w).elim (fun z => a.dj h x q z) fun z => a.ch.fd x (a.s1 h x q) z
/-- a plain value is the end -/
theorem AftT.val (a : AftT sb σ H F S H1 F1 e1 S2) (r : Rep H1 F1 d v nos) : Aft vb sb σ H F S H1 F1 d v nos e1 S2 :=
  ⟨a.ch, r, a.er, fun _ => sb_nos, a.s2, a.n2, fun _ => dj_nos, fun _ => fun _ h => h.elim, a.ext⟩
/-- a new object -/
theorem AftT.new {o : HO} {q : Addr} (fd : FD H F) (a : AftT sb σ H F S H1 F1 e1 S2) (hq : H1 q = none) : AftT sb σ H F S (upd H1 q o) (fun x => F1 x ∨ x = q) e1 S2 := by
  have kp : ∀ x o', H1 x = some o' → upd H1 q o x = some o' := fun x o' h => by rw [upd_ne (fun z => by rw [z, hq] at h; cases h)]; exact h
  have nd : ∀ x, F x → x ≠ q := fun x h z => a.ch.dom x (fd x h) (z ▸ hq)
  refine ⟨⟨fun x o' h ns => kp x o' (a.ch.keep x o' h ns), fun x h => h.elim (a.ch.new x) fun z => .inr ?_, fun x h ns => .inl (a.ch.old x h ns), fun x h => ?_, a.ch.fd.new hq⟩, ?_, fun x h => .inl (a.s2 x h), a.n2, fun h x o' h' => kp x o' (a.ext h x o' h')⟩
  · subst z
    exact Classical.byContradiction fun w => a.ch.dom x w hq
  · by_cases hx : x = q
    · rw [hx, upd_same]; simp
    · rw [upd_ne hx]; exact a.ch.dom x h
  · exact a.er.step (fun x o' h _ => kp x o' h.1) fun x h => h.imp_right fun z => by rw [z]; exact hq
theorem upd_keep {o o' : HO} {q x : Addr} (hq : H1 q = none) (h : H1 x = some o') : upd H1 q o x = some o' := by rw [upd_ne (fun z => by rw [z, hq] at h; cases h)]; exact h
theorem Rep.newF {o : HO} {q : Addr} (hq : H1 q = none) (r : Rep H1 F1 d v S1) : Rep (upd H1 q o) (fun x => F1 x ∨ x = q) d v S1 :=
  Rep.step d v S1 r (fun x o' h _ => upd_keep hq h.1) fun x h => h.imp_right fun z => by rw [z]; exact hq
theorem RepL.newF {o : HO} {q : Addr} {ds : List D} {vs : List V} (hq : H1 q = none) (r : RepL H1 F1 ds vs S1) : RepL (upd H1 q o) (fun x => F1 x ∨ x = q) ds vs S1 :=
  RepL.step ds vs S1 r (fun x o' h _ => upd_keep hq h.1) fun x h => h.imp_right fun z => by rw [z]; exact hq
/-- a new list of shared things -/
theorem AftT.lst {q : Addr} {ds : List D} {vs : List V} (fd : FD H F) (a : AftT sb σ H F S H1 F1 e1 S2) (hq : H1 q = none) (r : RepL H1 F1 ds vs nos) (hz : vs.length ≤ sizeLine) :
    Aft vb sb σ H F S (upd H1 q (.lst vs)) (fun x => F1 x ∨ x = q) (.lst true ds) (.ref q) (fun x => x = q) e1 S2 := by
  have b := a.new (o := .lst vs) fd hq
  refine ⟨b.ch, ⟨q, vs, rfl, hz, RepL.newF hq r, .inr ⟨rfl, upd_same, rfl⟩⟩, b.er, fun _ x h => .inr h, b.s2, b.n2, fun _ x h w => ?_, fun _ x h => ?_, b.ext⟩
  · subst h
    exact a.ch.fd x (a.s2 x w) hq
  · subst h
    exact .inr (Classical.byContradiction fun w => a.ch.dom x w hq)
/-- a new dict of shared things -/
theorem AftT.dct {q : Addr} {ks ds : List D} {us : List V} {u : HO} (fd : FD H F) (a : AftT sb σ H F S H1 F1 e1 S2) (hq : H1 q = none) (r : RepL H1 F1 ds us nos) (hd : DctO ks us u) (hz : us.length ≤ sizeLine) :
    Aft vb sb σ H F S (upd H1 q u) (fun x => F1 x ∨ x = q) (.dct true ks ds) (.ref q) (fun x => x = q) e1 S2 := by
  have b := a.new (o := u) fd hq
  refine ⟨b.ch, ⟨q, us, nos, u, rfl, hz, hd, RepL.newF hq r, .inr ⟨rfl, upd_same, rfl, fun h => h, sb_nos⟩⟩, b.er, fun _ x h => .inr h, b.s2, b.n2, fun _ x h w => ?_, fun _ x h => ?_, b.ext⟩
  · subst h
    exact a.ch.fd x (a.s2 x w) hq
  · subst h
    exact .inr (Classical.byContradiction fun w => a.ch.dom x w hq)
/-- a new tuple -/
theorem AftT.tup {q : Addr} {ds : List D} {vs : List V} (fd : FD H F) (a : AftT sb σ H F S H1 F1 e1 S2) (hq : H1 q = none) (r : RepL H1 F1 ds vs S1) (hz : vs.length ≤ sizeLine) (h1 : Sb S1 F1) (dj : Dj S1 S2) (n1 : Nw S H S1) :
    Aft vb sb σ H F S (upd H1 q (.tup vs)) F1 (.tup ds) (.ref q) S1 e1 S2 := by
  have kp : ∀ x o', H1 x = some o' → upd H1 q (.tup vs) x = some o' := fun x o' h => upd_keep hq h
  have nf : ∀ x, F1 x → x ≠ q := fun x h z => a.ch.fd x h (z ▸ hq)
  refine ⟨⟨fun x o' h ns => kp x o' (a.ch.keep x o' h ns), a.ch.new, a.ch.old, fun x h => ?_, a.ch.fd.newK hq⟩, ⟨q, vs, rfl, .inl upd_same, fun h => nf q h rfl, hz, RepL.step ds vs S1 r (fun x o' h _ => kp x o' h.1) fun x h => .inl h⟩,
    a.er.step (fun x o' h _ => kp x o' h.1) fun x h => .inl h, fun _ => h1, a.s2, a.n2, fun _ => dj, fun _ => n1, fun h x o' q => kp x o' (a.ext h x o' q)⟩
  · by_cases hx : x = q
    · rw [hx, upd_same]; simp
    · rw [upd_ne hx]; exact a.ch.dom x h
/-- given up -/
theorem Aft.give (fd : FD H F) (a : Aft vb sb σ H F S H1 F1 d v S1 e1 S2) (hv : vb = true) : AftT sb σ H F S H1 (fun x => F1 x ∧ ¬ S1 x) e1 S2 ∧ Rep H1 (fun x => F1 x ∧ ¬ S1 x) d.fz v nos := by
  refine ⟨⟨⟨a.ch.keep, fun x h => a.ch.new x h.1, fun x h ns => ⟨a.ch.old x h ns, fun q => (a.n1 hv x q).elim ns (fd x h)⟩, a.ch.dom, a.ch.fd.less fun x h => h.1⟩, a.er.less fun x h => h.1, fun x h => ⟨a.s2 x h, fun q => a.dj hv x q h⟩, a.n2, a.ext⟩, Rep.frz d v S1 a.rep⟩
end
end Vm
namespace Vm
open PySem PySem.Spec L2
variable [CN]

/-- what an operation hands back: a new list, or a thing that stands -/
def Out (H : Hp) (F : AS) (d : D) (Q : VK) : Prop := match d with
  | .lst true ds => ∀ q vs, H q = none → RepL H F ds vs nos → vs.length ≤ sizeLine → Q (.ref q) (upd H q (.lst vs))
  | .tup ds => (∀ v, Rep H F (.tup ds) v nos → Q v H) ∧ ∀ q vs, H q = none → RepL H F ds vs nos → vs.length ≤ sizeLine → Q (.ref q) (upd H q (.tup vs))
  | .dct true ks ds => ∀ q us u, H q = none → RepL H F ds us nos → DctO ks us u → us.length ≤ sizeLine → Q (.ref q) (upd H q u)
  | d => ∀ v, Rep H F d v nos → Q v H
theorem Out.fz {H : Hp} {F : AS} {d : D} {v : V} {Q : VK} (out : Out H F d Q) (r : Rep H F d v nos) : Q v H := by
  unfold Out at out
  split at out
  · obtain ⟨a', vs', _, _, _, c⟩ := r
    rcases c with ⟨c, _⟩ | ⟨_, _, c⟩
    · cases c
    · exact c.elim
  · exact out.1 _ r
  · obtain ⟨a', us, T, u, _, _, _, _, c⟩ := r
    rcases c with ⟨c, _⟩ | ⟨_, _, c, _⟩
    · cases c
    · exact c.elim
  · exact out _ r
theorem Out.of {p : Pm} {vb sb : Bool} {σ : Sl} {H H2 : Hp} {F F2 S T2 : AS} {d : D} {e2 : Nv} {Q : VK} (fd : FD H F) (a : AftT sb σ H F S H2 F2 e2 T2)
    (h : ∀ v H' F' S1 S2, Aft vb sb σ H F S H' F' d v S1 e2 S2 → Q v H') : Out H2 F2 d Q := by
  unfold Out
  split
  · intro q vs hq r hz
    exact h _ _ _ _ _ (a.lst fd hq r hz)
  · exact ⟨fun v r => h _ _ _ _ _ (a.val r), fun q vs hq r hz => h _ _ _ _ _ (a.tup fd hq r hz sb_nos dj_nos fun _ z => z.elim)⟩
  · intro q us u hq r hd hz
    exact h _ _ _ _ _ (a.dct fd hq r hd hz)
  · intro v r
    exact h _ _ _ _ _ (a.val r)
/-- two values, an operation -/
def rD2 (f : D → D → Option D) : R2 := fun x y H Q => ∃ F a b S1 S2 d, Rep H F a x S1 ∧ Rep H F b y S2 ∧ f a b = some d ∧ Out H F d Q
theorem okS_app {x y : Str} (hx : okS x) (hy : okS y) (h : x.length + y.length ≤ 1000000) : okS (x ++ y) := by
  obtain ⟨h1, h2⟩ := hx
  obtain ⟨h3, h4⟩ := hy
  have e : (x ++ y).cps = x.cps ++ y.cps := rfl
  refine ⟨?_, ?_⟩
  · unfold PyData.strOk at *
    rw [e, Array.all_append, h1, h3]; rfl
  · show (x ++ y).cps.size ≤ sizeLine
    rw [e, Array.size_append, sizeLine_eq]
    have : x.cps.size + y.cps.size ≤ 1000000 := h
    omega
theorem lim_ok {n : Nat} (h : n ≤ 1000000) : n ≤ sizeLine := by rw [sizeLine_eq]; omega
theorem lim_lt {n : Nat} (h : n < 1000000) : n < sizeLine := by rw [sizeLine_eq]; omega
theorem okS_rep {x : Str} {n : Nat} (hx : okS x) (hn : n ≤ 1000) (hl : x.length ≤ 1000) : okS ⟨(List.replicate n x.cps.toList).flatten.toArray⟩ := by
  obtain ⟨h1, h2⟩ := hx
  refine ⟨?_, ?_⟩
  · unfold PyData.strOk at *
    simp only [List.all_toArray, List.all_eq_true, List.mem_flatten, List.mem_replicate, decide_eq_true_eq]
    rintro c ⟨l, ⟨_, rfl⟩, hc⟩
    rw [← Array.all_toList, List.all_eq_true] at h1
    simpa using h1 c hc
  · show (List.replicate n x.cps.toList).flatten.toArray.size ≤ sizeLine
    rw [List.size_toArray, List.length_flatten, List.map_replicate, List.sum_replicate_nat, sizeLine_eq]
    have h3 : x.cps.toList.length ≤ 1000 := by simpa [Str.length] using hl
    have : n * x.cps.toList.length ≤ 1000 * 1000 := Nat.mul_le_mul hn h3
    omega
theorem foldl_app (l : List Nat) : ∀ (n : Nat) (acc : Array Nat), (List.replicate n l.toArray).foldl (· ++ ·) acc = acc ++ (List.replicate n l).flatten.toArray
  | 0, acc => by simp
  | n + 1, acc => by
    rw [List.replicate_succ, List.foldl_cons, foldl_app l n, List.replicate_succ, List.flatten_cons]
    simp
section
variable {X : Cx}
theorem mul64 {i j : Int} (h : i.natAbs < 2 ^ 64 ∨ j.natAbs < 2 ^ 64) : CMul i j := by
  unfold CMul
  rcases h with h | h
  · left; omega
  · right; omega
theorem cat_ok {pins : List (Addr × Obj)} {s : Shared} {σ : Sl} {H : Hp} {l b : Addr} {xs zs : List V} {Q : VK} (I : Inv X pins σ H s) (h1 : Rd H l (.lst xs)) (h2 : Rd H b (.lst zs)) (hz : xs.length + zs.length ≤ sizeLine)
    (q : ∀ p, H p = none → Q (.ref p) (upd H p (.lst (xs ++ zs)))) : wpAny (model X.prog X.w) X.A (binaryOp .Add (.ref l) (.ref b)) (EP X pins σ Q) X.xe s := by
  obtain ⟨z, its, n, r, e⟩ := h1.ok I.hok
  obtain ⟨z2, its2, n2, r2, e2⟩ := h2.ok I.hok
  have hl := r.length
  have hl2 := r2.length
  refine PySem.P.add_list e e2 ?_ (by rw [List.size_toArray, List.size_toArray]; omega)
  have ea : its.toArray ++ its2.toArray = (its ++ its2).toArray := by simp
  rw [ea]
  exact ⟨.ref _, _, I.lnew (t' := s.toks) (r.append r2) (by rw [List.length_append]; omega), rfl, q _ I.fresh⟩
theorem Rep.lst_inv {H : Hp} {F : AS} {o : Bool} {ds : List D} {v : V} {S : AS} (h : Rep H F (.lst o ds) v S) : ∃ a vs, v = .ref a ∧ vs.length ≤ sizeLine ∧ RepL H F ds vs nos ∧ Rd H a (.lst vs) := by
  obtain ⟨a, vs, e, z, l, c⟩ := h
  refine ⟨a, vs, e, z, l, ?_⟩
  rcases c with ⟨_, r, _⟩ | ⟨_, r, _⟩
  · exact r
  · exact .inl r
theorem Rep.tup_inv {H : Hp} {F : AS} {ds : List D} {v : V} {S : AS} (h : Rep H F (.tup ds) v S) : ∃ a vs, v = .ref a ∧ vs.length ≤ sizeLine ∧ RepL H F ds vs S ∧ Rd H a (.tup vs) := by
  obtain ⟨a, vs, e, r, f, z, l⟩ := h
  exact ⟨a, vs, e, z, l, r⟩
theorem RepL.rep {H : Hp} {F : AS} {ds : List D} {vs : List V} (r : RepL H F ds vs nos) : ∀ n : Nat, RepL H F (List.replicate n ds).flatten (List.replicate n vs).flatten nos
  | 0 => RepL.nil
  | n + 1 => by
    rw [List.replicate_succ, List.replicate_succ, List.flatten_cons, List.flatten_cons]
    exact r.app (RepL.rep r n)
theorem rep_len {α : Type} (xs : List α) : ∀ n : Nat, (List.replicate n xs).flatten.length = n * xs.length
  | 0 => by simp
  | n + 1 => by rw [List.replicate_succ, List.flatten_cons, List.length_append, rep_len xs n, Nat.succ_mul, Nat.add_comm]
theorem opD_bin (o : Operator) : OpR X (binaryOp o) (rD2 (binD o)) := by
  intro pins s σ H x y v u Q I rx ry h
  obtain ⟨F, a, b, S1, S2, d, ra, rb, e, out⟩ := h
  cases o <;> (first | (cases e; done) | skip) <;> cases a <;> (first | (cases e; done) | skip) <;> cases b <;> (first | (cases e; done) | skip)
  · -- int + int
    cases ra; cases rb
    cases e
    exact op_add pins s σ H _ _ v u Q I rx ry ⟨_, _, rfl, rfl, out _ rfl⟩
  · obtain ⟨rfl, o1⟩ := ra
    obtain ⟨rfl, o2⟩ := rb
    simp only [binD] at e
    split at e
    · rename_i hz
      cases e
      exact op_add_str pins s σ H _ _ v u Q I rx ry ⟨_, _, rfl, rfl, lim_ok hz, out _ ⟨rfl, okS_app o1 o2 hz⟩⟩
    · cases e
  · obtain ⟨l, vs, rfl, z1, l1, q1⟩ := ra.lst_inv
    obtain ⟨l2, vs2, rfl, z2, l2', q2⟩ := rb.lst_inv
    simp only [binD] at e
    split at e
    · rename_i hz
      cases e
      cases rx; cases ry
      have hz' : vs.length + vs2.length ≤ sizeLine := by rw [l1.len, l2'.len]; exact lim_ok hz
      exact cat_ok I q1 q2 hz' fun q hq => out q _ hq (l1.app l2') (by rw [List.length_append]; exact hz')
    · cases e
  · cases ra; cases rb
    cases e
    exact op_sub pins s σ H _ _ v u Q I rx ry ⟨_, _, rfl, rfl, out _ rfl⟩
  · cases ra; cases rb
    simp only [binD] at e
    split at e
    · rename_i hz
      cases e
      exact op_mul pins s σ H _ _ v u Q I rx ry ⟨_, _, rfl, rfl, mul64 hz, out _ rfl⟩
    · cases e
  · obtain ⟨rfl, o1⟩ := ra
    cases rb
    simp only [binD] at e
    split at e
    · rename_i i j hz
      obtain ⟨h0, h1, h2⟩ := hz
      cases e
      obtain ⟨t, rfl⟩ := rx
      obtain ⟨t', rfl⟩ := ry
      have q := out _ ⟨rfl, okS_rep (n := j.toNat) o1 (by omega) h2⟩
      have hx : i.length ≤ 1000 := h2
      refine PySem.P.mul_str (by simp; omega) (fun hn _ => ?_) (fun hn _ => ?_) ?_
      · have : (1000 : Int) ≤ (2 ^ 63 - 1) / j := by
          rw [Int.le_ediv_iff_mul_le (by omega)]; omega
        omega
      · have h3 : i.length * j.toNat ≤ 1000 * 1000 := Nat.mul_le_mul h2 (by omega)
        show decide (i.length * j.toNat > sizeLine) = false
        rw [decide_eq_false_iff_not, sizeLine_eq]
        omega
      · have hz2 := (okS_rep (n := j.toNat) o1 (by omega) h2).2
        by_cases c1 : j < 1
        · rw [if_pos c1]
          have e0 : (⟨(List.replicate j.toNat i.cps.toList).flatten.toArray⟩ : Str) = Str.empty := by
            have : j.toNat = 0 := by omega
            rw [this]; rfl
          rw [e0] at q
          exact ⟨by decide, .str _, H, I.tok _, ⟨_, rfl⟩, q⟩
        · rw [if_neg c1]
          by_cases c2 : (j == 1 || i.length == 0) = true
          · rw [if_pos c2]
            have e0 : (⟨(List.replicate j.toNat i.cps.toList).flatten.toArray⟩ : Str) = i := by
              rw [Bool.or_eq_true] at c2
              rcases c2 with c2 | c2
              · have : j.toNat = 1 := by
                  have := of_decide_eq_true c2
                  omega
                rw [this]; simp
              · have h0 : i.cps.size = 0 := by simpa [Str.length] using c2
                have h1 : i.cps = #[] := Array.eq_empty_of_size_eq_zero h0
                obtain ⟨c⟩ := i
                simp only at h1
                subst h1
                simp
            rw [e0] at q
            exact ⟨.str _, H, I, ⟨_, rfl⟩, q⟩
          · rw [if_neg c2]
            have e0 : (⟨(List.replicate j.toNat i.cps).foldl (· ++ ·) #[]⟩ : Str) = ⟨(List.replicate j.toNat i.cps.toList).flatten.toArray⟩ := by
              have := foldl_app i.cps.toList j.toNat #[]
              simpa using this
            rw [e0]
            exact ⟨hz2, .str _, H, I.tok _, ⟨_, rfl⟩, q⟩
    · cases e
  · rename_i oo ds j
    cases rb
    simp only [binD] at e
    split at e
    · rename_i hz
      obtain ⟨rfl, hz⟩ := hz
      cases e
      obtain ⟨l, vs, rfl, z, l1, q1⟩ := id ra
      have q2 : H l = some (.lst vs) := by
        rcases q1 with ⟨q, _⟩ | ⟨_, q, _⟩
        · cases q
        · exact q
      have h9 : vs.length * j.toNat ≤ sizeLine := by
        rw [l1.len, sizeLine_eq]
        have := Nat.mul_le_mul hz.2.2 (show j.toNat ≤ 1000 by omega)
        omega
      refine op_rep pins s σ H _ _ v u Q I rx ry ⟨l, j, vs, rfl, rfl, q2, by omega, by omega, h9, fun q hq => out q _ hq (l1.rep _) ?_⟩
      rw [rep_len, Nat.mul_comm]
      exact h9
    · cases e
  · cases ra; cases rb
    simp only [binD] at e
    split at e
    · rename_i hz
      cases e
      exact op_mod pins s σ H _ _ v u Q I rx ry ⟨_, _, rfl, rfl, hz, out _ rfl⟩
    · cases e
  · cases ra; cases rb
    simp only [binD] at e
    split at e
    · rename_i hz
      cases e
      exact op_pow pins s σ H _ _ v u Q I rx ry ⟨_, _, rfl, rfl, ⟨hz.1, by omega, hz.2.2⟩, out _ rfl⟩
    · cases e
  · cases ra; cases rb
    simp only [binD] at e
    split at e
    · rename_i hz
      cases e
      exact op_shl pins s σ H _ _ v u Q I rx ry ⟨_, _, rfl, rfl, ⟨hz.1, by omega, hz.2.2⟩, out _ rfl⟩
    · cases e
  · cases ra; cases rb
    simp only [binD] at e
    split at e
    · rename_i hz
      cases e
      exact op_shr pins s σ H _ _ v u Q I rx ry ⟨_, _, rfl, rfl, hz, out _ rfl⟩
    · cases e
  · cases ra; cases rb
    cases e
    exact op_and pins s σ H _ _ v u Q I rx ry ⟨_, _, rfl, rfl, out _ rfl⟩
  · cases ra; cases rb
    simp only [binD] at e
    split at e
    · rename_i hz
      cases e
      exact op_fdivW pins s σ H _ _ v u Q I rx ry ⟨_, _, rfl, rfl, wide_div (b := 9000) hz.1 hz.2 (by decide) (by decide), out _ rfl⟩
    · cases e
end
/-! ### data as the library has them -/
theorem toPyL_map : ∀ ds : List D, toPyL ds = ds.map toPy
  | [] => rfl
  | d :: ds => by rw [toPyL, List.map_cons, toPyL_map ds]
mutual
theorem eqv_toPy : ∀ (a b : D) (n : Nat), shal n a = true → PyData.eqv (toPy a) (toPy b) = eqD a b
  | .non, b, _, _ => by cases b <;> simp [toPy, PyData.eqv, eqD]
  | .bl _, b, _, _ => by cases b <;> simp [toPy, PyData.eqv, eqD]
  | .int _, b, _, _ => by cases b <;> simp [toPy, PyData.eqv, eqD]
  | .str _, b, _, _ => by cases b <;> simp [toPy, PyData.eqv, eqD]
  | .tup xs, b, n, h => by
    cases b with
    | tup ys =>
      cases n with
      | zero => simp [shal] at h
      | succ n => simp only [toPy, PyData.eqv, eqD]; exact eqvL_toPy xs ys n (by simpa [shal] using h)
    | _ => simp [toPy, PyData.eqv, eqD]
  | .lst _ xs, b, n, h => by
    cases b with
    | lst _ ys =>
      cases n with
      | zero => simp [shal] at h
      | succ n => simp only [toPy, PyData.eqv, eqD]; exact eqvL_toPy xs ys n (by simpa [shal] using h)
    | _ => simp [toPy, PyData.eqv, eqD]
  | .dct .., _, n, h => by simp [shal] at h
  | .ins .., _, n, h => by simp [shal] at h
theorem eqvL_toPy : ∀ (a b : List D) (n : Nat), (∀ d ∈ a, shal n d = true) → PyData.eqvAll (toPyL a) (toPyL b) = eqL a b
  | [], [], _, _ => rfl
  | [], _ :: _, _, _ => rfl
  | _ :: _, [], _, _ => rfl
  | x :: xs, y :: ys, n, h => by
    simp only [toPyL, PyData.eqvAll, eqL]
    rw [eqv_toPy x y n (h x (by simp)), eqvL_toPy xs ys n fun d hd => h d (by simp [hd])]
end
mutual
theorem Rep.dp {K : PySem.W.Frag} {H : Hp} {F : AS} : ∀ (d : D) (v : V) (S : AS) (n : Nat), shal n d = true → Rep H F d v S → Dp K H v (toPy d)
  | .non, _, _, _, _, h => by cases h; exact .non
  | .bl b, _, _, _, _, h => by cases h; exact .bl b
  | .int i, _, _, _, _, h => by cases h; exact .int i
  | .str s, _, _, _, _, h => by obtain ⟨rfl, _⟩ := h; exact .str s
  | .tup ds, _, S, 0, q, h => by simp [shal] at q
  | .tup ds, _, S, n + 1, q, h => by
    obtain ⟨a, vs, rfl, r, f, z, l⟩ := h
    exact .tup (.inl r) (RepL.dp ds vs S n (by simpa [shal] using q) l)
  | .lst o ds, v, S, 0, q, h => by simp [shal] at q
  | .lst o ds, v, S, n + 1, q, h => by
    obtain ⟨a, vs, e, z, l, c⟩ := id h
    obtain ⟨a', vs', e', z', l', r⟩ := Rep.lst_inv h
    subst e'
    exact .lst (.inl r) (RepL.dp ds vs' nos n (by simpa [shal] using q) l')
  | .dct .., _, _, n, h, _ => by simp [shal] at h
  | .ins .., _, _, n, h, _ => by simp [shal] at h
theorem RepL.dp {K : PySem.W.Frag} {H : Hp} {F : AS} : ∀ (ds : List D) (vs : List V) (S : AS) (n : Nat), (∀ d ∈ ds, shal n d = true) → RepL H F ds vs S → DpAll K H vs (toPyL ds)
  | [], _, _, _, _, h => by rw [show _ = [] from h]; exact .nil
  | d :: ds, vs, S, n, q, h => by
    obtain ⟨v, r, S1, S2, rfl, h1, h2, _⟩ := h
    exact .cons (Rep.dp d v S1 n (q d (by simp)) h1) (RepL.dp ds r S2 n (fun x hx => q x (by simp [hx])) h2)
end
mutual
theorem Rep.lay {H : Hp} {F : AS} : ∀ (d : D) (v : V) (S : AS) (n : Nat), shal n d = true → Rep H F d v S → (toPy d).canLay0 = true
  | .non, _, _, _, _, h => rfl
  | .bl b, _, _, _, _, h => rfl
  | .int i, _, _, _, _, h => rfl
  | .str s, _, _, _, _, h => by obtain ⟨rfl, h, _⟩ := h; simpa [toPy, PyData.canLay0] using h
  | .tup ds, _, S, 0, q, h => by simp [shal] at q
  | .tup ds, _, S, n + 1, q, h => by
    obtain ⟨a, vs, rfl, r, f, z, l⟩ := h
    simpa [toPy, PyData.canLay0] using RepL.lay ds vs S n (by simpa [shal] using q) l
  | .lst o ds, v, S, 0, q, h => by simp [shal] at q
  | .lst o ds, v, S, n + 1, q, h => by
    obtain ⟨a, vs, e, z, l, c⟩ := h
    simpa [toPy, PyData.canLay0] using RepL.lay ds vs nos n (by simpa [shal] using q) l
  | .dct .., _, _, n, h, _ => by simp [shal] at h
  | .ins .., _, _, n, h, _ => by simp [shal] at h
theorem RepL.lay {H : Hp} {F : AS} : ∀ (ds : List D) (vs : List V) (S : AS) (n : Nat), (∀ d ∈ ds, shal n d = true) → RepL H F ds vs S → PyData.canLayAll0 (toPyL ds) = true
  | [], _, _, _, _, h => rfl
  | d :: ds, vs, S, n, q, h => by
    obtain ⟨v, r, S1, S2, rfl, h1, h2, _⟩ := h
    simp only [toPyL, PyData.canLayAll0, Bool.and_eq_true]
    exact ⟨Rep.lay d v S1 n (q d (by simp)) h1, RepL.lay ds r S2 n (fun x hx => q x (by simp [hx])) h2⟩
end
mutual
theorem shal_depth : ∀ (d : D) (n : Nat), shal n d = true → (toPy d).depth ≤ n
  | .non, n, _ => by simp [toPy, PyData.depth]
  | .bl _, n, _ => by simp [toPy, PyData.depth]
  | .int _, n, _ => by simp [toPy, PyData.depth]
  | .str _, n, _ => by simp [toPy, PyData.depth]
  | .tup ds, 0, h => by simp [shal] at h
  | .tup ds, n + 1, h => by
    have := shalL_depth ds n (by simpa [shal] using h)
    simp only [toPy, PyData.depth]; omega
  | .lst _ ds, 0, h => by simp [shal] at h
  | .lst _ ds, n + 1, h => by
    have := shalL_depth ds n (by simpa [shal] using h)
    simp only [toPy, PyData.depth]; omega
  | .dct .., n, h => by simp [shal] at h
  | .ins .., n, h => by simp [shal] at h
theorem shalL_depth : ∀ (ds : List D) (n : Nat), (∀ d ∈ ds, shal n d = true) → PyData.depthAll (toPyL ds) ≤ n
  | [], n, _ => by simp [toPyL, PyData.depthAll]
  | d :: ds, n, h => by
    have h1 := shal_depth d n (h d (by simp))
    have h2 := shalL_depth ds n fun x hx => h x (by simp [hx])
    simp only [toPyL, PyData.depthAll]; omega
end
theorem shaped_of {H : Hp} {F : AS} {d : D} {v : V} {S : AS} {n : Nat} (r : Rep H F d v S) (h : shal n d = true) (hn : n ≤ 64) : SeqAt.shaped (toPy d) = true := by
  unfold SeqAt.shaped
  rw [Rep.lay d v S n h r, Bool.true_and, decide_eq_true_eq]
  exact Nat.le_trans (shal_depth d n h) hn
theorem memD_py (x : D) (n : Nat) : ∀ (ys : List D), (∀ y ∈ ys, shal n y = true) → ((toPyL ys).any fun z => PyData.eqv z (toPy x)) = memD x ys
  | [], _ => rfl
  | y :: ys, h => by
    unfold memD
    rw [toPyL, List.any_cons, List.any_cons, eqv_toPy y x n (h y (by simp)), memD_py x n ys fun z hz => h z (by simp [hz])]
    rfl
theorem flat_of {H : Hp} {F : AS} {d : D} {v : V} {S : AS} (r : Rep H F d v S) (h : shal 0 d = true) : flatV v = true := by
  cases d with
  | non => cases r; rfl
  | bl b => cases r; rfl
  | int i => cases r; rfl
  | str s => obtain ⟨rfl, _⟩ := r; rfl
  | tup ds => simp [shal] at h
  | lst o ds => simp [shal] at h
  | dct o ks ds => simp [shal] at h
  | ins o c fs ds => simp [shal] at h
theorem eqV_of {H : Hp} {F : AS} {d e : D} {v u : V} {S T : AS} (r : Rep H F d v S) (q : Rep H F e u T) (h : shal 0 d = true) (k : shal 0 e = true) : eqV v u = eqD d e := by
  cases d <;> (first | (simp [shal] at h; done) | skip) <;> cases e <;> (first | (simp [shal] at k; done) | skip) <;> (first | (obtain ⟨rfl, _⟩ := r) | cases r) <;> (first | (obtain ⟨rfl, _⟩ := q) | cases q) <;> rfl
theorem inV_of {H : Hp} {F : AS} {d : D} {v : V} {S : AS} (r : Rep H F d v S) (h : shal 0 d = true) : ∀ {ys : List D} {us : List V} {T : AS}, RepL H F ys us T → (∀ y ∈ ys, shal 0 y = true) → us.all flatV = true ∧ inV v us = memD d ys
  | [], _, _, q, _ => by rw [show _ = [] from q]; exact ⟨rfl, rfl⟩
  | y :: ys, us, T, q, k => by
    obtain ⟨u, t, S1, S2, rfl, h1, h2, _⟩ := q
    obtain ⟨a, b⟩ := inV_of r h h2 fun z hz => k z (by simp [hz])
    have c := k y (by simp)
    refine ⟨by rw [List.all_cons, flat_of h1 c, a]; rfl, ?_⟩
    unfold inV memD at *
    rw [List.any_cons, List.any_cons, b, eqV_of h1 r c h]
/-! ### dicts -/
theorem Rep.dct_inv {H : Hp} {F : AS} {o : Bool} {ks ds : List D} {v : V} {S : AS} (h : Rep H F (.dct o ks ds) v S) : ∃ a kvs, v = .ref a ∧ kvs.length ≤ sizeLine ∧ RepL H F ds (kvs.map (·.2)) S ∧ H a = some (.dK kvs) ∧ ks = kvs.map (fun p => kD p.1) ∧ ∀ p ∈ kvs, kyOk p.1 := by
  obtain ⟨a, us, T, u, rfl, z, ⟨kvs, rfl, rfl, rfl, ok⟩, l, c⟩ := h
  refine ⟨a, kvs, rfl, by simpa using z, ?_, ?_, rfl, ok⟩
  · rcases c with ⟨_, nt, _⟩ | ⟨_, _, _, _, sb⟩
    · exact l.mono _ _ _ _ fun x t => (nt x t).elim
    · exact l.mono _ _ _ _ sb
  · rcases c with ⟨_, _, r, _⟩ | ⟨_, r, _⟩
    · exact r
    · exact r
theorem eqD_kD : ∀ a b : L2.Key, eqD (kD a) (kD b) = decide (a = b)
  | .inl i, .inl j => by simp [kD, eqD]; rfl
  | .inl i, .inr j => by simp [kD, eqD]
  | .inr i, .inl j => by simp [kD, eqD]
  | .inr i, .inr j => by simp [kD, eqD]; rfl
theorem isK_ok {d : D} (h : isK d = true) : ∃ k, d = kD k := by
  cases d <;> first | (cases h; done) | exact ⟨.inl _, rfl⟩ | exact ⟨.inr _, rfl⟩
theorem Rep.key {H : Hp} {F : AS} {k : L2.Key} {v : V} {S : AS} (h : Rep H F (kD k) v S) : v = kV k ∧ kyOk k := by
  cases k with
  | inl i => cases h; exact ⟨rfl, trivial⟩
  | inr x => obtain ⟨rfl, h⟩ := h; exact ⟨rfl, h⟩
theorem look_rep {H : Hp} {F : AS} {T : AS} (k : L2.Key) : ∀ {kvs : List (L2.Key × V)} {ds : List D}, RepL H F ds (kvs.map (·.2)) T → match look (kD k) (kvs.map fun p => kD p.1) ds with
    | some d => ∃ v, valV kvs k = some v ∧ Rep H F d v T
    | none => valV kvs k = none
  | [], ds, r => by
    cases ds with
    | nil => rfl
    | cons d ds => obtain ⟨v, r', S1, S2, e, _⟩ := r; cases e
  | p :: kvs, [], r => by cases (show (p :: kvs).map (·.2) = [] from r)
  | p :: kvs, d :: ds, r => by
    obtain ⟨v, r', S1, S2, e, h1, h2, dj, s1, s2⟩ := r
    obtain ⟨e1, e2⟩ := List.cons.inj e
    subst e2
    simp only [List.map_cons, look, eqD_kD]
    by_cases hk : p.1 = k
    · rw [decide_eq_true hk, if_pos rfl]
      exact ⟨v, by rw [valV_pos hk]; exact congrArg some e1, h1.mono _ _ _ _ s1⟩
    · rw [decide_eq_false hk, if_neg Bool.false_ne_true]
      have ih := look_rep (T := T) k (kvs := kvs) (h2.mono _ _ _ _ s2)
      rw [valV_neg hk]
      exact ih
theorem mem_valV (k : L2.Key) : ∀ kvs : List (L2.Key × V), memD (kD k) (kvs.map fun p => kD p.1) = (valV kvs k).isSome
  | [] => rfl
  | p :: kvs => by
    unfold memD
    rw [List.map_cons, List.any_cons, eqD_kD]
    by_cases hk : p.1 = k
    · rw [decide_eq_true hk, valV_pos hk]; rfl
    · rw [decide_eq_false hk, valV_neg hk, Bool.false_or]; exact mem_valV k kvs
theorem keys_zip (k : L2.Key) (w : V) : ∀ kvs : List (L2.Key × V), ((kvs.map fun kv => if kv.1 = k then (kv.1, w) else kv).map fun p => kD p.1) = kvs.map (fun p => kD p.1) ∧
    (kvs.map fun kv => if kv.1 = k then (kv.1, w) else kv).map (·.2) = List.zipWith (fun k' v => if k' = k then w else v) (kvs.map (·.1)) (kvs.map (·.2))
  | [] => ⟨rfl, rfl⟩
  | p :: kvs => by
    obtain ⟨a, b⟩ := keys_zip k w kvs
    simp only [List.map_cons, List.zipWith_cons_cons, a, b]
    by_cases h : p.1 = k
    · rw [if_pos h, if_pos h]; exact ⟨rfl, rfl⟩
    · rw [if_neg h, if_neg h]; exact ⟨rfl, rfl⟩
theorem zip_rep {H : Hp} {F T : AS} {k : L2.Key} {d : D} {w : V} (rv : Rep H F d w nos) : ∀ {kvs : List (L2.Key × V)} {ds : List D}, RepL H F ds (kvs.map (·.2)) T → RepL H F (List.zipWith (fun k' v => if eqD k' (kD k) then d else v) (kvs.map fun p => kD p.1) ds) (List.zipWith (fun k' v => if k' = k then w else v) (kvs.map (·.1)) (kvs.map (·.2))) T
  | [], ds, r => by
    cases ds with
    | nil => rfl
    | cons d ds => obtain ⟨v, r', S1, S2, e, _⟩ := r; cases e
  | p :: kvs, [], r => by cases (show (p :: kvs).map (·.2) = [] from r)
  | p :: kvs, d' :: ds, r => by
    obtain ⟨v, r', S1, S2, e, h1, h2, dj, s1, s2⟩ := r
    obtain ⟨e1, e2⟩ := List.cons.inj e
    subst e2
    simp only [List.map_cons, List.zipWith_cons_cons, eqD_kD]
    have ih := zip_rep (k := k) (T := S2) rv (kvs := kvs) h2
    by_cases hk : p.1 = k
    · rw [decide_eq_true hk, if_pos rfl, if_pos hk]
      exact ⟨w, _, nos, S2, rfl, rv, ih, dj_nos, sb_nos, s2⟩
    · rw [decide_eq_false hk, if_neg Bool.false_ne_true, if_neg hk]
      exact ⟨p.2, _, S1, S2, rfl, (show p.2 = v from e1) ▸ h1, ih, dj, s1, s2⟩
theorem snoc_rep {H : Hp} {F : AS} {d : D} {w : V} (rv : Rep H F d w nos) : ∀ {ds : List D} {us : List V} {T : AS}, RepL H F ds us T → RepL H F (ds ++ [d]) (us ++ [w]) T
  | [], us, T, r => by
    rw [show us = [] from r]
    exact ⟨w, [], nos, nos, rfl, rv, rfl, dj_nos, sb_nos, sb_nos⟩
  | d' :: ds, us, T, r => by
    obtain ⟨v, r', S1, S2, rfl, h1, h2, dj, s1, s2⟩ := r
    exact ⟨v, r' ++ [w], S1, S2, rfl, h1, snoc_rep rv h2, dj, s1, s2⟩
theorem putD_rep {H : Hp} {F T : AS} {k : L2.Key} {d : D} {w : V} (rv : Rep H F d w nos) (hk : kyOk k) {kvs : List (L2.Key × V)} {ds : List D} (r : RepL H F ds (kvs.map (·.2)) T) (ok : ∀ p ∈ kvs, kyOk p.1) :
    DctO (putD (kD k) d (kvs.map fun p => kD p.1) ds).1 ((putK kvs k w).map (·.2)) (.dK (putK kvs k w)) ∧ RepL H F (putD (kD k) d (kvs.map fun p => kD p.1) ds).2 ((putK kvs k w).map (·.2)) T := by
  unfold putD putK
  rw [mem_valV, valV_any]
  cases hv : (valV kvs k).isSome with
  | true =>
    rw [if_pos rfl, if_pos rfl]
    obtain ⟨a, b⟩ := keys_zip k w kvs
    refine ⟨⟨_, rfl, a.symm, rfl, fun p hp => ?_⟩, ?_⟩
    · obtain ⟨q, hq, rfl⟩ := List.mem_map.mp hp
      split <;> exact ok q hq
    · rw [b]; exact zip_rep rv r
  | false =>
    rw [if_neg Bool.false_ne_true, if_neg Bool.false_ne_true]
    refine ⟨⟨_, rfl, by simp, rfl, fun p hp => ?_⟩, ?_⟩
    · rcases List.mem_append.mp hp with hp | hp
      · exact ok p hp
      · rw [List.mem_singleton.mp hp]; exact hk
    · rw [List.map_append]; exact snoc_rep rv r
theorem dget_of {H : Hp} {a : Addr} {kvs : List (L2.Key × V)} (k : L2.Key) (r : H a = some (.dK kvs)) : DGet H a (kV k) (valV kvs k) := .inl ⟨kvs, k, .inl r, rfl, rfl⟩
section
variable {X : Cx}
def rC2 (f : D → D → Option Bool) : R2 := fun x y H Q => ∃ F a b S1 S2 d, Rep H F a x S1 ∧ Rep H F b y S2 ∧ f a b = some d ∧ Q (.bl d) H
theorem opD_cmp (o : CmpOp) (hu : X.A.units + 65 < cLine) : OpR X (compareOp o) (rC2 (cmpD o)) := by
  intro pins s σ H x y v u Q I rx ry h
  obtain ⟨F, a, b, S1, S2, d, ra, rb, e, q⟩ := h
  have hu4 : X.A.units + 64 < cLine := by omega
  have two : ∀ {f : Bool → Bool}, (if (shal 8 a && shal 8 b) = true then some (f (eqD a b)) else none) = some d → (Dp X.K H x (toPy a) ∧ Dp X.K H y (toPy b)) ∧ SeqAt.shaped (toPy a) = true ∧ SeqAt.shaped (toPy b) = true ∧ d = f (PyData.eqv (toPy a) (toPy b)) := fun {f} e => by
    split at e
    · rename_i hc
      rw [Bool.and_eq_true] at hc
      rw [eqv_toPy _ _ 8 hc.1]
      exact ⟨⟨Rep.dp a x S1 8 hc.1 ra, Rep.dp b y S2 8 hc.2 rb⟩, shaped_of ra hc.1 (by decide), shaped_of rb hc.2 (by decide), (Option.some.inj e).symm⟩
    · cases e
  cases o with
  | Eq =>
    obtain ⟨hd, h1, h2, rfl⟩ := two (f := fun z => z) e
    exact op_eqD hu4 pins s σ H x y v u Q I rx ry ⟨_, _, hd.1, hd.2, h1, h2, q⟩
  | NotEq =>
    obtain ⟨hd, h1, h2, rfl⟩ := two (f := fun z => !z) e
    exact op_neD hu4 pins s σ H x y v u Q I rx ry ⟨_, _, hd.1, hd.2, h1, h2, q⟩
  | Lt =>
    cases a <;> (first | (cases e; done) | skip) <;> cases b <;> (first | (cases e; done) | skip)
    · cases ra; cases rb; cases e
      exact op_lt pins s σ H _ _ v u Q I rx ry ⟨_, _, rfl, rfl, q⟩
    · obtain ⟨rfl, _⟩ := ra
      obtain ⟨rfl, _⟩ := rb
      cases e
      exact op_lt_str pins s σ H _ _ v u Q I rx ry ⟨_, _, rfl, rfl, q⟩
  | LtE =>
    cases a <;> (first | (cases e; done) | skip) <;> cases b <;> (first | (cases e; done) | skip)
    · cases ra; cases rb; cases e
      exact op_le pins s σ H _ _ v u Q I rx ry ⟨_, _, rfl, rfl, q⟩
  | Gt =>
    cases a <;> (first | (cases e; done) | skip) <;> cases b <;> (first | (cases e; done) | skip)
    · cases ra; cases rb; cases e
      exact op_gt pins s σ H _ _ v u Q I rx ry ⟨_, _, rfl, rfl, q⟩
  | GtE =>
    cases a <;> (first | (cases e; done) | skip) <;> cases b <;> (first | (cases e; done) | skip)
    · cases ra; cases rb; cases e
      exact op_ge pins s σ H _ _ v u Q I rx ry ⟨_, _, rfl, rfl, q⟩
  | In =>
    have hin : ∀ {o ys}, b = .lst o ys → wpAny (model X.prog X.w) X.A (compareOp .In v u) (EP X pins σ Q) X.xe s := fun {o ys} hb => by
      subst hb
      simp only [cmpD] at e
      split at e
      · rename_i hc
        rw [Bool.and_eq_true, List.all_eq_true] at hc
        cases e
        refine op_inD hu pins s σ H x y v u Q I rx ry ⟨toPy a, toPyL ys, Rep.dp a x S1 7 hc.1 ra, Rep.dp _ y S2 8 (by simpa [shal] using hc.2) rb, shaped_of ra hc.1 (by decide), shaped_of (n := 8) rb (by simpa [shal] using hc.2) (by decide), ?_⟩
        rw [memD_py a 7 ys hc.2]; exact q
      · cases e
    have hit : ∀ {ys}, b = .tup ys → wpAny (model X.prog X.w) X.A (compareOp .In v u) (EP X pins σ Q) X.xe s := fun {ys} hb => by
      subst hb
      simp only [cmpD] at e
      split at e
      · rename_i hc
        rw [Bool.and_eq_true, List.all_eq_true] at hc
        cases e
        obtain ⟨p, vs, rfl, z, l, r⟩ := rb.tup_inv
        obtain ⟨h1, h2⟩ := inV_of ra hc.1 l hc.2
        refine op_in_seq pins s σ H x _ v u Q I rx ry ⟨p, vs, rfl, .inr (.inl r), flat_of ra hc.1, h1, ?_⟩
        rw [h2]; exact q
      · cases e
    cases b with
    | lst o ys => exact hin rfl
    | tup ys => exact hit rfl
    | str z =>
      cases a <;> (first | (cases e; done) | skip)
      obtain ⟨rfl, _⟩ := ra
      obtain ⟨rfl, _⟩ := rb
      cases e
      exact op_in_str pins s σ H _ _ v u Q I rx ry ⟨_, _, rfl, rfl, q⟩
    | dct o ks vs =>
      have e2 : (if isK a = true then some (memD a ks) else none) = some d := by
        cases a <;> exact e
      split at e2
      · rename_i hk
        obtain ⟨k, rfl⟩ := isK_ok hk
        cases e2
        obtain ⟨p, kvs, rfl, z, l, r, rfl, ok⟩ := rb.dct_inv
        obtain ⟨rfl, _⟩ := ra.key
        cases (show u = Value.ref p from ry)
        rw [mem_valV] at q
        exact d_in (by omega) I (dget_of k r) rx fun s' I' => ⟨.bl _, H, I', rfl, q⟩
      · cases e2
    | _ => cases a <;> cases e
  | NotIn =>
    have hin : ∀ {o ys}, b = .lst o ys → wpAny (model X.prog X.w) X.A (compareOp .NotIn v u) (EP X pins σ Q) X.xe s := fun {o ys} hb => by
      subst hb
      simp only [cmpD] at e
      split at e
      · rename_i hc
        rw [Bool.and_eq_true, List.all_eq_true] at hc
        cases e
        refine op_notInD hu pins s σ H x y v u Q I rx ry ⟨toPy a, toPyL ys, Rep.dp a x S1 7 hc.1 ra, Rep.dp _ y S2 8 (by simpa [shal] using hc.2) rb, shaped_of ra hc.1 (by decide), shaped_of (n := 8) rb (by simpa [shal] using hc.2) (by decide), ?_⟩
        rw [memD_py a 7 ys hc.2]; exact q
      · cases e
    have hit : ∀ {ys}, b = .tup ys → wpAny (model X.prog X.w) X.A (compareOp .NotIn v u) (EP X pins σ Q) X.xe s := fun {ys} hb => by
      subst hb
      simp only [cmpD] at e
      split at e
      · rename_i hc
        rw [Bool.and_eq_true, List.all_eq_true] at hc
        cases e
        obtain ⟨p, vs, rfl, z, l, r⟩ := rb.tup_inv
        obtain ⟨h1, h2⟩ := inV_of ra hc.1 l hc.2
        refine op_notIn_seq pins s σ H x _ v u Q I rx ry ⟨p, vs, rfl, .inr (.inl r), flat_of ra hc.1, h1, ?_⟩
        rw [if_pos rfl, h2]; exact q
      · cases e
    cases b with
    | lst o ys => exact hin rfl
    | tup ys => exact hit rfl
    | str z =>
      cases a <;> (first | (cases e; done) | skip)
      obtain ⟨rfl, _⟩ := ra
      obtain ⟨rfl, _⟩ := rb
      cases e
      exact op_notin_str pins s σ H _ _ v u Q I rx ry ⟨_, _, rfl, rfl, q⟩
    | dct o ks vs =>
      have e2 : (if isK a = true then some (!memD a ks) else none) = some d := by
        cases a <;> exact e
      split at e2
      · rename_i hk
        obtain ⟨k, rfl⟩ := isK_ok hk
        cases e2
        obtain ⟨p, kvs, rfl, z, l, r, rfl, ok⟩ := rb.dct_inv
        obtain ⟨rfl, _⟩ := ra.key
        cases (show u = Value.ref p from ry)
        rw [mem_valV] at q
        exact d_notIn (by omega) I (dget_of k r) rx fun s' I' => ⟨.bl _, H, I', rfl, q⟩
      · cases e2
    | _ => cases a <;> cases e
  | Is =>
    cases a <;> (first | (cases e; done) | skip) <;> cases b <;> (first | (cases e; done) | skip)
    rename_i a b
    cases ra
    cases rb
    cases e
    exact op_is_bl pins s σ H _ _ v u Q I rx ry ⟨a, b, rfl, rfl, by cases a <;> cases b <;> exact q⟩
  | IsNot =>
    cases a <;> (first | (cases e; done) | skip) <;> cases b <;> (first | (cases e; done) | skip)
    rename_i a b
    cases ra
    cases rb
    cases e
    exact op_isnot_bl pins s σ H _ _ v u Q I rx ry ⟨a, b, rfl, rfl, by cases a <;> cases b <;> exact q⟩
/-! ### subscripts -/
theorem atI_map {α β : Type} (f : α → β) (xs : List α) (i : Int) : atI (xs.map f) i = (atI xs i).map f := by
  unfold atI
  rw [List.length_map]
  cases ixN xs.length i <;> simp
theorem atI_rep {H : Hp} {F : AS} {ds : List D} {vs : List V} {S : AS} {i : Int} {d : D} (r : RepL H F ds vs S) (h : atI ds i = some d) : ∃ v, atI vs i = some v ∧ Rep H F d v S := by
  unfold atI at *
  rw [r.len]
  cases e : ixN ds.length i with
  | none => rw [e] at h; cases h
  | some j =>
    rw [e] at h
    exact r.get h
theorem okS_chr {s : Str} (h : okS s) {i : Int} {c : Nat} (e : atI s.cps.toList i = some c) : okS ⟨#[c]⟩ := by
  obtain ⟨j, _, hj, _⟩ := atI_get e
  have hm : c ∈ s.cps.toList := List.mem_of_getElem? hj
  refine ⟨?_, by show (1 : Nat) ≤ sizeLine; rw [sizeLine_eq]; decide⟩
  have h1 := h.1
  unfold PyData.strOk at *
  rw [← Array.all_toList, List.all_eq_true] at h1
  have := h1 c hm
  simpa using this
theorem only_ok {H : Hp} {F : AS} {d d' : D} {v : V} {S : AS} (h : onlyF d' = some d) (r : Rep H F d' v S) : d' = d ∧ Rep H F d v nos := by
  unfold onlyF at h
  split at h
  · rename_i hf
    cases h
    exact ⟨rfl, Rep.isF _ _ _ hf r⟩
  · cases h
theorem ixD_ok (hu : X.A.units + 65 < cLine) : IxR X (rD2 ixD) := by
  intro value slice pins s σ H x y v u Q I rx ry h hs
  obtain ⟨F, a, b, S1, S2, d, ra, rb, e, out⟩ := h
  by_cases hdc : ∃ o ks vs, a = .dct o ks vs
  · obtain ⟨o, ks, ds, rfl⟩ := hdc
    have e2 : (if isK b = true then (look b ks ds).bind onlyF else none) = some d := by
      cases b <;> exact e
    split at e2
    · rename_i hk
      obtain ⟨k, rfl⟩ := isK_ok hk
      obtain ⟨d', h1, h2⟩ := Option.bind_eq_some_iff.mp e2
      obtain ⟨p, kvs, rfl, z, l, r, rfl, ok⟩ := ra.dct_inv
      obtain ⟨rfl, _⟩ := rb.key
      have lk := look_rep k l
      rw [h1] at lk
      obtain ⟨w, hw, rw'⟩ := lk
      obtain ⟨rfl, r0⟩ := only_ok h2 rw'
      have g := dget_of k r
      rw [hw] at g
      cases (show v = Value.ref p from rx)
      exact PyProof.Rows.tail_any (dict_typeIs I g) PySem.F.slot_dict_getitem.lookup (d_getItem (by omega) I g ry fun w' s' I' rw2 => ⟨_, H, I', rw2, out.fz r0⟩) hs
    · cases e2
  have hnd : ∀ o ks vs, a ≠ .dct o ks vs := fun o ks vs z => hdc ⟨o, ks, vs, z⟩
  cases a <;> (first | (exact absurd rfl (hnd _ _ _)) | skip) <;> (first | (cases e; done) | skip) <;> cases b <;> (first | (cases e; done) | skip)
  · obtain ⟨rfl, o1⟩ := ra
    cases rb
    simp only [ixD] at e
    obtain ⟨c, hc, rfl⟩ := Option.map_eq_some_iff.mp e
    exact ix_str value slice pins s σ H _ _ v u Q I rx ry ⟨_, _, c, rfl, rfl, o1.2, hc, out _ ⟨rfl, okS_chr o1 hc⟩⟩ hs
  · obtain ⟨p, vs, rfl, z, l, r⟩ := ra.tup_inv
    cases rb
    simp only [ixD] at e
    obtain ⟨c, hc, e⟩ := Option.bind_eq_some_iff.mp e
    split at e
    · rename_i hf
      cases e
      obtain ⟨w, hw, rw'⟩ := atI_rep l hc
      have q : Q w H := out.fz (Rep.isF _ _ _ hf rw')
      exact ix_tup value slice pins s σ H _ _ v u Q I rx ry ⟨p, vs, _, w, rfl, rfl, .inl r, hw, q⟩ hs
    · cases e
  · obtain ⟨p, vs, rfl, z, l, r⟩ := ra.lst_inv
    cases rb
    simp only [ixD] at e
    obtain ⟨w, hw, rw'⟩ := atI_rep l e
    have q : Q w H := out.fz rw'
    exact ix_list value slice pins s σ H _ _ v u Q I rx ry ⟨p, vs, _, w, rfl, rfl, .inl r, hw, q⟩ hs
/-! ### slices, built-ins -/
def rSlD : V → Option Int → Option Int → Hp → VK → Prop := fun x lo hi H Q => ∃ F a S d, Rep H F a x S ∧ slcD a lo hi = some d ∧ Out H F d Q
theorem okS_cut {z : Str} (h : okS z) (lo hi : Option Int) : okS (cutS z lo hi) := by
  refine ⟨?_, Nat.le_trans (cutS_length z lo hi) h.2⟩
  have h1 := h.1
  unfold PyData.strOk at *
  unfold cutS
  rw [← Array.all_toList, List.all_eq_true] at h1 ⊢
  intro c hc
  exact h1 c (List.mem_of_mem_drop (List.mem_of_mem_take hc))
theorem slD_ok : SlR X rSlD := by
  intro pins s σ H x v vl vu lo hi sl Q I rx hs pl pu h
  obtain ⟨F, a, S, d, ra, e, out⟩ := h
  cases a <;> (first | (cases e; done) | skip)
  · obtain ⟨rfl, o1⟩ := ra
    cases e
    exact sl_str pins s σ H _ v vl vu lo hi sl Q I rx hs pl pu ⟨_, rfl, o1.2, out _ ⟨rfl, okS_cut o1 lo hi⟩⟩
  · rename_i ys
    have r00 := ra
    obtain ⟨p, vs, rfl, z, l, r⟩ := ra.tup_inv
    simp only [slcD] at e
    split at e
    · rename_i hf
      cases e
      have l0 := RepL.isF _ _ _ hf l
      have hl := l.len
      refine sl_tupA pins s σ H _ v vl vu lo hi sl Q I rx hs pl pu ⟨p, vs, rfl, .inl r, fun hw => out.1 _ ?_, fun hw q hq => out.2 q _ hq ?_ (Nat.le_trans (cutV_length _ _ _) z)⟩
      · rw [hl] at hw
        rw [hw.1, hw.2, List.drop_zero, Nat.sub_zero, List.take_length]
        exact Rep.isF _ _ _ (by simpa [D.isF] using hf) r00
      · unfold cutV
        rw [hl]
        exact RepL.take _ (RepL.drop _ l0)
    · cases e
  · obtain ⟨p, vs, rfl, z, l, r⟩ := ra.lst_inv
    cases e
    refine sl_list pins s σ H _ v vl vu lo hi sl Q I rx hs pl pu ⟨p, vs, rfl, .inl r, fun q hq => out q _ hq ?_ (Nat.le_trans (cutV_length _ _ _) z)⟩
    unfold cutV
    rw [l.len]
    exact RepL.take _ (RepL.drop _ l)
def rCD1 (f : D → Option D) : List V → Hp → VK → Prop := fun xs H Q => ∃ F x a S d, xs = [x] ∧ Rep H F a x S ∧ f a = some d ∧ Out H F d Q
def rCD2 (f : D → D → Option D) : List V → Hp → VK → Prop := fun xs H Q => ∃ F x y a b S T d, xs = [x, y] ∧ Rep H F a x S ∧ Rep H F b y T ∧ f a b = some d ∧ Out H F d Q
theorem bools_rep {H : Hp} {F : AS} : ∀ {ds : List D} {vs : List V} {S : AS} {bs : List Bool}, RepL H F ds vs S → boolsOf ds = some bs → vs = bs.map V.bl
  | [], _, _, _, r, e => by rw [show _ = [] from r]; cases e; rfl
  | d :: ds, vs, S, bs, r, e => by
    obtain ⟨v, t, S1, S2, rfl, h1, h2, _⟩ := r
    cases d <;> (first | (cases e; done) | skip)
    simp only [boolsOf] at e
    obtain ⟨c, hc, rfl⟩ := Option.map_eq_some_iff.mp e
    cases h1
    rw [bools_rep h2 hc]; rfl
theorem call_b2 (f : B2) (hc : X.calm = true) : CallR X (match f with
    | .max => .builtin "max" | .min => .builtin "min") (rCD2 (b2D f)) := by
  intro pins s σ H xs us Q I rx h
  obtain ⟨F, x, y, a, b, S, T, d, rfl, ra, rb, e, out⟩ := h
  cases f <;> cases a <;> (first | (cases e; done) | skip) <;> cases b <;> (first | (cases e; done) | skip)
  · cases ra; cases rb; cases e
    exact call_max2 hc pins s σ H _ us Q I rx ⟨_, _, rfl, out _ rfl⟩
  · cases ra; cases rb; cases e
    exact call_min2 hc pins s σ H _ us Q I rx ⟨_, _, rfl, out _ rfl⟩
theorem toPyL_get {ds : List D} {j : Nat} : (toPyL ds)[j]? = (ds[j]?).map toPy := by rw [toPyL_map, List.getElem?_map]
def rCM1 (f : M1) : V → List V → Hp → VK → Prop := fun x xs H Q => ∃ F y a b S T d, xs = [y] ∧ Rep H F a x S ∧ Rep H F b y T ∧ m1D f a b = some d ∧ Out H F d Q
theorem m1_index (hu : X.A.units + 65 < cLine) : MtR X "list.index" (rCM1 .index) := by
  intro pins s σ H x xs v us Q I rx rxs ⟨F, y, a, b, S, T, d, e0, ra, rb, e, out⟩
  subst e0
  cases a <;> (first | (cases e; done) | skip)
  rename_i o ds
  simp only [m1D] at e
  split at e
  · rename_i hc
    simp only [Bool.and_eq_true, List.all_eq_true] at hc
    obtain ⟨j, hj, rfl⟩ := Option.map_eq_some_iff.mp e
    obtain ⟨hl, h1, h2⟩ := List.findIdx?_eq_some_iff_getElem.mp hj
    obtain ⟨p, vs, rfl, z, l, r⟩ := ra.lst_inv
    have sl : shal 8 (.lst o ds) = true := by simpa [shal] using hc.2
    refine mt_indexD hu pins s σ H _ _ v us Q I rx rxs ⟨p, y, toPy b, toPyL ds, j, toPy ds[j], rfl, rfl, Rep.dp _ _ _ 8 sl ra, Rep.dp _ _ _ 7 hc.1 rb, shaped_of ra sl (by decide), shaped_of rb hc.1 (by decide), ?_, ?_, fun m z' hm hz => ?_, out _ rfl⟩
    · rw [toPyL_get, List.getElem?_eq_getElem hl]; rfl
    · rw [eqv_toPy _ _ 7 (hc.2 _ (List.getElem_mem _))]; exact h1
    · have hml : m < ds.length := by omega
      rw [toPyL_get, List.getElem?_eq_getElem hml] at hz
      cases hz
      rw [eqv_toPy _ _ 7 (hc.2 _ (List.getElem_mem _))]
      exact Bool.eq_false_iff.mpr (h2 m hm)
  · cases e
end
end Vm
namespace Vm
open PySem PySem.Spec L2
variable [CN]
mutual
theorem reads_there {h : Heap} : ∀ {v : Value} {d : PyData} {as : List Addr}, Reads h v d as → ∀ b ∈ as, ∃ o, h.get? b = some o
  | _, _, _, .none, b, hb => by cases hb
  | _, _, _, .bool _, b, hb => by cases hb
  | _, _, _, .int _ _, b, hb => by cases hb
  | _, _, _, .str _ _, b, hb => by cases hb
  | _, _, _, .list h1 _ _ h4, b, hb => by
    rcases List.mem_cons.mp hb with rfl | hb
    · exact ⟨_, h1⟩
    · exact readsAll_there h4 b hb
  | _, _, _, .tuple _ _ _ h4, b, hb => readsAll_there h4 b hb
  | _, _, _, .dict h1 _ _ h4 h5, b, hb => by
    rcases List.mem_append.mp hb with hb | hb
    · rcases List.mem_cons.mp hb with rfl | hb
      · exact ⟨_, h1⟩
      · exact readsAll_there h4 b hb
    · exact readsAll_there h5 b hb
theorem readsAll_there {h : Heap} : ∀ {vs : List Value} {ds : List PyData} {as : List Addr}, ReadsAll h vs ds as → ∀ b ∈ as, ∃ o, h.get? b = some o
  | _, _, _, .nil, b, hb => by cases hb
  | _, _, _, .cons h1 h2, b, hb => by
    rcases List.mem_append.mp hb with hb | hb
    · exact reads_there h1 b hb
    · exact readsAll_there h2 b hb
end
/-- the items and what they stand for -/
def RelD (H : Hp) (F : AS) (v : Value) (d : D) : Prop := ∃ w : V, RelV w v ∧ Rep H F d w nos
theorem each_of {H : Hp} {F : AS} : ∀ {xs : List D} {ws : List V} {us : List Value}, RepL H F xs ws nos → Vals ws us → PySem.W.EachIs (RelD H F) us xs
  | [], ws, us, r, v => by
    rw [show ws = [] from r] at v
    cases v
    exact .nil
  | d :: xs, ws, us, r, v => by
    obtain ⟨w, t, S1, S2, rfl, h1, h2, _, s1, s2⟩ := r
    cases v with
    | cons rv vt => exact .cons ⟨w, rv, h1.mono _ _ _ _ s1⟩ (each_of (h2.mono _ _ _ _ s2) vt)
theorem of_each {H : Hp} {F : AS} : ∀ {xs : List D} {us : List Value}, PySem.W.EachIs (RelD H F) us xs → ∃ ws, RepL H F xs ws nos ∧ Vals ws us
  | _, _, .nil => ⟨[], rfl, .nil⟩
  | _, _, .cons ⟨w, r1, r2⟩ t => by
    obtain ⟨ws, a, b⟩ := of_each t
    exact ⟨w :: ws, RepL.cons r2 a, .cons r1 b⟩
theorem alike_all {xs : List D} (h : srtB xs = true) : PySem.W.AllAlike (xs.map toPy) := by
  simp only [srtB, Bool.and_eq_true, List.all_eq_true] at h
  intro d hd d' hd'
  obtain ⟨b, hb, rfl⟩ := List.mem_map.mp hd
  obtain ⟨b', hb', rfl⟩ := List.mem_map.mp hd'
  exact h.2.1 b hb b' hb'
theorem sortable_of {xs : List D} (h : srtB xs = true) : PySem.W.Sortable (xs.map toPy) := by
  simp only [srtB, Bool.and_eq_true, Bool.or_eq_true, List.all_eq_true] at h
  rcases h.2.2 with h | h
  · refine .inl fun d hd => ?_
    obtain ⟨b, hb, rfl⟩ := List.mem_map.mp hd
    have := h b hb
    cases b <;> (first | (cases this; done) | skip)
    rename_i ys
    cases ys with
    | nil => cases this
    | cons y ys => exact ⟨toPy y, toPyL ys, rfl⟩
  · refine .inr fun d hd => ?_
    obtain ⟨b, hb, rfl⟩ := List.mem_map.mp hd
    have := h b hb
    cases b <;> first | (cases this; done) | (refine And.intro (fun z => ?_) (fun ys z => ?_) <;> cases z)
theorem srt_shal {xs : List D} (h : srtB xs = true) {d : D} (hd : d ∈ xs) : shal 7 d = true := by
  simp only [srtB, Bool.and_eq_true, List.all_eq_true] at h
  exact h.1 d hd
section
variable {X : Cx} {pins : List (Addr × Obj)} {s : Shared} {σ : Sl} {H : Hp} {Q : VK}
theorem each_reads {F : AS} {s1 : Shared} (I1 : L2.Inv X pins σ H s1) (ob : Obj) : ∀ {xs : List D} {us : List Value}, (∀ d ∈ xs, shal 7 d = true) → PySem.W.EachIs (RelD H F) us xs → PySem.W.EachIs (fun v b => ∃ as, Reads (s1.heap.push ob) v (toPy b) as ∧ s1.heap.objs.size ∉ as) us xs
  | _, _, _, .nil => .nil
  | _, _, sh, .cons ⟨w, r1, r2⟩ t => by
    obtain ⟨as, ra⟩ := Dp.reads I1 _ w _ (Rep.dp _ w nos 7 (sh _ (by simp)) r2) r1
    refine .cons ⟨as, PyProof.Rows.Reads.keeps (fun b o e => Heap.get?_push_of_some _ e) ra, fun hm => ?_⟩ (each_reads I1 ob (fun d hd => sh d (by simp [hd])) t)
    obtain ⟨o, ho⟩ := reads_there ra _ hm
    exact absurd (Heap.lt_size ho) (Nat.lt_irrefl _)
/-- sorted of what is collected -/
theorem sorted_core (hu : X.A.units + 200 < cLine) {F : AS} {r : Value} {xs : List D} (I : L2.Inv X pins σ H s) (hs : srtB xs = true) (hz : xs.length ≤ sizeLine)
    (hcol : ∀ (R : List Value → Shared → Prop), (∀ (h' : Heap) (tk : Nat) (us : List Value), (∀ b o, s.heap.get? b = some o → h'.get? b = some o) → (∃ vs, RepL H F xs vs nos ∧ Vals vs us) → R us { s with heap := h', toks := tk }) → wpAny (model X.prog X.w) X.A.in1 (collect r) R X.xe s)
    (q : ∀ p vs, H p = none → RepL H F (srt xs) vs nos → vs.length ≤ sizeLine → Q (.ref p) (upd H p (.lst vs))) : wpAny (model X.prog X.w) X.A (call (.builtin "sorted") [r]) (EP X pins σ Q) X.xe s := by
  refine Calls.call_function_entry PyProof.Rows.kind_sorted PyProof.Rows.plain_sorted PyProof.Rows.entry_sorted (PyProof.Rows.args_sorted1 _) ?_
  unfold Builtin.«sorted»
  refine wpAny_bind (m := checkCount "sorted" 1 1 _) (wpAny_pure ?_)
  refine wpAny_bind (hcol _ fun h' tk us hk ⟨vs, rl, rv⟩ => ?_)
  have I1 : L2.Inv X pins σ H { s with heap := h', toks := tk } := I.kept hk
  have hul : us.length = xs.length := by rw [← rv.length, rl.len]
  refine wpAny_bind (wpAny_newList ?_ (by rw [hul]; exact hz))
  have hoL : (h'.push (PyProof.Rows.seqObj "list" us.toArray 0)).get? h'.objs.size = some (PyProof.Rows.seqObj "list" us.toArray 0) := Heap.get?_push_size _ rfl
  have er := each_reads (X := X) (pins := pins) (σ := σ) I1 (PyProof.Rows.seqObj "list" us.toArray 0) (fun d hd => srt_shal hs hd) (each_of rl rv)
  refine wpAny_bind (wpAny_holding (PySem.W.list_sort_data (a := h'.objs.size) (s := { s with heap := h'.push (PyProof.Rows.seqObj "list" us.toArray 0), toks := tk }) hoL (each_of rl rv) er (alike_all hs) (sortable_of hs) hz (fun b hb => ?_) fun out ho eo => ?_))
  · have := shal_depth b 7 (srt_shal hs hb)
    show X.A.in1.units + 1 + (toPy b).depth < cLine
    have e : X.A.in1.units = X.A.units + 1 := rfl
    omega
  · obtain ⟨ws, a1, a2⟩ := of_each eo
    obtain ⟨e', he'⟩ := PyProof.Rows.sortedHeap_at (vs := us) (out := out.toArray) hoL
    have hlen : ws.length ≤ sizeLine := by rw [a2.length, ho]; exact hz
    refine wpAny_pure ⟨_, rfl, .ref h'.objs.size, upd H h'.objs.size (.lst ws), I1.laid (t' := tk) (fun b u e => ?_) (Nat.le_refl _)
      (show ObjOk X.prog X.w _ _ _ (.lst ws) from ⟨hlen, out, e', a2, he'⟩), rfl, q _ ws (I1.hok.fresh (Nat.le_refl _)) a1 hlen⟩
    have hb : b < h'.objs.size := Heap.lt_size e
    rw [PyProof.Rows.sortedHeap_old (Nat.ne_of_lt hb) (by rw [Heap.size_push]; exact Nat.lt_succ_of_lt hb)]
    exact Heap.get?_push_of_some _ e
end
section
variable {X : Cx}
theorem Rep.dctO {H : Hp} {F : AS} {o : Bool} {ks ds : List D} {v : V} {S : AS} (h : Rep H F (.dct o ks ds) v S) : ∃ a us u, v = .ref a ∧ us.length ≤ sizeLine ∧ DctO ks us u ∧ H a = some u ∧ RepL H F ds us S := by
  obtain ⟨a, kvs, rfl, z, l, r, rfl, ok⟩ := h.dct_inv
  exact ⟨a, kvs.map (·.2), _, rfl, by rw [List.length_map]; exact z, ⟨kvs, rfl, rfl, rfl, ok⟩, r, l⟩
theorem keys_rep {H : Hp} {F : AS} : ∀ {kvs : List (L2.Key × V)}, (∀ p ∈ kvs, kyOk p.1) → RepL H F (kvs.map fun p => kD p.1) (kvs.map fun p => kV p.1) nos
  | [], _ => rfl
  | p :: kvs, h => by
    refine RepL.cons ?_ (keys_rep fun q hq => h q (by simp [hq]))
    have := h p (by simp)
    show Rep H F (kD p.1) (kV p.1) nos
    cases hp : p.1 with
    | inl i => rfl
    | inr x => rw [hp] at this; exact ⟨rfl, this⟩
theorem ints_rep {H : Hp} {F : AS} : ∀ {ds : List D} {vs : List V} {S : AS} {bs : List Int}, RepL H F ds vs S → intsOf ds = some bs → vs = bs.map V.int
  | [], vs, S, bs, r, e => by cases e; exact r
  | d :: ds, vs, S, bs, r, e => by
    obtain ⟨v, t, S1, S2, rfl, h1, h2, _⟩ := r
    cases d <;> (first | (cases e; done) | skip)
    simp only [intsOf] at e
    obtain ⟨c, hc, rfl⟩ := Option.map_eq_some_iff.mp e
    cases h1
    rw [ints_rep h2 hc]; rfl
theorem max_of {ns : List Int} {m m' : Int} (h : ns.max? = some m') (h1 : m ∈ ns) (h2 : ∀ y, y ∈ ns → y ≤ m) : m = m' := by
  have := List.max?_eq_some_iff.mp h
  exact Int.le_antisymm (this.2 m h1) (h2 m' this.1)
theorem reads_strs {h : Heap} : ∀ {ns : List Str} {us : List Value}, Vals (ns.map V.str) us → ReadsAll h us (ns.map PyData.str) []
  | [], us, v => by cases v; exact .nil
  | n :: ns, us, v => by
    cases v with
    | cons r t =>
      obtain ⟨tk, rfl⟩ := r
      exact .cons (.str n tk) (reads_strs t)
theorem alike_strs (ns : List Str) : PySem.W.AlikeAll (ns.map PyData.str) := by
  refine ⟨fun d hd d' hd' => ?_, fun d hd => ?_⟩
  · obtain ⟨b, hb, rfl⟩ := List.mem_map.mp hd
    obtain ⟨b', hb', rfl⟩ := List.mem_map.mp hd'
    simp [PySem.W.alike]
  · obtain ⟨b, hb, rfl⟩ := List.mem_map.mp hd
    exact fun z => by cases z
theorem depth_strs (ns : List Str) : PyData.depthAll (ns.map .str) = 0 := by
  induction ns with
  | nil => simp [PyData.depthAll]
  | cons n ns ih =>
    rw [List.map_cons, PyData.depthAll, ih]
    simp [PyData.depth]
theorem strsOf_eq : ∀ {xs : List D} {ns : List Str}, strsOf xs = some ns → xs = ns.map D.str
  | [], ns, h => by cases h; rfl
  | .str s :: r, ns, h => by
    simp only [strsOf, Option.map_eq_some_iff] at h
    obtain ⟨m, hm, rfl⟩ := h
    rw [strsOf_eq hm]
    rfl
theorem vals_strs {H : Hp} {F : AS} : ∀ {ns : List Str} {vs : List V}, RepL H F (ns.map D.str) vs nos → vs = ns.map V.str ∧ ∀ s ∈ ns, okS s
  | [], vs, h => by rw [show vs = [] from h]; exact ⟨rfl, fun s h => by cases h⟩
  | n :: ns, vs, h => by
    obtain ⟨v, r, S1, S2, rfl, h1, h2, dj, s1, s2⟩ := h
    obtain ⟨rfl, ok⟩ := h1
    obtain ⟨rfl, k⟩ := vals_strs (RepL.mono _ _ _ _ h2 s2)
    exact ⟨rfl, fun s hs => by
      rcases List.mem_cons.mp hs with rfl | hs
      · exact ok
      · exact k s hs⟩
theorem minS_mem (n : Str) : ∀ ns : List Str, minS n ns ∈ n :: ns
  | [] => by simp [minS]
  | k :: r => by
    show minS (if strLt k n = true then k else n) r ∈ _
    have := minS_mem (if strLt k n = true then k else n) r
    rcases List.mem_cons.mp this with h | h
    · rw [h]
      split <;> simp
    · simp [h]
theorem minD_strs (n : Str) : ∀ ns : List Str, PySem.W.minD (.str n) (ns.map .str) = .str (minS n ns) := by
  intro ns
  unfold PySem.W.minD minS
  induction ns generalizing n with
  | nil => rfl
  | cons k r ih =>
    rw [List.map_cons, List.foldl_cons, List.foldl_cons]
    have : (if PySem.W.dataLt (.str k) (.str n) = true then PyData.str k else .str n) = .str (if strLt k n = true then k else n) := by
      rw [PySem.W.dataLt_str]
      unfold strLt
      split <;> rfl
    rw [this]
    exact ih _
theorem min_of {ns : List Int} {m m' : Int} (h : ns.min? = some m') (h1 : m ∈ ns) (h2 : ∀ y, y ∈ ns → m ≤ y) : m = m' := by
  have := List.min?_eq_some_iff.mp h
  exact Int.le_antisymm (h2 m' this.1) (this.2 m h1)
theorem call_b1 (f : B1) (hc : X.calm = true) (hu : X.A.units + 200 < cLine) : CallR X (match f with
    | .len => .builtin "len" | .abs => .builtin "abs" | .all => .builtin "all" | .any => .builtin "any" | .sum => .builtin "sum" | .lst => .type "list" | .tup => .type "tuple" | .max => .builtin "max" | .min => .builtin "min" | .str => .type "str" | .int => .type "int" | .sorted => .builtin "sorted" | .dct => .type "dict") (rCD1 (b1D f)) := by
  intro pins s σ H xs us Q I rx h
  obtain ⟨F, x, a, S, d, rfl, ra, e, out⟩ := h
  cases f
  case len =>
    cases a <;> (first | (cases e; done) | skip)
    · obtain ⟨rfl, o⟩ := ra
      cases e
      exact call_len_str pins s σ H _ us Q I rx ⟨_, rfl, o.2, out _ rfl⟩
    · obtain ⟨p, vs, rfl, z, l, r⟩ := ra.tup_inv
      cases e
      exact call_len_seq pins s σ H _ us Q I rx ⟨p, vs, rfl, .inr (.inl r), out _ (by rw [l.len]; rfl)⟩
    · obtain ⟨p, vs, rfl, z, l, r⟩ := ra.lst_inv
      cases e
      exact call_len_seq pins s σ H _ us Q I rx ⟨p, vs, rfl, .inl (.inl r), out _ (by rw [l.len]; rfl)⟩
    · obtain ⟨p, kvs, rfl, z, l, r, rfl, ok⟩ := ra.dct_inv
      cases e
      exact call_lenD pins s σ H _ us Q I rx ⟨p, kvs, rfl, r, out _ (by rw [List.length_map]; rfl)⟩
  case abs =>
    cases a <;> (first | (cases e; done) | skip)
    cases ra
    cases e
    exact call_abs pins s σ H _ us Q I rx ⟨_, rfl, out _ rfl⟩
  case all =>
    cases a <;> (first | (cases e; done) | skip)
    obtain ⟨p, vs, rfl, z, l, r⟩ := ra.lst_inv
    simp only [b1D] at e
    obtain ⟨c, hc', rfl⟩ := Option.map_eq_some_iff.mp e
    have := bools_rep l hc'
    subst this
    exact cr_all hc pins s σ H _ us Q I rx ⟨p, c, rfl, .inl r, out _ rfl⟩
  case any =>
    cases a <;> (first | (cases e; done) | skip)
    obtain ⟨p, vs, rfl, z, l, r⟩ := ra.lst_inv
    simp only [b1D] at e
    obtain ⟨c, hc', rfl⟩ := Option.map_eq_some_iff.mp e
    have := bools_rep l hc'
    subst this
    exact cr_any hc pins s σ H _ us Q I rx ⟨p, c, rfl, .inl r, out _ rfl⟩
  case lst =>
    cases a <;> (first | (cases e; done) | skip)
    · obtain ⟨p, vs, rfl, z, l, r⟩ := ra.tup_inv
      simp only [b1D] at e
      split at e
      · rename_i hf
        cases e
        exact call_list_of pins s σ H _ us Q I rx ⟨p, vs, rfl, .inr (.inl r), fun q hq => out q _ hq (RepL.isF _ _ _ hf l) z⟩
      · cases e
    · obtain ⟨p, vs, rfl, z, l, r⟩ := ra.lst_inv
      cases e
      exact call_list_of pins s σ H _ us Q I rx ⟨p, vs, rfl, .inl (.inl r), fun q hq => out q _ hq l z⟩
    · obtain ⟨p, kvs, rfl, z, l, r, rfl, ok⟩ := ra.dct_inv
      cases e
      exact call_list_dK hc pins s σ H _ us Q I rx ⟨p, kvs, rfl, r, fun q hq => out q _ hq (keys_rep ok) (by rw [List.length_map]; exact z)⟩
  case tup =>
    cases a <;> (first | (cases e; done) | skip)
    · obtain ⟨p, vs, rfl, z, l, r⟩ := ra.tup_inv
      simp only [b1D] at e
      split at e
      · rename_i hf
        cases e
        refine call_tuple_of pins s σ H _ us Q I rx ⟨p, vs, rfl, .inr ⟨.inl r, out.1 _ ?_⟩⟩
        exact Rep.isF _ _ _ (by simpa [D.isF] using hf) ra
      · cases e
    · obtain ⟨p, vs, rfl, z, l, r⟩ := ra.lst_inv
      cases e
      exact call_tuple_of pins s σ H _ us Q I rx ⟨p, vs, rfl, .inl ⟨.inl r, fun q hq => out.2 q _ hq l z⟩⟩
  case sorted =>
    cases a <;> (first | (cases e; done) | skip)
    · rename_i ds
      obtain ⟨p, vs, rfl, z, l, r⟩ := ra.tup_inv
      simp only [b1D] at e
      split at e
      · rename_i hf
        rw [Bool.and_eq_true] at hf
        cases e
        obtain ⟨u, rfl, ru⟩ := vals1 rx
        cases ru
        have l0 := RepL.isF _ _ _ hf.1 l
        refine sorted_core hu I hf.2 (by rw [← l.len]; exact z) (fun R hR => ?_) fun q ws hq rl hz => out q ws hq rl hz
        obtain ⟨its, r', pl, hz'⟩ := I.tuple (.inl r)
        have hlen := r'.length
        obtain ⟨o, ho, hc', n, hd⟩ := pl
        exact wpAny_collect_seq p (.inr rfl) ho hc' hd (fun h' kp => hR h' _ _ kp ⟨vs, l0, by simpa using r'⟩) (by simp only [List.size_toArray] <;> omega)
      · cases e
    · rename_i o ds
      obtain ⟨p, vs, rfl, z, l, r⟩ := ra.lst_inv
      simp only [b1D] at e
      split at e
      · rename_i hf
        cases e
        obtain ⟨u, rfl, ru⟩ := vals1 rx
        cases ru
        refine sorted_core hu I hf (by rw [← l.len]; exact z) (fun R hR => ?_) fun q ws hq rl hz => out q ws hq rl hz
        obtain ⟨its, r', pl, hz'⟩ := I.list (.inl r)
        have hlen := r'.length
        obtain ⟨o, ho, hc', n, hd⟩ := pl.isList
        exact wpAny_collect_seq p (.inl rfl) ho hc' hd (fun h' kp => hR h' _ _ kp ⟨vs, l, by simpa using r'⟩) (by simp only [List.size_toArray] <;> omega)
      · cases e
    · obtain ⟨p, kvs, rfl, z, l, r, rfl, ok⟩ := ra.dct_inv
      simp only [b1D] at e
      split at e
      · rename_i hf
        cases e
        obtain ⟨u, rfl, ru⟩ := vals1 rx
        cases ru
        refine sorted_core hu I hf (by rw [List.length_map]; exact z) (fun R hR => ?_) fun q ws hq rl hz => out q ws hq rl hz
        obtain ⟨_, lo, vs, rel, dd⟩ := dk_rd I.hok (.inl r)
        obtain ⟨ep, hat⟩ := dd.dictAt
        have hl : vs.length = kvs.length := rel.length.symm
        refine PySem.W.kdu_collect (A := X.A.in1) (PySem.W.kdl_dict (knd := mixKind X.prog X.w) (kvs := vs) (ep := ep) lo) (I.ok.hd hc) hat (by rw [hl]; exact z) fun h' tk acc hk hacc => ?_
        refine hR h' tk acc.toList hk ⟨_, keys_rep ok, ?_⟩
        have := keys_at (us := acc.toList) (vs := vs) (by rw [Array.length_toList, hacc.1]) fun j v e => hacc.2 j v (by rw [← Array.getElem?_toList]; exact e)
        have e2 : (vs.map fun p => kV p.1) = kvs.map fun p => kV p.1 := by
          have := congrArg (List.map kV) rel.keys
          simpa [List.map_map, Function.comp_def] using this.symm
        rw [e2] at this
        exact this
      · cases e
  case dct =>
    cases a <;> (first | (cases e; done) | skip)
    obtain ⟨p, us', u', rfl, z, dc, r, l⟩ := ra.dctO
    simp only [b1D] at e
    split at e
    · rename_i hf
      cases e
      have l0 := RepL.isF _ _ _ hf l
      obtain ⟨kvs, rfl, ek, ev, ok⟩ := dc
      exact call_dictD pins s σ H _ us Q I rx ⟨p, kvs, rfl, .inl r, fun q hq => out q us' _ hq l0 ⟨kvs, rfl, ek, ev, ok⟩ z⟩
    · cases e
  case sum =>
    cases a <;> (first | (cases e; done) | skip)
    obtain ⟨p, vs, rfl, z, l, r⟩ := ra.lst_inv
    simp only [b1D] at e
    obtain ⟨c, hc', rfl⟩ := Option.map_eq_some_iff.mp e
    have := ints_rep l hc'
    subst this
    exact cr_sum hc pins s σ H _ us Q I rx ⟨p, c, rfl, .inl r, out _ rfl⟩
  case max =>
    cases a <;> (first | (cases e; done) | skip)
    obtain ⟨p, vs, rfl, z, l, r⟩ := ra.lst_inv
    simp only [b1D] at e
    obtain ⟨c, hc', e⟩ := Option.bind_eq_some_iff.mp e
    obtain ⟨m, hm, rfl⟩ := Option.map_eq_some_iff.mp e
    have := ints_rep l hc'
    subst this
    have hne : 0 < c.length := by cases c with
      | nil => cases hm
      | cons _ _ => simp
    exact cr_max hc pins s σ H _ us Q I rx ⟨p, c, rfl, .inl r, hne, fun m' h1 h2 => by rw [max_of hm h1 h2]; exact out _ rfl⟩
  case min =>
    cases a <;> (first | (cases e; done) | skip)
    obtain ⟨p, vs, rfl, z, l, r⟩ := ra.lst_inv
    simp only [b1D] at e
    split at e
    · rename_i n ns hns
      cases e
      have := strsOf_eq hns
      subst this
      obtain ⟨rfl, oks⟩ := vals_strs (ns := n :: ns) l
      cases rx with
      | cons rx rt =>
        cases rt
        cases rx
        obtain ⟨its, rv, p', hz⟩ := I.list (.inl r)
        refine PySem.W.min_list_data (I.ok.hd hc) p'.isList (xs := ns.map .str) (x := .str n) (reads_strs (ns := n :: ns) (by simpa using rv)) (alike_strs (n :: ns)) (by rw [show (PyData.str n :: ns.map .str) = (n :: ns).map .str from rfl, depth_strs]; omega) fun i v h' tk bs hv hrd hk => ?_
        rw [minD_strs] at hrd
        cases hrd
        exact ⟨.str (minS n ns), H, I.kept hk, ⟨_, rfl⟩, out _ ⟨rfl, oks _ (minS_mem n ns)⟩⟩
    obtain ⟨c, hc', e⟩ := Option.bind_eq_some_iff.mp e
    obtain ⟨m, hm, rfl⟩ := Option.map_eq_some_iff.mp e
    have := ints_rep l hc'
    subst this
    have hne : 0 < c.length := by cases c with
      | nil => cases hm
      | cons _ _ => simp
    exact cr_min hc pins s σ H _ us Q I rx ⟨p, c, rfl, .inl r, hne, fun m' h1 h2 => by rw [min_of hm h1 h2]; exact out _ rfl⟩
  case int =>
    cases a <;> (first | (cases e; done) | skip)
    · cases ra
      cases e
      exact call_int1 pins s σ H _ us Q I rx (.inr ⟨_, rfl, out _ rfl⟩)
    · cases ra
      cases e
      exact call_int1 pins s σ H _ us Q I rx (.inl ⟨_, rfl, out _ rfl⟩)
  all_goals (cases a <;> cases e)
end
end Vm
namespace Vm
open PySem PySem.Spec L2
variable [CN]

theorem map_some_set (vs : List V) : (vs.map some : Sl).length = vs.length := List.length_map ..
/-! ### arguments -/
def ARs (H : Hp) (F : AS) : List Av → List V → Sl → AS → Prop
  | [], vs, _, _ => vs = []
  | .d x :: r, vs, σ, S => ∃ v t S1 S2, vs = v :: t ∧ Rep H F x v S1 ∧ ARs H F r t σ S2 ∧ Dj S1 S2 ∧ Sb S1 S ∧ Sb S2 S
  | .sl i :: r, vs, σ, S => ∃ v t, vs = v :: t ∧ σ[i]? = some (some v) ∧ ARs H F r t σ S
section
variable {H H' : Hp} {F F' S S1 S2 T : AS} {σ : Sl}
theorem ARs.len : ∀ {as : List Av} {vs : List V} {S : AS}, ARs H F as vs σ S → vs.length = as.length
  | [], _, _, h => by rw [show _ = [] from h]; rfl
  | .d x :: r, vs, S, h => by
    obtain ⟨v, t, S1, S2, rfl, h1, h2, _⟩ := h
    rw [List.length_cons, List.length_cons, ARs.len h2]
  | .sl i :: r, vs, S, h => by
    obtain ⟨v, t, rfl, _, h2⟩ := h
    rw [List.length_cons, List.length_cons, ARs.len h2]
theorem ARs.step : ∀ {as : List Av} {vs : List V} {S : AS}, ARs H F as vs σ S → (∀ a o, Kt H a o → ¬ F a ∨ S a → H' a = some o) → (∀ a, F' a → F a ∨ H a = none) → ARs H' F' as vs σ S
  | [], _, _, h, _, _ => h
  | .d x :: r, vs, S, h, k, n => by
    obtain ⟨v, t, S1, S2, e, h1, h2, dj, s1, s2⟩ := h
    exact ⟨v, t, S1, S2, e, Rep.step x v S1 h1 (fun a o q z => k a o q (z.imp_right (s1 a))) n, ARs.step h2 (fun a o q z => k a o q (z.imp_right (s2 a))) n, dj, s1, s2⟩
  | .sl i :: r, vs, S, h, k, n => by
    obtain ⟨v, t, e, hs, h2⟩ := h
    exact ⟨v, t, e, hs, ARs.step h2 k n⟩
theorem ARs.mono : ∀ {as : List Av} {vs : List V} {S T : AS}, ARs H F as vs σ S → Sb S T → ARs H F as vs σ T
  | [], _, _, _, h, _ => h
  | .d x :: r, vs, S, T, h, k => by
    obtain ⟨v, t, S1, S2, e, h1, h2, dj, s1, s2⟩ := h
    exact ⟨v, t, S1, S2, e, h1, h2, dj, s1.trans k, s2.trans k⟩
  | .sl i :: r, vs, S, T, h, k => by
    obtain ⟨v, t, e, hs, h2⟩ := h
    exact ⟨v, t, e, hs, ARs.mono h2 k⟩
theorem ARs.app : ∀ {as bs : List Av} {vs us : List V} {S T : AS}, ARs H F as vs σ S → ARs H F bs us σ T → Dj S T → ARs H F (as ++ bs) (vs ++ us) σ (fun a => S a ∨ T a)
  | [], bs, vs, us, S, T, h, k, _ => by rw [show vs = [] from h]; exact ARs.mono k fun _ z => .inr z
  | .d x :: r, bs, vs, us, S, T, h, k, dj => by
    obtain ⟨v, t, S1, S2, rfl, h1, h2, dj', s1, s2⟩ := h
    refine ⟨v, t ++ us, S1, fun a => S2 a ∨ T a, rfl, h1, ARs.app h2 k (dj.mono s2 Sb.refl), fun a x y => y.elim (dj' a x) (dj a (s1 a x)), fun a z => .inl (s1 a z), fun a z => z.imp_left (s2 a)⟩
  | .sl i :: r, bs, vs, us, S, T, h, k, dj => by
    obtain ⟨v, t, rfl, hs, h2⟩ := h
    exact ⟨v, t ++ us, rfl, hs, ARs.app h2 k dj⟩
/-- the named slots are handed over -/
theorem ARs.take : ∀ {as : List Av} {vs : List V} {e e1 : Nv} {T S2 : AS} {ds : List D}, ARs H F as vs σ T → ERs H F e σ S2 → Dj T S2 → takeA as e = some (ds, e1) →
    ∃ S3 S4, ERs H F (ds.map some) (vs.map some) S3 ∧ ERs H F e1 σ S4 ∧ Dj S3 S4 ∧ (∀ a, S3 a → T a ∨ S2 a) ∧ Sb S4 S2 ∧ e1.length = e.length
  | [], vs, e, e1, T, S2, ds, h, k, dj, q => by
    rw [show vs = [] from h]
    cases q
    exact ⟨nos, S2, rfl, k, dj_nos, fun _ z => z.elim, Sb.refl, rfl⟩
  | .d x :: r, vs, e, e1, T, S2, ds, h, k, dj, q => by
    obtain ⟨v, t, T1, T2, rfl, h1, h2, dj', t1, t2⟩ := h
    simp only [takeA] at q
    obtain ⟨⟨ds', e'⟩, hq, q⟩ := Option.bind_eq_some_iff.mp q
    cases q
    obtain ⟨S3, S4, a, b, c, d, s4, hl⟩ := ARs.take h2 k (dj.mono t2 Sb.refl) hq
    refine ⟨fun a => T1 a ∨ S3 a, S4, ⟨some v, t.map some, T1, S3, rfl, fun y hy => ?_, a, fun z p w => (d z w).elim (dj' z p) (dj z (t1 z p)), fun _ z => .inl z, fun _ z => .inr z⟩, b, fun z p w => p.elim (fun p => dj z (t1 z p) (s4 z w)) fun p => c z p w, fun z p => p.elim (fun p => .inl (t1 z p)) fun p => (d z p).imp_left (t2 z), s4, hl⟩
    cases hy
    exact ⟨v, rfl, h1⟩
  | .sl i :: r, vs, e, e1, T, S2, ds, h, k, dj, q => by
    obtain ⟨v, t, rfl, hs, h2⟩ := h
    simp only [takeA] at q
    split at q
    · rename_i x he
      obtain ⟨⟨ds', e'⟩, hq, q⟩ := Option.bind_eq_some_iff.mp q
      cases q
      obtain ⟨v', S5, S6, hv, rp, er, d56, s5, s6⟩ := k.out he
      rw [hs] at hv; cases hv
      obtain ⟨S3, S4, a, b, c, d, s4, hl⟩ := ARs.take h2 er (dj.mono Sb.refl s6) hq
      refine ⟨fun a => S5 a ∨ S3 a, S4, ⟨some v, t.map some, S5, S3, rfl, fun y hy => ?_, a, fun z p w => (d z w).elim (fun w => dj z w (s5 z p)) (d56 z p), fun _ z => .inl z, fun _ z => .inr z⟩, b, fun z p w => p.elim (fun p => d56 z p (s4 z w)) fun p => c z p w, fun z p => p.elim (fun p => .inr (s5 z p)) fun p => (d z p).imp_right (s6 z), s4.trans s6, by rw [hl, List.length_set]⟩
      cases hy
      exact ⟨v, rfl, rp⟩
    · cases q
/-- .. and come back -/
theorem ARs.put : ∀ {as : List Av} {vs : List V} {e ps : Nv} {T S S' : AS} {F0 : AS} {H0 : Hp}, ARs H0 F0 as vs σ T → ERs H F ps (vs.map some) S → ERs H F e σ S' → Dj S S' → ERs H F (putA as ps e) σ (fun a => S a ∨ S' a)
  | [], vs, e, ps, T, S, S', F0, H0, h, k, m, dj => by
    have : putA [] ps e = e := by cases ps <;> rfl
    rw [this]
    exact m.mono fun _ z => .inr z
  | .d x :: r, vs, e, ps, T, S, S', F0, H0, h, k, m, dj => by
    obtain ⟨v, t, T1, T2, rfl, h1, h2, _⟩ := h
    cases ps with
    | nil => exact m.mono fun _ z => .inr z
    | cons o ps =>
      obtain ⟨u, t', U1, U2, e', _, k2, _, _, u2⟩ := k
      have et : t.map some = t' := by simpa using (List.cons.inj e').2
      subst et
      exact (ARs.put (ps := ps) h2 k2 m (dj.mono u2 Sb.refl)).mono fun a z => z.imp_left (u2 a)
  | .sl i :: r, vs, e, ps, T, S, S', F0, H0, h, k, m, dj => by
    obtain ⟨v, t, rfl, hs, h2⟩ := h
    cases ps with
    | nil => exact m.mono fun _ z => .inr z
    | cons o ps =>
      obtain ⟨u, t', U1, U2, e', k1, k2, d12, u1, u2⟩ := k
      obtain ⟨eu, et⟩ := List.cons.inj e'
      have et : t.map some = t' := et
      subst et
      subst eu
      show ERs H F (putA r ps (e.set i o)) σ _
      cases o with
      | none => exact (ARs.put (ps := ps) h2 k2 (ERs.gone (i := i) m) (dj.mono u2 Sb.refl)).mono fun a z => z.imp_left (u2 a)
      | some d =>
        obtain ⟨v', hv, rp⟩ := k1 d rfl
        cases hv
        have hi : i < e.length := by
          have := (List.getElem?_eq_some_iff.mp hs).1
          rw [m.len] at this
          exact this
        have m2 := ERs.back m hi hs rp (dj.mono u1 Sb.refl)
        refine (ARs.put (ps := ps) h2 k2 m2 fun a x y => y.elim (fun y => d12 a y x) (dj a (u2 a x))).mono fun a z => ?_
        rcases z with z | z | z
        · exact .inl (u2 a z)
        · exact .inl (u1 a z)
        · exact .inr z
end
/-! ### a call's promise -/
def spC (C : Orc) (XR : Hp → AS → D → Value → Option Addr → Prop) (f : Str) (n : Nat) : Sp := fun vs H Q E => vs.length = n ∧ ∃ F S ds, Rdy H F S (ds.map some) (vs.map some) ∧
  Vp ⟨C, XR, fun cls dd _ H' => E cls dd H'⟩ true false (vs.map some) H F S (C f ds) Q
/-- a call of evaluated arguments -/
theorem call_of {p : Pm} {f : Str} {n : Nat} {σ : Sl} {H H1 : Hp} {F F1 S T1 S2 : AS} {e1 : Nv} {as : List Av} {vs : List V} {Q : VK} (fd : FD H F)
    (a : AftT false σ H F S H1 F1 e1 S2) (r : ARs H1 F1 as vs σ T1) (t1 : Sb T1 F1) (dj : Dj T1 S2) (n1 : Nw S H T1) (hn : vs.length = n) (h : Vp p true false σ H F S (callA p.C f as e1) Q) :
    spC p.C p.XR f n vs H1 Q (fun cls dd H' => p.Wx cls dd σ H') := by
  unfold callA at h
  split at h
  · exact h.elim
  · rename_i ds e2 ht
    obtain ⟨S3, S4, er3, er4, d34, s3, s4, hl⟩ := ARs.take r a.er dj ht
    have sb3 : Sb S3 F1 := fun x q => (s3 x q).elim (t1 x) (a.s2 x)
    have nw3 : Nw S H S3 := fun x q => (s3 x q).elim (n1 x) (a.n2 x)
    have nw4 : Nw S H S4 := fun x q => a.n2 x (s4 x q)
    refine ⟨hn, F1, S3, ds, ⟨er3, sb3, a.ch.fd⟩, ?_⟩
    -- the state behind the call
    have after : ∀ {H' F' S5 ps}, Ch S3 H1 F1 H' F' → ERs H' F' ps (vs.map some) S5 → Sb S5 F' → Nw S3 H1 S5 → AftT false σ H F S H' F' (putA as ps e2) (fun x => S5 x ∨ S4 x) ∧ Dj S5 S4 := fun {H' F' S5 ps} c er sb nw => by
      have d54 : Dj S5 S4 := fun x q w => (nw x q).elim (fun z => d34 x z w) fun z => a.ch.fd x (a.s2 x (s4 x w)) z
      have er4' : ERs H' F' e2 σ S4 := er4.step (fun x o q z => c.keep x o q fun w => z.elim (fun z => z (sb3 x w)) fun z => d34 x w z) c.new
      refine ⟨⟨a.ch.trans nw3 c fd |> fun c' => ⟨fun x o q ns => c'.keep x o q ns, c'.new, c'.old, c'.dom, c'.fd⟩, ARs.put r er er4' d54, fun x q => q.elim (sb x) fun q => c.old x (a.s2 x (s4 x q)) fun w => d34 x w q, fun x q => q.elim (fun q => (nw3.trans a.ch nw) x q) (nw4 x), fun z => by cases z⟩, d54⟩
    cases hc : p.C f ds with
    | ok d ps =>
      rw [hc] at h
      intro v H' F' S5 S6 b
      obtain ⟨A, d64⟩ := after b.ch b.er b.s2 b.n2
      refine h v H' F' S5 _ ⟨A.ch, b.rep, A.er, b.s1, A.s2, A.n2, fun _ x q w => ?_, fun _ => nw3.trans a.ch (b.n1 rfl), fun z => by cases z⟩
      rcases w with w | w
      · exact b.dj rfl x q w
      · exact (b.n1 rfl x q).elim (fun z => d34 x z w) fun z => a.ch.fd x (a.s2 x (s4 x w)) z
    | ex x ps =>
      rw [hc] at h
      intro cls dd H' F' S5 b xr
      obtain ⟨A, _⟩ := after b.ch b.er b.s2 b.n2
      exact h cls dd H' F' _ A xr
    | bad => rw [hc] at h; exact h
/-! ### another order of the arguments -/
def AvOk (H : Hp) (F : AS) (σ : Sl) (S : AS) (v : V) : Av → Prop
  | .d x => Rep H F x v S
  | .sl k => σ[k]? = some (some v)
theorem ARs.fam {H : Hp} {F : AS} {σ : Sl} : ∀ {as : List Av} {vs : List V} {S : AS}, ARs H F as vs σ S →
    ∃ fam : Nat → AS, (∀ i j, i ≠ j → Dj (fam i) (fam j)) ∧ (∀ i, Sb (fam i) S) ∧ ∀ i a, as[i]? = some a → ∃ v, vs[i]? = some v ∧ AvOk H F σ (fam i) v a
  | [], vs, S, h => ⟨fun _ => nos, fun _ _ _ => dj_nos, fun _ => sb_nos, fun i a e => by simp at e⟩
  | .d x :: r, vs, S, h => by
    obtain ⟨v, t, S1, S2, rfl, h1, h2, dj, s1, s2⟩ := h
    obtain ⟨fam, fd, fs, fo⟩ := ARs.fam h2
    refine ⟨fun i => match i with | 0 => S1 | i + 1 => fam i, fun i j hij => ?_, fun i => ?_, fun i a e => ?_⟩
    · cases i <;> cases j
      · exact absurd rfl hij
      · exact dj.mono Sb.refl (fs _)
      · exact (dj.mono Sb.refl (fs _)).symm
      · exact fd _ _ fun z => hij (by rw [z])
    · cases i
      · exact s1
      · exact (fs _).trans s2
    · cases i with
      | zero =>
        have e' : Av.d x = a := by simpa using e
        subst e'
        exact ⟨v, rfl, h1⟩
      | succ i => exact fo i a (by simpa using e)
  | .sl k :: r, vs, S, h => by
    obtain ⟨v, t, rfl, hs, h2⟩ := h
    obtain ⟨fam, fd, fs, fo⟩ := ARs.fam h2
    refine ⟨fun i => match i with | 0 => nos | i + 1 => fam i, fun i j hij => ?_, fun i => ?_, fun i a e => ?_⟩
    · cases i <;> cases j
      · exact absurd rfl hij
      · exact dj_nos
      · exact dj_nos.symm
      · exact fd _ _ fun z => hij (by rw [z])
    · cases i
      · exact sb_nos
      · exact fs _
    · cases i with
      | zero =>
        have e' : Av.sl k = a := by simpa using e
        subst e'
        exact ⟨v, rfl, hs⟩
      | succ i => exact fo i a (by simpa using e)
theorem ARs.ofFam {H : Hp} {F : AS} {σ : Sl} {as : List Av} {vs : List V} {fam : Nat → AS} (fd : ∀ i j, i ≠ j → Dj (fam i) (fam j)) (fo : ∀ i a, as[i]? = some a → ∃ v, vs[i]? = some v ∧ AvOk H F σ (fam i) v a) :
    ∀ (perm : List Nat), perm.Nodup → (∀ i ∈ perm, i < as.length) → ARs H F (permL perm as) (permL perm vs) σ (fun a => ∃ i ∈ perm, fam i a)
  | [], _, _ => rfl
  | i :: r, nd, hi => by
    have h0 : i < as.length := hi i (by simp)
    obtain ⟨v, hv, ok⟩ := fo i _ (List.getElem?_eq_getElem h0)
    have ih := ARs.ofFam fd fo r (List.nodup_cons.mp nd).2 fun j hj => hi j (by simp [hj])
    have ea : permL (i :: r) as = as[i] :: permL r as := by unfold permL; rw [List.filterMap_cons, List.getElem?_eq_getElem h0]
    have ev : permL (i :: r) vs = v :: permL r vs := by unfold permL; rw [List.filterMap_cons, hv]
    rw [ea, ev]
    cases q : as[i] with
    | d x =>
      rw [q] at ok
      exact ⟨v, _, fam i, _, rfl, ok, ih, fun a p ⟨j, hj, w⟩ => fd i j (fun z => (List.nodup_cons.mp nd).1 (z ▸ hj)) a p w, fun a p => ⟨i, by simp, p⟩, fun a ⟨j, hj, w⟩ => ⟨j, by simp [hj], w⟩⟩
    | sl k =>
      rw [q] at ok
      exact ⟨v, _, rfl, ok, ih.mono fun a ⟨j, hj, w⟩ => ⟨j, by simp [hj], w⟩⟩
theorem ARs.perm {H : Hp} {F : AS} {σ : Sl} {as cs : List Av} {vs : List V} {S : AS} {perm : List Nat} (h : ARs H F as vs σ S) (e : permA perm as = some cs) : ARs H F cs (permL perm vs) σ S ∧ cs.length = as.length := by
  unfold permA at e
  split at e
  · rename_i hc
    obtain ⟨h1, h2, h3⟩ := hc
    cases e
    have hlt : ∀ i ∈ perm, i < as.length := fun i hi => by
      have := List.all_eq_true.mp h3 i hi
      simpa using this
    obtain ⟨fam, fd, fs, fo⟩ := h.fam
    refine ⟨(ARs.ofFam fd fo perm h2 hlt).mono fun a ⟨i, _, w⟩ => fs i a w, ?_⟩
    rw [← h1]
    unfold permL
    clear h1 h2 h3 fo fd fs h
    induction perm with
    | nil => rfl
    | cons i r ih =>
      rw [List.filterMap_cons, List.getElem?_eq_getElem (hlt i (by simp)), List.length_cons, List.length_cons, ih fun j hj => hlt j (by simp [hj])]
  · cases e
end Vm
namespace PySem
namespace Oxb
open PySem.W PySem.Calls PyProof.Rows PySem.HandSPX
section
open Builtin Builtin.ObjectAttr
variable {prog : Program} {w : World} {A : Around} {R : Result → Shared → Prop} {hp : Heap} {g : Array GenState} {dw : Drawn} {t : Nat} {os : OsState} {K : Frag} {B : String} {bs : List Value} {nm : Str} {tk : Tok} {v : Value} {x C : Addr} {fv : Array Value}
/-- the object's rule for stores where no dict stands yet -/
theorem sa_first (SF : StoreFacts B bs "object.__setattr__" "object") (X : K.In hp) (hx : hp.get? x = some { cls := .ref C, data := .fields fv }) (ho : excOver K C bs = true) (hd : hasDictIn K C = true) (hn : findIn K (.ref C) nm = some none)
    (k : ∀ h' tk' dx, (∀ b o, b ≠ x → hp.get? b = some o → h'.get? b = some o) → hp.objs.size ≤ dx → dx ≠ x → h'.get? x = some { cls := .ref C, dict := some dx, data := .fields fv } → h'.Ns1 dx (fun y => if y = nm then some v else none) → R (.ok (.ret .none)) ⟨h', g, dw, tk', os⟩) :
    codeAny (model prog w) A (.call (.builtin "object.__setattr__") ⟨[.ref x, .str nm tk, v], []⟩) R ⟨hp, g, dw, t, os⟩ := by
  obtain ⟨cd, hc, hd⟩ := any_some hd
  have IA : W.InstAt hp x { cls := .ref C, data := .fields fv } C none := ⟨hx, rfl, rfl, trivial⟩
  refine osa_openX SF X IA ho (r := none) (by unfold takerIn; rw [hn]; rfl) fun b => ?_
  have lc : W.Looks (model prog w) hp (classData C) cd := W.looks_clsIn X hc
  have xs : x ≠ hp.objs.size := Nat.ne_of_lt (Heap.lt_size hx)
  obtain ⟨c1, c2, c3, c4, c5, c6, c7, c8, c9, c10, c11⟩ := cd
  dsimp only at hd
  subst hd
  unfold storeInOwnDict ownDictForStores
  repeat (first | with_reducible refine store_in_new ?_ ?_ | with_reducible refine wpAny_loadPart_at hx ?_ | with_reducible refine lc.at ?_ | wp_step)
  · exact ⟨_, #[], _, (Heap.get?_update_ne _ _ _ _ xs.symm).trans (Heap.get?_push_at rfl rfl), rfl, fun e he => absurd he (by simp), fun _ => rfl⟩
  · intro h' tk' n1 sb
    refine k h' tk' hp.objs.size (fun b o nb e => (sb.2 b (Nat.ne_of_lt (Heap.lt_size e))).trans ((Heap.get?_update_ne _ _ _ _ nb).trans (Heap.get?_push_of_some _ e))) (Nat.le_refl _) xs.symm ((sb.2 x xs).trans (Heap.get?_update_self _ (Heap.get?_push_of_some _ hx) rfl)) n1
/-- .. where it stands -/
theorem sa_next {dx : Addr} {m0 : Str → Option Value} {nl : List Str} (SF : StoreFacts B bs "object.__setattr__" "object") (X : K.In hp) (hx : hp.get? x = some { cls := .ref C, dict := some dx, data := .fields fv }) (hns : hp.Ns1 dx m0) (wi : PySem.Within m0 nl) (hl : nl.length ≤ 1000)
    (ho : excOver K C bs = true) (hd : hasDictIn K C = true) (hn : findIn K (.ref C) nm = some none)
    (k : ∀ h' tk', (∀ b o, b ≠ dx → hp.get? b = some o → h'.get? b = some o) → h'.Ns1 dx (fun y => if y = nm then some v else m0 y) → R (.ok (.ret .none)) ⟨h', g, dw, tk', os⟩) :
    codeAny (model prog w) A (.call (.builtin "object.__setattr__") ⟨[.ref x, .str nm tk, v], []⟩) R ⟨hp, g, dw, t, os⟩ := by
  obtain ⟨cd, hc, hd⟩ := any_some hd
  obtain ⟨od, _, _, hod, _, _⟩ := hns.count wi
  have IA : W.InstAt hp x { cls := .ref C, dict := some dx, data := .fields fv } C (some od) := ⟨hx, rfl, rfl, hod⟩
  refine osa_openX SF X IA ho (r := none) (by unfold takerIn; rw [hn]; rfl) fun b => ?_
  have lc : W.Looks (model prog w) hp (classData C) cd := W.looks_clsIn X hc
  obtain ⟨c1, c2, c3, c4, c5, c6, c7, c8, c9, c10, c11⟩ := cd
  dsimp only at hd
  subst hd
  unfold storeInOwnDict ownDictForStores
  repeat (first | with_reducible refine PySem.OEX.store_in_old hns wi hl ?_ | with_reducible refine wpAny_loadPart_at hx ?_ | with_reducible refine lc.at ?_ | wp_step)
  exact fun h' tk' n1 sb => k h' tk' (fun b o nb e => (sb.2 b nb).trans e) n1
end
end Oxb
end PySem
namespace Vm
open PySem PySem.Spec L2 PyProof.Rows
/-- an own exception class over a built-in one -/
structure OxC (K : PySem.W.Frag) (C : Addr) : Prop where
  base : ∃ (B newId initId : String) (bs : List Value), ExcBaseFacts B newId initId bs ∧ StoreFacts B bs "object.__setattr__" "object" ∧ PySem.W.excInitIn K C bs newId = true ∧ PySem.W.excOver K C bs = true
  hd : PySem.W.hasDictIn K C = true
  sa : PySem.W.findIn K (.ref C) "__setattr__" = some (some (.builtin "object.__setattr__"))
  exC : PySem.W.subIn K (.ref C) (.type "BaseException") = some true
  tyC : PySem.W.typeIn K (.ref C) = some (.type "type")
  kC : PySem.W.keepIn K (.ref C) = true
section
variable {X : Cx} {pins : List (Addr × Obj)} {σ : L2.St} {H : Hp} {s : Shared} {a C : Addr} {f : Str} {y : V} {u : Value} {fs : List (Str × V)} {Q : Unit → Shared → Prop} {E : Value → Shared → Prop} {A : Around}
theorem ox_first (T : OxC X.K C) (I : L2.Inv X pins σ H s) (e : H a = some (exo a C none)) (hno : PySem.W.findIn X.K (.ref C) f = some none) (ry : RelV y u)
    (h : ∀ dx s', H dx = none → dx ≠ a → L2.Inv X pins σ (L2.upd (L2.upd H dx (exd dx [(f, y)])) a (exo a C (some dx))) s' → Q () s') : wpAny (model X.prog X.w) A (setAttr (.ref a) f u) Q E s := by
  obtain ⟨t1, ho⟩ := exo_at I.hok e
  obtain ⟨B, n1, n2, bs, _, SF, _, ov⟩ := T.base
  cases s with
  | mk hp g dw t os =>
  refine PySem.W.set_plain I.kIn (ox := { cls := .ref C, dict := none, data := .fields #[.ref t1, .none, .none, .none, .bool false, .none] }) (od := none) ⟨ho, rfl, rfl, trivial⟩ T.sa ?_
  refine PySem.Oxb.sa_first SF I.kIn ho ov T.hd hno fun h' tk' dx kp dn dne hx hn => ?_
  have e1 : H dx = none := I.hok.fresh dn
  have le : ∀ {b : Addr} {o : Obj}, hp.get? b = some o → b ≠ dx := fun {b o} q => Nat.ne_of_lt (Nat.lt_of_lt_of_le (Heap.lt_size q) dn)
  have noA : ∀ {b : Addr}, H b = none → b ≠ a := fun {b} n => ne_of_none e n |>.symm
  have at' : ∀ b, b ≠ a → b ≠ dx → L2.upd (L2.upd H dx (exd dx [(f, y)])) a (exo a C (some dx)) b = H b := fun b h1 h2 => by rw [upd_ne h1, upd_ne h2]
  have keepT : ∀ b o, H b = some o → exo a C none ≠ o → L2.upd (L2.upd H dx (exd dx [(f, y)])) a (exo a C (some dx)) b = some o := fun b o q d => by
    rw [at' b (fun z => d (by rw [z, e] at q; exact Option.some.inj q)) (fun z => by rw [z, e1] at q; cases q)]
    exact q
  refine h dx _ e1 dne (I.un (t' := tk') ⟨fun b o q n _ _ => kp b o (noA n) q, fun b o q n _ _ => ⟨_, kp b o (noA n) q⟩, fun b o q n _ => (at' b (noA n) (le q)).trans n, fun b o q _ => ?_, fun b xs q => keepT b _ q exo_tup, fun b o v q => keepT b _ q exo_frz, fun b ps q => ⟨#[], ?_⟩⟩ fun b o q => ?_)
  · by_cases z : b = a
    · exact ⟨_, z ▸ hx⟩
    · exact ⟨o, kp b o z q⟩
  · rw [keepT b _ q exo_tbl]; simp
  · by_cases z : b = a
    · subst z
      rw [upd_same] at q
      injection q with q
      subst q
      exact exo_ok hx
    · by_cases z2 : b = dx
      · subst z2
        rw [upd_ne z, upd_same] at q
        injection q with q
        subst q
        exact exd_ok hn (relO_put (fs := []) ry fun _ => True.intro)
      · rw [at' b z z2] at q
        refine (I.hok b o q).stay (fun c v hc w => kp c v ?_ w) (fun c hc => keepT c _ hc exo_own) fun c xs hc => keepT c _ hc exo_tup
        rcases hc with hc | hc
        · rw [hc]; exact z
        · exact at_ne e hc exo_own
theorem ox_next {dx : Addr} (T : OxC X.K C) (I : L2.Inv X pins σ H s) (e : H a = some (exo a C (some dx))) (ed : H dx = some (exd dx fs)) (hl : fs.length ≤ 900) (hno : PySem.W.findIn X.K (.ref C) f = some none) (ry : RelV y u)
    (h : ∀ s', L2.Inv X pins σ (L2.upd H dx (exd dx ((f, y) :: fs))) s' → Q () s') : wpAny (model X.prog X.w) A (setAttr (.ref a) f u) Q E s := by
  obtain ⟨t1, ho⟩ := exo_at I.hok e
  obtain ⟨mA, hns, rel⟩ := exd_at I.hok ed
  obtain ⟨B, n1, n2, bs, _, SF, _, ov⟩ := T.base
  have wi := within_of rel
  cases s with
  | mk hp g dw t os =>
  obtain ⟨od, _, _, hod, _, _⟩ := hns.count wi
  refine PySem.W.set_plain I.kIn (ox := { cls := .ref C, dict := some dx, data := .fields #[.ref t1, .none, .none, .none, .bool false, .none] }) (od := some od) ⟨ho, rfl, rfl, hod⟩ T.sa ?_
  refine PySem.Oxb.sa_next SF I.kIn ho hns wi (by rw [List.length_map]; omega) ov T.hd hno fun h' tk' kp hn => ?_
  have there : ∃ o, h'.get? dx = some o := by
    obtain ⟨o, _, _, e', _⟩ := hn
    exact ⟨o, e'⟩
  exact h _ (I.write (t' := tk') (x := dx) (e := dx) (by rw [ed]; exact True.intro) (.inl rfl) kp there (exd_ok hn (relO_put ry rel)))
end
/-! ### __init__ of such a class: self.word = a text, self.f = the parameter -/
section
variable {X : Cx} {o e : Expr} {to te : TE} {f : Str} {p' pos : Pos}
/-- self.f = e on an exception that is being made -/
def tOx (K : PySem.W.Frag) (f : Str) (to te : TE) : TS := fun D σ H => te σ H fun y H1 => to σ H1 fun x H2 => ∃ a C : Addr, x = .ref a ∧ OxC K C ∧ PySem.W.findIn K (.ref C) f = some none ∧
  ((H2 a = some (exo a C none) ∧ ∀ dx, H2 dx = none → dx ≠ a → D.nx σ (L2.upd (L2.upd H2 dx (exd dx [(f, y)])) a (exo a C (some dx)))) ∨
    ∃ (dx : Addr) (fs : List (Str × V)), H2 a = some (exo a C (some dx)) ∧ H2 dx = some (exd dx fs) ∧ fs.length ≤ 900 ∧ D.nx σ (L2.upd H2 dx (exd dx ((f, y) :: fs))))
theorem ps_ox (ho : PE X o to) (he : PE X e te) (hs : swapsWith e (some (.Attribute o f p')) pos.line X.env = pure false := by rfl) : PS X (.Assign [.Attribute o f p'] e pos) (tOx X.K f to te) := ⟨fun pins s σ H D I h =>
  plainObj_wpAny_Assign_Attribute (thn (he.run pins s σ H _ I h) fun _ s1 ⟨_, H1, I1, r1, q1⟩ => thn (ho.run pins s1 σ H1 _ I1 q1) fun u s2 ⟨_, H2, I2, r2, a, C, ex, T, hno, q⟩ => by
    subst ex
    cases (show u = Value.ref a from r2)
    rcases q with ⟨e1, q⟩ | ⟨dx, fs, e1, e2, hl, q⟩
    · exact ox_first T I2 e1 hno r1 fun dx s' n ne J => ⟨σ, _, J, q dx n ne⟩
    · exact ox_next T I2 e1 e2 hl hno r1 fun s' J => ⟨σ, _, J, q⟩) hs⟩
end
structure XcE where
  c : Str
  w : Str
  f : Option Str
  name : Str
  qual : Str
  args : Arguments
  body : List Stmt
  scope : Scope
def XcE.ps (q : XcE) : List Str := match q.f with
  | some f => ["self", f]
  | none => ["self"]
def okLo (sc : Scope) (x : Str) : Bool := decide (sc.names.lookup x = some .local)
def isSelf : Expr → Bool
  | .Name x _ => decide (x = ("self" : Str))
  | _ => false
def stWord (w : Str) : Stmt → Bool
  | .Assign [.Attribute o f _] (.Constant (.str x) _ _) _ => decide (f = ("word" : Str)) && (isSelf o && decide (x = w))
  | _ => false
def stFld (f : Str) : Stmt → Bool
  | .Assign [.Attribute o g _] (.Name x _) _ => decide (g = f) && (isSelf o && decide (x = f))
  | _ => false
def chkX (q : XcE) : Bool :=
  decide (q.scope.kind = .function) && (!q.scope.isCoroutine && (!q.scope.isGenerator && (q.scope.names.all (fun y => !decide (y.2 = .free)) && (okLo q.scope "self" && (match q.f with
    | none => (match q.body with
      | [s1] => stWord q.w s1
      | _ => false)
    | some f => okLo q.scope f && (!(f == ("__debug__" : Str)) && (!(f == ("__classdict__" : Str)) && (!decide (f = ("self" : Str)) && (match q.body with
      | [s1, s2] => stWord q.w s1 && stFld f s2
      | _ => false)))))))))
/-- the fields of such an exception -/
def fldsX (q : XcE) (r : List V) : List (Str × V) := match q.f, r with
  | some f, v :: _ => [(f, v), ("word", .str q.w)]
  | _, _ => [("word", .str q.w)]
def nX (q : XcE) : Nat := match q.f with
  | some _ => 1
  | none => 0
def spX (q : XcE) (C : Addr) : Sp := fun vs H Q _ => ∃ a r, vs = V.ref a :: r ∧ r.length = nX q ∧ H a = some (exo a C none) ∧ ∀ dx, H dx = none → dx ≠ a → Q .non (L2.upd (L2.upd H dx (exd dx (fldsX q r))) a (exo a C (some dx)))
theorem isSelf_ok {o : Expr} (h : isSelf o = true) : ∃ p, o = .Name "self" p := by
  cases o with
  | Name x p => exact ⟨p, by rw [of_decide_eq_true h]⟩
  | _ => cases h
theorem initX_ok {P : Program} {w : World} {K : PySem.W.Frag} {mg : Str → Option Value} {base : Heap} {CX : CXT} {q : XcE} {fI C : Addr} {fd : FuncData} (F : FunD K q.name q.qual q.args q.body q.scope [] [] fI fd) (hc : chkX q = true) (T : OxC K C)
    (hw : PySem.W.findIn K (.ref C) "word" = some none) (hf : ∀ f, q.f = some f → PySem.W.findIn K (.ref C) f = some none) : FnOk P w K mg base CX 1 fI fd q.ps (spX q C) := by
  simp only [chkX, Bool.and_eq_true, decide_eq_true_eq, Bool.not_eq_true', List.all_eq_true, decide_eq_false_iff_not, okLo] at hc
  obtain ⟨h1, h2, h3, h4, h5, h6⟩ := hc
  have len : ∀ vs H Q E, spX q C vs H Q E → vs.length = q.ps.length := fun vs H Q E ⟨a, r, ev, hl, _⟩ => by
    rw [ev, List.length_cons, hl]
    unfold nX XcE.ps
    cases q.f <;> rfl
  cases hq : q.f with
  | none =>
    rw [hq] at h6
    simp only at h6
    have eps : q.ps = [("self" : Str)] := by unfold XcE.ps; rw [hq]
    have S : FnScope q.ps q.ps q.scope := ⟨h1, h2, h3, by rw [eps]; decide, by rw [List.take_length], fun x hx => by rw [eps] at hx; rw [List.mem_singleton.mp hx]; exact .inl h5, h4⟩
    refine FunD.ok F S len fun cdv A outer s H vs Q E hr ⟨a, r, ev, hl, ha, go⟩ => ?_
    split at h6
    case h_2 => cases h6
    rename_i s1 hb
    unfold stWord at h6
    split at h6
    case h_2 => cases h6
    rename_i o f p1 x j p2 p3
    simp only [Bool.and_eq_true, decide_eq_true_eq] at h6
    obtain ⟨rfl, ho, rfl⟩ := h6
    obtain ⟨p0, rfl⟩ := isSelf_ok ho
    subst ev
    rw [hb]
    have hN : (cxOf CX P w K mg base q.ps q.qual q.scope fI cdv A outer s H E).N[0]? = some ("self" : Str) := by show q.ps[0]? = _; rw [eps]; rfl
    refine ⟨_, pss_one (ps_ox (pe_var hN (.inl h5)) pe_str), V.ref a, ?_, a, C, rfl, T, hw, .inl ⟨ha, fun dx n ne => ?_⟩⟩
    · unfold L2.start; simp
    · have := go dx n ne
      unfold fldsX at this
      rw [hq] at this
      exact this
  | some f =>
    rw [hq] at h6
    simp only [Bool.and_eq_true, decide_eq_true_eq, Bool.not_eq_true', decide_eq_false_iff_not] at h6
    obtain ⟨g1, g2, g3, g4, h6⟩ := h6
    have eps : q.ps = [("self" : Str), f] := by unfold XcE.ps; rw [hq]
    have S : FnScope q.ps q.ps q.scope := ⟨h1, h2, h3, by rw [eps]; simp [Ne.symm g4], by rw [List.take_length], fun x hx => by
      rw [eps] at hx
      rcases List.mem_cons.mp hx with hx | hx
      · rw [hx]; exact .inl h5
      · rw [List.mem_singleton.mp hx]; exact .inl g1, h4⟩
    refine FunD.ok F S len fun cdv A outer s H vs Q E hr ⟨a, r, ev, hl, ha, go⟩ => ?_
    split at h6
    case h_2 => cases h6
    rename_i s1 s2 hb
    simp only [Bool.and_eq_true] at h6
    obtain ⟨h6, h7⟩ := h6
    unfold stWord at h6
    split at h6
    case h_2 => cases h6
    rename_i o f0 p1 x j p2 p3
    simp only [Bool.and_eq_true, decide_eq_true_eq] at h6
    obtain ⟨rfl, ho, rfl⟩ := h6
    obtain ⟨p0, rfl⟩ := isSelf_ok ho
    unfold stFld at h7
    split at h7
    case h_2 => cases h7
    rename_i o' f' p4 x' p5 p6
    simp only [Bool.and_eq_true, decide_eq_true_eq] at h7
    obtain ⟨rfl, ho', rfl⟩ := h7
    obtain ⟨p7, rfl⟩ := isSelf_ok ho'
    have hl : r.length = 1 := by rw [hl]; unfold nX; rw [hq]
    obtain ⟨v, rfl⟩ : ∃ v, r = [v] := List.length_eq_one_iff.mp hl
    subst ev
    rw [hb]
    have hN : (cxOf CX P w K mg base q.ps q.qual q.scope fI cdv A outer s H E).N[0]? = some ("self" : Str) := by show q.ps[0]? = _; rw [eps]; rfl
    have hN1 : (cxOf CX P w K mg base q.ps q.qual q.scope fI cdv A outer s H E).N[1]? = some x' := by show q.ps[1]? = _; rw [eps]; rfl
    have st0 : (L2.start q.ps [V.ref a, v])[0]? = some (some (.ref a)) := by unfold L2.start; simp
    have st1 : (L2.start q.ps [V.ref a, v])[1]? = some (some v) := by unfold L2.start; simp
    refine ⟨_, pss_cons (ps_ox (pe_var hN (.inl h5)) pe_str) (pss_one (ps_ox (pe_var hN (.inl h5)) (pe_var hN1 (.inl g1) g2 g3))), V.ref a, st0, a, C, rfl, T, hw, .inl ⟨ha, fun dx n ne => ?_⟩⟩
    refine ⟨v, st1, V.ref a, st0, a, C, rfl, T, hf _ hq, .inr ⟨dx, [("word", .str q.w)], upd_same, by rw [upd_ne ne, upd_same], by simp, ?_⟩⟩
    have := go dx n ne
    unfold fldsX at this
    rw [hq] at this
    have e1 : L2.upd (L2.upd (L2.upd H dx (exd dx [("word", V.str q.w)])) a (exo a C (some dx))) dx (exd dx [(x', v), ("word", V.str q.w)]) = L2.upd (L2.upd H dx (exd dx [(x', v), ("word", .str q.w)])) a (exo a C (some dx)) := by
      funext b
      by_cases z : b = dx
      · rw [z, upd_same, upd_ne ne, upd_same]
      · rw [upd_ne z]
        by_cases z2 : b = a
        · rw [z2, upd_same, upd_same]
        · rw [upd_ne z2, upd_ne z2, upd_ne z, upd_ne z]
    show Q .non _
    rw [e1]
    exact this
/-! ### C(..) -/
section
variable {X : Cx} {q : XcE} {C fI : Addr} {fd : FuncData} {ps : List Str} {k : Nat}
theorem run_ox {pins : List (Addr × Obj)} {σ : L2.St} {H : Hp} {s : Shared} {Q : XK} {us : List Value} {vs : List V} (T : OxC X.K C) (iC : PySem.W.findIn X.K (.ref C) "__init__" = some (some (.ref fI))) (tI : PySem.W.typeIn X.K (.ref fI) = some (.type "function"))
    (F : FnOk X.prog X.w X.K X.mg X.base (L2.CX X.prog X.w) k fI fd ps (spX q C)) (hr : Room (k + 1) X.A) (hb : Binds X.K fd ps []) (I : L2.Inv X pins σ H s) (r : Vals vs us) (hl : vs.length = nX q)
    (hQ : ∀ d, H d = none → Q (.ref C) (some d) (L2.upd H d (.xd (fldsX q vs)))) : wpAny (model X.prog X.w) X.A (call (.ref C) us) (MkP X pins σ Q) X.xe s := by
  obtain ⟨B, newId, initId, bs, FB, _, ini, _⟩ := T.base
  cases s with
  | mk hp g dw tk os =>
  obtain ⟨nm, NN, qn, bb, bm, hdct, sn, sub, ab, col, dd, k0, k1, k2, k3, k5, hC, hT⟩ := PySem.W.excInit_of I.kIn ini
  have ge : hp.objs.size ≤ hp.objs.size + 1 := Nat.le_succ _
  have n0 : H (hp.objs.size + 1) = none := I.hok.fresh ge
  have kk : ∀ b o, hp.get? b = some o → ((hp.push (PySem.W.kdv_tup us)).push (PySem.HandSPX.excO C hp.objs.size)).get? b = some o := fun b o e => Heap.get?_push_of_some _ (Heap.get?_push_of_some _ e)
  have at0 : ((hp.push (PySem.W.kdv_tup us)).push (PySem.HandSPX.excO C hp.objs.size)).get? (hp.objs.size + 1) = some (PySem.HandSPX.excO C hp.objs.size) := by heap_get
  have I2 := I.laid (t' := tk) (a := hp.objs.size + 1) (o := exo (hp.objs.size + 1) C none) (h' := (hp.push (PySem.W.kdv_tup us)).push (PySem.HandSPX.excO C hp.objs.size)) kk ge (exo_ok at0)
  have rr : Vals (V.ref (hp.objs.size + 1) :: vs) (Value.ref (hp.objs.size + 1) :: us) := .cons rfl r
  have sp0 : spX q C (V.ref (hp.objs.size + 1) :: vs) (L2.upd H (hp.objs.size + 1) (exo (hp.objs.size + 1) C none)) (fun v H2 => v = .non ∧ ∃ d, H2 (hp.objs.size + 1) = some (exo (hp.objs.size + 1) C (some d)) ∧ H2 d = some (exd d (fldsX q vs)) ∧ H d = none ∧ Q (.ref C) (some d) (L2.upd (L2.del H2 (hp.objs.size + 1)) d (.xd (fldsX q vs)))) fun _ _ _ => False := by
    refine ⟨_, vs, rfl, hl, upd_same, fun dx n ne => ⟨rfl, dx, upd_same, by rw [upd_ne ne, upd_same], ?_, ?_⟩⟩
    · rw [upd_ne ne] at n; exact n
    · have n' : H dx = none := by rw [upd_ne ne] at n; exact n
      have e1 : L2.upd (L2.del (L2.upd (L2.upd (L2.upd H (hp.objs.size + 1) (exo (hp.objs.size + 1) C none)) dx (exd dx (fldsX q vs))) (hp.objs.size + 1) (exo (hp.objs.size + 1) C (some dx))) (hp.objs.size + 1)) dx (.xd (fldsX q vs)) = L2.upd H dx (.xd (fldsX q vs)) := by
        funext b
        by_cases z : b = dx
        · rw [z, upd_same, upd_same]
        · rw [upd_ne z, upd_ne z]
          by_cases z2 : b = hp.objs.size + 1
          · rw [z2, del_same, n0]
          · rw [del_ne z2, upd_ne z2, upd_ne z, upd_ne z2]
      rw [e1]
      exact hQ dx n'
  have lu : us.length ≤ sizeLine := by
    have : nX q ≤ 1 := by unfold nX; cases q.f <;> simp
    rw [← r.length, hl, sizeLine_eq]
    omega
  have hz : (Value.ref (hp.objs.size + 1) :: us).length = ps.length := by rw [← rr.length]; exact F.len _ _ _ _ sp0
  have bd := hb _ (Value.ref (hp.objs.size + 1) :: us) I2.kIn (by rw [List.append_nil]; exact hz)
  rw [List.append_nil] at bd
  refine wpAny_call (PySem.HandSPX.call_own FB hT hC (PySem.W.looks_findIn I.kIn iC) (fun self => PySem.W.bind_fn I.kIn self tI) lu
    (codeAny_mono (F.run _ X.stack _ _ ⟨Value.ref (hp.objs.size + 1) :: us, []⟩ _ _ _ (fun _ _ _ => False) (hr.make C us []) (I2.env0.make C us []) bd rr sp0) fun res s1 hq => ?_))
  cases res with
  | error er =>
    obtain ⟨_, _, _, _, _, _, _, _, _, _, _, _, z⟩ := hq
    exact z.elim
  | ok fl =>
    cases fl with
    | ret u =>
      obtain ⟨v, H2, o2, b2, u2, k2', rv, ev, d, e1, e2, e3, q2⟩ := hq
      subst ev
      cases s1
      exact ⟨rv, mk_end (raises_own T.exC T.tyC) I ge kk u2 k2' o2 b2 e1 e2 e3 q2⟩
    | next => exact False.elim hq
    | brk => exact False.elim hq
    | cont => exact False.elim hq
end
end Vm
namespace Vm
open PySem PySem.Spec L2 PyProof.Rows
theorem fly_keeps {B h h' : Heap} {l : List Env} {a : Addr} {Z : Obj → Prop} (k : ∀ b o, h.get? b = some o → h'.get? b = some o) (f : HandSPX.FlyingZ B l a Z h) : HandSPX.FlyingZ B l a Z h' := by
  obtain ⟨f1, f2, f3, oe, vs, T, oT, ts, e1, e2, e3, e4, e5, e6, e7, e8⟩ := f
  exact ⟨fun b o e => k _ _ (f1 b o e), f2, f3.of_keeps fun b o e _ => ⟨o, k _ _ e, rfl⟩, oe, vs, T, oT, ts, k _ _ e1, e2, e3, e4, e5, e6, k _ _ e7, e8⟩
/-- the test of a clause: what it is matched against -/
def Tst (X : Cx) (te : Expr) (cs : List Value) : Prop := ∀ (a : Addr) (pn : List (Addr × Obj)) (σ : L2.St) (H : Hp) (s : Shared) (Q : Value → Shared → Prop) (E : Value → Shared → Prop), L2.Inv (X.suite a pn) [] σ H s →
  (∀ c h1, (∀ b o, s.heap.get? b = some o → h1.get? b = some o) → (∀ e cls b, PySem.W.Looks (model X.prog X.w) h1 (typeOf (.ref e)) cls → PySem.W.exmAny X.K cls cs = some b → PySem.W.Looks (model X.prog X.w) h1 (excMatches (.ref e) c) b) → Q c { s with heap := h1 }) →
  wpAny (model X.prog X.w) (X.A.mark (some (.ref a))) (eval te X.env) Q E s
section
variable {X : Cx}
theorem tst_name {x : Str} {C : Addr} {p : Pos} (hg : Gl X x) (hm : X.mg x = some (.ref C)) (hd : (x == ("__debug__" : Str)) = false) : Tst X (.Name x p) [.ref C] := fun a pn σ H s Q E I k =>
  ld_glob (X := X.suite a pn) I hg hm (k _ s.heap (fun _ _ e => e) fun e cls b LT hx => by
    obtain ⟨b1, d1, x1, y1, z1⟩ := PySem.W.exmAny_cons hx
    cases (show some false = some d1 from y1)
    rw [z1, Bool.or_false]
    exact PySem.W.exm_one I.kIn LT x1) hd
theorem tst_two {x y : Str} {C D : Addr} {p p1 p2 : Pos} {k0} (hg : Gl X x) (hm : X.mg x = some (.ref C)) (hd : (x == ("__debug__" : Str)) = false) (hg2 : Gl X y) (hm2 : X.mg y = some (.ref D)) (hd2 : (y == ("__debug__" : Str)) = false) : Tst X (.Tuple [.Name x p, .Name y p1] k0 p2) [.ref C, .ref D] := fun a pn σ H s Q E I k => by
  refine wpAny_Tuple_spliced (Calls.spliced_cons (ld_glob (X := X.suite a pn) I hg hm (Calls.spliced_cons (ld_glob (X := X.suite a pn) I hg2 hm2 (Calls.spliced_nil ⟨by rw [sizeLine_eq]; simp, ?_⟩) hd2)) hd))
  refine k _ _ (fun b o e => Heap.get?_push_of_some _ e) fun e cls b LT hx => PySem.W.exm_tup2 (I.kIn.keeps fun b o e => Heap.get?_push_of_some _ e) LT (Heap.get?_push_size _ rfl) hx
end
abbrev ClR := List Value × Nat × (Addr → Value → Option Addr → TS)
def wCl (K : PySem.W.Frag) (D : Ends) : List ClR → WX
  | [] => fun _ _ _ _ => False
  | (cs, i, ts) :: r => fun cls d σ H => ∃ b, PySem.W.exmAny K cls cs = some b ∧ (b = true → i < σ.length → ∀ a, H a = none → ts a cls d { nx := fun σ' H' => D.nx (σ'.set i none) H', rt := D.rt, bk := fun σ' H' => D.bk (σ'.set i none) H', ct := fun σ' H' => D.ct (σ'.set i none) H' } (σ.set i (some (.ref a))) H) ∧ (b = false → wCl K D r cls d σ H)
inductive ClOk (X : Cx) : List ExceptHandler → List ClR → Prop
  | nil : ClOk X [] []
  | cons {te : Expr} {cs : List Value} {n : Str} {i : Nat} {ts : Addr → Value → Option Addr → TS} {b0 : Stmt} {su : List Stmt} {pos : Pos} {hds : List ExceptHandler} {l : List ClR} (ht : Tst X te cs) (hi : X.N[i]? = some n) (hl : X.env.kindOf n = some .local)
      (hs : ∀ (a : Addr) (oe : Obj) (cls : Value) (d : Option Addr) (pn : List (Addr × Obj)), Zc cls d oe → (∃ vs, oe.data = .fields vs ∧ vs[2]? = vs[2]?) → PSs (X.suite a ((a, oe) :: pn)) (b0 :: su) (ts a cls d)) (r : ClOk X hds l) :
      ClOk X (.ExceptHandler (some te) (some n) (b0 :: su) pos :: hds) ((cs, i, ts) :: l)
theorem ps_tryc {X : Cx} {body : List Stmt} {h0 : ExceptHandler} {hds : List ExceptHandler} {l : List ClR} {pos : Pos} {tb : WX → TS} (hs : X.stack = X.env :: X.outer) (hf : X.env.frame = some X.env.locals) (hN : X.N.Nodup)
    (hb : ∀ (W : WX) (pn : List (Addr × Obj)) (xe : Value → Shared → Prop), Takes (X.tr pn xe) W → PassesOwn (model X.prog X.w) X.A X.env xe → PSs (X.tr pn xe) body (tb W)) (hh : ClOk X (h0 :: hds) l) :
    PS X (.Try body (h0 :: hds) [] [] pos) (fun D σ H => tb (wCl X.K D l) D σ H) := by
  refine ⟨fun pins s σ H D I h => wpAny_Try_except ?_⟩
  have ok := I.ok
  have hfr : X.A.frames = some (X.env :: X.outer) := by rw [ok.frames, hs]
  have run := (hb (wCl X.K D l) (X.pn ++ pins) (fun e s1 => wpAny (model X.prog X.w) X.A (noteFrame e X.env) (fun _ s2 => wpAny (model X.prog X.w) X.A (setFlight e none) (fun _ s3 =>
    wpAny (model X.prog X.w) X.A (handleBy e X.env (h0 :: hds)) (SP X pins D) X.xe s3) X.xe s2) X.xe s1) (fun u s' xx => ?_) PassesOwn.looking).run [] s σ H D (I.toTry _) h
  · refine wpAny_mono run (fun f s1 q => ?_) fun _ _ x => x
    cases f with
    | next =>
      obtain ⟨σ', H', J, q⟩ := q
      exact wpAny_execs_nil ⟨σ', H', J.ofTry ok, q⟩
    | brk =>
      obtain ⟨σ', H', J, q⟩ := q
      exact ⟨σ', H', J.ofTry ok, q⟩
    | cont =>
      obtain ⟨σ', H', J, q⟩ := q
      exact ⟨σ', H', J.ofTry ok, q⟩
    | ret u =>
      obtain ⟨v, σ', H', J, r, q⟩ := q
      exact ⟨v, σ', H', J.ofTry ok, r, q⟩
  obtain ⟨a, B, sI, pins', σ', H', cls, d, rfl, J0, nb, up, sky, na, os, ag, w⟩ := xx
  have J : L2.Inv X pins σ' H' sI := J0.ofTry ok
  have sky : Sky B (X.env :: X.outer) a (Zc cls d) X.env.locals s'.heap := hs ▸ sky
  refine Sky.land Zc.steady hfr hf sky fun h3 fl3 up3 => ?_
  -- whatever the clauses look at first, the state is of this kind
  have go : ∀ {hds' : List ExceptHandler} {l' : List ClR}, ClOk X hds' l' → wCl X.K D l' cls d σ' H' → ∀ h4, HandSPX.FlyingZ B (X.env :: X.outer) a (Zc cls d) h4 → sI.heap.UpToSlots h4 →
      wpAny (model X.prog X.w) X.A (handleBy (.ref a) X.env hds') (SP X pins D) X.xe { s' with heap := h4 } := by
    intro hds' l' hk
    have laid : ∀ h5, HandSPX.FlyingZ B (X.env :: X.outer) a (Zc cls d) h5 → sI.heap.UpToSlots h5 → ∃ oe vs, h5.get? a = some oe ∧ Zc cls d oe ∧ oe.data = .fields vs ∧ L2.Inv X pins σ' H' { s' with heap := h5 } ∧ L2.Inv (X.suite a ((a, oe) :: (X.pn ++ pins))) [] σ' H' { s' with heap := h5 } := fun h5 fl u5 => by
      obtain ⟨oe, vs, e1, e2, e3⟩ := fl.there
      have J5 : L2.Inv X pins σ' H' { s' with heap := h5 } := J.landed nb fl.1 u5 os ag
      have nfr : a ∉ frs (X.env :: X.outer) := fun hm => by
        obtain ⟨_, o', e', hn⟩ := fl.2.2.1.mem hm
        rw [e1] at e'; cases e'
        exact hn _ e3
      have nL : a ≠ X.env.locals := fun z => nfr (List.mem_filterMap.mpr ⟨X.env, List.mem_cons_self, by rw [hf, z]⟩)
      have nF : a ∉ X.fs := fun hm => by
        obtain ⟨e, he, q⟩ := List.mem_filterMap.mp hm
        exact nfr (List.mem_filterMap.mpr ⟨e, List.mem_cons_of_mem _ he, q⟩)
      exact ⟨oe, vs, e1, e2, e3, J5, J5.suite e1 e3 na nL nF⟩
    induction hk with
    | nil => exact fun w => w.elim
    | @cons te cs n i ts b0 su pos' hds2 l2 ht hi hl hsu r ih =>
      intro w h4 fl4 u4
      obtain ⟨b, hb1, hyes, hno⟩ := w
      obtain ⟨oe4, vs4, g1, g2, g3, J4, S4⟩ := laid h4 fl4 u4
      refine wpAny_handleBy_cons (codeAny_handlers_test (ht a _ σ' H' { s' with heap := h4 } _ _ S4 fun c h5 k5 mt => ?_)) (by intro q; cases q)
      have fl5 : HandSPX.FlyingZ B (X.env :: X.outer) a (Zc cls d) h5 := fly_keeps k5 fl4
      have u5 := u4.trans (Heap.UpToSlots.of_keeps k5)
      refine (mt a cls b (fun A Q E s k q => wpAny_typeOf_ref (k _ _ (k5 _ _ g1)) (by rw [g2.1]; exact q)) hb1).here ?_
      cases b with
      | false => exact ih (hno rfl) h5 fl5 u5
      | true =>
        refine codeAny_handlers_suite_as (HandSPX.lands_againZ fl5 fun h6 fl6 up6 => ?_)
        obtain ⟨oe6, vs6, i1, i2, i3, J6, S6⟩ := laid h6 fl6 (u5.trans up6)
        refine store_ok (X := X.suite a ((a, oe6) :: (X.pn ++ pins))) (v := .ref a) S6 hN hi (.inl hl) rfl (fun s7 S7 => ?_) (.inr hl)
        refine wpAny_mono ((hsu a oe6 cls d (X.pn ++ pins) i2 ⟨_, i3, rfl⟩).run [] s7 _ H' _ S7 (hyes rfl (by rw [J6.len]; exact (List.getElem?_eq_some_iff.mp hi).1) a na)) (fun f s8 q => ?_) fun _ _ z => False.elim z
        have out : ∀ {σ6 : L2.St} {H6 : Hp} {Q : Shared → Prop}, L2.Inv (X.suite a ((a, oe6) :: (X.pn ++ pins))) [] σ6 H6 s8 → (∀ s9, L2.Inv X pins (σ6.set i none) H6 s9 → Q s9) →
            wpAny (model X.prog X.w) X.A (do bindName X.env n .none; unbindBehindTheSuite X.env n pos') (fun _ s9 => Q s9) X.xe s8 := fun {σ6 H6 Q} S hq => gone_ok (S.unsuite ok) hN hi hl hq
        cases f with
        | next =>
          obtain ⟨σ6, H6, S, q⟩ := q
          exact out S fun s9 K => ⟨_, _, K, q⟩
        | brk =>
          obtain ⟨σ6, H6, S, q⟩ := q
          exact out S fun s9 K => ⟨_, _, K, q⟩
        | cont =>
          obtain ⟨σ6, H6, S, q⟩ := q
          exact out S fun s9 K => ⟨_, _, K, q⟩
        | ret u =>
          obtain ⟨v6, σ6, H6, S, r6, q⟩ := q
          exact out S fun s9 K => ⟨_, _, _, K, r6, q⟩
  exact go hh w h3 fl3 (up.trans up3)
end Vm
namespace Vm
open PySem PySem.Spec L2 PyProof.Rows
/-! ### a def called where an exception is handled -/
theorem run_hot {CX : CXT} {P : Program} {w : World} {K : PySem.W.Frag} {mg : Str → Option Value} {base : Heap} {k : Nat} {f : Addr} {name qual : Str} {params : Arguments} {body : List Stmt} {scope : Scope} {fd : FuncData} {N ps : List Str}
    (F : FunD K name qual params body scope [] [] f fd) (S : FnScope N ps scope) {A : Around} {outer : List Env} {s : Shared} {H : Hp} {args : Args} {us : List Value} {vs : List V} {Q : VK} {E : XK} {p : Addr × Obj} (hr : L2H.RoomH (k + 1) A) (hpin : L2H.PinOk outer H s p)
    (e0 : Env0 P w K mg base A outer s H) (hb : BindsTo s fd args (ps.zip us)) (r : Vals vs us) (hl : vs.length = ps.length)
    (hbody : ∀ cdv, L2H.RoomH k (A.deeper (envOfC qual scope s.heap.objs.size f cdv)) → ∃ t, PSs (L2H.cxH CX P w K mg base N qual scope f cdv A outer s H E p) body t ∧ t { nx := fun _ H' => Q .non H', rt := Q } (L2.start N vs) H) :
    codeAny (model P w) A (.call (.ref f) args) (CR CX outer P w H s Q E) s := by
  obtain ⟨oc, od, dV, kV, doc, pm, an, cdv, ct, osl, rfl, lk, hcd, _, _⟩ := F.ex
  have here : K.In s.heap := e0.mod.kin.keeps fun b o e => (e0.bs b o e).1
  have free : s.heap.NoLimit := e0.mod.nolimit.keeps fun b o e => (e0.bs b o e).1
  refine codeAny_call_function hr.depth (here _ _ lk) rfl S.co S.gen rfl (PySem.W.codeRec_of here hcd) (hb _ _ _ _ (wpAny_newFunctionEnv_cells S.kind (fun y hy => ?_) fun env he s1 x => ?_))
  · obtain ⟨n, v⟩ := y
    exact (S.par n (List.of_mem_zip hy).1).imp id fun z => ⟨z, PySem.W.cellsFrom_some _ _ _ (.inl z)⟩
  subst he
  refine ⟨free.keeps x.toInCall.keep, codeAny_func ?_⟩
  obtain ⟨t, ht, hq⟩ := hbody cdv (hr.deeper _)
  have I : L2.Inv (L2H.cxH CX P w K mg base N qual scope f cdv A outer s H E p) [] (L2.start N vs) H s1 := L2H.inv_startH S hpin e0 hl r x
  have done : ∀ {σ' : L2.St} {H' : Hp} {v : V} {u : Value} {s' : Shared}, L2.Inv (L2H.cxH CX P w K mg base N qual scope f cdv A outer s H E p) [] σ' H' s' → RelV v u → Q v H' → CE outer P w H s Q u s' := fun {σ' H' v u s'} J rv q => ⟨v, H', J.os, J.bare, J.base, J.hok, rv, q⟩
  refine wpAny_mono (ht.run [] s1 (L2.start N vs) H _ I hq) (fun fl s' z => ?_) fun e s' z => z
  cases fl with
  | ret u =>
    obtain ⟨v, σ', H', J, rv, q⟩ := z
    exact done J rv q
  | next =>
    obtain ⟨σ', H', J, q⟩ := z
    exact done (v := V.non) (u := Value.none) J rfl q
  | brk =>
    obtain ⟨_, _, _, q⟩ := z
    exact q.elim
  | cont =>
    obtain ⟨_, _, _, q⟩ := z
    exact q.elim
/-- err.f where err's object is pinned -/
theorem pe_xfp {X : Cx} {a C : Addr} {oe : Obj} {cls : Value} {d : Option Addr} {e : Expr} {te : TE} {pos : Pos} {n : Str} (T : XfC X.K C) (hno : PySem.W.findIn X.K (.ref C) n = some none) (hz : Zc cls d oe) (hf : ∃ vs, oe.data = .fields vs) (hp : (a, oe) ∈ X.pn) (he : PE X e te)
    (hb : attributeBase e n X.env (eval e X.env) = eval e X.env := by rfl) : PE X (.Attribute e n pos) (tXf a cls d C n te) := ⟨fun pins s σ H Q I h =>
  attr_of hb (thn (he.run pins s σ H _ I h) fun u s1 hh => by
    obtain ⟨x, H1, I1, rx, ex, ec, dd, fs, v, ed, ea, l, q⟩ := hh
    subst ex ec ed
    cases (show u = Value.ref a from rx)
    obtain ⟨vs, hd⟩ := hf
    obtain ⟨m, hns, hr⟩ := (I1.hok dd _ ea : ObjOk X.prog X.w H1 s1.heap dd (.xd fs))
    obtain ⟨od, ho, hl⟩ := lookIn_ns hns
    obtain ⟨u, hu, ru⟩ := RelO.some_of (v := v) (o := m n) (by rw [← l]; exact hr n)
    have J : PySem.W.InstAt s1.heap a oe C (some od) := ⟨(I1.pin (a, oe) (List.mem_append_left _ hp)).1, hz.1, by unfold PySem.W.notCls; rw [hd], by rw [hz.2]; exact ho⟩
    exact HandSPX.exc_get I1.kIn J T.ga T.gg T.exC (PySem.W.findObj_own T.hdC hno rfl (by rw [hl, hu])) (handed_of ru) ⟨v, H1, I1.tok _, ru, q⟩)⟩
theorem pe_wk {X : Cx} {A : Expr} {t t' : TE} (h : PE X A t) (w : ∀ σ H Q, t' σ H Q → t σ H Q) : PE X A t' := ⟨fun pins s σ H Q I q => h.run pins s σ H Q I (w σ H Q q)⟩
/-! ### the little language of such a def -/
def isN (x : Str) : Expr → Bool
  | .Name y _ => decide (y = x)
  | _ => false
theorem isN_ok {x : Str} {e : Expr} (h : isN x e = true) : ∃ p, e = .Name x p := by
  cases e with
  | Name y p => exact ⟨p, by rw [of_decide_eq_true h]⟩
  | _ => cases h
def isAt (x f : Str) : Expr → Bool
  | .Attribute o g _ => decide (g = f) && isN x o
  | _ => false
theorem isAt_ok {x f : Str} {e : Expr} (h : isAt x f e = true) : ∃ p q, e = .Attribute (.Name x p) f q := by
  cases e with
  | Attribute o g q =>
    simp only [isAt, Bool.and_eq_true, decide_eq_true_eq] at h
    obtain ⟨rfl, h⟩ := h
    obtain ⟨p, rfl⟩ := isN_ok h
    exact ⟨p, q, rfl⟩
  | _ => cases h
def isStr (w : Str) : Expr → Bool
  | .Constant (.str x) _ _ => decide (x = w)
  | _ => false
theorem isStr_ok {w : Str} {e : Expr} (h : isStr w e = true) : ∃ j p, e = .Constant (.str w) j p := by
  cases e with
  | Constant c j p =>
    cases c with
    | str x => exact ⟨j, p, by rw [of_decide_eq_true h]⟩
    | _ => cases h
  | _ => cases h
def areStr : List Str → List Expr → Bool
  | [], [] => true
  | w :: ws, e :: es => isStr w e && areStr ws es
  | _, _ => false
def chkFE (x : Str) : FE → Expr → Bool
  | .att f, e => isAt x f e
  | .ite w a b, .IfExp (.Compare l [.Eq] [r] _) ea eb _ => isAt x "word" l && (isStr w r && (chkFE x a ea && chkFE x b eb))
  | _, _ => false
def chkFS (x : Str) : List (List Str × FE) → List Stmt → Bool
  | [], [.Return (some (.Constant .none _ _)) _] => true
  | (ws, fe) :: r, .If (.Compare l [.In] [.List es _] _) [.Return (some e) _] [] _ :: st => isAt x "word" l && (areStr ws es && (chkFE x fe e && chkFS x r st))
  | _, _ => false
def okB (s : Str) : Bool := PyData.strOk s && decide (s.length ≤ 1000)
theorem okB_ok {s : Str} (h : okB s = true) : okS s := by
  simp only [okB, Bool.and_eq_true, decide_eq_true_eq] at h
  exact ⟨h.1, by rw [sizeLine_eq]; omega⟩
def feOk : FE → Bool
  | .att _ => true
  | .ite w a b => okB w && (feOk a && feOk b)
def feNames : FE → List Str
  | .att f => [f]
  | .ite _ a b => feNames a ++ feNames b
/-- what stands stays -/
def Ext (H H' : Hp) : Prop := ∀ b o, H b = some o → H' b = some o
theorem Ext.refl (H : Hp) : Ext H H := fun _ _ e => e
theorem Ext.new {H H' : Hp} {q : Addr} {o : HO} (h : Ext H H') (hq : H' q = none) : Ext H (L2.upd H' q o) := fun b u e => by
  have e1 := h b u e
  rw [upd_ne (fun z => by rw [z, hq] at e1; cases e1)]
  exact e1
section
variable [CN] {X : Cx} {a C dd : Addr} {oe : Obj} {l : List (Str × V)} {w x : Str}
/-- the context reads the exception at a; slot i bears it -/
structure Tells (X : Cx) (a C dd : Addr) (oe : Obj) (x : Str) (ns : List Str) : Prop where
  T : XfC X.K C
  no : ∀ n ∈ ns, PySem.W.findIn X.K (.ref C) n = some none
  z : Zc (.ref C) (some dd) oe
  f : ∃ vs, oe.data = .fields vs
  p : (a, oe) ∈ X.pn
  u : X.A.units + 65 < cLine
  v : Vis X.env.scope x
  d1 : (x == ("__debug__" : Str)) = false
  d2 : (x == ("__classdict__" : Str)) = false
def tWord (i : Nat) (a dd : Addr) (l : List (Str × V)) (w : Str) (σ : L2.St) (H : Hp) : Prop := σ[i]? = some (some (.ref a)) ∧ H dd = some (.xd l) ∧ l.lookup ("word" : Str) = some (V.str w) ∧ okS w
theorem tells_att {ns : List Str} {i : Nat} {f : Str} {p q : Pos} (t : Tells X a C dd oe x ns) (hN : X.N[i]? = some x) (hf : f ∈ ns) : PE X (.Attribute (.Name x p) f q) (fun σ H Q => tWord i a dd l w σ H ∧ ∃ v, l.lookup f = some v ∧ Q v H) :=
  pe_wk (pe_xfp t.T (t.no f hf) t.z t.f t.p (pe_var hN t.v t.d1 t.d2)) fun σ H Q ⟨⟨h1, h2, h3, _⟩, v, h4, q⟩ => ⟨_, h1, rfl, rfl, dd, l, v, rfl, h2, h4, q⟩
theorem tells_fe {ns : List Str} {i : Nat} (t : Tells X a C dd oe x ns) (hN : X.N[i]? = some x) (hw : ("word" : Str) ∈ ns) : ∀ (fe : FE) (e : Expr), chkFE x fe e = true → (∀ f ∈ feNames fe, f ∈ ns) → feOk fe = true → PE X e (fun σ H Q => tWord i a dd l w σ H ∧ ∃ v, evFE l w fe = some v ∧ ∀ H', Ext H H' → Q v H')
  | .att f, e, h, hn, ho => by
    obtain ⟨p, q, rfl⟩ := isAt_ok h
    exact pe_wk (tells_att (l := l) (w := w) t hN (hn f (by simp [feNames]))) fun σ H Q ⟨h1, v, h2, q⟩ => ⟨h1, v, h2, q H (Ext.refl H)⟩
  | .ite z fa fb, e, h, hn, ho => by
    unfold chkFE at h
    split at h
    case h_1 heq => cases heq
    case h_3 => cases h
    rename_i heq
    cases heq
    simp only [Bool.and_eq_true] at h
    obtain ⟨h1, h2, h3, h4⟩ := h
    obtain ⟨p, q, rfl⟩ := isAt_ok h1
    obtain ⟨j, p2, rfl⟩ := isStr_ok h2
    simp only [feOk, Bool.and_eq_true] at ho
    have ia := tells_fe t hN hw fa _ h3 (fun f hf => hn f (by simp [feNames, hf])) ho.2.1
    have ib := tells_fe t hN hw fb _ h4 (fun f hf => hn f (by simp [feNames, hf])) ho.2.2
    refine pe_wk (pe_ifExp (pt_cmpR (opD_cmp .Eq t.u) (tells_att (l := l) (w := w) t hN hw) pe_str (by rfl)) ia ib) fun σ H Q ⟨h1, v, h2, q⟩ => ?_
    obtain ⟨g1, g2, g3, g4⟩ := id h1
    refine ⟨h1, .str w, g3, nos, .str w, .str z, nos, nos, decide (w = z), ⟨rfl, g4⟩, ⟨rfl, okB_ok ho.1⟩, ?_, _, rfl, ?_⟩
    · show (if (shal 8 (.str w) && shal 8 (.str z)) = true then some (eqD (.str w) (.str z)) else none) = _
      rw [if_pos (by rfl)]
      show some (w == z) = _
      rw [Bool.beq_eq_decide_eq]
    · unfold evFE at h2
      by_cases c : w = z
      · rw [if_pos c] at h2
        rw [if_pos (decide_eq_true c)]
        exact ⟨h1, v, h2, q⟩
      · rw [if_neg c] at h2
        rw [if_neg (by simp [c])]
        exact ⟨h1, v, h2, q⟩
theorem pa_strs {X : Cx} : ∀ {ws : List Str} {es : List Expr}, areStr ws es = true → PA X es (fun σ H Q => Q (ws.map V.str) H)
  | [], [], _ => ⟨fun pos pins s σ H Q I h => pa_nil.run pos pins s σ H Q I h⟩
  | z :: ws, e :: es, h => by
    simp only [areStr, Bool.and_eq_true] at h
    obtain ⟨j, p, rfl⟩ := isStr_ok h.1
    exact ⟨fun pos pins s σ H Q I q => (pa_cons pe_str (pa_strs h.2)).run pos pins s σ H Q I q⟩
  | [], e :: es, h => by cases h
  | z :: ws, [], h => by cases h
theorem rep_strs {H : Hp} : ∀ {ws : List Str}, ws.all okB = true → RepL H nos (ws.map D.str) (ws.map V.str) nos
  | [], _ => rfl
  | z :: ws, h => by
    rw [List.all_cons, Bool.and_eq_true] at h
    exact RepL.cons ⟨rfl, okB_ok h.1⟩ (rep_strs h.2)
theorem mem_strs {w : Str} : ∀ {ws : List Str}, memD (.str w) (ws.map D.str) = decide (w ∈ ws)
  | [] => by simp [memD]
  | z :: ws => by
    have ih := mem_strs (w := w) (ws := ws)
    rw [List.map_cons]
    show ((z == w) || memD (.str w) (ws.map D.str)) = _
    rw [ih]
    by_cases c : z = w
    · simp [c]
    · have c2 : (z == w) = false := by simpa using c
      simp [c2, Ne.symm c]
def fsOk (r : List (List Str × FE)) : Bool := r.all fun q => q.1.all okB && (decide (q.1.length ≤ 1000) && feOk q.2)
theorem tells_fs {ns : List Str} {i : Nat} (t : Tells X a C dd oe x ns) (hN : X.N[i]? = some x) (hw : ("word" : Str) ∈ ns) : ∀ (fs : List (List Str × FE)) (st : List Stmt), chkFS x fs st = true → (∀ q ∈ fs, ∀ f ∈ feNames q.2, f ∈ ns) → fsOk fs = true →
    PSs X st (fun D σ H => tWord i a dd l w σ H ∧ ∃ v, evFS V.non l w fs = some v ∧ ∀ H', Ext H H' → D.rt v H')
  | [], st, h, hn, ho => by
    unfold chkFS at h
    split at h
    case h_1 => 
      refine ⟨fun pins s σ H D I ⟨h1, v, h2, q⟩ => ?_⟩
      cases h2
      exact (pss_one (ps_ret pe_non)).run pins s σ H D I (q H (Ext.refl H))
    case h_2 => rename_i hq; cases hq
    case h_3 => cases h
  | (ws, fe) :: r, st, h, hn, ho => by
    unfold chkFS at h
    split at h
    case h_1 => rename_i hq; cases hq
    case h_3 => cases h
    rename_i heq
    cases heq
    simp only [Bool.and_eq_true] at h
    obtain ⟨h1, h2, h3, h4⟩ := h
    simp only [fsOk, List.all_cons, Bool.and_eq_true, decide_eq_true_eq] at ho
    obtain ⟨⟨o1, o2, o3⟩, o4⟩ := ho
    obtain ⟨p, q, rfl⟩ := isAt_ok h1
    have ie := tells_fe (l := l) (w := w) t hN hw fe _ h3 (hn _ List.mem_cons_self) o3
    have ir := tells_fs t hN hw r _ h4 (fun q hq => hn q (List.mem_cons_of_mem _ hq)) o4
    refine ⟨fun pins s σ H Dn I ⟨g, v, h5, go⟩ => (pss_cons (ps_if (pt_cmpR (opD_cmp .In t.u) (tells_att (l := l) (w := w) t hN hw) (pe_lst (pa_strs h2)) (by rfl)) (pss_one (ps_ret ie)) pss_nil) ir).run pins s σ H Dn I ?_⟩
    obtain ⟨g1, g2, g3, g4⟩ := id g
    have hlen : (ws.map V.str).length ≤ sizeLine := by rw [List.length_map, sizeLine_eq]; omega
    refine ⟨g, .str w, g3, hlen, fun pt hp => ⟨nos, .str w, .lst false (ws.map D.str), nos, nos, decide (w ∈ ws), ⟨rfl, g4⟩, ⟨pt, ws.map V.str, rfl, hlen, rep_strs o1, .inl ⟨rfl, .inl upd_same, id⟩⟩, ?_, decide (w ∈ ws), rfl, ?_⟩⟩
    · show (if (shal 7 (.str w) && (ws.map D.str).all (shal 7)) = true then some (memD (.str w) (ws.map D.str)) else none) = _
      rw [mem_strs, if_pos (by simp [shal])]
    · have ext := (Ext.refl H).new (o := .lst (ws.map V.str)) hp
      have g' : tWord i a dd l w σ (L2.upd H pt (.lst (ws.map V.str))) := ⟨g1, ext _ _ g2, g3, g4⟩
      unfold evFS at h5
      by_cases c : w ∈ ws
      · rw [if_pos c] at h5
        rw [decide_eq_true c]
        exact ⟨g', v, h5, fun H' e => go H' fun b o z => e b o (ext b o z)⟩
      · rw [if_neg c] at h5
        rw [decide_eq_false c]
        exact ⟨g', v, h5, fun H' e => go H' fun b o z => e b o (ext b o z)⟩
end
end Vm
namespace Vm
open PySem PySem.Spec L2 PyProof.Rows
def xNames : List Str := ["word", "name", "at", "stamp", "most", "row", "number"]
structure XcF (K : PySem.W.Frag) (C : Addr) : Prop where
  T : XfC K C
  no : ∀ n ∈ xNames, PySem.W.findIn K (.ref C) n = some none
theorem theFS_in : ∀ q ∈ theFS, ∀ f ∈ feNames q.2, f ∈ xNames := by decide
theorem theFS_ok : fsOk theFS = true := by decide +kernel
/-- the def that tells the field -/
structure FldD (K : PySem.W.Frag) (mg : Str → Option Value) (y x : Str) : Prop where
  ex : ∃ (g : Addr) (fd : FuncData) (name qual : Str) (args : Arguments) (body : List Stmt) (scope : Scope), mg y = some (.ref g) ∧ PySem.W.keepIn K (.ref g) = true ∧ FunD K name qual args body scope [] [] g fd ∧ FnScope [x] [x] scope ∧ chkFS x theFS body = true ∧
    ∀ (s : Shared) (us : List Value), us.length = 1 → BindsTo s fd ⟨us, []⟩ ([x].zip us)
  d0 : (y == ("__debug__" : Str)) = false
  d1 : (x == ("__debug__" : Str)) = false
  d2 : (x == ("__classdict__" : Str)) = false
section
variable [CN] {X : Cx} {a C dd : Addr} {oe : Obj} {l : List (Str × V)} {w x y xe : Str} {pn : List (Addr × Obj)} {i : Nat}
theorem pe_told {p q pos : Pos} (F : FldD X.K X.mg y x) (T : XcF X.K C) (hz : Zc (.ref C) (some dd) oe) (hf : ∃ vs, oe.data = .fields vs) (hr : Room 2 X.A) (hg : Gl X y) (hN : X.N[i]? = some xe) (hv : Vis X.env.scope xe) (e1 : (xe == ("__debug__" : Str)) = false) (e2 : (xe == ("__classdict__" : Str)) = false) :
    PE (X.suite a ((a, oe) :: pn)) (.Call (.Name y q) [.Name xe p] [] pos) (fun σ H Q => tWord i a dd l w σ H ∧ ∃ v, evFS V.non l w theFS = some v ∧ ∀ H', Ext H H' → Q v H') := by
  obtain ⟨g, fd, name, qual, args, body, scope, hm, hk, FD, S, hc, hb⟩ := F.ex
  have hN' : (X.suite a ((a, oe) :: pn)).N[i]? = some xe := hN
  refine ⟨fun pins s σ H Q I ⟨⟨g1, g2, g3, g4⟩, v, h5, go⟩ => wpAny_Call_Name_kw (ld_glob I hg hm ?_ F.d0)⟩
  refine PySem.W.callWith_K (h₀ := X.base) I.ok.mod.kin hk (thn ((pa_cons (pe_var hN' hv e1 e2) pa_nil).run pos pins s σ H (fun vs H1 => vs = [V.ref a] ∧ H1 = H) I ⟨_, g1, rfl, rfl⟩) fun us s1 ⟨vs, H1, I1, r1, q1⟩ => ⟨I1.kIn, ?_⟩) rfl rfl
  obtain ⟨rfl, rfl⟩ := q1
  have lu : us.length = 1 := r1.length.symm
  have P1 := I1.pin (a, oe) (List.mem_append_left _ List.mem_cons_self)
  have hpin : L2H.PinOk (X.suite a ((a, oe) :: pn)).stack H1 s1 (a, oe) := ⟨P1.1, P1.2.1, fun hm => (List.mem_cons.mp (I1.stkSub a hm)).elim P1.2.2.1 P1.2.2.2.1, P1.2.2.2.2⟩
  have hr' : L2H.RoomH 2 (X.suite a ((a, oe) :: pn)).A := ⟨hr.dp, hr.un⟩
  refine wpAny_call (codeAny_mono (run_hot (CX := C8.CX0) (E := C8.E0) (Q := Q) (N := [x]) (k := 1) FD S hr' hpin I1.env0 (args := ⟨us, []⟩) (hb s1 us lu) r1 rfl fun cdv hr2 => ?_) fun r s' hq => ?_)
  · have hu3 : ((X.suite a ((a, oe) :: pn)).A.deeper (envOfC qual scope s1.heap.objs.size g cdv)).units + 65 < cLine := by have := hr2.un; omega
    have hvx : Vis scope x := (S.par x (by simp)).imp id fun z => .inl z
    have t : Tells (L2H.cxH C8.CX0 (X.suite a ((a, oe) :: pn)).prog (X.suite a ((a, oe) :: pn)).w (X.suite a ((a, oe) :: pn)).K (X.suite a ((a, oe) :: pn)).mg (X.suite a ((a, oe) :: pn)).base [x] qual scope g cdv (X.suite a ((a, oe) :: pn)).A (X.suite a ((a, oe) :: pn)).stack s1 H1 C8.E0 (a, oe)) a C dd oe x xNames :=
      ⟨T.T, T.no, hz, hf, List.mem_singleton.mpr rfl, hu3, hvx, F.d1, F.d2⟩
    refine ⟨_, tells_fs (l := l) (w := w) (i := 0) t rfl (by decide) theFS body hc theFS_in theFS_ok, ⟨?_, g2, g3, g4⟩, v, h5, go⟩
    unfold L2.start
    rfl
  · cases r with
    | error e => exact (show False from hq).elim
    | ok fl =>
      cases fl with
      | ret u => exact I1.after hq
      | next => exact False.elim hq
      | brk => exact False.elim hq
      | cont => exact False.elim hq
theorem suite_fld {p q pos p1 p2 p3 p4 : Pos} {k0} (F : FldD X.K X.mg y x) (T : XcF X.K C) (hz : Zc (.ref C) (some dd) oe) (hf : ∃ vs, oe.data = .fields vs) (hr : Room 2 X.A) (hg : Gl X y) (hN : X.N[i]? = some xe) (hv : Vis X.env.scope xe) (e1 : (xe == ("__debug__" : Str)) = false) (e2 : (xe == ("__classdict__" : Str)) = false) :
    PSs (X.suite a ((a, oe) :: pn)) [.Return (some (.Tuple [.Attribute (.Name xe p1) "word" p2, .Call (.Name y q) [.Name xe p] [] pos] k0 p3)) p4] (fun D σ H => tWord i a dd l w σ H ∧ ∃ v, evFS V.non l w theFS = some v ∧ ∀ H' T, Ext H H' → H' T = none → D.rt (.ref T) (L2.upd H' T (.tup [.str w, v]))) := by
  have hN' : (X.suite a ((a, oe) :: pn)).N[i]? = some xe := hN
  have t : Tells (X.suite a ((a, oe) :: pn)) a C dd oe xe xNames := ⟨T.T, T.no, hz, hf, List.mem_cons_self, by have := hr.un; exact Nat.lt_of_le_of_lt (by show X.A.units + 65 ≤ _; omega) this, hv, e1, e2⟩
  refine ⟨fun pins s σ H D I ⟨g, v, h5, go⟩ => (pss_one (ps_ret (pe_tup (pa_cons (tells_att (l := l) (w := w) t hN' (by decide)) (pa_cons (pe_told (l := l) (w := w) F T hz hf hr hg hN hv e1 e2) pa_nil rfl) rfl)))).run pins s σ H D I ?_⟩
  exact ⟨g, _, g.2.2.1, g, v, h5, fun H' e => ⟨by rw [sizeLine_eq]; simp, fun T n => go H' T e n⟩⟩
theorem suite_non {pos p1 p2 p3 p4 : Pos} {k0 k1} (T : XcF X.K C) (hz : Zc (.ref C) (some dd) oe) (hf : ∃ vs, oe.data = .fields vs) (hr : Room 2 X.A) (hN : X.N[i]? = some xe) (hv : Vis X.env.scope xe) (e1 : (xe == ("__debug__" : Str)) = false) (e2 : (xe == ("__classdict__" : Str)) = false) :
    PSs (X.suite a ((a, oe) :: pn)) [.Return (some (.Tuple [.Attribute (.Name xe p1) "word" p2, .Constant .none k1 pos] k0 p3)) p4] (fun D σ H => tWord i a dd l w σ H ∧ ∀ H' T, Ext H H' → H' T = none → D.rt (.ref T) (L2.upd H' T (.tup [.str w, .non]))) := by
  have hN' : (X.suite a ((a, oe) :: pn)).N[i]? = some xe := hN
  have t : Tells (X.suite a ((a, oe) :: pn)) a C dd oe xe xNames := ⟨T.T, T.no, hz, hf, List.mem_cons_self, by have := hr.un; exact Nat.lt_of_le_of_lt (by show X.A.units + 65 ≤ _; omega) this, hv, e1, e2⟩
  refine ⟨fun pins s σ H D I ⟨g, go⟩ => (pss_one (ps_ret (pe_tup (pa_cons (tells_att (l := l) (w := w) t hN' (by decide)) (pa_cons pe_non pa_nil rfl) rfl)))).run pins s σ H D I ?_⟩
  exact ⟨g, _, g.2.2.1, by rw [sizeLine_eq]; simp, fun T n => go H T (Ext.refl H) n⟩
end
end Vm
namespace Vm
open PySem PySem.Spec L2 PyProof.Rows
section
variable [CN] {X : Cx} {pins : List (Addr × Obj)} {σ : L2.St} {H : Hp} {s : Shared}
theorem LamC.has {scope : Scope} {ps : Arguments} {N : List Str} (L : LamC X.env.scope scope ps N) (ok : X.Ok) : ∀ y ∈ scope.names, y.2 = .free → ∃ c, X.env.cells.lookup y.1 = some c := fun y hy e => ok.has _ ((L.free y hy e).imp id id)
abbrev lamO (X : Cx) (ps : Arguments) (body : Expr) (scope : Scope) (dV doc pm : Value) (c' : Addr) (ctv : Value) : Obj := PySem.W.kdv_obj "<lambda>" (X.env.qual ++ "<lambda>") ps (.expr body) scope (cloFrom X.env.cells scope.names []) dV doc pm c' ctv
/-- the defaults stand -/
def DflAt (ps : Arguments) (dV : Value) (X : Cx) (H : Hp) (h : Heap) : Prop := (lamPar ps = some [] ∧ dV = .none) ∨ ((∃ y, lamPar ps = some [y]) ∧ ∃ T tk, dV = .ref T ∧ h.get? T = some (PySem.W.kdv_tup [.int 0 tk]) ∧ H T = none ∧ T ∉ frs X.stack)
/-- the lambda at f -/
structure LamAt (X : Cx) (ps : Arguments) (body : Expr) (scope : Scope) (f c' : Addr) (H : Hp) (s : Shared) : Prop where
  obj : ∃ dV doc pm ctv, s.heap.get? f = some (lamO X ps body scope dV doc pm c' ctv) ∧ DflAt ps dV X H s.heap
  fn : H f = none
  fr : f ∉ frs X.stack
  code : H c' = some (LamX.CodeO c' (X.env.qual ++ "<lambda>"))
/-- the tables grow, all else stays -/
structure Grown (H H1 : Hp) (F : AS) : Prop where
  kt : ∀ a o, Kt H a o → H1 a = some o
  dom : ∀ a, H a ≠ none → H1 a ≠ none
  fd : FD H1 F
theorem codeO_ne {c : Addr} {q : Str} (ps : Array Value) : LamX.CodeO c q ≠ .tbl ps := fun z => by
  unfold LamX.CodeO at z
  cases z
theorem lam_tail {F : AS} {c P : Addr} {ps : Arguments} {body : Expr} {scope : Scope} {pos : Pos} {dV : Value} {E : Value → Shared → Prop} {Q : Value → Shared → Prop} (I : L2.Inv X pins σ H s) (TB : LamX.TabB X.base X.mg c P) (hcode : X.env.code = .ref c)
    (hm : (P, X.env.qual ++ "<lambda>") ∈ CN.tb) (hu : ∀ p ∈ CN.tb, p.1 = P → p.2 = X.env.qual ++ "<lambda>") (fd : FD H F) (L : LamC X.env.scope scope ps X.N) (hD : DflAt ps dV X H s.heap)
    (go : ∀ f c' H1 s', L2.Inv X pins σ H1 s' → Grown H H1 F → LamAt X ps body scope f c' H1 s' → Q (.ref f) s') :
    wpAny (model X.prog X.w) X.A (makeTail "<lambda>" (X.env.qual ++ "<lambda>") ps (.expr body) scope X.env dV .none none pos pos.line) Q E s := by
  obtain ⟨tb, hP, ht, ha⟩ := fd.tb _ hm
  have atP : s.heap.get? P = some { cls := .none, data := .fields tb } := I.hok P _ hP
  have away : ∀ f, s.heap.objs.size ≤ f → f ∉ frs X.stack := fun f hf z => by
    rcases List.mem_cons.mp (I.stkSub _ z) with e | e
    · have h1 := I.lt
      rw [← e] at h1
      exact Nat.lt_irrefl _ (Nat.lt_of_lt_of_le h1 hf)
    · exact I.nofs hf e
  -- the defaults stay where they are
  have dfl : ∀ (H1 : Hp) (h1 : Heap), (∀ b o, b ≠ P → s.heap.get? b = some o → h1.get? b = some o) → (∀ b, H b = none → (∃ o, s.heap.get? b = some o) → H1 b = none) → DflAt ps dV X H1 h1 := fun H1 h1 k n => by
    rcases hD with z | ⟨z, T, tk, e1, e2, e3, e4⟩
    · exact .inl z
    · exact .inr ⟨z, T, tk, e1, k T _ (fun q => by rw [q, hP] at e3; cases e3) e2, n T e3 ⟨_, e2⟩, e4⟩
  cases hc : codeAmong pos tb.toList with
  | some cv =>
    obtain ⟨c', rfl, hco⟩ := ha pos cv hc
    refine PySem.W.kdv_makeTailHit (mg := X.mg) (c := c) (P := P) (ps := tb) (closure_ok (L.has I.ok)) I.ok.glob (I.mod.glob.keeps I.bk) hcode (TB.code.keeps I.bk) atP ht hc (TB.bm.keeps I.bk) fun ctv doc h' tk k hsz => ?_
    have kk : ∀ (o : Obj) b u, s.heap.get? b = some u → (h'.push o).get? b = some u := fun o b u e => Heap.get?_push_of_some _ (k b u e)
    refine go h'.objs.size c' H _ (I.kept (t' := tk) (kk _)) ⟨fun _ _ z => z.1, fun _ z => z, fd⟩ ⟨⟨dV, doc, _, ctv, Heap.get?_push_size _ rfl, dfl H _ (fun b o _ e => kk _ b o e) fun _ n _ => n⟩, I.hok.fresh hsz, away _ hsz, hco⟩
  | none =>
    refine PySem.W.kdv_makeTail (mg := X.mg) (c := c) (P := P) (ps := tb) (closure_ok (L.has I.ok)) I.ok.glob (I.mod.glob.keeps I.bk) hcode (TB.code.keeps I.bk) atP ht hc TB.gP (TB.bm.keeps I.bk) fun c' ctv doc h' tk k hge hlt hrec htb => ?_
    obtain ⟨c2, oc, vs, t, e2, hoc, hd, hv⟩ := hrec
    cases e2
    have hsz : s.heap.objs.size ≤ h'.objs.size := Nat.le_trans hge (Nat.le_of_lt hlt)
    have nC : H c' = none := I.hok.fresh hge
    have nPc : P ≠ c' := ne_of_none hP nC
    have pu : ∀ (o : Obj) b u, h'.get? b = some u → (h'.push o).get? b = some u := fun o b u e => Heap.get?_push_of_some _ e
    generalize hM : (#[rawInt pos.line, rawInt pos.col, .ref c'] : Array Value) = more at htb ⊢
    have I1 := LamX.inv_table (q := X.env.qual ++ "<lambda>") (t' := tk) (more := more) (c := c') (h' := h'.push (lamO X ps body scope dV doc ((X.mg "__name__").getD .none) c' ctv)) I hP (fun b o hb e => pu _ _ _ (k b o hb e)) (pu _ _ _ htb) hge ⟨oc, vs, t, pu _ _ _ hoc, hd, hv⟩
    have at' : ∀ b, b ≠ P → b ≠ c' → L2.upd (L2.upd H P (.tbl (tb ++ more))) c' (LamX.CodeO c' (X.env.qual ++ "<lambda>")) b = H b := fun b h1 h2 => by rw [upd_ne h2, upd_ne h1]
    have atP' : L2.upd (L2.upd H P (.tbl (tb ++ more))) c' (LamX.CodeO c' (X.env.qual ++ "<lambda>")) P = some (.tbl (tb ++ more)) := by rw [upd_ne nPc, upd_same]
    have stay : ∀ b o, Kt H b o → L2.upd (L2.upd H P (.tbl (tb ++ more))) c' (LamX.CodeO c' (X.env.qual ++ "<lambda>")) b = some o := fun b o e => by
      rw [at' b (fun z => by rw [z] at e; exact e.2 tb (Option.some.inj (e.1.symm.trans hP))) (fun z => by have h := e.1; rw [z, nC] at h; cases h)]
      exact e.1
    have dom : ∀ b, H b ≠ none → L2.upd (L2.upd H P (.tbl (tb ++ more))) c' (LamX.CodeO c' (X.env.qual ++ "<lambda>")) b ≠ none := fun b n => by
      by_cases z : b = c'
      · rw [z, upd_same]; simp
      · by_cases z2 : b = P
        · rw [z2, atP']; simp
        · rw [at' b z2 z]; exact n
    have eL : (tb ++ more).toList = tb.toList ++ [rawInt pos.line, rawInt pos.col, .ref c'] := by rw [← hM]; simp
    have tabs : LamX.Tabs CN.tb (L2.upd (L2.upd H P (.tbl (tb ++ more))) c' (LamX.CodeO c' (X.env.qual ++ "<lambda>"))) := fun p hp => by
      by_cases hb : p.1 = P
      · rw [hu p hp hb, hb]
        refine ⟨_, atP', by rw [eL]; exact PySem.TriplesOk_snoc _ _ _ _ ht, fun p' cv hcv => ?_⟩
        rw [eL] at hcv
        rcases LamX.among_app _ ht hcv with z | z
        · obtain ⟨c0, e1, e2⟩ := ha p' cv z
          exact ⟨c0, e1, stay _ _ ⟨e2, codeO_ne⟩⟩
        · exact ⟨c', z, upd_same⟩
      · obtain ⟨tb', a1, a2, a3⟩ := fd.tb p hp
        refine ⟨tb', (at' _ hb (ne_of_none a1 nC)).trans a1, a2, fun p' cv hcv => ?_⟩
        obtain ⟨c0, e1, e2⟩ := a3 p' cv hcv
        exact ⟨c0, e1, stay _ _ ⟨e2, codeO_ne⟩⟩
    have lt : ∀ b, (∃ o, s.heap.get? b = some o) → b ≠ c' := fun b ⟨o, e⟩ z => Nat.lt_irrefl _ (Nat.lt_of_lt_of_le (Heap.lt_size e) (z ▸ hge))
    refine go h'.objs.size c' _ _ I1 ⟨stay, dom, fun a z => dom a (fd.d a z), tabs⟩ ⟨⟨dV, doc, _, ctv, Heap.get?_push_size _ rfl, dfl _ _ (fun b o n e => pu _ _ _ (k b o n e)) fun b n e => ?_⟩, ?_, away _ hsz, upd_same⟩
    · rw [at' b (fun z => by rw [z, hP] at n; cases n) (lt b e)]; exact n
    · have n1 : h'.objs.size ≠ c' := Nat.ne_of_gt hlt
      have n2 : h'.objs.size ≠ P := Nat.ne_of_gt (Nat.lt_of_lt_of_le (Heap.lt_size atP) hsz)
      rw [at' _ n2 n1]
      exact I.hok.fresh hsz
end
end Vm
namespace Vm
open PySem PySem.Spec L2 PyProof.Rows
theorem lamPar_cases {ps : Arguments} {ys : List Str} (h : lamPar ps = some ys) : (ys = [] ∧ ps = ⟨[], [], none, [], [], none, []⟩) ∨ ∃ y p0 k p, ys = [y] ∧ ps = ⟨[], [⟨y, none, p0⟩], none, [], [], none, [.Constant (.int 0) k p]⟩ := by
  unfold lamPar at h
  split at h
  · cases h; exact .inl ⟨rfl, rfl⟩
  · cases h; exact .inr ⟨_, _, _, _, rfl, rfl⟩
  · cases h
section
variable [CN] {X : Cx} {pins : List (Addr × Obj)} {σ : L2.St} {H HZ : Hp} {s s1 : Shared}
theorem lam_mk {F : AS} {c P : Addr} {ps : Arguments} {body : Expr} {scope : Scope} {pos : Pos} {E : Value → Shared → Prop} {Q : Value → Shared → Prop} (I : L2.Inv X pins σ H s) (TB : LamX.TabB X.base X.mg c P) (hcode : X.env.code = .ref c)
    (hm : (P, X.env.qual ++ "<lambda>") ∈ CN.tb) (hu : ∀ p ∈ CN.tb, p.1 = P → p.2 = X.env.qual ++ "<lambda>") (fd : FD H F) (L : LamC X.env.scope scope ps X.N)
    (go : ∀ f c' H1 s', L2.Inv X pins σ H1 s' → Grown H H1 F → LamAt X ps body scope f c' H1 s' → Q (.ref f) s') :
    wpAny (model X.prog X.w) X.A (eval (.Lambda ps body scope pos) X.env) Q E s := by
  obtain ⟨ys, hy, _⟩ := L.par
  rcases lamPar_cases hy with ⟨rfl, rfl⟩ | ⟨y, p0, k, p, rfl, rfl⟩
  · refine PySem.W.kla_eval rfl ?_
    rw [makeFunction_eq]
    simp only [List.zip_nil_right, List.filterMap_nil, List.isEmpty_nil, if_true, pure_bind]
    exact lam_tail I TB hcode hm hu fd L (.inl ⟨hy, rfl⟩) go
  · refine PySem.W.kdv_lam rfl rfl (PySem.W.kdv_all1 (wpAny_Constant_int (PySem.W.kdv_all0 ?_)))
    rw [makeFunction_eq]
    simp only [List.zip_nil_right, List.filterMap_nil, List.isEmpty_nil, List.isEmpty_cons, if_true, if_false, pure_bind, Bool.false_eq_true]
    refine wpAny_bind (wpAny_newTextTuple ?_)
    have I1 := (I.tok (s.toks + 1)).kept (h' := s.heap.push (PySem.W.kdv_tup [.int 0 s.toks])) (t' := s.toks + 1) fun b o e => Heap.get?_push_of_some _ e
    refine lam_tail I1 TB hcode hm hu fd L (.inr ⟨⟨y, hy⟩, s.heap.objs.size, s.toks, rfl, Heap.get?_push_size _ rfl, I.hok.fresh (Nat.le_refl _), fun z => ?_⟩) go
    rcases List.mem_cons.mp (I.stkSub _ z) with e | e
    · have h1 := I.lt
      rw [← e] at h1
      exact Nat.lt_irrefl _ h1
    · exact I.nofs (Nat.le_refl _) e
/-- the lambda's frame stands -/
theorem lam_begin {A : Around} {outer : List Env} {E : XK} {ps : Arguments} {scope : Scope} {f c' : Addr} {h1 : Heap} {tk : Nat} {m : Str → Option Value} (I : L2.Inv X pins σ H s) (L : LamC X.env.scope scope ps X.N) (e0 : Env0 X.prog X.w X.K X.mg X.base A outer s1 HZ) (hd : A.handled = none)
    (un : Un (frs X.stack) [] H HZ s.heap s1.heap) (hns : h1.Ns s1.heap.objs.size m) (kp : ∀ b o, s1.heap.get? b = some o → h1.get? b = some o) : L2.Inv (LamX.lamCx X A outer s1 HZ E scope f c') [] σ HZ { s1 with heap := h1, toks := tk } := by
  have own : ∀ {y c}, (cloFrom X.env.cells scope.names []).lookup y = some c → X.env.cells.lookup y = some c := fun {y c} e => by
    rcases cloFrom_mem (PySem.mem_of_lookup e) with z | ⟨z1, z2⟩
    · exact absurd z List.not_mem_nil
    · obtain ⟨c1, hc⟩ := L.has I.ok _ z1 rfl
      rw [z2, show X.env.cells.lookup y = some c1 from hc]
      rfl
  have got : ∀ {y}, scope.names.lookup y = some .free → ∃ c, (cloFrom X.env.cells scope.names []).lookup y = some c := fun {y} e => mem_lookup (cloFrom_has (cells := X.env.cells) (acc := []) (PySem.mem_of_lookup e))
  have isC : ∀ {c : Addr} {v : Option Value}, H c = none → s.heap.IsCell c v → h1.IsCell c v := fun {c v} n ⟨o, e, d⟩ => by
    obtain ⟨sl, q⟩ := un.any e n (by simp)
    exact ⟨_, kp _ _ q, d⟩
  have nx : ∀ b : Addr, b ∉ (LamX.lamCx X A outer s1 HZ E scope f c').ex := fun b => List.not_mem_nil
  have ok : (LamX.lamCx X A outer s1 HZ E scope f c').Ok := {
    mod := e0.mod
    kind := L.kind
    glob := rfl
    blt := rfl
    above := Nat.le_refl _
    inj := fun y z c u v => I.ok.inj y z c (own u) (own v)
    has := fun y hy => by
      rcases (show scope.names.lookup y = some .cell ∨ scope.names.lookup y = some .free from hy) with k | k
      · exact absurd rfl (L.nocell _ (PySem.mem_of_lookup k))
      · exact got k
    cab := fun y c z _ => Bool.noConfusion (show false = true from z)
    hd := fun _ => hd
    frames := Around.frames_deeper e0.frames
    stk := .inr ⟨rfl, rfl⟩
    exf := fun b z => absurd z (nx b)
    bs := e0.bs
    bsz := e0.bsz
    noex := fun b _ _ => nx b
    exfs := fun b z => absurd z (nx b)
    funs := e0.funs
    frf := e0.frf }
  refine { ok := ok, os := rfl, bare := e0.bare, base := Un.kept kp, loc := ⟨_, hns, fun i y v u1 u2 u3 => ?_⟩, cell := fun y c u => ?_, free := e0.hok.fresh (Nat.le_refl _), freeC := fun y c u => ?_, pin := fun q hq => absurd (show q ∈ ([] : List (Addr × Obj)) ++ [] from hq) (by simp), hok := e0.hok.kept kp, len := I.len }
  · rcases (show Vis scope y from u3) with k | k | k
    · exact absurd k (L.loc y (List.mem_of_getElem? u1))
    · exact absurd rfl (L.nocell _ (PySem.mem_of_lookup k))
    · have vis : Vis X.env.scope y := .inr (L.free _ (PySem.mem_of_lookup k) rfl)
      obtain ⟨m0, hn0, hl0⟩ := I.loc
      obtain ⟨w, r, q⟩ := hl0 i y v u1 u2 vis
      obtain ⟨c2, h2⟩ := got k
      refine ⟨w, r, .inr ⟨.inr k, c2, h2, ?_⟩⟩
      rcases q with ⟨k', _⟩ | ⟨_, c3, e', z⟩
      · exfalso
        rcases L.free _ (PySem.mem_of_lookup k) rfl with k2 | k2 <;> exact absurd ((show X.env.scope.names.lookup y = some .local from k').symm.trans k2) (by simp)
      · have e2 := (own h2).symm.trans e'
        injection e2 with e2
        subst e2
        exact isC (I.freeC y _ e') z
  · obtain ⟨w, z⟩ := I.cell y c (own u)
    exact ⟨w, isC (I.freeC y c (own u)) z⟩
  · obtain ⟨v, o, e, d⟩ := I.cell y c (own u)
    exact un.free c o e (I.freeC y c (own u)) (by simp)
/-- x(), in the def that got the lambda -/
theorem lam_act {CXg : CXT} {Eg : XK} {Ng : List Str} {qg : Str} {sg : Scope} {g f c' : Addr} {cdg : Value} {ps : Arguments} {body : Expr} {scope : Scope} {k i : Nat} {a : Str} {pn : List (Addr × Obj)} {xe : Value → Shared → Prop} {W : WX} {E : XK} {tb : TE} {p1 p2 : Pos}
    (I : L2.Inv X pins σ H s) (L : LamC X.env.scope scope ps X.N) (La : LamAt X ps body scope f c' H s)
    (tk : Takes ((cxOf CXg X.prog X.w X.K X.mg X.base Ng qg sg g cdg X.A X.stack s H Eg).tr pn xe) W) (hW : ∀ cls d σ' H', E cls d H' → W cls d σ' H') (hr : Room (k + 1) (X.A.deeper (envOfC qg sg s.heap.objs.size g cdg)))
    (hbody : ∀ (A : Around) (outer : List Env) (s : Shared) (H : Hp), Room k (A.deeper (LamX.lamEnv X scope s.heap.objs.size f c')) → PE (LamX.lamCx X A outer s H E scope f c') body tb)
    (hN : Ng[i]? = some a) (hv : Vis sg a) (hd : (a == ("__debug__" : Str)) = false) (hcd : (a == ("__classdict__" : Str)) = false) :
    PE ((cxOf CXg X.prog X.w X.K X.mg X.base Ng qg sg g cdg X.A X.stack s H Eg).tr pn xe) (.Call (.Name a p1) [] [] p2) (fun σZ HZ Q => σZ[i]? = some (some (.ref f)) ∧ HZ c' = some (LamX.CodeO c' (X.env.qual ++ "<lambda>")) ∧ tb σ HZ Q) := by
  refine ⟨fun pinsZ sZ σZ HZ Q IZ ⟨h1, h2, h3⟩ => wpAny_Call_Name_kw (thn ((pe_var (pos := p1) (i := i) hN hv hd hcd).run pinsZ sZ σZ HZ (fun v H1 => v = .ref f ∧ H1 = HZ) IZ ⟨.ref f, h1, rfl, rfl⟩) fun u s1 ⟨v, H1, I1, r1, q1⟩ => ?_)⟩
  obtain ⟨rfl, rfl⟩ := q1
  cases (show u = Value.ref f from r1)
  obtain ⟨⟨dV, doc, pm, ctv, of, dfl⟩, fn, fr, _⟩ := La
  have kept : ∀ {b o}, s.heap.get? b = some o → H b = none → b ∉ frs X.stack → s1.heap.get? b = some o := fun {b o} e n m => I1.base.keep b o e n m fun z => absurd (show b ∈ ([] : List Addr) from z) List.not_mem_nil
  have of1 := kept of fn fr
  obtain ⟨⟨oc, vs, t, c1, c2, c3⟩, _, _⟩ := I1.hok c' _ h2
  -- the binding
  obtain ⟨ys, hy, hpar⟩ := L.par
  have bind : ∃ bs : List (Str × Value), (∀ z ∈ bs, scope.names.lookup z.1 = some .local) ∧ BindsTo s1 (PySem.W.kdv_fn "<lambda>" (X.env.qual ++ "<lambda>") ps (.expr body) scope (cloFrom X.env.cells scope.names []) dV doc pm (.ref c') ctv) ⟨[], []⟩ bs := by
    rcases lamPar_cases hy with ⟨rfl, rfl⟩ | ⟨y, p0, k0, p, rfl, rfl⟩
    · rcases dfl with ⟨_, rfl⟩ | ⟨⟨y, z⟩, _⟩
      · exact ⟨[], fun z hz => absurd hz List.not_mem_nil, .of_eq rfl⟩
      · rw [hy] at z; cases z
    · rcases dfl with ⟨z, _⟩ | ⟨_, T, tk, rfl, e2, e3, e4⟩
      · rw [hy] at z; cases z
      · exact ⟨[(y, .int 0 tk)], fun z hz => by rw [List.mem_singleton.mp hz]; exact hpar y (by simp), .of_defaults rfl (kept e2 e3 e4) rfl rfl (by simp [List.lookup_cons, List.lookup, PySem.Sem, bind_pure_comp])⟩
  obtain ⟨bs, b1, b2⟩ := bind
  refine PySem.W.callWith_F0 ⟨_, _, _, _, of1⟩ (wpAny_call (codeAny_mono (PySem.W.kla_callFunE hr.depth of1 rfl L.co L.gen rfl ⟨c', oc, vs, t, rfl, c1, c2, c3⟩ (b2 _ _ _ _ (wpAny_newFunctionEnv L.nocell b1 (fun h4 hns sb => ⟨I1.nolimit.fresh _ sb, ?_⟩) L.kind)) (R := CR (L2.CX X.prog X.w) (envOfC qg sg s.heap.objs.size g cdg :: X.stack) X.prog X.w H1 s1 Q E)) fun r s' hq => ?_))
  · have kp : ∀ b o, s1.heap.get? b = some o → h4.get? b = some o := fun b o e => sb.extBut b o (Nat.ne_of_lt (Heap.lt_size e)) (Heap.get?_push_of_some _ e)
    refine PySem.W.kla_codeExpr (wpAny_mono ((hbody _ _ s1 H1 (hr.deeper _)).run [] _ _ H1 Q (lam_begin I L I1.env0 hr.hd I1.base hns kp) h3) (fun v s' hq => ?_) fun e s' hq => hq)
    obtain ⟨w', H', J', rv, q⟩ := hq
    exact ⟨w', H', J'.os, J'.bare, J'.base, J'.hok, rv, q⟩
  · have pss := passes_call tk hW
    cases r with
    | error e => exact pss pinsZ σZ H1 s1 e s' I1 hq
    | ok fl =>
      cases fl with
      | ret u => exact I1.after hq
      | next => exact False.elim hq
      | brk => exact False.elim hq
      | cont => exact False.elim hq
end
end Vm
namespace Vm
open PySem PySem.Spec L2 PyProof.Rows
def isCall0 (x : Str) : Expr → Bool
  | .Call f [] [] _ => isN x f
  | _ => false
theorem isCall0_ok {x : Str} {e : Expr} (h : isCall0 x e = true) : ∃ p q, e = .Call (.Name x p) [] [] q := by
  unfold isCall0 at h
  split at h
  · obtain ⟨p, rfl⟩ := isN_ok h
    exact ⟨p, _, rfl⟩
  · cases h
def isCall1 (x y : Str) : Expr → Bool
  | .Call f [a] [] _ => isN x f && isN y a
  | _ => false
theorem isCall1_ok {x y : Str} {e : Expr} (h : isCall1 x y e = true) : ∃ p q r, e = .Call (.Name x p) [.Name y q] [] r := by
  unfold isCall1 at h
  split at h
  · rw [Bool.and_eq_true] at h
    obtain ⟨p, rfl⟩ := isN_ok h.1
    obtain ⟨q, rfl⟩ := isN_ok h.2
    exact ⟨p, q, _, rfl⟩
  · cases h
/-- the def's body -/
def chkTry : List Stmt → Bool
  | [.Try [.Return (some (.Tuple [c1, a1] _ _)) _] [.ExceptHandler (some (.Tuple [n1, n2] _ _)) (some e1) [.Return (some (.Tuple [w1, f1] _ _)) _] _, .ExceptHandler (some n3) (some e2) [.Return (some (.Tuple [w2, .Constant .none _ _] _ _)) _] _] [] [] _] =>
    isStr "value" c1 && (isCall0 "_law_ask" a1 && (isN "DeskError" n1 && (isN "Missing" n2 && (decide (e1 = ("_law_e" : Str)) && (isAt "_law_e" "word" w1 && (isCall1 "_law_field" "_law_e" f1 && (isN "NothingLeft" n3 && (decide (e2 = ("_law_e" : Str)) && isAt "_law_e" "word" w2))))))))
  | _ => false
def tryNs : List Str := ["_law_ask", "_law_e"]
/-- the def as it stands, and the classes that it names -/
structure TryD (K : PySem.W.Frag) (mg : Str → Option Value) (DE MI NL : Addr) : Prop where
  ex : ∃ (g : Addr) (fd : FuncData) (name qual : Str) (args : Arguments) (body : List Stmt) (scope : Scope), mg "_law_try" = some (.ref g) ∧ PySem.W.keepIn K (.ref g) = true ∧ FunD K name qual args body scope [] [] g fd ∧ FnScope tryNs [("_law_ask" : Str)] scope ∧ chkTry body = true ∧
    (∀ (s : Shared) (us : List Value), us.length = 1 → BindsTo s fd ⟨us, []⟩ ([("_law_ask" : Str)].zip us)) ∧ scope.names.lookup ("_law_e" : Str) = some .local ∧ ∀ x ∈ ([("DeskError" : Str), "Missing", "NothingLeft", "_law_field"] : List Str), scope.names.lookup x = some .globalImplicit
  de : mg "DeskError" = some (.ref DE)
  mi : mg "Missing" = some (.ref MI)
  nl : mg "NothingLeft" = some (.ref NL)
  fld : FldD K mg "_law_field" "_law_e"
/-- what is wished of an exception that is caught there -/
def Ech (K : PySem.W.Frag) (DE MI NL : Addr) (Q : VK) : XK := fun cls d H => ∃ C dd l w, cls = .ref C ∧ d = some dd ∧ XcF K C ∧ H dd = some (.xd l) ∧ l.lookup ("word" : Str) = some (V.str w) ∧ okS w ∧
  ((PySem.W.exmAny K (.ref C) [.ref DE, .ref MI] = some true ∧ ∃ v, evFS V.non l w theFS = some v ∧ ∀ H' T, Ext H H' → H' T = none → Q (.ref T) (L2.upd H' T (.tup [.str w, v]))) ∨
    (PySem.W.exmAny K (.ref C) [.ref DE, .ref MI] = some false ∧ PySem.W.exmAny K (.ref C) [.ref NL] = some true ∧ ∀ H' T, Ext H H' → H' T = none → Q (.ref T) (L2.upd H' T (.tup [.str w, .non]))))
def tTryl [CN] (K : PySem.W.Frag) (DE MI NL : Addr) (t : XK → TE) : TE := fun σ H Q => ∃ F, FD H F ∧ ∀ H1, Grown H H1 F → t (Ech K DE MI NL Q) σ H1 fun v H2 => ([V.str "value", v] : List V).length ≤ sizeLine ∧ ∀ T, H2 T = none → Q (.ref T) (L2.upd H2 T (.tup [.str "value", v]))
section
variable [CN] {X : Cx} {DE MI NL : Addr}
theorem pe_tryl {c P : Addr} {k : Nat} {ps : Arguments} {body : Expr} {scope : Scope} {p lpos pos : Pos} {t : XK → TE} (T : TryD X.K X.mg DE MI NL) (hg : Gl X "_law_try") (TB : LamX.TabB X.base X.mg c P) (hcode : X.env.code = .ref c)
    (hm : (P, X.env.qual ++ "<lambda>") ∈ CN.tb) (hu : ∀ p ∈ CN.tb, p.1 = P → p.2 = X.env.qual ++ "<lambda>") (hr : Room (k + 3) X.A) (L : LamC X.env.scope scope ps X.N)
    (hbody : ∀ (A : Around) (outer : List Env) (s : Shared) (H : Hp) (E : XK) (f c' : Addr), Room (k + 1) (A.deeper (LamX.lamEnv X scope s.heap.objs.size f c')) → PE (LamX.lamCx X A outer s H E scope f c') body (t E)) :
    PE X (.Call (.Name "_law_try" p) [.Lambda ps body scope lpos] [] pos) (tTryl X.K DE MI NL t) := by
  obtain ⟨g, fd, name, qual, args, gb, gsc, hmg, hk, FD', S, hc, hb, hle, hgl⟩ := T.ex
  refine ⟨fun pins s σ H Q I ⟨F, hfd, h⟩ => wpAny_Call_Name_kw (ld_glob I hg hmg ?_)⟩
  refine PySem.W.callWith_K (h₀ := X.base) I.ok.mod.kin hk ?_ (by rfl) (by rfl)
  refine Calls.spliced_cons (lam_mk I TB hcode hm hu hfd L fun f c' H1 s1 I1 gr la => Calls.spliced_nil ⟨I1.kIn, ?_⟩)
  have h := h H1 gr
  obtain ⟨oc, od, dV, kV, doc, pm, an, cdv, ct, osl, rfl, lk, hcd, _, _⟩ := FD'.ex
  refine wpAny_call (codeAny_mono (LamX.run_ofS (CX := C8.CX0) (E := C8.E0) (Q := Q) (k := k + 2) (N := tryNs) (ps := [("_law_ask" : Str)]) (args := ⟨[.ref f], []⟩) (us := [.ref f]) (vs := [.ref f]) lk hcd S hr I1.env0 (hb s1 [.ref f] rfl) (.cons rfl .nil) rfl fun hr2 => ?_) fun r s2 hq => ?_)
  case refine_2 =>
    cases r with
    | error e => exact (show False from hq).elim
    | ok fl =>
      cases fl with
      | ret u => exact I1.after hq
      | next => exact False.elim hq
      | brk => exact False.elim hq
      | cont => exact False.elim hq
  unfold chkTry at hc
  split at hc
  case h_2 => cases hc
  simp only [Bool.and_eq_true, decide_eq_true_eq] at hc
  obtain ⟨q1, q2, q3, q4, rfl, q6, q7, q8, rfl, q10⟩ := hc
  obtain ⟨_, _, rfl⟩ := isStr_ok q1
  obtain ⟨_, _, rfl⟩ := isCall0_ok q2
  obtain ⟨_, rfl⟩ := isN_ok q3
  obtain ⟨_, rfl⟩ := isN_ok q4
  obtain ⟨_, _, rfl⟩ := isAt_ok q6
  obtain ⟨_, _, _, rfl⟩ := isCall1_ok q7
  obtain ⟨_, rfl⟩ := isN_ok q8
  obtain ⟨_, _, rfl⟩ := isAt_ok q10
  have G : ∀ x ∈ ([("DeskError" : Str), "Missing", "NothingLeft", "_law_field"] : List Str), Gl (cxOf C8.CX0 X.prog X.w X.K X.mg X.base tryNs qual gsc g cdv X.A X.stack s1 H1 C8.E0) x := hgl
  have vis : Vis (cxOf C8.CX0 X.prog X.w X.K X.mg X.base tryNs qual gsc g cdv X.A X.stack s1 H1 C8.E0).env.scope "_law_e" := .inl hle
  have hrX : Room 2 (cxOf C8.CX0 X.prog X.w X.K X.mg X.base tryNs qual gsc g cdv X.A X.stack s1 H1 C8.E0).A := hr2.mono (by omega)
  refine ⟨_, pss_one (ps_tryc (X := cxOf C8.CX0 X.prog X.w X.K X.mg X.base tryNs qual gsc g cdv X.A X.stack s1 H1 C8.E0) (l := [([.ref DE, .ref MI], 1, fun a cls d D σ H => ∃ C dd l w, cls = .ref C ∧ d = some dd ∧ XcF X.K C ∧ tWord 1 a dd l w σ H ∧ ∃ v, evFS V.non l w theFS = some v ∧ ∀ H' T, Ext H H' → H' T = none → D.rt (.ref T) (L2.upd H' T (.tup [.str w, v]))),
      ([.ref NL], 1, fun a cls d D σ H => ∃ C dd l w, cls = .ref C ∧ d = some dd ∧ XcF X.K C ∧ tWord 1 a dd l w σ H ∧ ∀ H' T, Ext H H' → H' T = none → D.rt (.ref T) (L2.upd H' T (.tup [.str w, .non])))])
    (tb := fun W D σZ HZ => ∃ E : XK, (∀ cls d σ' H', E cls d H' → W cls d σ' H') ∧ σZ[0]? = some (some (.ref f)) ∧ HZ c' = some (LamX.CodeO c' (X.env.qual ++ "<lambda>")) ∧ t E σ HZ fun v H2 => ([V.str "value", v] : List V).length ≤ sizeLine ∧ ∀ T, H2 T = none → D.rt (.ref T) (L2.upd H2 T (.tup [.str "value", v])))
    rfl rfl S.nd (fun W pn xe tk ps => ?_) (.cons (tst_two (G _ (by simp)) T.de (by decide) (G _ (by simp)) T.mi (by decide)) rfl hle (fun a oe cls d pn hz hf => ?_) (.cons (tst_name (G _ (by simp)) T.nl (by decide)) rfl hle (fun a oe cls d pn hz hf => ?_) .nil))), ?_⟩
  · refine ⟨fun pinsZ sZ σZ HZ D IZ ⟨E, hW, g1, g2, g3⟩ => ?_⟩
    have act := fun p1 p2 => lam_act (i := 0) (p1 := p1) (p2 := p2) (E := E) I1 L la tk hW hr2 (fun A outer s H hr3 => hbody A outer s H E f c' hr3) (show tryNs[0]? = some ("_law_ask" : Str) from rfl) (S.par _ (by simp) |>.imp id fun z => .inl z) (by decide) (by decide)
    exact (pss_one (ps_ret (pe_tup (pa_cons pe_str (pa_cons (act _ _) pa_nil rfl) rfl)))).run pinsZ sZ σZ HZ D IZ ⟨g1, g2, g3⟩
  · refine ⟨fun pins' s' σ' H' D I' ⟨C, dd, l, w, e1, e2, T', h'⟩ => ?_⟩
    subst e1 e2
    exact (suite_fld (X := cxOf C8.CX0 X.prog X.w X.K X.mg X.base tryNs qual gsc g cdv X.A X.stack s1 H1 C8.E0) (l := l) (w := w) (i := 1) T.fld T' hz ⟨_, hf.choose_spec.1⟩ hrX (G _ (by simp)) (show tryNs[1]? = some ("_law_e" : Str) from rfl) vis (by decide) (by decide)).run pins' s' σ' H' D I' h'
  · refine ⟨fun pins' s' σ' H' D I' ⟨C, dd, l, w, e1, e2, T', h'⟩ => ?_⟩
    subst e1 e2
    exact (suite_non (X := cxOf C8.CX0 X.prog X.w X.K X.mg X.base tryNs qual gsc g cdv X.A X.stack s1 H1 C8.E0) (l := l) (w := w) (i := 1) T' hz ⟨_, hf.choose_spec.1⟩ hrX (show tryNs[1]? = some ("_law_e" : Str) from rfl) vis (by decide) (by decide)).run pins' s' σ' H' D I' h'
  · refine ⟨Ech X.K DE MI NL Q, fun cls d σ' H' ⟨C, dd, l, w, e1, e2, T', g1, g2, g3, g4⟩ => ?_, by unfold L2.start; rfl, la.code, h⟩
    subst e1 e2
    have word : ∀ a, 1 < σ'.length → tWord 1 a dd l w (σ'.set 1 (some (.ref a))) H' := fun a hl => ⟨List.getElem?_set_self hl, g1, g2, g3⟩
    rcases g4 with ⟨x1, v, h5, go⟩ | ⟨x1, x2, go⟩
    · exact ⟨true, x1, fun _ hl a _ => ⟨C, dd, l, w, rfl, rfl, T', word a hl, v, h5, go⟩, fun z => by cases z⟩
    · exact ⟨false, x1, (fun z => by cases z), fun _ => ⟨true, x2, fun _ hl a _ => ⟨C, dd, l, w, rfl, rfl, T', word a hl, go⟩, fun z => by cases z⟩⟩
end
end Vm
namespace Vm
open PySem PySem.Spec L2
variable [CN]


/-- isinstance may be asked of an instance -/
structure IsiK (K : PySem.W.Frag) (C : Addr) : Prop where
  ha : PySem.W.findIn K (.ref C) "__class__" = some (some (.builtin "object.__class__"))
  hn : PySem.W.specialIn K (.builtin "object.__class__") "__get__" = some (some (.builtin "getset_descriptor.__get__"))
  htk : PySem.W.takesIn K (.builtin "object.__class__") = some true
  hm : PySem.W.mroIn K C (.type "object") = some true
/-- what a def with lambdas has -/
structure LamG (X : Cx) : Prop where
  ex : ∃ c P DE MI NL, X.env.code = .ref c ∧ LamX.TabB X.base X.mg c P ∧ (P, X.env.qual ++ "<lambda>") ∈ CN.tb ∧ (∀ p ∈ CN.tb, p.1 = P → p.2 = X.env.qual ++ "<lambda>") ∧ TryD X.K X.mg DE MI NL ∧
    ∀ c ∈ CN.ex, XcF X.K (CN.cn c) ∧ PySem.W.exmAny X.K (.ref (CN.cn c)) [.ref DE, .ref MI] = some (!decide (c = ("NothingLeft" : Str))) ∧ (c = ("NothingLeft" : Str) → PySem.W.exmAny X.K (.ref (CN.cn c)) [.ref NL] = some true)
structure Gd (g : Tab) (N : List Str) (p : Pm) (X : Cx) (sc : Scope) : Prop where
  hN : X.N = N
  nd : N.Nodup
  sc : X.env.scope = sc
  calm : X.calm = true
  un : X.A.units + 200 < cLine
  free : ∀ x, x ∈ g.free → X.mg x = none
  cons : ∀ q, q ∈ g.cons → ∃ u v, X.mg q.1 = some u ∧ RelV v u ∧ ∀ H F, Rep H F q.2 v nos
  tk : Takes X p.Wx
  xr : p.XR = XRv
  rm : Room 2 X.A
  exc : ∀ c w f, (c, w, f) ∈ g.excs → c ∈ CN.ex ∧ X.mg c = some (.ref (CN.cn c)) ∧ ∃ (q : XcE) (fI : Addr) (fd : FuncData), q.w = w ∧ q.f = f ∧ okS w ∧ OxC X.K (CN.cn c) ∧ PySem.W.findIn X.K (.ref (CN.cn c)) "__init__" = some (some (.ref fI)) ∧ PySem.W.typeIn X.K (.ref fI) = some (.type "function") ∧
    FnOk X.prog X.w X.K X.mg X.base (L2.CX X.prog X.w) 1 fI fd q.ps (spX q (CN.cn c)) ∧ Binds X.K fd q.ps []
  lam : g.lam = true → LamG X
  fnk0 : ∃ k, Room (k + 1) X.A ∧ (g.lam = true → Room (k + 4) X.A) ∧ ∀ f fn, g.fn' f = some fn → ∃ fd, Binds X.K fd fn.ps [] ∧ FnOk X.prog X.w X.K X.mg X.base (L2.CX X.prog X.w) k (CN.ad f) fd fn.ps (spC p.C p.XR f fn.ps.length) ∧
    (∀ n ks perm, (f, n, ks, perm) ∈ g.kws → ∀ (s : Shared) (us ws : List Value), X.K.In s.heap → us.length = n → ws.length = ks.length → BindsTo s fd ⟨us, ks.zip ws⟩ (fn.ps.zip (permL perm (us ++ ws))))
  glo : ∀ f, f ∈ g.globs → X.mg f = some (.ref (CN.ad f)) ∧ PySem.W.keepIn X.K (.ref (CN.ad f)) = true
  meth : ∀ c m k, (c, m, k) ∈ g.mets → Cls X.K (CN.cn c) ∧ Meth X.K (CN.cn c) m (CN.ad k)
  mak : ∀ c k, (c, k) ∈ g.mks → X.mg c = some (.ref (CN.cn c)) ∧ Mk X.K (CN.cn c) (CN.ad k)
  fld : ∀ c f, (c, f) ∈ g.flds → Cls X.K (CN.cn c) ∧ NoAttr X.K (CN.cn c) f
  rep : g.rb = true → X.A.guards = some []
  isi : ∀ c, c ∈ g.iscs → X.mg c = some (.ref (CN.cn c)) ∧ Cls X.K (CN.cn c) ∧ IsiK X.K (CN.cn c)
  dcs : ∀ x kvs, (x, kvs) ∈ g.dcts → ∃ p, X.mg x = some (.ref p) ∧ ∀ k v, kvs.lookup k = some v → KDct X.K X.w p k (.str v) ∧ okS v
theorem Gd.fnk {g : Tab} {N : List Str} {p : Pm} {X : Cx} {sc : Scope} (G : Gd g N p X sc) : ∀ f fn, g.fn' f = some fn → ∃ fd k, Binds X.K fd fn.ps [] ∧ FnOk X.prog X.w X.K X.mg X.base (L2.CX X.prog X.w) k (CN.ad f) fd fn.ps (spC p.C p.XR f fn.ps.length) ∧ Room (k + 1) X.A ∧
    (∀ n ks perm, (f, n, ks, perm) ∈ g.kws → ∀ (s : Shared) (us ws : List Value), X.K.In s.heap → us.length = n → ws.length = ks.length → BindsTo s fd ⟨us, ks.zip ws⟩ (fn.ps.zip (permL perm (us ++ ws)))) := fun f fn h => by
  obtain ⟨k, h1, _, h2⟩ := G.fnk0
  obtain ⟨fd, h3, h4, h5⟩ := h2 f fn h
  exact ⟨fd, k, h3, h4, h1, h5⟩
theorem Gd.call {g : Tab} {N : List Str} {p : Pm} {X : Cx} {sc : Scope} (G : Gd g N p X sc) {f : Str} {fn : Fn} (hg : g.globs.contains f = true) (hf : g.fn' f = some fn) : ∃ a fd k, X.mg f = some (.ref a) ∧ PySem.W.keepIn X.K (.ref a) = true ∧ Binds X.K fd fn.ps [] ∧ FnOk X.prog X.w X.K X.mg X.base (L2.CX X.prog X.w) k a fd fn.ps (spC p.C p.XR f fn.ps.length) ∧ Room k X.A ∧
    (∀ n ks perm, (f, n, ks, perm) ∈ g.kws → ∀ (s : Shared) (us ws : List Value), X.K.In s.heap → us.length = n → ws.length = ks.length → BindsTo s fd ⟨us, ks.zip ws⟩ (fn.ps.zip (permL perm (us ++ ws)))) := by
  obtain ⟨fd, k, h1, h2, h3, h4⟩ := G.fnk f fn hf
  obtain ⟨h5, h6⟩ := G.glo f (List.contains_iff_mem.mp hg)
  exact ⟨_, fd, k, h5, h6, h1, h2, h3.mono (by omega), h4⟩
section
variable {g : Tab} {N : List Str} {p : Pm} {X : Cx} {sc : Scope}
theorem star_pl {e : Expr} (h : pl e = true) (es : List Expr) (env : Env) : starEach (e :: es) env = (false, eval e env) :: starEach es env := by
  cases e <;> first | rfl | (cases h)
theorem mark_pl {e : Expr} (h : pl e = true) (op : CmpOp) : behindInMarks op e = false := by
  cases e <;> first | rfl | (cases h)
theorem plainIx_pl {e : Expr} (h : pl e = true) : PlainIx e := by
  cases e <;> first | (intro o i; rfl) | (cases h)
theorem sole_pl {e : Expr} (h : pl e = true) : ∀ (env : Env) (x : Value), foldedSetIterable e env x = pure x := by
  cases e <;> first | (intro env x; rfl) | (cases h)
/-- a reading made weaker -/
theorem pe_weak {A : Expr} {t t' : TE} (h : PE X A t) (w : ∀ σ H Q, t' σ H Q → t σ H Q) : PE X A t' := ⟨fun pins s σ H Q I q => h.run pins s σ H Q I (w σ H Q q)⟩
theorem pt_weak {A : Expr} {t t' : TT} (h : PT X A t) (w : ∀ σ H Q, t' σ H Q → t σ H Q) : PT X A t' := ⟨fun pins s σ H Q I q => h.run pins s σ H Q I (w σ H Q q)⟩
theorem pw_weak {A : Expr} {t t' : TT} (h : PW X A t) (w : ∀ σ H Q, t' σ H Q → t σ H Q) : PW X A t' := ⟨fun wh pins s σ H Q I q => h.run wh pins s σ H Q I (w σ H Q q)⟩
/-! ### names -/
theorem okNm_ok (G : Gd g N p X sc) {i : Nat} {x : Str} (h : okNm N sc i x = true) : X.N[i]? = some x ∧ Vis X.env.scope x ∧ (x == ("__debug__" : Str)) = false ∧ (x == ("__classdict__" : Str)) = false := by
  unfold okNm at h
  simp only [Bool.and_eq_true, decide_eq_true_eq, Bool.not_eq_true'] at h
  obtain ⟨h1, h2, h3, h4⟩ := h
  refine ⟨by rw [G.hN]; exact h1, ?_, h3, h4⟩
  rw [G.sc]
  unfold visB at h2
  unfold Vis
  split at h2 <;> simp_all
theorem pe_nm (G : Gd g N p X sc) {i : Nat} {x : Str} {pos : Pos} (h : okNm N sc i x = true) : PE X (.Name x pos) (tVar i) := by
  obtain ⟨h1, h2, h3, h4⟩ := okNm_ok G h
  exact pe_var h1 h2 h3 h4
theorem okGl_ok (G : Gd g N p X sc) {x : Str} (h : okGl sc x = true) : Gl X x ∧ (x == ("__debug__" : Str)) = false ∧ x ≠ "__name__" := by
  unfold okGl at h
  simp only [Bool.and_eq_true, decide_eq_true_eq, Bool.not_eq_true', decide_eq_false_iff_not] at h
  obtain ⟨h1, h2, h3⟩ := h
  refine ⟨?_, h2, h3⟩
  show X.env.scope.names.lookup x = some .globalImplicit
  rw [G.sc]; exact h1
/-! ### one thing after another -/
section
variable {σ : Sl} {H H1 H2 : Hp} {F F1 F2 S S1 S2 T1 T2 : AS} {e e1 e2 : Nv} {d d1 : D} {v v1 : V} {vb sb vb1 sb1 vb2 sb2 : Bool}
/-- an exception further on -/
theorem Vx.pre {x : D} {e' : Nv} (fd : FD H F) (a : AftT sb σ H F S H1 F1 e1 S2) (h : Vx p σ H F S x e') : Vx p σ H1 F1 S2 x e' := fun cls dd H' F' S3 b xr =>
  h cls dd H' F' S3 ((a.weak.trans fd b).imp fun z => by cases z) xr
theorem vp_bind {r : R D} {f : D → Nv → R D} {Q Q1 : VK} (h : Vp p vb sb σ H F S (r.bind f) Q)
    (k : ∀ d e', r = .ok d e' → Vp p vb sb σ H F S (f d e') Q → ∀ v H' F' S1 S2, Aft vb1 sb1 σ H F S H' F' d v S1 e' S2 → Q1 v H') : Vp p vb1 sb1 σ H F S r Q1 := by
  cases r with
  | ok d e' => exact k d e' rfl h
  | ex x e' => exact h
  | bad => exact h
theorem vp_bind_t {r : R D} {f : D → Nv → R Bool} {Q : Bool → Hp → Prop} {Q1 : VK} (h : Vt p sb σ H F S (r.bind f) Q)
    (k : ∀ d e', r = .ok d e' → Vt p sb σ H F S (f d e') Q → ∀ v H' F' S1 S2, Aft vb1 sb1 σ H F S H' F' d v S1 e' S2 → Q1 v H') : Vp p vb1 sb1 σ H F S r Q1 := by
  cases r with
  | ok d e' => exact k d e' rfl h
  | ex x e' => exact h
  | bad => exact h
theorem vt_bind {r : R Bool} {f : Bool → Nv → R D} {Q : VK} {Q1 : Bool → Hp → Prop} (h : Vp p vb sb σ H F S (r.bind f) Q)
    (k : ∀ b e', r = .ok b e' → Vp p vb sb σ H F S (f b e') Q → ∀ H' F' S2, AftT sb1 σ H F S H' F' e' S2 → Q1 b H') : Vt p sb1 σ H F S r Q1 := by
  cases r with
  | ok d e' => exact k d e' rfl h
  | ex x e' => exact h
  | bad => exact h
theorem vt_bind_t {r : R Bool} {f : Bool → Nv → R Bool} {Q Q1 : Bool → Hp → Prop} (h : Vt p sb σ H F S (r.bind f) Q)
    (k : ∀ b e', r = .ok b e' → Vt p sb σ H F S (f b e') Q → ∀ H' F' S2, AftT sb1 σ H F S H' F' e' S2 → Q1 b H') : Vt p sb1 σ H F S r Q1 := by
  cases r with
  | ok d e' => exact k d e' rfl h
  | ex x e' => exact h
  | bad => exact h
/-- what is wanted from here, wanted from behind a first part -/
theorem Vp.pre {r : R D} {Q : VK} (fd : FD H F) (a : AftT sb1 σ H F S H1 F1 e1 S2) (h : Vp p vb sb σ H F S r Q) (hs : sb = true → sb1 = true ∧ sb2 = true) : Vp p vb sb2 σ H1 F1 S2 r Q := by
  cases r with
  | ok d e' =>
    intro v H' F' U1 U2 b
    refine h v H' F' U1 U2 ?_
    have c := a.trans fd b.t
    exact ⟨c.ch, b.rep, c.er, b.s1, c.s2, c.n2, b.dj, fun hv => a.n2.trans a.ch (b.n1 hv), fun z => c.ext (by rw [Bool.and_eq_true]; exact hs z)⟩
  | ex x e' => exact Vx.pre fd a h
  | bad => exact h
theorem Vt.pre {r : R Bool} {Q : Bool → Hp → Prop} (fd : FD H F) (a : AftT sb1 σ H F S H1 F1 e1 S2) (h : Vt p sb σ H F S r Q) (hs : sb = true → sb1 = true ∧ sb2 = true) : Vt p sb2 σ H1 F1 S2 r Q := by
  cases r with
  | ok d e' =>
    intro H' F' U2 b
    refine h H' F' U2 ?_
    exact (a.trans fd b).imp fun z => by rw [Bool.and_eq_true]; exact hs z
  | ex x e' => exact Vx.pre fd a h
  | bad => exact h
end
/-! ### a test out of a value -/
theorem pt_of {A : Expr} {x : E} (h : PE X A (tE p x)) (he : ∀ whole, isTrue A X.env whole = (do let v ← whole; standAt A.pos; holding [v] (truthy v))) : PT X A (tT p x) := by
  refine pt_weak (pt_val h he) fun σ H Q ⟨F, S, e, r, q⟩ => ⟨F, S, e, r, ?_⟩
  refine vp_bind_t q fun d e' _ q v H' F' S1 S2 a => ?_
  cases d <;> first | exact q.elim | skip
  cases a.rep
  exact ⟨_, rfl, q H' F' S2 a.t⟩
/-! ### two values, an operation -/
theorem pe_two {A B P : Expr} {a b : E} {x : E} {f : D → D → Option D} {r : R2} (ha : PE X A (tE p a)) (hb : PE X B (tE p b)) (hp : PE X P (tOp r (tE p a) (tE p b)))
    (hr : ∀ {u w H Q}, rD2 f u w H Q → r u w H Q) (hm : isV a = true ∨ smp b = true) (hv : isV x = true) (hx : smp x = (smp a && smp b))
    (ex : ∀ e, ev p.C x e = (ev p.C a e).bind fun y e1 => (ev p.C b e1).bind fun z e2 => R.of (f y z) e2) : PE X P (tE p x) := by
  refine pe_weak hp fun σ H Q ⟨F, S, e, rd, q⟩ => ?_
  rw [ex] at q
  refine ⟨F, S, e, rd, vp_bind q fun d1 e1 _ q v1 H1 F1 S1 S2 a1 => ?_⟩
  have q1 := Vp.pre (sb2 := smp b) rd.fd a1.t q (by rw [hx, Bool.and_eq_true]; exact id)
  refine ⟨F1, S2, e1, .of_aft a1, vp_bind q1 fun d2 e2 _ q2 v2 H2 F2 T1 T2 a2 => hr ?_⟩
  have k := a1.keep a2.t hm
  cases ho : f d1 d2 with
  | none => rw [ho] at q2; exact q2.elim
  | some d =>
    rw [ho] at q2
    refine ⟨F2, d1, d2, S1, T1, d, k, a2.rep, ho, ?_⟩
    refine Out.of (p := p) (vb := isV x) (sb := smp b) a1.ch.fd a2.t fun v' H' F' U1 U2 b' => q2 v' H' F' U1 U2 ?_
    exact b'
theorem rC2_of {f : D → D → Option Bool} {u w : V} {H : Hp} {Q : VK} (h : rD2 (fun x y => (f x y).map D.bl) u w H Q) : rC2 f u w H Q := by
  obtain ⟨F, a, b, S1, S2, d, ra, rb, e, out⟩ := h
  obtain ⟨c, hc, rfl⟩ := Option.map_eq_some_iff.mp e
  exact ⟨F, a, b, S1, S2, c, ra, rb, hc, out _ rfl⟩
def isBO : Expr → Bool
  | .BoolOp _ _ _ => true
  | _ => false
def SE (g : Tab) (N : List Str) (C : Orc) (XR : Hp → AS → D → Value → Option Addr → Prop) (x : E) : Prop :=
  ∀ (Wx : WX) (X : Cx) (sc : Scope) (A : Expr), Gd g N ⟨C, XR, Wx⟩ X sc → chk g N sc x A = true → PE X A (tE ⟨C, XR, Wx⟩ x) ∧ PT X A (tT ⟨C, XR, Wx⟩ x) ∧ (isBO A = true → PW X A (tT ⟨C, XR, Wx⟩ x))
theorem se_plain {A : Expr} {x : E} (h : PE X A (tE p x)) (he : ∀ whole, isTrue A X.env whole = (do let v ← whole; standAt A.pos; holding [v] (truthy v))) (hb : isBO A = false) : PE X A (tE p x) ∧ PT X A (tT p x) ∧ (isBO A = true → PW X A (tT p x)) :=
  ⟨h, pt_of h he, fun z => by rw [hb] at z; cases z⟩
/-- where PT is shown by its own rule -/
theorem se_test {A : Expr} {x : E} (h : PE X A (tE p x)) (ht : PT X A (tT p x)) (hb : isBO A = false) : PE X A (tE p x) ∧ PT X A (tT p x) ∧ (isBO A = true → PW X A (tT p x)) :=
  ⟨h, ht, fun z => by rw [hb] at z; cases z⟩
/-! ### the small cases -/
theorem snd_cst (d : D) {A : Expr} {sc : Scope} (G : Gd g N p X sc) (h : chk g N sc (.cst d) A = true) : PE X A (tE p (.cst d)) := by
  cases A with
  | Constant c k pos =>
    have h : constD c d = true := h
    have fin : ∀ v, (∀ H F, Rep H F d v nos) → ∀ σ H Q, tE p (.cst d) σ H Q → tC v σ H Q := fun v hv σ H Q ⟨F, S, e, rd, q⟩ => q v H F nos S (rd.refl.val (hv H F))
    cases c <;> cases d <;> (first | (cases h; done) | skip)
    · exact pe_weak pe_non (fin _ fun _ _ => rfl)
    · have e := eq_of_beq h
      subst e
      exact pe_weak pe_bl (fin _ fun _ _ => rfl)
    · have e := of_decide_eq_true h
      subst e
      exact pe_weak pe_int (fin _ fun _ _ => rfl)
    · simp only [constD, Bool.and_eq_true, decide_eq_true_eq] at h
      obtain ⟨rfl, h1, h2⟩ := h
      exact pe_weak pe_str (fin _ fun _ _ => ⟨rfl, h1, lim_ok h2⟩)
  | _ => exact absurd h Bool.false_ne_true
theorem snd_nm (i : Nat) {A : Expr} {sc : Scope} (G : Gd g N p X sc) (h : chk g N sc (.nm i) A = true) : PE X A (tE p (.nm i)) := by
  cases A with
  | Name x pos =>
    refine pe_weak (pe_nm G h) fun σ H Q ⟨F, S, e, rd, q⟩ => ?_
    simp only [ev] at q
    split at q
    · rename_i d he
      obtain ⟨v, S1, S2, hv, r1, er, dj, s1, s2⟩ := rd.er.out he
      refine ⟨v, hv, ?_⟩
      have a0 : Aft true true σ H F S H F d v S1 (e.set i none) S2 := ⟨.refl rd.fd, r1, er, fun _ => s1.trans rd.sf, s2.trans rd.sf, fun x z => .inl (s2 x z), fun _ => dj, fun _ x z => .inl (s1 x z), fun _ _ _ z => z.1⟩
      obtain ⟨b, rf⟩ := a0.give rd.fd rfl
      have hi : i < (e.set i none).length := by
        rw [List.length_set]
        exact (List.getElem?_eq_some_iff.mp he).1
      have er2 := ERs.back (S1 := nos) b.er hi hv rf dj_nos
      rw [List.set_set] at er2
      have er3 := er2.mono (T := S2) fun x z => z.elim (fun z => z.elim) id
      exact q v H _ nos S2 ⟨b.ch, rf, er3, fun _ => sb_nos, b.s2, b.n2, fun _ => dj_nos, fun _ _ z => z.elim, fun z => by cases z⟩
    · exact q.elim
  | _ => exact absurd h Bool.false_ne_true
theorem snd_mv (i : Nat) {A : Expr} {sc : Scope} (G : Gd g N p X sc) (h : chk g N sc (.mv i) A = true) : PE X A (tE p (.mv i)) := by
  cases A with
  | Name x pos =>
    refine pe_weak (pe_nm G h) fun σ H Q ⟨F, S, e, rd, q⟩ => ?_
    simp only [ev] at q
    split at q
    · rename_i d he
      obtain ⟨v, S1, S2, hv, r1, er, dj, s1, s2⟩ := rd.er.out he
      exact ⟨v, hv, q v H F S1 S2 ⟨.refl rd.fd, r1, er, fun _ => s1.trans rd.sf, s2.trans rd.sf, fun x z => .inl (s2 x z), fun _ => dj, fun _ x z => .inl (s1 x z), fun z => by cases z⟩⟩
    · exact q.elim
  | _ => exact absurd h Bool.false_ne_true
theorem snd_pk (i : Nat) {A : Expr} {sc : Scope} (G : Gd g N p X sc) (h : chk g N sc (.pk i) A = true) : PE X A (tE p (.pk i)) := by
  cases A with
  | Name x pos =>
    refine pe_weak (pe_nm G h) fun σ H Q ⟨F, S, e, rd, q⟩ => ?_
    simp only [ev] at q
    split at q
    · rename_i d he
      obtain ⟨v, hv, r1⟩ := rd.er.get he
      exact ⟨v, hv, q v H F S S ⟨.refl rd.fd, r1, rd.er, (fun z => by cases z), rd.sf, fun x z => .inl z, (fun z => by cases z), (fun z => by cases z), fun _ _ _ z => z.1⟩⟩
    · exact q.elim
  | _ => exact absurd h Bool.false_ne_true
theorem constEq_ok : ∀ {a b : D}, constEq a b = true → a = b := by
  intro a b h
  cases a <;> cases b <;> (first | (cases h; done) | skip)
  · rfl
  · exact congrArg D.bl (eq_of_beq h)
  · exact congrArg D.int (of_decide_eq_true h)
  · exact congrArg D.str (of_decide_eq_true h)
theorem snd_gc (y : Str) (d : D) {A : Expr} {sc : Scope} (G : Gd g N p X sc) (h : chk g N sc (.gc y d) A = true) : PE X A (tE p (.gc y d)) := by
  cases A with
  | Name x pos =>
    simp only [chk, Bool.and_eq_true, decide_eq_true_eq] at h
    obtain ⟨rfl, h1, ⟨qx, qd⟩, hq, rfl, h2⟩ := h
    have e := constEq_ok h2
    simp only at e
    subst e
    obtain ⟨u, v, hm, rv, hr⟩ := G.cons _ hq
    obtain ⟨g1, g2, g3⟩ := okGl_ok G h1
    exact pe_weak (pe_glob g1 hm rv g2) fun σ H Q ⟨F, S, e, rd, q⟩ => q v H F nos S (rd.refl.val (hr H F))
  | _ => exact absurd h Bool.false_ne_true
theorem snd_neg {a : E} (ia : SE g N p.C p.XR a) {A : Expr} {sc : Scope} (G : Gd g N p X sc) (h : chk g N sc (.neg a) A = true) : PE X A (tE p (.neg a)) ∧ PT X A (tT p (.neg a)) ∧ (isBO A = true → PW X A (tT p (.neg a))) := by
  cases A with
  | UnaryOp op x pos =>
    cases op with
    | USub =>
      refine se_plain (pe_weak (pe_un un_neg (ia p.Wx X sc x G h).1) fun σ H Q ⟨F, S, e, rd, q⟩ => ⟨F, S, e, rd, ?_⟩) (fun _ => rfl) rfl
      simp only [ev] at q
      refine vp_bind q fun d e' _ q v H' F' S1 S2 a1 => ?_
      cases d <;> (first | exact q.elim | skip)
      cases a1.rep
      exact ⟨_, rfl, q _ H' F' nos S2 (a1.t.val rfl)⟩
    | _ => exact absurd h Bool.false_ne_true
  | _ => exact absurd h Bool.false_ne_true
theorem snd_isn {n : Bool} {a : E} (ia : SE g N p.C p.XR a) {A : Expr} {sc : Scope} (G : Gd g N p X sc) (h : chk g N sc (.isn n a) A = true) : PE X A (tE p (.isn n a)) ∧ PT X A (tT p (.isn n a)) ∧ (isBO A = true → PW X A (tT p (.isn n a))) := by
  have key : ∀ {d : D} {v : V} {H : Hp} {F S : AS}, Rep H F d v S → decide (v = .non) = (match d with | .non => true | _ => false) := fun {d v H F S} r => by
    cases d with
    | non => cases r; rfl
    | bl _ => cases r; rfl
    | int _ => cases r; rfl
    | str _ => obtain ⟨rfl, _⟩ := r; rfl
    | tup _ => obtain ⟨_, _, rfl, _⟩ := r; rfl
    | lst _ _ => obtain ⟨_, _, rfl, _⟩ := r; rfl
    | dct _ _ _ => obtain ⟨_, _, _, _, rfl, _⟩ := r; rfl
    | ins _ _ _ _ => obtain ⟨_, _, _, _, rfl, _⟩ := r; rfl
  have val : ∀ {d : D} {e' : Nv} {σ H F S Q v H' F' S1 S2} (q : Vp p (isV (.isn n a)) (smp (.isn n a)) σ H F S (.ok (.bl (match d with | .non => !n | _ => n)) e') Q) (a1 : Aft (isV a) (smp a) σ H F S H' F' d v S1 e' S2), Q (.bl (if n = true then !decide (v = .non) else decide (v = .non))) H' := fun {d e' σ H F S Q v H' F' S1 S2} q a1 => by
    have := q _ H' F' nos S2 (a1.t.val rfl)
    rw [key a1.rep]
    cases d <;> cases n <;> exact this
  cases A with
  | Compare x ops cs pos =>
    unfold chk at h
    split at h
    · rename_i heq
      cases heq
      rw [Bool.and_eq_true, Bool.not_eq_true'] at h
      obtain ⟨rfl, h2⟩ := h
      have i1 := (ia p.Wx X sc x G h2).1
      have hp : ∀ σ H Q, tE p (.isn false a) σ H Q → tIsN (tE p a) σ H Q := fun σ H Q ⟨F, S, e, rd, q⟩ => ⟨F, S, e, rd, by
        simp only [ev] at q
        exact vp_bind q fun d e' _ q v H' F' S1 S2 a1 => val q a1⟩
      refine se_test (pe_weak (pe_cmp (pc_isN i1)) hp) ?_ rfl
      refine pt_weak (pt_cmp (pc_isN i1)) fun σ H Q ⟨F, S, e, rd, q⟩ => ⟨F, S, e, rd, ?_⟩
      simp only [ev] at q
      refine vp_bind (Q1 := fun v H' => ∃ c, V.bl (decide (v = .non)) = .bl c ∧ Q c H') (vb := true) (sb := smp a) (Q := fun v H' => ∃ c, v = .bl c ∧ Q c H') (r := ev p.C a e) (f := fun x e1 => .ok (.bl (match x with | .non => !false | _ => false)) e1) ?_ fun d e' _ q v H' F' S1 S2 a1 => val q a1
      cases hr : ev p.C a e with
      | ok d e' =>
        rw [hr] at q
        intro v H' F' S1 S2 a1
        cases a1.rep
        exact ⟨_, rfl, q H' F' S2 a1.t⟩
      | ex x e' => rw [hr] at q; exact q
      | bad => rw [hr] at q; exact q
    · rename_i heq
      cases heq
      rw [Bool.and_eq_true] at h
      obtain ⟨rfl, h2⟩ := h
      have i1 := (ia p.Wx X sc x G h2).1
      have hp : ∀ σ H Q, tE p (.isn true a) σ H Q → tNotN (tE p a) σ H Q := fun σ H Q ⟨F, S, e, rd, q⟩ => ⟨F, S, e, rd, by
        simp only [ev] at q
        exact vp_bind q fun d e' _ q v H' F' S1 S2 a1 => val q a1⟩
      refine se_test (pe_weak (pe_cmp (pc_notN i1)) hp) ?_ rfl
      refine pt_weak (pt_cmp (pc_notN i1)) fun σ H Q ⟨F, S, e, rd, q⟩ => ⟨F, S, e, rd, ?_⟩
      simp only [ev] at q
      refine vp_bind (Q1 := fun v H' => ∃ c, V.bl (!decide (v = .non)) = .bl c ∧ Q c H') (vb := true) (sb := smp a) (Q := fun v H' => ∃ c, v = .bl c ∧ Q c H') (r := ev p.C a e) (f := fun x e1 => .ok (.bl (match x with | .non => !true | _ => true)) e1) ?_ fun d e' _ q v H' F' S1 S2 a1 => val q a1
      cases hr : ev p.C a e with
      | ok d e' =>
        rw [hr] at q
        intro v H' F' S1 S2 a1
        cases a1.rep
        exact ⟨_, rfl, q H' F' S2 a1.t⟩
      | ex x e' => rw [hr] at q; exact q
      | bad => rw [hr] at q; exact q
    · exact absurd h Bool.false_ne_true
  | _ => exact absurd h Bool.false_ne_true
theorem snd_bin {o : Operator} {a b : E} (ia : SE g N p.C p.XR a) (ib : SE g N p.C p.XR b) {A : Expr} {sc : Scope} (G : Gd g N p X sc) (h : chk g N sc (.bin o a b) A = true) : PE X A (tE p (.bin o a b)) ∧ PT X A (tT p (.bin o a b)) ∧ (isBO A = true → PW X A (tT p (.bin o a b))) := by
  cases A with
  | BinOp x q y pos =>
    simp only [chk, Bool.and_eq_true, Bool.or_eq_true, decide_eq_true_eq] at h
    obtain ⟨rfl, _, hm, hx, hy⟩ := h
    have i1 := (ia p.Wx X sc x G hx).1
    have i2 := (ib p.Wx X sc y G hy).1
    exact se_plain (pe_two (f := binD q) i1 i2 (pe_op (opD_bin q) i1 i2) (fun z => z) hm rfl rfl fun e => rfl) (fun _ => rfl) rfl
  | _ => exact absurd h Bool.false_ne_true
/-- a test's reading out of a value's -/
theorem tt_of {x : E} {t : TE} (h : ∀ σ H Q, tE p x σ H Q → t σ H Q) : ∀ σ H Q, tT p x σ H Q → tTest t σ H Q := fun σ H Q ⟨F, S, e, rd, q⟩ => by
  refine h σ H _ ⟨F, S, e, rd, vp_bind_t q fun d e' _ q v H' F' S1 S2 a => ?_⟩
  cases d <;> first | exact q.elim | skip
  cases a.rep
  exact ⟨_, rfl, q H' F' S2 a.t⟩
theorem pe_weak' {A : Expr} {t : TE} {x : E} (h : PE X A t) (w : ∀ σ H Q, tE p x σ H Q → t σ H Q) : PE X A (tE p x) := pe_weak h w
/-- two values, an operation: the readings alone -/
theorem two_rd {a b x : E} {f : D → D → Option D} {r : R2} (hr : ∀ {u w H Q}, rD2 f u w H Q → r u w H Q) (hm : isV a = true ∨ smp b = true) (hv : isV x = true) (hx : smp x = (smp a && smp b))
    (ex : ∀ e, ev p.C x e = (ev p.C a e).bind fun y e1 => (ev p.C b e1).bind fun z e2 => R.of (f y z) e2) : ∀ σ H Q, tE p x σ H Q → tOp r (tE p a) (tE p b) σ H Q := fun σ H Q ⟨F, S, e, rd, q⟩ => by
  rw [ex] at q
  refine ⟨F, S, e, rd, vp_bind q fun d1 e1 _ q v1 H1 F1 S1 S2 a1 => ?_⟩
  have q1 := Vp.pre (sb2 := smp b) rd.fd a1.t q (by rw [hx, Bool.and_eq_true]; exact id)
  refine ⟨F1, S2, e1, .of_aft a1, vp_bind q1 fun d2 e2 _ q2 v2 H2 F2 T1 T2 a2 => hr ?_⟩
  have k := a1.keep a2.t hm
  cases ho : f d1 d2 with
  | none => rw [ho] at q2; exact q2.elim
  | some d =>
    rw [ho] at q2
    exact ⟨F2, d1, d2, S1, T1, d, k, a2.rep, ho, Out.of (p := p) (vb := isV x) (sb := smp b) a1.ch.fd a2.t q2⟩
theorem snd_cmp {o : CmpOp} {a b : E} (ia : SE g N p.C p.XR a) (ib : SE g N p.C p.XR b) {A : Expr} {sc : Scope} (G : Gd g N p X sc) (h : chk g N sc (.cmp o a b) A = true) : PE X A (tE p (.cmp o a b)) ∧ PT X A (tT p (.cmp o a b)) ∧ (isBO A = true → PW X A (tT p (.cmp o a b))) := by
  cases A with
  | Compare x ops cs pos =>
    unfold chk at h
    split at h
    · rename_i heq
      cases heq
      simp only [Bool.and_eq_true, Bool.or_eq_true, decide_eq_true_eq] at h
      obtain ⟨rfl, _, hp, hm, hx, hy⟩ := h
      have i1 := (ia p.Wx X sc _ G hx).1
      have i2 := (ib p.Wx X sc _ G hy).1
      have un := G.un
      have rd : ∀ q : CmpOp, ∀ σ H Q, tE p (.cmp q a b) σ H Q → tOp (rC2 (cmpD q)) (tE p a) (tE p b) σ H Q := fun q => two_rd (f := fun x y => (cmpD q x y).map D.bl) (fun z => rC2_of z) hm rfl rfl fun e => rfl
      exact se_test (pe_weak (pe_cmpR (opD_cmp _ (by omega)) i1 i2 (mark_pl hp _)) (rd _)) (pt_weak (pt_cmpR (opD_cmp _ (by omega)) i1 i2 (mark_pl hp _)) (tt_of (rd _))) rfl
    · exact absurd h Bool.false_ne_true
  | _ => exact absurd h Bool.false_ne_true
theorem snd_chn {o1 o2 : CmpOp} {a b c : E} (ia : SE g N p.C p.XR a) (ib : SE g N p.C p.XR b) (ic : SE g N p.C p.XR c) {A : Expr} {sc : Scope} (G : Gd g N p X sc) (h : chk g N sc (.chn o1 o2 a b c) A = true) :
    PE X A (tE p (.chn o1 o2 a b c)) ∧ PT X A (tT p (.chn o1 o2 a b c)) ∧ (isBO A = true → PW X A (tT p (.chn o1 o2 a b c))) := by
  cases A with
  | Compare x ops cs pos =>
    unfold chk at h
    split at h
    · rename_i heq
      cases heq
      simp only [Bool.and_eq_true, Bool.or_eq_true, decide_eq_true_eq] at h
      obtain ⟨eo1, eo2, _, _, hp, hp2, hm, hm2, hx, hy, hz⟩ := h
      have eo1 := eo1.symm
      have eo2 := eo2.symm
      subst eo1 eo2
      have i1 := (ia p.Wx X sc _ G hx).1
      have i2 := (ib p.Wx X sc _ G hy).1
      have i3 := (ic p.Wx X sc _ G hz).1
      have un := G.un
      have rd : ∀ σ H Q, tE p (.chn o1 o2 a b c) σ H Q → tChain (rC2 (cmpD o1)) (rC2 (cmpD o2)) (tE p a) (tE p b) (tE p c) σ H Q := fun σ H Q ⟨F, S, e, rd, q⟩ => by
        simp only [ev] at q
        refine ⟨F, S, e, rd, vp_bind q fun d1 e1 _ q v1 H1 F1 S1 S2 a1 => ?_⟩
        have q1 := Vp.pre (sb2 := smp b && smp c) rd.fd a1.t q (by simp only [smp, Bool.and_eq_true]; exact id)
        refine ⟨F1, S2, e1, .of_aft a1, vp_bind q1 fun d2 e2 _ q2 v2 H2 F2 T1 T2 a2 => ?_⟩
        have k := a1.keep a2.t hm
        have q2' := Vp.pre (sb2 := smp c) a1.ch.fd a2.t q2 (by simp only [Bool.and_eq_true]; exact id)
        cases ho : cmpD o1 d1 d2 with
        | none => rw [ho] at q2; exact q2.elim
        | some t =>
          refine ⟨F2, d1, d2, S1, T1, t, k, a2.rep, ho, t, rfl, ?_⟩
          cases t with
          | false =>
            rw [ho] at q2
            rw [if_neg Bool.false_ne_true]
            exact q2 _ H2 F2 nos T2 ((a2.t.imp fun z => by rw [Bool.and_eq_true] at z; exact z.1).val rfl)
          | true =>
            rw [ho] at q2'
            rw [if_pos rfl]
            refine ⟨F2, T2, e2, .of_aft a2, vp_bind q2' fun d3 e3 _ q3 v3 H3 F3 U1 U2 a3 => ?_⟩
            have k2 := a2.keep a3.t hm2
            cases ho2 : cmpD o2 d2 d3 with
            | none => rw [ho2] at q3; exact q3.elim
            | some t2 =>
              rw [ho2] at q3
              exact ⟨F3, d2, d3, T1, U1, t2, k2, a3.rep, ho2, q3 _ H3 F3 nos U2 (a3.t.val rfl)⟩
      rename_i A' y' z' _ _
      have lm : lastMarks [o1, o2] [y', z'] = false := by
        show behindInMarks o2 z' = false
        exact mark_pl hp2 _
      exact se_test (pe_weak (pe_chain (opD_cmp _ (by omega)) (opD_cmp _ (by omega)) i1 i2 i3 lm) rd) (pt_weak (pt_chain (opD_cmp _ (by omega)) (opD_cmp _ (by omega)) i1 i2 i3 lm) (tt_of rd)) rfl
    · exact absurd h Bool.false_ne_true
  | _ => exact absurd h Bool.false_ne_true
theorem snd_not {a : E} (ia : SE g N p.C p.XR a) {A : Expr} {sc : Scope} (G : Gd g N p X sc) (h : chk g N sc (.not a) A = true) : PE X A (tE p (.not a)) ∧ PT X A (tT p (.not a)) ∧ (isBO A = true → PW X A (tT p (.not a))) := by
  cases A with
  | UnaryOp op x pos =>
    cases op with
    | Not =>
      obtain ⟨i1, i2, _⟩ := ia p.Wx X sc x G h
      refine se_test (pe_weak (pe_not i1) fun σ H Q ⟨F, S, e, rd, q⟩ => ⟨F, S, e, rd, ?_⟩) (pt_weak (pt_not i2) fun σ H Q ⟨F, S, e, rd, q⟩ => ⟨F, S, e, rd, ?_⟩) rfl
      · simp only [ev] at q
        cases hr : ev p.C a e with
        | ok d e' =>
          rw [hr] at q
          intro v H' F' S1 S2 a1
          cases d <;> (first | exact q.elim | skip)
          cases a1.rep
          exact ⟨_, rfl, q _ H' F' nos S2 (a1.t.val rfl)⟩
        | ex x e' => rw [hr] at q; exact q
        | bad => rw [hr] at q; exact q
      · simp only [ev] at q
        cases hr : asB (ev p.C a e) with
        | ok d e' =>
          rw [hr] at q
          intro H' F' S2 a1
          exact q H' F' S2 a1
        | ex x e' => rw [hr] at q; exact q
        | bad => rw [hr] at q; exact q
    | _ => exact absurd h Bool.false_ne_true
  | _ => exact absurd h Bool.false_ne_true
/-- the short ways of and, or -/
theorem asBD_q {r : R D} {vb sb : Bool} {σ : Sl} {H : Hp} {F S : AS} {Q : VK} (h : Vp p true sb σ H F S (asBD r) Q) : Vp p vb sb σ H F S r Q := by
  cases r with
  | ok d e' =>
    intro v H' F' S1 S2 a1
    cases d <;> (first | exact h.elim | skip)
    cases a1.rep
    exact h _ H' F' nos S2 (a1.t.val rfl)
  | ex x e' => exact h
  | bad => exact h
theorem asBD_t {r : R D} {sb : Bool} {σ : Sl} {H : Hp} {F S : AS} {Q : Bool → Hp → Prop} (h : Vt p sb σ H F S (asB (asBD r)) Q) : Vt p sb σ H F S (asB r) Q := by
  cases r with
  | ok d e' =>
    cases d <;> (first | exact h.elim | skip)
    exact h
  | ex x e' => exact h
  | bad => exact h
theorem snd_and {a b : E} (ia : SE g N p.C p.XR a) (ib : SE g N p.C p.XR b) {A : Expr} {sc : Scope} (G : Gd g N p X sc) (h : chk g N sc (.and a b) A = true) : PE X A (tE p (.and a b)) ∧ PT X A (tT p (.and a b)) ∧ (isBO A = true → PW X A (tT p (.and a b))) := by
  cases A with
  | BoolOp op vs pos =>
    unfold chk at h
    split at h
    · rename_i heq
      cases heq
      rename_i x y r
      rw [Bool.and_eq_true] at h
      obtain ⟨hx, hy⟩ := h
      obtain ⟨a1, a2, _⟩ := ia p.Wx X sc _ G hx
      have hb : PE X (.BoolOp .And (y :: r) pos) (tE p b) ∧ PW X (.BoolOp .And (y :: r) pos) (tT p b) := by
        cases r with
        | nil =>
          obtain ⟨b1, b2, _⟩ := ib p.Wx X sc _ G hy
          exact ⟨pe_one b1, pw_and1 b2⟩
        | cons z r' =>
          obtain ⟨b1, _, b3⟩ := ib p.Wx X sc _ G hy
          exact ⟨b1, b3 rfl⟩
      have rd : ∀ σ H Q, tE p (.and a b) σ H Q → tAndV (tE p a) (tE p b) σ H Q := fun σ H Q ⟨F, S, e, rd, q⟩ => by
        refine ⟨F, S, e, rd, ?_⟩
        simp only [ev] at q
        cases hr : ev p.C a e with
        | ok d e' =>
          rw [hr] at q
          intro v H' F' S1 S2 k
          cases d <;> (first | exact q.elim | skip)
          cases k.rep
          rename_i c
          refine ⟨c, rfl, ?_⟩
          cases c with
          | true =>
            rw [if_pos rfl]
            exact ⟨F', S2, e', .of_aft k, asBD_q (Vp.pre (sb2 := smp b) rd.fd k.t q (by simp only [smp, Bool.and_eq_true]; exact id))⟩
          | false =>
            rw [if_neg Bool.false_ne_true]
            exact q _ H' F' nos S2 ((k.t.imp fun z => by simp only [smp, Bool.and_eq_true] at z; exact z.1).val rfl)
        | ex x e' => rw [hr] at q; exact q
        | bad => rw [hr] at q; exact q
      have rdT : ∀ σ H Q, tT p (.and a b) σ H Q → tAnd (tT p a) (tT p b) σ H Q := fun σ H Q ⟨F, S, e, rd, q⟩ => by
        refine ⟨F, S, e, rd, ?_⟩
        simp only [ev] at q
        cases hr : asB (ev p.C a e) with
        | ok c e' =>
          rw [hr] at q
          intro H' F' S2 k
          cases c with
          | true =>
            rw [if_pos rfl]
            exact ⟨F', S2, e', .of_aftT k, asBD_t (Vt.pre (sb2 := smp b) rd.fd k q (by simp only [smp, Bool.and_eq_true]; exact id))⟩
          | false =>
            rw [if_neg Bool.false_ne_true]
            exact q H' F' S2 (k.imp fun z => by simp only [smp, Bool.and_eq_true] at z; exact z.1)
        | ex x e' => rw [hr] at q; exact q
        | bad => rw [hr] at q; exact q
      have w := pw_weak (pw_and a2 hb.2) rdT
      exact ⟨pe_weak (pe_and a1 hb.1) rd, w.pt, fun _ => w⟩
    · exact absurd h Bool.false_ne_true
  | _ => exact absurd h Bool.false_ne_true
theorem snd_or {a b : E} (ia : SE g N p.C p.XR a) (ib : SE g N p.C p.XR b) {A : Expr} {sc : Scope} (G : Gd g N p X sc) (h : chk g N sc (.or a b) A = true) : PE X A (tE p (.or a b)) ∧ PT X A (tT p (.or a b)) ∧ (isBO A = true → PW X A (tT p (.or a b))) := by
  cases A with
  | BoolOp op vs pos =>
    unfold chk at h
    split at h
    · rename_i heq
      cases heq
      rename_i x y r
      rw [Bool.and_eq_true] at h
      obtain ⟨hx, hy⟩ := h
      obtain ⟨a1, a2, _⟩ := ia p.Wx X sc _ G hx
      have hb : PE X (.BoolOp .Or (y :: r) pos) (tE p b) ∧ PW X (.BoolOp .Or (y :: r) pos) (tT p b) := by
        cases r with
        | nil =>
          obtain ⟨b1, b2, _⟩ := ib p.Wx X sc _ G hy
          exact ⟨pe_one b1, pw_or1 b2⟩
        | cons z r' =>
          obtain ⟨b1, _, b3⟩ := ib p.Wx X sc _ G hy
          exact ⟨b1, b3 rfl⟩
      have rd : ∀ σ H Q, tE p (.or a b) σ H Q → tOrV (tE p a) (tE p b) σ H Q := fun σ H Q ⟨F, S, e, rd, q⟩ => by
        refine ⟨F, S, e, rd, ?_⟩
        simp only [ev] at q
        cases hr : ev p.C a e with
        | ok d e' =>
          rw [hr] at q
          intro v H' F' S1 S2 k
          cases d <;> (first | exact q.elim | skip)
          cases k.rep
          rename_i c
          refine ⟨c, rfl, ?_⟩
          cases c with
          | false =>
            rw [if_neg Bool.false_ne_true]
            exact ⟨F', S2, e', .of_aft k, asBD_q (Vp.pre (sb2 := smp b) rd.fd k.t q (by simp only [smp, Bool.and_eq_true]; exact id))⟩
          | true =>
            rw [if_pos rfl]
            exact q _ H' F' nos S2 ((k.t.imp fun z => by simp only [smp, Bool.and_eq_true] at z; exact z.1).val rfl)
        | ex x e' => rw [hr] at q; exact q
        | bad => rw [hr] at q; exact q
      have rdT : ∀ σ H Q, tT p (.or a b) σ H Q → tOr (tT p a) (tT p b) σ H Q := fun σ H Q ⟨F, S, e, rd, q⟩ => by
        refine ⟨F, S, e, rd, ?_⟩
        simp only [ev] at q
        cases hr : asB (ev p.C a e) with
        | ok c e' =>
          rw [hr] at q
          intro H' F' S2 k
          cases c with
          | false =>
            rw [if_neg Bool.false_ne_true]
            exact ⟨F', S2, e', .of_aftT k, asBD_t (Vt.pre (sb2 := smp b) rd.fd k q (by simp only [smp, Bool.and_eq_true]; exact id))⟩
          | true =>
            rw [if_pos rfl]
            exact q H' F' S2 (k.imp fun z => by simp only [smp, Bool.and_eq_true] at z; exact z.1)
        | ex x e' => rw [hr] at q; exact q
        | bad => rw [hr] at q; exact q
      have w := pw_weak (pw_or a2 hb.2) rdT
      exact ⟨pe_weak (pe_or a1 hb.1) rd, w.pt, fun _ => w⟩
    · exact absurd h Bool.false_ne_true
  | _ => exact absurd h Bool.false_ne_true
/-- a if t else b, as a test -/
theorem pt_ifExp {c a b : Expr} {pos : Pos} {tc ta tb : TT} (hc : PT X c tc) (ha : PT X a ta) (hb : PT X b tb) : PT X (.IfExp c a b pos) (fun σ H Q => tc σ H fun k H1 => if k = true then ta σ H1 Q else tb σ H1 Q) := by
  refine ⟨fun pins s σ H Q I h => ?_⟩
  show wpAny _ _ (do if ← isTrue c X.env (eval c X.env) then isTrue a X.env (eval a X.env) else isTrue b X.env (eval b X.env)) _ _ _
  refine wpAny_bind (thn (hc.run pins s σ H _ I h) fun d s1 ⟨H1, I1, q1⟩ => ?_)
  cases d with
  | true => exact ha.run pins s1 σ H1 Q I1 q1
  | false => exact hb.run pins s1 σ H1 Q I1 q1
theorem Vp.flags {r : R D} {vb sb vb2 sb2 : Bool} {σ : Sl} {H : Hp} {F S : AS} {Q : VK} (h : Vp p vb sb σ H F S r Q) (hv : vb = true → vb2 = true) (hs : sb = true → sb2 = true) : Vp p vb2 sb2 σ H F S r Q := by
  cases r with
  | ok d e' => exact fun v H' F' S1 S2 a => h v H' F' S1 S2 ⟨a.ch, a.rep, a.er, fun z => a.s1 (hv z), a.s2, a.n2, fun z => a.dj (hv z), fun z => a.n1 (hv z), fun z => a.ext (hs z)⟩
  | ex x e' => exact h
  | bad => exact h
theorem snd_ite {c a b : E} (ic : SE g N p.C p.XR c) (ia : SE g N p.C p.XR a) (ib : SE g N p.C p.XR b) {A : Expr} {sc : Scope} (G : Gd g N p X sc) (h : chk g N sc (.ite c a b) A = true) :
    PE X A (tE p (.ite c a b)) ∧ PT X A (tT p (.ite c a b)) ∧ (isBO A = true → PW X A (tT p (.ite c a b))) := by
  cases A with
  | IfExp z x y pos =>
    simp only [chk, Bool.and_eq_true] at h
    obtain ⟨hz, hx, hy⟩ := h
    obtain ⟨_, c2, _⟩ := ic p.Wx X sc _ G hz
    obtain ⟨a1, a2, _⟩ := ia p.Wx X sc _ G hx
    obtain ⟨b1, b2, _⟩ := ib p.Wx X sc _ G hy
    refine se_test (pe_weak (pe_ifExp c2 a1 b1) fun σ H Q ⟨F, S, e, rd, q⟩ => ⟨F, S, e, rd, ?_⟩) (pt_weak (pt_ifExp c2 a2 b2) fun σ H Q ⟨F, S, e, rd, q⟩ => ⟨F, S, e, rd, ?_⟩) rfl
    · simp only [ev] at q
      refine vt_bind q fun t e' _ q H' F' S2 k => ?_
      cases t with
      | true =>
        rw [if_pos rfl] at q ⊢
        exact ⟨F', S2, e', .of_aftT k, (Vp.pre (sb2 := smp a) rd.fd k q (by simp only [smp, Bool.and_eq_true]; exact fun z => ⟨z.1, z.2.1⟩)).flags (by simp only [isV, Bool.and_eq_true]; exact fun z => z.1) id⟩
      | false =>
        rw [if_neg Bool.false_ne_true] at q ⊢
        exact ⟨F', S2, e', .of_aftT k, (Vp.pre (sb2 := smp b) rd.fd k q (by simp only [smp, Bool.and_eq_true]; exact fun z => ⟨z.1, z.2.2⟩)).flags (by simp only [isV, Bool.and_eq_true]; exact fun z => z.2) id⟩
    · simp only [ev] at q
      have q' : Vt p (smp (.ite c a b)) σ H F S ((asB (ev p.C c e)).bind fun x e1 => if x then asB (ev p.C a e1) else asB (ev p.C b e1)) Q := by
        cases hr : asB (ev p.C c e) with
        | ok t e' =>
          rw [hr] at q
          cases t <;> exact q
        | ex x e' => rw [hr] at q; exact q
        | bad => rw [hr] at q; exact q
      refine vt_bind_t q' fun t e' _ q H' F' S2 k => ?_
      cases t with
      | true =>
        rw [if_pos rfl] at q ⊢
        exact ⟨F', S2, e', .of_aftT k, Vt.pre (sb2 := smp a) rd.fd k q (by simp only [smp, Bool.and_eq_true]; exact fun z => ⟨z.1, z.2.1⟩)⟩
      | false =>
        rw [if_neg Bool.false_ne_true] at q ⊢
        exact ⟨F', S2, e', .of_aftT k, Vt.pre (sb2 := smp b) rd.fd k q (by simp only [smp, Bool.and_eq_true]; exact fun z => ⟨z.1, z.2.2⟩)⟩
  | _ => exact absurd h Bool.false_ne_true
theorem snd_ix {a i : E} (ia : SE g N p.C p.XR a) (ib : SE g N p.C p.XR i) {A : Expr} {sc : Scope} (G : Gd g N p X sc) (h : chk g N sc (.ix a i) A = true) : PE X A (tE p (.ix a i)) ∧ PT X A (tT p (.ix a i)) ∧ (isBO A = true → PW X A (tT p (.ix a i))) := by
  cases A with
  | Subscript x y pos =>
    simp only [chk, Bool.and_eq_true, Bool.or_eq_true] at h
    obtain ⟨hp, hm, hx, hy⟩ := h
    have i1 := (ia p.Wx X sc x G hx).1
    have i2 := (ib p.Wx X sc y G hy).1
    exact se_plain (pe_two (f := ixD) i1 i2 (pe_ix (ixD_ok (by have := G.un; omega)) i1 i2 (plainIx_pl hp)) (fun z => z) hm rfl rfl fun e => rfl) (fun _ => rfl) rfl
  | _ => exact absurd h Bool.false_ne_true
theorem snd_slc {fl fh : Bool} {a l h : E} (ia : SE g N p.C p.XR a) (il : SE g N p.C p.XR l) (ih : SE g N p.C p.XR h) {A : Expr} {sc : Scope} (G : Gd g N p X sc) (hc : chk g N sc (.slc fl fh a l h) A = true) :
    PE X A (tE p (.slc fl fh a l h)) ∧ PT X A (tT p (.slc fl fh a l h)) ∧ (isBO A = true → PW X A (tT p (.slc fl fh a l h))) := by
  cases A with
  | Subscript x y pos =>
    unfold chk at hc
    split at hc
    · rename_i heq
      cases heq
      rename_i lo hi p2
      simp only [Bool.and_eq_true, Bool.or_eq_true] at hc
      obtain ⟨hm, vl, vh, hx, hlo, hhi⟩ := hc
      have i1 := (ia p.Wx X sc _ G hx).1
      -- a part's reading
      have part : ∀ {f : Bool} {z : E} {o : Option Expr}, SE g N p.C p.XR z → (match o with | none => !f && isUnit z | some w => f && chk g N sc z w) = true →
          ∃ t : TO, PO X o t ∧ ∀ σ H F S e (Q : Option Int → Hp → Prop), Rdy H F S e σ →
            (match ev p.C z e with
              | .ok d e' => ∀ H' F' S2, AftT (smp z) σ H F S H' F' e' S2 → ∃ r, partD f d = some r ∧ Q r H'
              | .ex x e' => Vx p σ H F S x e'
              | .bad => False) → t σ H Q := fun {f z o} iz hz => by
        cases o with
        | none =>
          simp only [Bool.and_eq_true, Bool.not_eq_true'] at hz
          obtain ⟨rfl, hz⟩ := hz
          refine ⟨tNoPart, po_none, fun σ H F S e Q rd q => ?_⟩
          cases z <;> (first | (cases hz; done) | skip)
          rename_i d
          cases d <;> (first | (cases hz; done) | skip)
          obtain ⟨r, hr, q⟩ := q H F S rd.refl
          cases hr
          exact q
        | some w =>
          simp only [Bool.and_eq_true] at hz
          obtain ⟨rfl, hz⟩ := hz
          refine ⟨tPart (tE p z), po_some (iz p.Wx X sc w G hz).1, fun σ H F S e Q rd q => ⟨F, S, e, rd, ?_⟩⟩
          cases hr : ev p.C z e with
          | ok d e' =>
            rw [hr] at q
            intro v H' F' S1 S2 k
            obtain ⟨r, hr, q⟩ := q H' F' S2 k.t
            cases d <;> (first | (cases hr; done) | skip)
            cases k.rep
            cases hr
            exact ⟨_, rfl, q⟩
          | ex x e' => rw [hr] at q; exact q
          | bad => rw [hr] at q; exact q
      obtain ⟨tl, pl1, rl⟩ := part il hlo
      obtain ⟨th, ph1, rh⟩ := part ih hhi
      refine se_plain (pe_weak (pe_slice slD_ok i1 pl1 ph1) fun σ H Q ⟨F, S, e, rd, q⟩ => ?_) (fun _ => rfl) rfl
      simp only [ev] at q
      refine ⟨F, S, e, rd, vp_bind q fun d1 e1 _ q v1 H1 F1 S1 S2 k1 => ?_⟩
      have q1 := Vp.pre (sb2 := smp l && smp h) rd.fd k1.t q (by simp only [smp, Bool.and_eq_true]; exact id)
      refine rl σ H1 F1 S2 e1 _ (.of_aft k1) ?_
      cases hl : ev p.C l e1 with
      | ok d2 e2 =>
        rw [hl] at q1
        intro H2 F2 T2 k2
        cases hp2 : partD fl d2 with
        | none => rw [R.bind_ok, hp2] at q1; exact q1.elim
        | some r =>
          refine ⟨r, rfl, ?_⟩
          rw [R.bind_ok, hp2] at q1
          have q2 := Vp.pre (sb2 := smp h) k1.ch.fd k2 q1 (by simp only [Bool.and_eq_true]; exact id)
          refine rh σ H2 F2 T2 e2 _ (.of_aftT k2) ?_
          cases hh : ev p.C h e2 with
          | ok d3 e3 =>
            rw [hh] at q2
            intro H3 F3 U2 k3
            cases hp3 : partD fh d3 with
            | none => simp only [R.bind_ok, hp3, Option.bind_none, R.of_none] at q2; exact q2.elim
            | some r3 =>
              refine ⟨r3, rfl, ?_⟩
              have k23 := (k2.trans k1.ch.fd k3)
              have rep1 : Rep H3 F3 d1 v1 S1 := k1.keep k23 (hm.imp_right fun z => by rw [Bool.and_eq_true]; exact z)
              simp only [R.bind_ok, hp3, Option.bind_some] at q2
              cases ho : slcD d1 r r3 with
              | none => simp only [ho, R.of_none] at q2; exact q2.elim
              | some d =>
                simp only [ho, R.of_some] at q2
                exact ⟨F3, d1, S1, d, rep1, ho, Out.of (p := p) (vb := true) (sb := smp h) k2.ch.fd k3 q2⟩
          | ex x e' => simp only [hh] at q2; exact q2
          | bad => simp only [hh] at q2; exact q2
      | ex x e' => rw [hl] at q1; exact q1
      | bad => rw [hl] at q1; exact q1
    · exact absurd hc Bool.false_ne_true
  | _ => exact absurd hc Bool.false_ne_true
/-! ### several things -/
structure AfL (sb : Bool) (σ : Sl) (H : Hp) (F S : AS) (H' : Hp) (F' : AS) (ds : List D) (vs : List V) (S1 : AS) (e' : Nv) (S2 : AS) : Prop where
  t : AftT sb σ H F S H' F' e' S2
  rep : RepL H' F' ds vs S1
  s1 : Sb S1 F'
  dj : Dj S1 S2
  n1 : Nw S H S1
def Vl (p : Pm) (sb : Bool) (σ : Sl) (H : Hp) (F S : AS) (r : R (List D)) (Q : List V → Hp → Prop) : Prop := match r with
  | .ok ds e' => ∀ vs H' F' S1 S2, AfL sb σ H F S H' F' ds vs S1 e' S2 → Q vs H'
  | .ex x e' => Vx p σ H F S x e'
  | .bad => False
def tEs (p : Pm) (es : List E) : TA := fun σ H Q => ∃ F S e, Rdy H F S e σ ∧ Vl p (smpL es) σ H F S (evs p.C es e) Q
structure AfA (σ : Sl) (H : Hp) (F S : AS) (H' : Hp) (F' : AS) (as : List Av) (vs : List V) (S1 : AS) (e' : Nv) (S2 : AS) : Prop where
  t : AftT false σ H F S H' F' e' S2
  rep : ARs H' F' as vs σ S1
  s1 : Sb S1 F'
  dj : Dj S1 S2
  n1 : Nw S H S1
def Va (p : Pm) (σ : Sl) (H : Hp) (F S : AS) (r : R (List Av)) (Q : List V → Hp → Prop) : Prop := match r with
  | .ok as e' => ∀ vs H' F' S1 S2, AfA σ H F S H' F' as vs S1 e' S2 → Q vs H'
  | .ex x e' => Vx p σ H F S x e'
  | .bad => False
def tA (p : Pm) (es : List E) : TA := fun σ H Q => ∃ F S e, Rdy H F S e σ ∧ Va p σ H F S (evA p.C es e) Q
theorem pa_weak {A : List Expr} {t t' : TA} (h : PA X A t) (w : ∀ σ H Q, t' σ H Q → t σ H Q) : PA X A t' := ⟨fun pos pins s σ H Q I q => h.run pos pins s σ H Q I (w σ H Q q)⟩
theorem pa_es_nil : PA X [] (tEs p []) := pa_weak pa_nil fun σ H Q ⟨F, S, e, rd, q⟩ => q [] H F nos S ⟨rd.refl, rfl, sb_nos, dj_nos, fun _ z => z.elim⟩
theorem pa_es_cons {a : E} {es : List E} {x : Expr} {xs : List Expr} (hp : pl x = true) (hv : isV a = true) (h1 : PE X x (tE p a)) (h2 : PA X xs (tEs p es)) : PA X (x :: xs) (tEs p (a :: es)) := by
  refine pa_weak (pa_cons h1 h2 (star_pl hp xs X.env)) fun σ H Q ⟨F, S, e, rd, q⟩ => ⟨F, S, e, rd, ?_⟩
  simp only [evs] at q
  cases ha : ev p.C a e with
  | ok d e1 =>
    rw [ha] at q
    intro v H1 F1 S1 S2 k1
    refine ⟨F1, S2, e1, .of_aft k1, ?_⟩
    rw [R.bind_ok] at q
    cases hr : evs p.C es e1 with
    | ok ds e2 =>
      rw [hr] at q
      intro vs H2 F2 T1 T2 k2
      have kk := k1.t.trans rd.fd k2.t
      have r1 := k1.keep k2.t (.inl hv)
      obtain ⟨b1, b2, b3⟩ := k1.keepS k2.t hv
      have d12 : Dj S1 T1 := fun x z w => (k2.n1 x w).elim (fun w => k1.dj hv x z w) fun w => k1.ch.fd x (k1.s1 hv x z) w
      refine q (v :: vs) H2 F2 (fun x => S1 x ∨ T1 x) T2 ⟨kk.imp fun z => by simpa [smpL, Bool.and_eq_true] using z, ⟨v, vs, S1, T1, rfl, r1, k2.rep, d12, fun _ z => .inl z, fun _ z => .inr z⟩, fun x z => z.elim (b1 x) (k2.s1 x), fun x z w => z.elim (fun z => b2 x z w) fun z => k2.dj x z w, fun x z => z.elim (b3 x) ((k1.n2.trans k1.ch k2.n1) x)⟩
    | ex x e2 => rw [hr] at q; exact Vx.pre rd.fd k1.t q
    | bad => rw [hr] at q; exact q
  | ex x e1 => rw [ha] at q; exact q
  | bad => rw [ha] at q; exact q
theorem pa_a_nil : PA X [] (tA p []) := pa_weak pa_nil fun σ H Q ⟨F, S, e, rd, q⟩ => q [] H F nos S ⟨rd.refl.weak, rfl, sb_nos, dj_nos, fun _ z => z.elim⟩
theorem tA_val {a : E} {es : List E} (hv : isV a = true) (hk : pk? a = none) : ∀ σ H Q, tA p (a :: es) σ H Q → tCons (tE p a) (tA p es) σ H Q := fun σ H Q ⟨F, S, e, rd, q⟩ => by
  refine ⟨F, S, e, rd, ?_⟩
  have q : Va p σ H F S ((ev p.C a e).bind fun x e1 => (evA p.C es e1).bind fun xs e2 => .ok (.d x :: xs) e2) Q := by
    cases a <;> first | exact q | (cases hk; done)
  cases ha : ev p.C a e with
  | ok d e1 =>
    rw [ha] at q
    intro v H1 F1 S1 S2 k1
    refine ⟨F1, S2, e1, .of_aft k1, ?_⟩
    rw [R.bind_ok] at q
    cases hr : evA p.C es e1 with
    | ok ds e2 =>
      rw [hr] at q
      intro vs H2 F2 T1 T2 k2
      have kk := k1.t.weak.trans rd.fd k2.t
      have r1 := k1.keep k2.t (.inl hv)
      obtain ⟨b1, b2, b3⟩ := k1.keepS k2.t hv
      have d12 : Dj S1 T1 := fun x z w => (k2.n1 x w).elim (fun w => k1.dj hv x z w) fun w => k1.ch.fd x (k1.s1 hv x z) w
      refine q (v :: vs) H2 F2 (fun x => S1 x ∨ T1 x) T2 ⟨kk.weak, ⟨v, vs, S1, T1, rfl, r1, k2.rep, d12, fun _ z => .inl z, fun _ z => .inr z⟩, fun x z => z.elim (b1 x) (k2.s1 x), fun x z w => z.elim (fun z => b2 x z w) fun z => k2.dj x z w, fun x z => z.elim (b3 x) ((k1.n2.trans k1.ch k2.n1) x)⟩
    | ex x e2 => rw [hr] at q; exact Vx.pre rd.fd k1.t q
    | bad => rw [hr] at q; exact q
  | ex x e1 => rw [ha] at q; exact q
  | bad => rw [ha] at q; exact q
theorem pa_a_val {a : E} {es : List E} {x : Expr} {xs : List Expr} (hp : pl x = true) (hv : isV a = true) (hk : pk? a = none) (h1 : PE X x (tE p a)) (h2 : PA X xs (tA p es)) : PA X (x :: xs) (tA p (a :: es)) :=
  pa_weak (pa_cons h1 h2 (star_pl hp xs X.env)) (tA_val hv hk)
theorem tA_slot {i : Nat} {es : List E} : ∀ σ H Q, tA p (.pk i :: es) σ H Q → tCons (tVar i) (tA p es) σ H Q := fun σ H Q ⟨F, S, e, rd, q⟩ => by
  simp only [evA] at q
  split at q
  · rename_i d he
    obtain ⟨v, hv, _⟩ := rd.er.get he
    refine ⟨v, hv, F, S, e, rd, ?_⟩
    cases hr : evA p.C es e with
    | ok ds e2 =>
      rw [hr] at q
      intro vs H2 F2 T1 T2 k2
      exact q (v :: vs) H2 F2 T1 T2 ⟨k2.t, ⟨v, vs, rfl, hv, k2.rep⟩, k2.s1, k2.dj, k2.n1⟩
    | ex x e2 => rw [hr] at q; exact q
    | bad => rw [hr] at q; exact q
  · exact q.elim
theorem pa_a_slot {i : Nat} {es : List E} {x : Expr} {xs : List Expr} (hp : pl x = true) (h1 : PE X x (tVar i)) (h2 : PA X xs (tA p es)) : PA X (x :: xs) (tA p (.pk i :: es)) :=
  pa_weak (pa_cons h1 h2 (star_pl hp xs X.env)) tA_slot
/-! ### displays -/
theorem evs_len {C : Orc} : ∀ {es : List E} {e e' : Nv} {ds : List D}, evs C es e = .ok ds e' → ds.length = es.length
  | [], e, e', ds, h => by cases h; rfl
  | a :: es, e, e', ds, h => by
    simp only [evs] at h
    cases ha : ev C a e with
    | ok d e1 =>
      rw [ha, R.bind_ok] at h
      cases hr : evs C es e1 with
      | ok ds' e2 =>
        rw [hr, R.bind_ok] at h
        cases h
        rw [List.length_cons, List.length_cons, evs_len hr]
      | ex x e2 => rw [hr] at h; cases h
      | bad => rw [hr] at h; cases h
    | ex x e1 => rw [ha] at h; cases h
    | bad => rw [ha] at h; cases h
theorem chks_len : ∀ {es : List E} {xs : List Expr} {sc : Scope}, chks g N sc es xs = true → es.length = xs.length
  | [], [], _, _ => rfl
  | [], _ :: _, _, h => by cases h
  | a :: es, [], _, h => by cases h
  | a :: es, x :: xs, sc, h => by
    simp only [chks, Bool.and_eq_true] at h
    rw [List.length_cons, List.length_cons, chks_len h.2.2.2]
theorem snd_tup {es : List E} (ie : ∀ (xs : List Expr), chks g N sc es xs = true → PA X xs (tEs p es)) {A : Expr} (G : Gd g N p X sc) (h : chk g N sc (.tup es) A = true) :
    PE X A (tE p (.tup es)) ∧ PT X A (tT p (.tup es)) ∧ (isBO A = true → PW X A (tT p (.tup es))) := by
  cases A with
  | Tuple xs k pos =>
    simp only [chk, Bool.and_eq_true, decide_eq_true_eq] at h
    obtain ⟨hz, hx⟩ := h
    refine se_plain (pe_weak (pe_tup (ie xs hx)) fun σ H Q ⟨F, S, e, rd, q⟩ => ⟨F, S, e, rd, ?_⟩) (fun _ => rfl) rfl
    simp only [ev] at q
    cases hr : evs p.C es e with
    | ok ds e' =>
      rw [hr] at q
      intro vs H' F' S1 S2 k
      have hl : vs.length ≤ sizeLine := by rw [k.rep.len, evs_len hr, chks_len hx]; exact lim_ok (by omega)
      exact ⟨hl, fun l hq => q _ _ _ S1 S2 (k.t.tup rd.fd hq k.rep hl k.s1 k.dj k.n1)⟩
    | ex x e' => rw [hr] at q; exact q
    | bad => rw [hr] at q; exact q
  | _ => exact absurd h Bool.false_ne_true
theorem AfL.give {sb : Bool} {σ : Sl} {H H1 : Hp} {F F1 S S1 S2 : AS} {ds : List D} {vs : List V} {e1 : Nv} (fd : FD H F) (a : AfL sb σ H F S H1 F1 ds vs S1 e1 S2) :
    AftT sb σ H F S H1 (fun x => F1 x ∧ ¬ S1 x) e1 S2 ∧ RepL H1 (fun x => F1 x ∧ ¬ S1 x) (fzL ds) vs nos :=
  ⟨⟨⟨a.t.ch.keep, fun x h => a.t.ch.new x h.1, fun x h ns => ⟨a.t.ch.old x h ns, fun q => (a.n1 x q).elim ns (fd x h)⟩, a.t.ch.dom, a.t.ch.fd.less fun x h => h.1⟩, a.t.er.less fun x h => h.1, fun x h => ⟨a.t.s2 x h, fun q => a.dj x q h⟩, a.t.n2, a.t.ext⟩, RepL.frz ds vs S1 a.rep⟩
theorem snd_lst {es : List E} (ie : ∀ (xs : List Expr), chks g N sc es xs = true → PA X xs (tEs p es)) {A : Expr} (G : Gd g N p X sc) (h : chk g N sc (.lst es) A = true) :
    PE X A (tE p (.lst es)) ∧ PT X A (tT p (.lst es)) ∧ (isBO A = true → PW X A (tT p (.lst es))) := by
  cases A with
  | List xs pos =>
    simp only [chk, Bool.and_eq_true, decide_eq_true_eq] at h
    obtain ⟨hz, hx⟩ := h
    refine se_plain (pe_weak (pe_lst (ie xs hx)) fun σ H Q ⟨F, S, e, rd, q⟩ => ⟨F, S, e, rd, ?_⟩) (fun _ => rfl) rfl
    simp only [ev] at q
    cases hr : evs p.C es e with
    | ok ds e' =>
      rw [hr] at q
      intro vs H' F' S1 S2 k
      have hl : vs.length ≤ sizeLine := by rw [k.rep.len, evs_len hr, chks_len hx]; exact lim_ok (by omega)
      obtain ⟨k1, k2⟩ := k.give rd.fd
      exact ⟨hl, fun l hq => q _ _ _ _ S2 (k1.lst rd.fd hq k2 hl)⟩
    | ex x e' => rw [hr] at q; exact q
    | bad => rw [hr] at q; exact q
  | _ => exact absurd h Bool.false_ne_true
/-! ### built-ins -/
theorem free_ok (G : Gd g N p X sc) {x : Str} (h : okGl sc x = true) (hf : g.free.contains x = true) : Gl X x ∧ X.mg x = none ∧ (x == ("__debug__" : Str)) = false ∧ x ≠ "__name__" := by
  obtain ⟨g1, g2, g3⟩ := okGl_ok G h
  exact ⟨g1, G.free x (List.contains_iff_mem.mp hf), g2, g3⟩
theorem hpl_nil (pos : Pos) (env : Env) : (backTo pos (starEach [] env)).any (·.1) = false := rfl
theorem hpl_one {y : Expr} (hp : pl y = true) (pos : Pos) (env : Env) : (backTo pos (starEach [y] env)).any (·.1) = false := by
  rw [star_pl hp]; rfl
theorem snd_b1 {f : B1} {a : E} (ia : SE g N p.C p.XR a) {A : Expr} (G : Gd g N p X sc) (h : chk g N sc (.b1 f a) A = true) :
    PE X A (tE p (.b1 f a)) ∧ PT X A (tT p (.b1 f a)) ∧ (isBO A = true → PW X A (tT p (.b1 f a))) := by
  cases A with
  | Call fn xs kws pos =>
    unfold chk at h
    split at h
    · rename_i heq
      cases heq
      rename_i x p0 y
      simp only [Bool.and_eq_true, decide_eq_true_eq] at h
      obtain ⟨rfl, h1, h2, hp, hy⟩ := h
      obtain ⟨g1, g2, g3, g4⟩ := free_ok G h1 h2
      have i1 := (ia p.Wx X sc y G hy).1
      have pa := pa_cons i1 pa_nil (star_pl hp [] X.env)
      have hs := star_pl hp [] X.env
      have cb := call_b1 (X := X) f G.calm G.un
      have rd : ∀ σ H Q, tE p (.b1 f a) σ H Q → tCB (rCD1 (b1D f)) (tCons (tE p a) tNil) σ H Q := fun σ H Q ⟨F, S, e, rd, q⟩ => by
        refine ⟨F, S, e, rd, ?_⟩
        simp only [ev] at q
        refine vp_bind q fun d e' _ q v H' F' S1 S2 k => ?_
        cases ho : b1D f d with
        | none => rw [ho] at q; exact q.elim
        | some r =>
          rw [ho] at q
          exact ⟨F', v, d, S1, r, rfl, k.rep, ho, Out.of (p := p) (vb := true) (sb := smp a) rd.fd k.t q⟩
      refine se_plain (pe_weak ?_ rd) (fun _ => rfl) rfl
      cases f
      case len => exact pe_callB cb g1 g2 boot_len pa g4 g3 hs (hpl_nil _ _)
      case abs => exact pe_callB cb g1 g2 PyProof.Rows.boot_abs pa g4 g3 hs (hpl_nil _ _)
      case all => exact pe_callB cb g1 g2 PyProof.Rows.boot_all pa g4 g3 hs (hpl_nil _ _)
      case any => exact pe_callB cb g1 g2 PyProof.Rows.boot_any pa g4 g3 hs (hpl_nil _ _)
      case sum => exact pe_callB cb g1 g2 PyProof.Rows.boot_sum pa g4 g3 hs (hpl_nil _ _)
      case lst => exact pe_callTy cb g1 g2 PyProof.Rows.boot_list pa g4 g3 hs (hpl_nil _ _)
      case tup => exact pe_callTy cb g1 g2 PyProof.Rows.boot_tuple pa g4 g3 hs (hpl_nil _ _)
      case max => exact pe_callB cb g1 g2 PyProof.Rows.boot_max pa g4 g3 hs (hpl_nil _ _)
      case min => exact pe_callB cb g1 g2 PyProof.Rows.boot_min pa g4 g3 hs (hpl_nil _ _)
      case str => exact pe_callTy cb g1 g2 PyProof.Rows.boot_str pa g4 g3 hs (hpl_nil _ _)
      case int => exact pe_callTy cb g1 g2 PyProof.Rows.boot_int pa g4 g3 hs (hpl_nil _ _)
      case sorted => exact pe_callB cb g1 g2 PyProof.Rows.boot_sorted pa g4 g3 hs (hpl_nil _ _)
      case dct => exact pe_callTy cb g1 g2 PyProof.Rows.boot_dict pa g4 g3 hs (hpl_nil _ _)
    · exact absurd h Bool.false_ne_true
  | _ => exact absurd h Bool.false_ne_true
theorem snd_b2 {f : B2} {a b : E} (ia : SE g N p.C p.XR a) (ib : SE g N p.C p.XR b) {A : Expr} (G : Gd g N p X sc) (h : chk g N sc (.b2 f a b) A = true) :
    PE X A (tE p (.b2 f a b)) ∧ PT X A (tT p (.b2 f a b)) ∧ (isBO A = true → PW X A (tT p (.b2 f a b))) := by
  cases A with
  | Call fn xs kws pos =>
    unfold chk at h
    split at h
    · rename_i heq
      cases heq
      rename_i x p0 y z
      simp only [Bool.and_eq_true, Bool.or_eq_true, decide_eq_true_eq] at h
      obtain ⟨rfl, h1, h2, hp, hp2, hm, hy, hz⟩ := h
      obtain ⟨g1, g2, g3, g4⟩ := free_ok G h1 h2
      have i1 := (ia p.Wx X sc y G hy).1
      have i2 := (ib p.Wx X sc z G hz).1
      have pa := pa_cons i1 (pa_cons i2 pa_nil (star_pl hp2 [] X.env)) (star_pl hp [z] X.env)
      have hs := star_pl hp [z] X.env
      have cb := call_b2 (X := X) f G.calm
      have rd : ∀ σ H Q, tE p (.b2 f a b) σ H Q → tCB (rCD2 (b2D f)) (tCons (tE p a) (tCons (tE p b) tNil)) σ H Q := fun σ H Q ⟨F, S, e, rd, q⟩ => by
        refine ⟨F, S, e, rd, ?_⟩
        simp only [ev] at q
        refine vp_bind q fun d1 e1 _ q v1 H1 F1 S1 S2 a1 => ?_
        have q1 := Vp.pre (sb2 := smp b) rd.fd a1.t q (by simp only [smp, Bool.and_eq_true]; exact id)
        refine ⟨F1, S2, e1, .of_aft a1, vp_bind q1 fun d2 e2 _ q2 v2 H2 F2 T1 T2 a2 => ?_⟩
        have k := a1.keep a2.t hm
        cases ho : b2D f d1 d2 with
        | none => rw [ho] at q2; exact q2.elim
        | some d =>
          rw [ho] at q2
          exact ⟨F2, v1, v2, d1, d2, S1, T1, d, rfl, k, a2.rep, ho, Out.of (p := p) (vb := true) (sb := smp b) a1.ch.fd a2.t q2⟩
      refine se_plain (pe_weak ?_ rd) (fun _ => rfl) rfl
      cases f
      case max => exact pe_callB cb g1 g2 PyProof.Rows.boot_max pa g4 g3 hs (hpl_one hp2 _ _)
      case min => exact pe_callB cb g1 g2 PyProof.Rows.boot_min pa g4 g3 hs (hpl_one hp2 _ _)
    · exact absurd h Bool.false_ne_true
  | _ => exact absurd h Bool.false_ne_true
theorem few1' {cpos : Pos} {e : Expr} {env : Env} (hp : pl e = true) : ((backTo cpos (starEach [e] env)).all (fun x => !x.1) && (backToKw cpos (keywordEach [] env)).all (fun x => x.1.isSome) && decide ([e].length + ([] : List Keyword).length + (if ([] : List Keyword).isEmpty then 0 else 1) < 30)) = true := by
  rw [star_pl hp]; rfl
theorem lst_ty' {K : PySem.W.Frag} {H : Hp} {F S : AS} {o : Bool} {xs : List Vm.D} {w : L2.V} (h : Rep H F (.lst o xs) w S) : tyV K "list" w H := by
  obtain ⟨a, vs, rfl, z, l, r⟩ := h.lst_inv
  exact .inl ⟨rfl, vs, .inl r⟩
theorem rcv_base {o : Expr} (h : rcvE o = true) (m : Str) (env : Env) : attributeBase o m env (eval o env) = eval o env := by
  cases o <;> first | rfl | (cases h; done) | skip
  rename_i f xs kws pos
  cases xs with
  | nil => cases h
  | cons x xs => cases f <;> rfl
theorem snd_m1 {f : M1} {a b : E} (ia : SE g N p.C p.XR a) (ib : SE g N p.C p.XR b) {A : Expr} (G : Gd g N p X sc) (h : chk g N sc (.m1 f a b) A = true) :
    PE X A (tE p (.m1 f a b)) ∧ PT X A (tT p (.m1 f a b)) ∧ (isBO A = true → PW X A (tT p (.m1 f a b))) := by
  cases A with
  | Call fn xs kws pos =>
    unfold chk at h
    split at h
    · rename_i heq
      cases heq
      rename_i B m ap z
      simp only [Bool.and_eq_true, Bool.or_eq_true, decide_eq_true_eq] at h
      obtain ⟨rfl, hrb, hl, hp, hm, hy, hz⟩ := h
      have i1 := (ia p.Wx X sc _ G hy).1
      have i2 := (ib p.Wx X sc z G hz).1
      have hu : X.A.units + 65 < cLine := by have := G.un; omega
      refine se_plain (pe_weak ?_ fun σ H Q q => q) (fun _ => rfl) rfl
      cases f
      case index =>
        refine pe_weak (pe_bm F.plainAttrs_list F.slot_list_index F.type_list_index (m1_index hu) i1 (pa_cons i2 pa_nil (star_pl hp [] _)) (rcv_base hrb _ _) (few1' hp) hl (star_pl hp [] _) (by rfl)) fun σ H Q ⟨F, S, e, rd, q⟩ => ⟨F, S, e, rd, ?_⟩
        simp only [ev] at q
        refine vp_bind q fun d1 e1 _ q v1 H1 F1 S1 S2 a1 => ?_
        split at q
        · rename_i ht
          obtain ⟨o1, xs1, rfl⟩ : ∃ o xs, d1 = .lst o xs := by cases d1 <;> first | (cases ht; done) | exact ⟨_, _, rfl⟩
          have q1 := Vp.pre (sb2 := smp b) rd.fd a1.t q (by simp only [smp, Bool.and_eq_true]; exact id)
          refine ⟨lst_ty' a1.rep, F1, S2, e1, .of_aft a1, vp_bind q1 fun d2 e2 _ q2 v2 H2 F2 T1 T2 a2 => ?_⟩
          have k := a1.keep a2.t hm
          cases ho : m1D .index (.lst o1 xs1) d2 with
          | none => rw [ho] at q2; exact q2.elim
          | some d =>
            rw [ho] at q2
            exact ⟨F2, v2, _, d2, S1, T1, d, rfl, k, a2.rep, ho, Out.of (p := p) (vb := true) (sb := smp b) a1.ch.fd a2.t q2⟩
        · exact q.elim
    · exact absurd h Bool.false_ne_true
  | _ => exact absurd h Bool.false_ne_true
end
end Vm
namespace Vm
open PySem PySem.Spec L2
variable [CN]

section
variable {g : Tab} {N : List Str} {p : Pm} {X : Cx} {sc : Scope}
/-! ### calls -/
theorem evA_len {C : Orc} : ∀ {es : List E} {e e' : Nv} {as : List Av}, evA C es e = .ok as e' → as.length = es.length
  | [], e, e', as, h => by cases h; rfl
  | a :: es, e, e', as, h => by
    have gen : ∀ {r : R D}, (r.bind fun x e1 => (evA C es e1).bind fun xs e2 => .ok (Av.d x :: xs) e2) = .ok as e' → as.length = (a :: es).length := fun {r} h => by
      cases r with
      | ok d e1 =>
        rw [R.bind_ok] at h
        cases hr : evA C es e1 with
        | ok ds' e2 =>
          rw [hr, R.bind_ok] at h
          cases h
          rw [List.length_cons, List.length_cons, evA_len hr]
        | ex x e2 => rw [hr] at h; cases h
        | bad => rw [hr] at h; cases h
      | ex x e1 => cases h
      | bad => cases h
    cases a <;> first | exact gen h | skip
    simp only [evA] at h
    split at h
    · cases hr : evA C es e with
      | ok ds' e2 =>
        rw [hr, R.bind_ok] at h
        cases h
        rw [List.length_cons, List.length_cons, evA_len hr]
      | ex x e2 => rw [hr] at h; cases h
      | bad => rw [hr] at h; cases h
    · cases h
theorem chkA_len : ∀ {es : List E} {xs : List Expr} {sc : Scope}, chkA g N sc es xs = true → es.length = xs.length
  | [], [], _, _ => rfl
  | [], _ :: _, _, h => by cases h
  | a :: es, [], _, h => by cases h
  | a :: es, x :: xs, sc, h => by
    simp only [chkA, Bool.and_eq_true] at h
    rw [List.length_cons, List.length_cons, chkA_len h.2.2.2]
theorem any_pl : ∀ {es : List E} {xs : List Expr} {sc : Scope}, chkA g N sc es xs = true → ∀ (pos : Pos) (env : Env), (backTo pos (starEach xs env)).any (·.1) = false
  | [], [], _, _, _, _ => rfl
  | [], _ :: _, _, h, _, _ => by cases h
  | a :: es, [], _, h, _, _ => by cases h
  | a :: es, x :: xs, sc, h, pos, env => by
    simp only [chkA, Bool.and_eq_true] at h
    rw [star_pl h.1]
    have := any_pl h.2.2.2 pos env
    simpa [backTo] using this
theorem passes (G : Gd g N p X sc) (σ : Sl) : PassesAt (L2.CX X.prog X.w) X σ (fun cls d H' => p.Wx cls d σ H') := passAt G.tk σ
/-- the arguments, then the callee's promise -/
theorem cal_rd {x : Str} {es : List E} {n : Nat} (hn : ∀ {as e e1}, evA p.C es e = .ok as e1 → as.length = n) : ∀ σ H Q, tE p (.cal x es) σ H Q → tCallS (spC p.C p.XR x n) (fun σ cls d H' => p.Wx cls d σ H') (tA p es) σ H Q := fun σ H Q ⟨F, S, e, rd, q⟩ => by
  refine ⟨F, S, e, rd, ?_⟩
  simp only [ev] at q
  cases hr : evA p.C es e with
  | ok as e1 =>
    rw [hr] at q
    intro vs H1 F1 S1 S2 b
    exact call_of rd.fd b.t b.rep b.s1 b.dj b.n1 (by rw [b.rep.len, hn hr]) q
  | ex x e1 => rw [hr] at q; exact q
  | bad => rw [hr] at q; exact q
theorem fn_some' {f : Str} {n : Nat} (h : (match g.fn' f with | some fn => decide (n = fn.ps.length) | none => false) = true) : ∃ fn, g.fn' f = some fn ∧ n = fn.ps.length := by
  cases e : g.fn' f with
  | none => rw [e] at h; cases h
  | some fn => rw [e] at h; exact ⟨fn, rfl, of_decide_eq_true h⟩
theorem fn_some {f : Str} {n : Nat} (h : (g.globs.contains f && match g.fn' f with | some fn => decide (n = fn.ps.length) | none => false) = true) : g.globs.contains f = true ∧ ∃ fn, g.fn' f = some fn ∧ n = fn.ps.length := by
  rw [Bool.and_eq_true] at h
  refine ⟨h.1, ?_⟩
  replace h := h.2
  cases e : g.fn' f with
  | none => rw [e] at h; cases h
  | some fn => rw [e] at h; exact ⟨fn, rfl, of_decide_eq_true h⟩
theorem snd_cal {f : Str} {es : List E} (ie : ∀ (xs : List Expr), chkA g N sc es xs = true → PA X xs (tA p es)) {A : Expr} (G : Gd g N p X sc) (h : chk g N sc (.cal f es) A = true) :
    PE X A (tE p (.cal f es)) ∧ PT X A (tT p (.cal f es)) ∧ (isBO A = true → PW X A (tT p (.cal f es))) := by
  cases A with
  | Call fn xs kws pos =>
    unfold chk at h
    split at h
    · rename_i heq
      cases heq
      rename_i x p0
      simp only [Bool.and_eq_true, decide_eq_true_eq] at h
      obtain ⟨rfl, h1, h2, h3⟩ := h
      obtain ⟨g1, g2, g3⟩ := okGl_ok G h1
      obtain ⟨hgl, fn, hfn, hn⟩ := fn_some (Bool.and_eq_true_iff.mpr h2)
      obtain ⟨a, fd, k, hm, hk, hb, F, hr, _⟩ := G.call hgl hfn
      have pa := ie xs h3
      have rd2 := cal_rd (p := p) (x := x) (es := es) (n := fn.ps.length) fun hr => by rw [evA_len hr, chkA_len h3, hn]
      refine se_plain (pe_weak ?_ rd2) (fun _ => rfl) rfl
      cases xs with
      | nil =>
        cases es with
        | nil =>
          refine ⟨fun pins s σ H Q I hq => ?_⟩
          refine wpAny_Call_Name_kw (ld_glob I g1 hm ?_ g2)
          obtain ⟨F0, S0, e0, rdy, q⟩ := hq
          refine PySem.W.callWith_K0 I.kIn hk (run_fnS (E := fun σ cls d H' => p.Wx cls d σ H') (us := []) F hr hb (passes G σ) I .nil ?_)
          exact q [] H F0 nos S0 ⟨rdy.refl.weak, rfl, sb_nos, dj_nos, fun _ z => z.elim⟩
        | cons a es => cases h3
      | cons y ys =>
        cases es with
        | nil => cases h3
        | cons a0 es0 =>
          have h4 := h3
          simp only [chkA, Bool.and_eq_true] at h4
          exact pe_callS F hr g1 hm hk hb (passes G) pa g2 (star_pl h4.1 ys X.env) (any_pl h4.2.2.2 pos X.env)
    · exact absurd h Bool.false_ne_true
  | _ => exact absurd h Bool.false_ne_true
/-! ### calls with keywords -/
def tK (p : Pm) (zs : List E) : TA := tA p zs
theorem pk_weak {A : List Keyword} {t t' : TA} (h : PK X A t) (w : ∀ σ H Q, t' σ H Q → t σ H Q) : PK X A t' := ⟨fun pos pins s σ H Q I q => h.run pos pins s σ H Q I (w σ H Q q)⟩
theorem chkK_ks : ∀ {zs : List E} {ks : List Str} {kws : List Keyword} {sc : Scope}, chkK g N sc zs ks kws = true → ∀ (pos : Pos) (env : Env),
    (backToKw pos (keywordEach kws env)).all (·.1.isSome) = true ∧ (backToKw pos (keywordEach kws env)).filterMap (·.1) = ks ∧ (backToKw pos (keywordEach kws env)).any (·.1.isNone) = false ∧ zs.length = kws.length ∧ ks.length = kws.length
  | [], ks, kws, sc, h, pos, env => by
    simp only [chkK, Bool.and_eq_true, List.isEmpty_iff] at h
    obtain ⟨rfl, rfl⟩ := h
    exact ⟨rfl, rfl, rfl, rfl, rfl⟩
  | z :: zs, [], kws, sc, h, pos, env => by cases h
  | z :: zs, k :: kr, [], sc, h, pos, env => by cases h
  | z :: zs, k :: kr, ⟨w, v, q⟩ :: wr, sc, h, pos, env => by
    simp only [chkK, Bool.and_eq_true, decide_eq_true_eq] at h
    obtain ⟨rfl, _, _, _, h⟩ := h
    obtain ⟨a, b, c, d, e⟩ := chkK_ks h pos env
    refine ⟨?_, ?_, ?_, by rw [List.length_cons, List.length_cons, d], by rw [List.length_cons, List.length_cons, e]⟩
    · simpa [backToKw, keywordEach] using a
    · simpa [backToKw, keywordEach] using b
    · simpa [backToKw, keywordEach] using c
theorem pk_a_nil : PK X [] (tA p []) := pk_weak pk_nil fun σ H Q ⟨F, S, e, rd, q⟩ => q [] H F nos S ⟨rd.refl.weak, rfl, sb_nos, dj_nos, fun _ z => z.elim⟩
theorem pk_a_val {a : E} {es : List E} {x : Expr} {w : Option Str} {kp : Pos} {xs : List Keyword} (hv : isV a = true) (hk : pk? a = none) (h1 : PE X x (tE p a)) (h2 : PK X xs (tA p es)) : PK X (⟨w, x, kp⟩ :: xs) (tA p (a :: es)) :=
  pk_weak (pk_cons h1 h2) (tA_val hv hk)
theorem pk_a_slot {i : Nat} {es : List E} {x : Expr} {w : Option Str} {kp : Pos} {xs : List Keyword} (h1 : PE X x (tVar i)) (h2 : PK X xs (tA p es)) : PK X (⟨w, x, kp⟩ :: xs) (tA p (.pk i :: es)) :=
  pk_weak (pk_cons h1 h2) tA_slot
theorem run_kw {f : Addr} {fd : FuncData} {k : Nat} {ps ks : List Str} {sp : Sp} {perm : List Nat} {E : Sl → XK} {pins : List (Addr × Obj)} {σ : Sl} {H : Hp} {s : Shared} {Q : VK} {us ws : List Value} {vs zs : List V} {n : Nat}
    (F : FnOk X.prog X.w X.K X.mg X.base (L2.CX X.prog X.w) k f fd ps sp) (hr : Room k X.A) (hb : ∀ (s : Shared) (us ws : List Value), X.K.In s.heap → us.length = n → ws.length = ks.length → BindsTo s fd ⟨us, ks.zip ws⟩ (ps.zip (permL perm (us ++ ws))))
    (hx : PassesAt (L2.CX X.prog X.w) X σ (E σ)) (I : L2.Inv X pins σ H s) (r : Vals vs us) (rz : Vals zs ws) (l1 : us.length = n) (l2 : ws.length = ks.length) (h : sp (permL perm (vs ++ zs)) H Q (E σ)) :
    wpAny (model X.prog X.w) X.A (call (.ref f) us (ks.zip ws)) (EP X pins σ Q) X.xe s := by
  have r2 : Vals (permL perm (vs ++ zs)) (permL perm (us ++ ws)) := by
    have ra := r.append rz
    unfold permL
    clear h hb
    induction perm with
    | nil => exact .nil
    | cons i t ih =>
      rw [List.filterMap_cons, List.filterMap_cons]
      cases e : (vs ++ zs)[i]? with
      | none => rw [ra.none_of e]; exact ih
      | some x =>
        obtain ⟨u, h1, h2⟩ := ra.get e
        rw [h1]
        exact .cons h2 ih
  refine wpAny_call (codeAny_mono (F.run X.A X.stack s H ⟨us, ks.zip ws⟩ (permL perm (us ++ ws)) (permL perm (vs ++ zs)) Q (E σ) hr I.env0 (hb s us ws I.kIn l1 l2) r2 h) fun r s' hq => ?_)
  cases r with
  | error e => exact hx pins H s e s' I hq
  | ok fl =>
    cases fl with
    | ret u => exact I.after hq
    | next => exact False.elim hq
    | brk => exact False.elim hq
    | cont => exact False.elim hq
theorem snd_cak {f : Str} {es : List E} {ks : List Str} {zs : List E} {perm : List Nat} (ie : ∀ (xs : List Expr), chkA g N sc es xs = true → PA X xs (tA p es)) (iz : ∀ (kws : List Keyword), chkK g N sc zs ks kws = true → PK X kws (tA p zs)) {A : Expr} (G : Gd g N p X sc)
    (h : chk g N sc (.cak f es ks zs perm) A = true) : PE X A (tE p (.cak f es ks zs perm)) ∧ PT X A (tT p (.cak f es ks zs perm)) ∧ (isBO A = true → PW X A (tT p (.cak f es ks zs perm))) := by
  cases A with
  | Call fn xs kws pos =>
    unfold chk at h
    split at h
    · rename_i heq
      cases heq
      rename_i x p0
      simp only [Bool.and_eq_true, decide_eq_true_eq, List.any_eq_true] at h
      obtain ⟨rfl, h1, h2, h3, h4, h5, ⟨q0, hq0, eq0⟩⟩ := h
      subst eq0
      obtain ⟨g1, g2, g3⟩ := okGl_ok G h1
      obtain ⟨hgl, fn, hfn, hn⟩ := fn_some (Bool.and_eq_true_iff.mpr h2)
      obtain ⟨a, fd, k, hm, hk, hb, F, hr, hkw⟩ := G.call hgl hfn
      have hkb := hkw _ _ _ hq0
      have pa := ie xs h3
      have pkk := iz kws h4
      obtain ⟨k1, k2, k3, k4, k5⟩ := chkK_ks h4 pos X.env
      -- the readings
      have rd : ∀ σ H Q, tE p (.cak x es ks zs perm) σ H Q → tA p es σ H fun vs H1 => tA p zs σ H1 fun us H2 => vs.length = es.length ∧ us.length = ks.length ∧ spC p.C p.XR x fn.ps.length (permL perm (vs ++ us)) H2 Q (fun cls d H' => p.Wx cls d σ H') := fun σ H Q ⟨F, S, e, rd, q⟩ => by
        refine ⟨F, S, e, rd, ?_⟩
        simp only [ev] at q
        cases hr : evA p.C es e with
        | ok as e1 =>
          rw [hr, R.bind_ok] at q
          intro vs H1 F1 S1 S2 b
          refine ⟨F1, S2, e1, .of_aftT b.t, ?_⟩
          cases hz : evA p.C zs e1 with
          | ok bs e2 =>
            rw [hz, R.bind_ok] at q
            intro us H2 F2 T1 T2 c
            have l1 : vs.length = es.length := by rw [b.rep.len, evA_len hr]
            have l2 : us.length = ks.length := by rw [c.rep.len, evA_len hz, k4, k5]
            refine ⟨l1, l2, ?_⟩
            have kk := (b.t.trans rd.fd c.t).weak
            have keep : ARs H2 F2 as vs σ S1 := b.rep.step (fun x o hx hz => c.t.ch.keep x o hx fun w => hz.elim (fun hz => hz (b.t.s2 x w)) fun hz => b.dj x hz w) c.t.ch.new
            have d12 : Dj S1 T1 := fun x z w => (c.n1 x w).elim (fun w => b.dj x z w) fun w => b.t.ch.fd x (b.s1 x z) w
            have both := keep.app c.rep d12
            cases hp : permA perm (as ++ bs) with
            | none => rw [hp] at q; exact q.elim
            | some cs =>
              rw [hp] at q
              obtain ⟨r1, r2⟩ := both.perm hp
              refine call_of rd.fd kk r1 (fun x z => z.elim (fun z => c.t.ch.old x (b.s1 x z) fun w => b.dj x z w) (c.s1 x)) (fun x z w => z.elim (fun z => (c.t.n2 x w).elim (fun w => b.dj x z w) fun w => b.t.ch.fd x (b.s1 x z) w) fun z => c.dj x z w) (fun x z => z.elim (b.n1 x) ((b.t.n2.trans b.t.ch c.n1) x)) ?_ q
              rw [r1.len, r2, List.length_append, evA_len hr, evA_len hz, k4, chkA_len h3]
              exact hn
          | ex x e2 => rw [hz] at q; exact Vx.pre rd.fd b.t q
          | bad => rw [hz] at q; exact q
        | ex x e1 => rw [hr] at q; exact q
        | bad => rw [hr] at q; exact q
      refine se_plain ⟨fun pins s σ H Q I hq => ?_⟩ (fun _ => rfl) rfl
      refine wpAny_Call_Name_kw (ld_glob I g1 hm ?_ g2)
      have hq' := rd σ H Q hq
      cases xs with
      | nil =>
        cases es with
        | nil =>
          refine PySem.W.callWith_KW0 (h₀ := X.base) I.ok.mod.kin hk k1 ?_ (by rw [k3]; rfl)
          obtain ⟨F0, S0, e0, rdy, q⟩ := hq'
          have q0 := q [] H F0 nos S0 ⟨rdy.refl.weak, rfl, sb_nos, dj_nos, fun _ z => z.elim⟩
          refine thn (pkk.run pos pins s σ H _ I q0) fun ws s2 ⟨us, H2, I2, rz, l1, l2, q2⟩ => ⟨I2.kIn, ?_⟩
          rw [k2]
          exact run_kw (E := fun σ cls d H' => p.Wx cls d σ H') (us := []) F hr hkb (passes G σ) I2 .nil rz rfl (by rw [← rz.length]; exact l2) q2
        | cons a es => cases h3
      | cons y ys =>
        cases es with
        | nil => cases h3
        | cons a0 es0 =>
          have h6 := h3
          simp only [chkA, Bool.and_eq_true] at h6
          refine PySem.W.callWith_KW (h₀ := X.base) I.ok.mod.kin hk k1 (thn (pa.run pos pins s σ H _ I hq') fun us1 s1 ⟨vs, H1, I1, r1, q1⟩ => ?_) (by rw [any_pl h3, k3]; rfl) (star_pl h6.1 ys X.env)
          refine thn (pkk.run pos pins s1 σ H1 _ I1 q1) fun ws s2 ⟨us, H2, I2, rz, l1, l2, q2⟩ => ⟨I2.kIn, ?_⟩
          rw [k2]
          exact run_kw (E := fun σ cls d H' => p.Wx cls d σ H') (us := us1) F hr hkb (passes G σ) I2 r1 rz (by rw [← r1.length]; exact l1) (by rw [← rz.length]; exact l2) q2
    · exact absurd h Bool.false_ne_true
  | _ => exact absurd h Bool.false_ne_true
/-! ### isinstance -/
def tagOf : D → String
  | .non => "NoneType" | .bl _ => "bool" | .int _ => "int" | .str _ => "str" | .tup _ => "tuple" | .lst _ _ => "list" | .dct _ _ _ => "dict" | .ins _ _ _ _ => "dict"
def tyS : Ty → String
  | .bool => "bool" | .int => "int" | .str => "str" | .tuple => "tuple" | .list => "list"
theorem kit_is (t : Ty) (d : D) : kitB (tagOf d) (tyS t) = some (isTy t d) := by
  cases t <;> cases d <;> first | rfl | decide +kernel
theorem ty_of {K : PySem.W.Frag} {H : Hp} {F : AS} {d : D} {v : V} {S : AS} (r : Rep H F d v S) (hb : bTy d = true) : TyX K H v (.type (tagOf d)) := by
  cases d with
  | non => cases r; exact .base .non
  | bl b => cases r; exact .base (.bl b)
  | int i => cases r; exact .base (.int i)
  | str s => obtain ⟨rfl, _⟩ := r; exact .base (.str s)
  | tup ds =>
    obtain ⟨a, vs, rfl, z, l, q⟩ := r.tup_inv
    rcases q with q | ⟨o, q⟩
    · exact .base (.tup q)
    · exact .fTuple q
  | lst o ds =>
    obtain ⟨a, vs, rfl, z, l, q⟩ := r.lst_inv
    rcases q with q | ⟨o, q⟩
    · exact .base (.lst q)
    · exact .base (.frz q)
  | dct o ks ds => cases hb
  | ins o c fs ds => cases hb
theorem kit_any {K : PySem.W.Frag} (d : D) : ∀ ts : List Ty, PySem.W.kitAny K (.type (tagOf d)) (ts.map fun t => Value.type (tyS t)) = some (ts.any fun t => isTy t d)
  | [] => rfl
  | t :: ts => by
    rw [List.map_cons, List.any_cons]
    refine kitAny_cons (kit_ty (kit_is t d)) (fun h => ?_) fun h => ?_
    · rw [kit_any d ts, h]; rfl
    · rw [h]; rfl
theorem pe_tyname (G : Gd g N p X sc) {t : Ty} {A : Expr} (h : tyA sc g.free t A = true) : PE X A (tC (.ty (tyS t))) ∧ pl A = true := by
  cases A with
  | Name x pos =>
    simp only [tyA, Bool.and_eq_true, decide_eq_true_eq] at h
    obtain ⟨rfl, h1, h2⟩ := h
    obtain ⟨g1, g2, g3, g4⟩ := free_ok G h1 h2
    refine ⟨?_, rfl⟩
    cases t
    · exact pe_bltn g1 g2 PyProof.Rows.boot_bool rfl g4 g3
    · exact pe_bltn g1 g2 PyProof.Rows.boot_int rfl g4 g3
    · exact pe_bltn g1 g2 PyProof.Rows.boot_str rfl g4 g3
    · exact pe_bltn g1 g2 PyProof.Rows.boot_tuple rfl g4 g3
    · exact pe_bltn g1 g2 PyProof.Rows.boot_list rfl g4 g3
  | _ => exact absurd h Bool.false_ne_true
def tTys (ts : List Ty) : TA := fun _ H Q => Q (ts.map fun t => V.ty (tyS t)) H
theorem pa_tys (G : Gd g N p X sc) : ∀ {ts : List Ty} {es : List Expr}, tysA sc g.free ts es = true → PA X es (tTys ts)
  | [], [], _ => pa_weak pa_nil fun _ _ _ q => q
  | [], _ :: _, h => by cases h
  | _ :: _, [], h => by cases h
  | t :: ts, e :: es, h => by
    simp only [tysA, Bool.and_eq_true] at h
    obtain ⟨h1, h2⟩ := pe_tyname G h.1
    exact pa_weak (pa_cons h1 (pa_tys G h.2) (star_pl h2 es X.env)) fun _ _ _ q => q
theorem cls_tys : ∀ ts : List Ty, Paired ClsV (ts.map fun t => V.ty (tyS t)) (ts.map fun t => Value.type (tyS t))
  | [] => .nil
  | t :: ts => .cons (.ty _) (cls_tys ts)
theorem tys_len {sc : Scope} {fr : List Str} : ∀ {ts : List Ty} {es : List Expr}, tysA sc fr ts es = true → ts.length = es.length
  | [], [], _ => rfl
  | [], _ :: _, h => by cases h
  | _ :: _, [], h => by cases h
  | t :: ts, e :: es, h => by
    simp only [tysA, Bool.and_eq_true] at h
    rw [List.length_cons, List.length_cons, tys_len h.2]
theorem snd_isi {tp : Bool} {ts : List Ty} {a : E} (ia : SE g N p.C p.XR a) {A : Expr} (G : Gd g N p X sc) (h : chk g N sc (.isi tp ts a) A = true) :
    PE X A (tE p (.isi tp ts a)) ∧ PT X A (tT p (.isi tp ts a)) ∧ (isBO A = true → PW X A (tT p (.isi tp ts a))) := by
  cases A with
  | Call fn xs kws pos =>
    unfold chk at h
    split at h
    · rename_i heq
      cases heq
      rename_i x p0 y z
      simp only [Bool.and_eq_true, decide_eq_true_eq] at h
      obtain ⟨rfl, h1, h2, hp, hp2, hy, hz⟩ := h
      obtain ⟨g1, g2, g3, g4⟩ := free_ok G h1 h2
      have i1 := (ia p.Wx X sc y G hy).1
      -- one class
      have one : ∀ t, ts = [t] → tyA sc g.free t z = true → PE X (.Call (.Name "isinstance" p0) [y, z] [] pos) (tE p (.isi tp ts a)) := fun t et ht => by
        subst et
        obtain ⟨j1, j2⟩ := pe_tyname G ht
        refine pe_weak (pe_callB call_isi g1 g2 PyProof.Rows.boot_isinstance (pa_cons i1 (pa_cons j1 pa_nil (star_pl hp2 [] X.env)) (star_pl hp [z] X.env)) g4 g3 (star_pl hp [z] X.env) (hpl_one hp2 _ _)) fun σ H Q ⟨F, S, e, rd, q⟩ => ⟨F, S, e, rd, ?_⟩
        simp only [ev] at q
        refine vp_bind q fun d e' _ q v H' F' S1 S2 k => ?_
        by_cases hb : bTy d = true
        case neg => rw [if_neg hb] at q; exact q.elim
        rw [if_pos hb] at q
        exact ⟨v, _, .type (tagOf d), .type (tyS t), isTy t d, rfl, .ty _, ty_of k.rep hb, kit_ty (kit_is t d), by simpa using q _ H' F' nos S2 (k.t.val rfl)⟩
      -- a tuple of them
      have many : ∀ zs kk ps, z = .Tuple zs kk ps → zs.length ≤ 1000 → tysA sc g.free ts zs = true → PE X (.Call (.Name "isinstance" p0) [y, z] [] pos) (tE p (.isi tp ts a)) := fun zs kk ps ez hl ht => by
        subst ez
        have jt := pe_tup (x1 := kk) (pos := ps) (pa_tys G ht)
        refine pe_weak (pe_callB call_isiT g1 g2 PyProof.Rows.boot_isinstance (pa_cons i1 (pa_cons jt pa_nil (star_pl hp2 [] X.env)) (star_pl hp [_] X.env)) g4 g3 (star_pl hp [_] X.env) (hpl_one hp2 _ _)) fun σ H Q ⟨F, S, e, rd, q⟩ => ⟨F, S, e, rd, ?_⟩
        simp only [ev] at q
        refine vp_bind q fun d e' _ q v H' F' S1 S2 k => ?_
        by_cases hb : bTy d = true
        case neg => rw [if_neg hb] at q; exact q.elim
        rw [if_pos hb] at q
        have hlen : (ts.map fun t => V.ty (tyS t)).length ≤ sizeLine := by rw [List.length_map, tys_len ht]; exact lim_ok (by omega)
        refine ⟨hlen, fun l hq => ?_⟩
        have kv : Rep (upd H' l (.tup (ts.map fun t => V.ty (tyS t)))) F' d v S1 := Rep.step d v S1 k.rep (fun x o hx _ => upd_keep hq hx.1) fun x hx => .inl hx
        -- the tuple of classes is no datum; it is left behind
        have kk2 : AftT (smp a) σ H F S (upd H' l (.tup (ts.map fun t => V.ty (tyS t)))) F' e' S2 := by
          have nf : ∀ x, F' x → x ≠ l := fun x hx hz => k.ch.fd x hx (by rw [hz]; exact hq)
          refine ⟨⟨fun x o hx ns => upd_keep hq (k.ch.keep x o hx ns), k.ch.new, k.ch.old, fun x hx => ?_, k.ch.fd.newK hq⟩, k.er.step (fun x o hx _ => upd_keep hq hx.1) fun x hx => .inl hx, k.s2, k.n2, fun hs x o hx => upd_keep hq (k.ext hs x o hx)⟩
          · by_cases hxl : x = l
            · rw [hxl, upd_same]; simp
            · rw [upd_ne hxl]; exact k.ch.dom x hx
        exact ⟨v, l, _, .type (tagOf d), _, _, rfl, upd_same, cls_tys ts, ty_of kv hb, kit_any d ts, q _ _ F' nos S2 (kk2.val rfl)⟩
      refine se_plain ?_ (fun _ => rfl) rfl
      split at hz
      · rename_i t
        rw [Bool.and_eq_true] at hz
        exact one t rfl hz.2
      · rw [Bool.and_eq_true] at hz
        obtain ⟨_, hz⟩ := hz
        split at hz
        · rw [Bool.and_eq_true, decide_eq_true_eq] at hz
          exact many _ _ _ rfl hz.1 hz.2
        · cases hz
    · exact absurd h Bool.false_ne_true
  | _ => exact absurd h Bool.false_ne_true
end
end Vm
namespace Vm
open PySem PySem.Spec L2
variable [CN]
theorem Rep.ins_inv {H : Hp} {F : AS} {o : Bool} {c : Str} {fs : List Str} {ds : List D} {v : V} {S : AS} (h : Rep H F (.ins o c fs ds) v S) : ∃ a us dx, v = .ref a ∧ fs.length = us.length ∧ RepL H F ds us S ∧ H a = some (.ins (CN.cn c) dx (fs.zip us)) := by
  obtain ⟨a, us, T, dx, rfl, z, l, r, q⟩ := h
  refine ⟨a, us, dx, rfl, z, ?_, r⟩
  rcases q with ⟨_, nt, _⟩ | ⟨_, _, _, sb⟩
  · exact l.mono _ _ _ _ fun x t => (nt x t).elim
  · exact l.mono _ _ _ _ sb
theorem lookF_rep {H : Hp} {F T : AS} {f : Str} {d : D} : ∀ {fs : List Str} {vs : List D} {us : List V}, RepL H F vs us T → lookF f fs vs = some d → ∃ u, (fs.zip us).lookup f = some u ∧ Rep H F d u T
  | [], vs, us, r, h => by cases h
  | g :: fs, [], us, r, h => by cases h
  | g :: fs, v :: vs, us, r, h => by
    obtain ⟨u, t, S1, S2, rfl, h1, h2, dj, s1, s2⟩ := r
    simp only [lookF] at h
    rw [List.zip_cons_cons, List.lookup_cons]
    by_cases e : f = g
    · rw [if_pos e] at h
      cases h
      rw [beq_iff_eq.mpr e]
      exact ⟨u, rfl, h1.mono _ _ _ _ s1⟩
    · rw [if_neg e] at h
      rw [show (f == g) = false from beq_eq_false_iff_ne.mpr e]
      exact lookF_rep (h2.mono _ _ _ _ s2) h
theorem lookF_none {m : Str} : ∀ {fs : List Str} {us : List V}, fs.contains m = false → (fs.zip us).lookup m = none
  | [], us, _ => rfl
  | g :: fs, [], _ => rfl
  | g :: fs, u :: us, h => by
    rw [List.contains_cons, Bool.or_eq_false_iff] at h
    rw [List.zip_cons_cons, List.lookup_cons, h.1]
    exact lookF_none h.2
section
variable {g : Tab} {N : List Str} {p : Pm} {X : Cx} {sc : Scope}
theorem snd_fld {cs : List Str} {f : Str} {a : E} (ia : SE g N p.C p.XR a) {A : Expr} (G : Gd g N p X sc) (h : chk g N sc (.fld cs f a) A = true) :
    PE X A (tE p (.fld cs f a)) ∧ PT X A (tT p (.fld cs f a)) ∧ (isBO A = true → PW X A (tT p (.fld cs f a))) := by
  cases A with
  | Attribute B n pos =>
    simp only [chk, Bool.and_eq_true, decide_eq_true_eq, List.all_eq_true, List.any_eq_true] at h
    obtain ⟨rfl, h1, h2, h3⟩ := h
    have i1 := (ia p.Wx X sc B G h3).1
    refine se_plain (pe_weak (pe_fld i1 (rcv_base h1 n X.env)) fun σ H Q ⟨F, S, e, rd, q⟩ => ⟨F, S, e, rd, ?_⟩) (fun _ => rfl) rfl
    simp only [ev] at q
    refine vp_bind q fun d e' _ q v H' F' S1 S2 k => ?_
    cases hf : fldD cs n d with
    | none => rw [hf] at q; exact q.elim
    | some r =>
      rw [hf] at q
      cases d with
      | ins o c fs vs => ?_
      | _ => cases hf
      simp only [fldD] at hf
      split at hf
      · rename_i hc
        obtain ⟨d', h4, h5⟩ := Option.bind_eq_some_iff.mp hf
        obtain ⟨b, us, dx, rfl, hl, rl, hi⟩ := k.rep.ins_inv
        obtain ⟨u, h6, h7⟩ := lookF_rep rl h4
        obtain ⟨rfl, r0⟩ := only_ok h5 h7
        obtain ⟨z, hz, rfl⟩ := h2 c (List.contains_iff_mem.mp hc)
        obtain ⟨g1, g2⟩ := G.fld _ _ hz
        exact ⟨b, _, dx, _, u, rfl, hi, g1, g2, h6, (Out.of (p := p) (vb := true) (sb := smp a) rd.fd k.t q).fz r0⟩
      · cases hf
  | _ => exact absurd h Bool.false_ne_true
/-! ### methods -/
theorem meth_eval {o : Expr} {m : Str} {apos pos : Pos} {xs : List Expr} {env : Env} (h1 : rcvE o = true) (hl : (apos.endLine == pos.line) = true) (hf : methodCallForm xs.length (backTo pos (starEach xs env)) [] = true) :
    eval (.Call (.Attribute o m apos) xs [] pos) env = (do
      let ov ← eval o env
      standAt apos.atName
      let (f, first) ← holding [ov] (getMethod ov m (do return (← importBound o env).getD true))
      callWith pos f first (backTo pos (starEach xs env)) (backToKw pos (keywordEach [] env))) := by
  have e : eval (.Call (.Attribute o m apos) xs [] pos) env = (do
      let ov ← attributeBase o m env (eval o env)
      standAt apos.atName
      methodCall o m apos pos env ov (xs.length + ([] : List Keyword).length) (backTo pos (starEach xs env)) (backToKw pos (keywordEach [] env))) := rfl
  rw [e, rcv_base h1]
  have e2 : ∀ ov, methodCall o m apos pos env ov (xs.length + ([] : List Keyword).length) (backTo pos (starEach xs env)) (backToKw pos (keywordEach [] env)) = (do
      let (f, first) ← holding [ov] (getMethod ov m (do return (← importBound o env).getD true))
      callWith pos f first (backTo pos (starEach xs env)) (backToKw pos (keywordEach [] env))) := fun ov => by
    unfold methodCall
    have hf' : methodCallForm (xs.length + ([] : List Keyword).length) (backTo pos (starEach xs env)) (backToKw pos (keywordEach [] env)) = true := hf
    rw [hf']
    unfold calleeOf methodCallPos
    rw [hl]
    rfl
  simp only [e2]
theorem form_ok {es : List E} {xs : List Expr} (h : chkA g N sc es xs = true) (hl : xs.length < 25) (pos : Pos) (env : Env) : methodCallForm xs.length (backTo pos (starEach xs env)) [] = true := by
  have h1 := any_pl h pos env
  unfold methodCallForm
  simp only [Bool.and_eq_true, List.all_eq_true, decide_eq_true_eq, Bool.not_eq_true']
  refine ⟨⟨fun x hx => ?_, fun x hx => by cases hx⟩, by simp; omega⟩
  cases hb : x.1 with
  | false => rfl
  | true =>
    have : (backTo pos (starEach xs env)).any (·.1) = true := List.any_eq_true.mpr ⟨x, hx, hb⟩
    rw [h1] at this
    cases this
def tMet (C : Addr) (m : Str) (sp : Sp) (E : Sl → XK) (ta : TE) (t : TA) : TE := fun σ H Q => ta σ H fun x H1 => ∃ a dx fs, x = .ref a ∧ H1 a = some (.ins C dx fs) ∧ fs.lookup m = none ∧
  t σ H1 fun vs H2 => sp (x :: vs) H2 Q (E σ)
theorem pe_metS {C f : Addr} {fd : FuncData} {ps : List Str} {k : Nat} {sp : Sp} {EX : Sl → XK} {o : Expr} {m : Str} {apos pos : Pos} {xs : List Expr} {es : List E} {ta : TE} (h1 : rcvE o = true) (hl : (apos.endLine == pos.line) = true) (hn : xs.length < 25) (hca : chkA g N sc es xs = true)
    (he : PE X o ta) (c : Cls X.K C) (hm : Meth X.K C m f) (F : FnOk X.prog X.w X.K X.mg X.base (L2.CX X.prog X.w) k f fd ps sp) (hr : Room k X.A) (hb : Binds X.K fd ps []) (hx : ∀ σ, PassesAt (L2.CX X.prog X.w) X σ (EX σ)) (ha : PA X xs (tA p es)) :
    PE X (.Call (.Attribute o m apos) xs [] pos) (tMet C m sp EX ta (tA p es)) := by
  refine ⟨fun pins s σ H Q I h => ?_⟩
  refine PySem.W.methodCall_KW (thn (he.run pins s σ H _ I h) fun u s1 ⟨x, H1, I1, rx, a, dx, fs, ex, ea, l, q⟩ => ?_) (meth_eval h1 hl (form_ok hca hn pos X.env))
  subst ex
  obtain rfl : u = Value.ref a := rx
  refine getmeth_ok I1 ea c hm l ?_
  cases xs with
  | nil =>
    cases es with
    | cons a es => cases hca
    | nil =>
      obtain ⟨F0, S0, e0, rdy, q⟩ := q
      have q0 := q [] H1 F0 nos S0 ⟨rdy.refl.weak, rfl, sb_nos, dj_nos, fun _ z => z.elim⟩
      exact PySem.W.callWith_K0 (first := [.ref a]) I1.kIn hm.kp (run_fnS (E := EX) (us := [.ref a]) (vs := [.ref a]) F hr hb (hx σ) I1 (.cons rfl .nil) q0)
  | cons y ys =>
    cases es with
    | nil => cases hca
    | cons a0 es0 =>
      have h4 := hca
      simp only [chkA, Bool.and_eq_true] at h4
      refine PySem.W.callWith_K (first := [.ref a]) (h₀ := X.base) I.ok.mod.kin hm.kp (thn (ha.run pos pins s1 σ H1 _ I1 q) fun us s2 ⟨vs, H2, I2, r, q2⟩ => ⟨I2.kIn, ?_⟩) (star_pl h4.1 ys X.env) (any_pl h4.2.2.2 pos X.env)
      exact run_fnS (E := EX) (us := .ref a :: us) (vs := .ref a :: vs) F hr hb (hx σ) I2 (.cons rfl r) q2
theorem recv_some {ds : List (Str × Str)} {m key : Str} {x : D} (h : recv ds m x = some key) : ∃ o c fs vs, x = .ins o c fs vs ∧ fs.contains m = false ∧ (c, key) ∈ ds := by
  cases x with
  | ins o c fs vs =>
    simp only [recv] at h
    split at h
    · cases h
    · rename_i hc
      refine ⟨o, c, fs, vs, rfl, Bool.not_eq_true _ ▸ hc, ?_⟩
      clear hc
      induction ds with
      | nil => cases h
      | cons q ds ih =>
        obtain ⟨c', k'⟩ := q
        rw [List.lookup_cons] at h
        split at h
        · rename_i hb
          cases h
          rw [beq_iff_eq.mp hb]
          exact List.mem_cons_self ..
        · exact List.mem_cons_of_mem _ (ih h)
  | _ => cases h
theorem met_val {ds : List (Str × Str)} {m : Str} {a : E} {es : List E} {e : Nv} (hk : pk? a = none) : ev p.C (.met ds m a es) e = (ev p.C a e).bind fun x e1 => metA p.C ds m x (.d x) (evA p.C es e1) := by
  cases a <;> first | rfl | (cases hk; done)
theorem metA_ok {ds : List (Str × Str)} {m : Str} {x : D} {a : Av} {r : R (List Av)} {σ : Sl} {H : Hp} {F S : AS} {Q : VK} {vb sb : Bool} (h : Vp p vb sb σ H F S (metA p.C ds m x a r) Q) :
    ∃ o c fs vs key, x = .ins o c fs vs ∧ fs.contains m = false ∧ (c, key) ∈ ds ∧ Vp p vb sb σ H F S (r.bind fun as e2 => callA p.C key (a :: as) e2) Q := by
  unfold metA at h
  split at h
  · rename_i key hk
    obtain ⟨o, c, fs, vs, h1, h2, h3⟩ := recv_some hk
    exact ⟨o, c, fs, vs, key, h1, h2, h3, h⟩
  · exact h.elim
theorem met_rd {ds : List (Str × Str)} {m : Str} {a : E} {es : List E} {n : Nat} (hv : (pk? a).isSome = true ∨ isV a = true) (h0 : ds ≠ []) (hn : ∀ {as e e1}, evA p.C es e = .ok as e1 → as.length = n) : ∀ σ H Q, tE p (.met ds m a es) σ H Q →
    ∃ c key, (c, key) ∈ ds ∧ tMet (CN.cn c) m (spC p.C p.XR key (n + 1)) (fun σ cls d H' => p.Wx cls d σ H') (match pk? a with | some i => tVar i | none => tE p a) (tA p es) σ H Q := fun σ H Q ⟨F, S, e, rd, q⟩ => by
  cases hk : pk? a with
  | some i =>
    have ha : a = .pk i := by
      cases a <;> first | (cases hk; done) | (injection hk with hk; rw [hk])
    subst ha
    have q : Vp p true false σ H F S (match e[i]? with
      | some (some x) => metA p.C ds m x (.sl i) (evA p.C es e)
      | _ => .bad) Q := q
    split at q
    · rename_i x he
      obtain ⟨o, c, fs, vs, key, rfl, h2, h3, q⟩ := metA_ok q
      obtain ⟨v, hv, r⟩ := rd.er.get he
      obtain ⟨b, us, dx, rfl, hl, rl, hi⟩ := r.ins_inv
      refine ⟨c, key, h3, _, hv, b, dx, _, rfl, hi, lookF_none h2, F, S, e, rd, ?_⟩
      cases hr : evA p.C es e with
      | ok as e2 =>
        rw [hr] at q
        intro ws H2 F2 T1 T2 k2
        exact call_of (as := .sl i :: as) (vs := V.ref b :: ws) rd.fd k2.t ⟨_, _, rfl, hv, k2.rep⟩ k2.s1 k2.dj k2.n1 (by rw [List.length_cons, k2.rep.len, hn hr]) q
      | ex x e2 => rw [hr] at q; exact q
      | bad => rw [hr] at q; exact q
    · exact q.elim
  | none =>
    have hv : isV a = true := by
      rcases hv with hv | hv
      · rw [hk] at hv; cases hv
      · exact hv
    have q : Vp p true false σ H F S ((ev p.C a e).bind fun x e1 => metA p.C ds m x (.d x) (evA p.C es e1)) Q := by
      rw [← met_val hk]; exact q
    cases ha : ev p.C a e with
    | ok d e1 =>
      rw [ha, R.bind_ok] at q
      obtain ⟨o, c, fs, vs, key, rfl, h2, h3, q⟩ := metA_ok q
      refine ⟨c, key, h3, F, S, e, rd, ?_⟩
      rw [ha]
      intro v H1 F1 S1 S2 k1
      obtain ⟨b, us, dx, rfl, hl, rl, hi⟩ := k1.rep.ins_inv
      refine ⟨b, dx, _, rfl, hi, lookF_none h2, F1, S2, e1, .of_aft k1, ?_⟩
      cases hr : evA p.C es e1 with
      | ok as e2 =>
        rw [hr] at q
        intro ws H2 F2 T1 T2 k2
        have kk := k1.t.weak.trans rd.fd k2.t
        have r1 := k1.keep k2.t (.inl hv)
        obtain ⟨b1, b2, b3⟩ := k1.keepS k2.t hv
        have d12 : Dj S1 T1 := fun x z w => (k2.n1 x w).elim (fun w => k1.dj hv x z w) fun w => k1.ch.fd x (k1.s1 hv x z) w
        exact call_of (as := .d _ :: as) (vs := V.ref b :: ws) (T1 := fun x => S1 x ∨ T1 x) rd.fd kk.weak ⟨_, _, S1, T1, rfl, r1, k2.rep, d12, fun _ z => .inl z, fun _ z => .inr z⟩ (fun x z => z.elim (b1 x) (k2.s1 x)) (fun x z w => z.elim (fun z => b2 x z w) fun z => k2.dj x z w) (fun x z => z.elim (b3 x) ((k1.n2.trans k1.ch k2.n1) x)) (by rw [List.length_cons, k2.rep.len, hn hr]) q
      | ex x e2 => rw [hr] at q; exact Vx.pre rd.fd k1.t q
      | bad => rw [hr] at q; exact q
    | ex x e1 =>
      rw [ha] at q
      cases ds with
      | nil => exact absurd rfl h0
      | cons q0 ds => exact ⟨q0.1, q0.2, List.mem_cons_self .., F, S, e, rd, by rw [ha]; exact q⟩
    | bad => rw [ha] at q; exact q.elim
theorem snd_met {ds : List (Str × Str)} {m : Str} {a : E} {es : List E} (ia : SE g N p.C p.XR a) (ie : ∀ (xs : List Expr), chkA g N sc es xs = true → PA X xs (tA p es)) {A : Expr} (G : Gd g N p X sc) (h : chk g N sc (.met ds m a es) A = true) :
    PE X A (tE p (.met ds m a es)) ∧ PT X A (tT p (.met ds m a es)) ∧ (isBO A = true → PW X A (tT p (.met ds m a es))) := by
  cases A with
  | Call fn xs kws pos =>
    unfold chk at h
    split at h
    · rename_i heq
      cases heq
      rename_i B n0 ap
      simp only [Bool.and_eq_true, decide_eq_true_eq] at h
      obtain ⟨rfl, ⟨hl, hn⟩, h1, hpv, ⟨h0, hds⟩, ha, hes⟩ := h
      have h0 : ds ≠ [] := fun z => by subst z; exact absurd h0 (by decide)
      have i1 := (ia p.Wx X sc B G ha).1
      have pa := ie xs hes
      have pe0 : PE X B (match pk? a with | some i => tVar i | none => tE p a) := by
        cases hk : pk? a with
        | none => exact i1
        | some i =>
          have ha2 : a = .pk i := by
            cases a <;> first | (cases hk; done) | (injection hk with hk; rw [hk])
          subst ha2
          cases B with
          | Name y py => exact pe_nm G (by simpa only [chk] using ha)
          | _ => exact absurd ha Bool.false_ne_true
      have rd := met_rd (p := p) (m := n0) (a := a) (es := es) (n := xs.length) (by simpa only [Bool.or_eq_true] using hpv) h0 fun hr => by rw [evA_len hr, chkA_len hes]
      refine se_plain ⟨fun pins s σ H Q I hq => ?_⟩ (fun _ => rfl) rfl
      obtain ⟨c, key, hm, q⟩ := rd σ H Q hq
      have hd := List.all_eq_true.mp hds _ hm
      rw [Bool.and_eq_true, List.any_eq_true] at hd
      obtain ⟨⟨r0, hr0, er0⟩, hf⟩ := hd
      have er0 : r0 = (c, n0, key) := of_decide_eq_true er0
      subst er0
      obtain ⟨fn, hfn, hnl⟩ := fn_some' hf
      obtain ⟨g1, g2⟩ := G.meth _ _ _ hr0
      obtain ⟨fd, k, hb, F, hr, _⟩ := G.fnk _ _ hfn
      rw [hnl] at q
      exact (pe_metS h1 hl hn hes pe0 g1 g2 F (hr.mono (by omega)) hb (passes G) pa).run pins s σ H Q I q
    · exact absurd h Bool.false_ne_true
  | _ => exact absurd h Bool.false_ne_true
/-! ### making -/
/-- two new cells: the instance and its dict -/
theorem ch_new {S F : AS} {H : Hp} {x dx : Addr} {o o2 : HO} (hx : H x = none) (hd : H dx = none) (ne : dx ≠ x) (fd : FD H F) : Ch S H F (upd (upd H dx o2) x o) (fun a => F a ∨ a = x) ∧ (∀ b u, H b = some u → upd (upd H dx o2) x o b = some u) := by
  have kp : ∀ b u, H b = some u → upd (upd H dx o2) x o b = some u := fun b u e => by
    rw [upd_ne (fun z => by rw [z, hx] at e; cases e), upd_ne (fun z => by rw [z, hd] at e; cases e)]; exact e
  have kn : ∀ b, H b ≠ none → upd (upd H dx o2) x o b ≠ none := fun b h z => by
    cases q : H b with
    | none => exact h q
    | some u => rw [kp b u q] at z; cases z
  refine ⟨⟨fun b u e _ => kp b u e.1, fun b h => h.elim .inl fun z => .inr (by rw [z]; exact hx), fun b h _ => .inl h, kn, fd.hard (fun b u e _ => kp b u e) fun b h => ?_⟩, kp⟩
  rcases h with h | h
  · exact kn b (fd b h)
  · rw [h, upd_same]; simp
theorem make_of {p : Pm} {c key : Str} {n : Nat} {σ : Sl} {H H1 : Hp} {F F1 S T1 S2 : AS} {e1 : Nv} {as : List Av} {vs : List V} {Q : VK} (fd : FD H F)
    (a : AftT false σ H F S H1 F1 e1 S2) (r : ARs H1 F1 as vs σ T1) (t1 : Sb T1 F1) (dj : Dj T1 S2) (n1 : Nw S H T1) (hn : vs.length = n) (h : Vp p true false σ H F S (mkA p.C c key as e1) Q) (x dx : Addr) (hx : H1 x = none) (hdx : H1 dx = none) (ne : dx ≠ x) :
    spC p.C p.XR key (n + 1) (V.ref x :: vs) (upd (upd H1 dx (.own x)) x (.ins (CN.cn c) dx [])) (fun v H2 => v = .non ∧ Q (.ref x) H2) (fun cls dd H' => p.Wx cls dd σ H') := by
  unfold mkA at h
  cases ht : takeA as e1 with
  | none => rw [ht] at h; exact h.elim
  | some pr =>
    obtain ⟨ds, e2⟩ := pr
    rw [ht] at h
    simp only at h
    obtain ⟨S3, S4, er3, er4, d34, s3, s4, hl⟩ := ARs.take r a.er dj ht
    have sb3 : Sb S3 F1 := fun x q => (s3 x q).elim (t1 x) (a.s2 x)
    have nw3 : Nw S H S3 := fun x q => (s3 x q).elim (n1 x) (a.n2 x)
    have nw4 : Nw S H S4 := fun x q => a.n2 x (s4 x q)
    obtain ⟨c0, kp⟩ := ch_new (S := S3) (o := .ins (CN.cn c) dx []) (o2 := .own x) hx hdx ne a.ch.fd
    have nx3 : ¬ S3 x := fun q => a.ch.fd x (sb3 x q) hx
    have nx4 : ¬ S4 x := fun q => a.ch.fd x (a.s2 x (s4 x q)) hx
    have nwx : Nw S3 H1 (fun b => b = x ∨ S3 b) := fun b q => q.elim (fun z => .inr (by rw [z]; exact hx)) .inl
    -- the callee's start
    have rd0 : Rdy (upd (upd H1 dx (.own x)) x (.ins (CN.cn c) dx [])) (fun b => F1 b ∨ b = x) (fun b => b = x ∨ S3 b) ((D.ins true c [] [] :: ds).map some) ((V.ref x :: vs).map some) := by
      refine ⟨⟨some (.ref x), vs.map some, fun b => b = x, S3, rfl, fun d hd => ?_, er3.step (fun b o q _ => kp b o q.1) c0.new, fun b z w => nx3 (z ▸ w), fun _ z => .inl z, fun _ z => .inr z⟩, fun b z => z.elim .inr fun z => .inl (sb3 b z), c0.fd⟩
      cases hd
      exact ⟨.ref x, rfl, x, [], nos, dx, rfl, rfl, rfl, upd_same, .inr ⟨rfl, rfl, fun z => z, sb_nos⟩⟩
    refine ⟨by rw [List.length_cons, hn], _, _, D.ins true c [] [] :: ds, rd0, ?_⟩
    -- the state behind the call
    have after : ∀ {H' F' S5 S6 ps}, Ch (fun b => b = x ∨ S3 b) (upd (upd H1 dx (.own x)) x (.ins (CN.cn c) dx [])) (fun b => F1 b ∨ b = x) H' F' → ERs H' F' ps (vs.map some) S5 → Sb S5 F' → Nw (fun b => b = x ∨ S3 b) (upd (upd H1 dx (.own x)) x (.ins (CN.cn c) dx [])) S5 →
        Nw (fun b => b = x ∨ S3 b) (upd (upd H1 dx (.own x)) x (.ins (CN.cn c) dx [])) S6 → AftT false σ H F S H' F' (putA as ps e2) (fun b => S5 b ∨ S4 b) ∧ Dj S5 S4 ∧ Dj S6 S4 ∧ Nw S H S6 := fun {H' F' S5 S6 ps} ch er sb nw nw6 => by
      have ch' := c0.trans nwx ch a.ch.fd
      have nwt : ∀ {T : AS}, Nw (fun b => b = x ∨ S3 b) (upd (upd H1 dx (.own x)) x (.ins (CN.cn c) dx [])) T → Nw S3 H1 T := fun {T} h => nwx.trans c0 h
      have dd : ∀ {T : AS}, Nw S3 H1 T → Dj T S4 := fun {T} h b q w => (h b q).elim (fun z => d34 b z w) fun z => a.ch.fd b (a.s2 b (s4 b w)) z
      have er4' : ERs H' F' e2 σ S4 := er4.step (fun b o q z => ch'.keep b o q fun w => z.elim (fun z => z (sb3 b w)) fun z => d34 b w z) ch'.new
      have d54 := dd (nwt nw)
      refine ⟨⟨a.ch.trans nw3 ch' fd |> fun c' => ⟨fun b o q ns => c'.keep b o q ns, c'.new, c'.old, c'.dom, c'.fd⟩, ARs.put r er er4' d54, fun b q => q.elim (sb b) fun q => ch'.old b (a.s2 b (s4 b q)) fun w => d34 b w q, fun b q => q.elim (fun q => (nw3.trans a.ch (nwt nw)) b q) (nw4 b), fun z => by cases z⟩, d54, dd (nwt nw6), nw3.trans a.ch (nwt nw6)⟩
    cases hc : p.C key (D.ins true c [] [] :: ds) with
    | bad => rw [hc] at h; exact h
    | ok d ps =>
      rw [hc] at h
      cases d with
      | non =>
        cases ps with
        | nil => exact h.elim
        | cons o ps =>
          cases o with
          | none => exact h.elim
          | some o =>
            intro v H' F' S5 S6 b
            refine ⟨b.rep, ?_⟩
            obtain ⟨u, t, U1, U2, e', k1, k2, d12, u1, u2⟩ := b.er
            obtain ⟨eu, et⟩ := List.cons.inj e'
            subst et
            subst eu
            obtain ⟨v', hv, rp⟩ := k1 o rfl
            cases hv
            obtain ⟨A, _, d64, n6⟩ := after (S6 := U1) b.ch k2 (u2.trans b.s2) (fun z q => b.n2 z (u2 z q)) (fun z q => b.n2 z (u1 z q))
            exact h (.ref x) H' F' U1 _ ⟨A.ch, rp, A.er, fun _ => u1.trans b.s2, A.s2, A.n2, fun _ z q w => w.elim (d12 z q) (d64 z q), fun _ => n6, fun z => by cases z⟩
      | _ => exact h.elim
    | ex y ps =>
      rw [hc] at h
      cases ps with
      | nil => exact h.elim
      | cons o ps =>
        intro cls dd H' F' S5 b xr
        obtain ⟨u, t, U1, U2, e', k1, k2, d12, u1, u2⟩ := b.er
        obtain ⟨eu, et⟩ := List.cons.inj e'
        subst et
        obtain ⟨A, _⟩ := after (S6 := nos) b.ch k2 (u2.trans b.s2) (fun z q => b.n2 z (u2 z q)) (fun _ z => z.elim)
        exact h cls dd H' F' _ A xr
def tMkS (C : Addr) (sp : Sp) (EX : Sl → XK) (t : TA) : TE := fun σ H Q => t σ H fun vs H1 => ∀ x dx, H1 x = none → H1 dx = none → dx ≠ x →
  sp (.ref x :: vs) (upd (upd H1 dx (.own x)) x (.ins C dx [])) (fun v H2 => v = .non ∧ Q (.ref x) H2) (EX σ)
theorem run_mkS {pins : List (Addr × Obj)} {σ : Sl} {H : Hp} {s : Shared} {Q : VK} {us : List Value} {vs : List V} {C f : Addr} {fd : FuncData} {ps : List Str} {sp : Sp} {k : Nat} {EX : Sl → XK} (M : Mk X.K C f) (F : FnOk X.prog X.w X.K X.mg X.base (L2.CX X.prog X.w) k f fd ps sp)
    (hr : Room (k + 1) X.A) (hb : Binds X.K fd ps []) (hx : PassesAt (L2.CX X.prog X.w) X σ (EX σ)) (I : L2.Inv X pins σ H s) (r : Vals vs us)
    (h : ∀ x dx, H x = none → H dx = none → dx ≠ x → sp (.ref x :: vs) (upd (upd H dx (.own x)) x (.ins C dx [])) (fun v H2 => v = .non ∧ Q (.ref x) H2) (EX σ)) : wpAny (model X.prog X.w) X.A (call (.ref C) us) (EP X pins σ Q) X.xe s := by
  have q0 := h _ _ (I.hok.fresh (Nat.le_succ s.heap.objs.size)) (I.hok.fresh (Nat.le_refl _)) (Nat.ne_of_lt (Nat.lt_succ_self s.heap.objs.size))
  have I0 := L2.Inv.made (C := C) I
  have rr : Vals (V.ref (s.heap.objs.size + 1) :: vs) (Value.ref (s.heap.objs.size + 1) :: us) := .cons rfl r
  have hz : (Value.ref (s.heap.objs.size + 1) :: us).length = ps.length := by
    rw [← rr.length]; exact F.len _ _ _ _ q0
  have bd := hb _ (Value.ref (s.heap.objs.size + 1) :: us) I0.kIn (by rw [List.append_nil]; exact hz)
  rw [List.append_nil] at bd
  refine wpAny_call (make_map (f := f) I.kIn M.makes M.init (beq_iff_eq.mp M.fn) (codeAny_mono
    (F.run _ X.stack _ _ ⟨Value.ref (s.heap.objs.size + 1) :: us, []⟩ _ _ _ (EX σ) (hr.make C us []) (I0.env0.make C us []) bd rr q0) fun res s1 hq => ?_))
  cases res with
  | error er => exact hx pins _ _ er s1 I0 hq
  | ok fl =>
    cases fl with
    | ret u =>
      obtain ⟨v, H', I3, rv, ev, q3⟩ := I0.after hq
      subst ev
      exact ⟨rv, V.ref (s.heap.objs.size + 1), H', I3, rfl, q3⟩
    | next => exact hq.elim
    | brk => exact hq.elim
    | cont => exact hq.elim
theorem snd_mk {c key : Str} {es : List E} (ie : ∀ (xs : List Expr), chkA g N sc es xs = true → PA X xs (tA p es)) {A : Expr} (G : Gd g N p X sc) (h : chk g N sc (.mk c key es) A = true) :
    PE X A (tE p (.mk c key es)) ∧ PT X A (tT p (.mk c key es)) ∧ (isBO A = true → PW X A (tT p (.mk c key es))) := by
  cases A with
  | Call fn xs kws pos =>
    unfold chk at h
    split at h
    · rename_i heq
      cases heq
      rename_i x p0
      simp only [Bool.and_eq_true, decide_eq_true_eq, List.any_eq_true] at h
      obtain ⟨rfl, h1, ⟨r0, hr0, er0⟩, h2, h3⟩ := h
      subst er0
      obtain ⟨g1, g2, g3⟩ := okGl_ok G h1
      obtain ⟨fn, hfn, hn⟩ := fn_some' h2
      obtain ⟨m1, m2⟩ := G.mak _ _ hr0
      obtain ⟨fd, k, hb, F, hr, _⟩ := G.fnk _ _ hfn
      have pa := ie xs h3
      have rd2 : ∀ σ H Q, tE p (.mk x key es) σ H Q → tMkS (CN.cn x) (spC p.C p.XR key fn.ps.length) (fun σ cls d H' => p.Wx cls d σ H') (tA p es) σ H Q := fun σ H Q ⟨F, S, e, rd, q⟩ => by
        refine ⟨F, S, e, rd, ?_⟩
        simp only [ev] at q
        cases hr : evA p.C es e with
        | ok as e1 =>
          rw [hr] at q
          intro vs H1 F1 S1 S2 b y dx hy hd ne
          rw [← hn]
          exact make_of rd.fd b.t b.rep b.s1 b.dj b.n1 (by rw [b.rep.len, evA_len hr, chkA_len h3]) q y dx hy hd ne
        | ex x e1 => rw [hr] at q; exact q
        | bad => rw [hr] at q; exact q
      refine se_plain (pe_weak (t := tMkS (CN.cn x) (spC p.C p.XR key fn.ps.length) (fun σ cls d H' => p.Wx cls d σ H') (tA p es)) ⟨fun pins s σ H Q I hq => ?_⟩ rd2) (fun _ => rfl) rfl
      refine wpAny_Call_Name_kw (ld_glob I g1 m1 ?_ g2)
      cases xs with
      | nil =>
        cases es with
        | nil =>
          obtain ⟨F0, S0, e0, rdy, q⟩ := hq
          exact PySem.W.callWith_K0 I.kIn m2.kp (run_mkS (EX := fun σ cls d H' => p.Wx cls d σ H') (us := []) m2 F hr hb (passes G σ) I .nil (q [] H F0 nos S0 ⟨rdy.refl.weak, rfl, sb_nos, dj_nos, fun _ z => z.elim⟩))
        | cons a es => cases h3
      | cons y ys =>
        cases es with
        | nil => cases h3
        | cons a0 es0 =>
          have h4 := h3
          simp only [chkA, Bool.and_eq_true] at h4
          refine PySem.W.callWith_K (h₀ := X.base) I.ok.mod.kin m2.kp (thn (pa.run pos pins s σ H _ I hq) fun us s1 ⟨vs, H1, I1, r, q⟩ => ⟨I1.kIn, ?_⟩) (star_pl h4.1 ys X.env) (any_pl h4.2.2.2 pos X.env)
          exact run_mkS (EX := fun σ cls d H' => p.Wx cls d σ H') m2 F hr hb (passes G σ) I1 r q
    · exact absurd h Bool.false_ne_true
  | _ => exact absurd h Bool.false_ne_true
/-! ### a[::-1], dict(zip(..)) -/
theorem RepL.rev {H : Hp} {F : AS} : ∀ {ds : List D} {vs : List V}, RepL H F ds vs nos → RepL H F ds.reverse vs.reverse nos
  | [], vs, h => by rw [show vs = [] from h]; exact RepL.nil
  | d :: ds, vs, h => by
    obtain ⟨v, r, S1, S2, rfl, h1, h2, dj, s1, s2⟩ := h
    rw [List.reverse_cons, List.reverse_cons]
    exact (RepL.rev (h2.mono _ _ _ _ s2)).app (RepL.cons (h1.mono _ _ _ _ s1) RepL.nil)
theorem snd_rev {a : E} (ia : SE g N p.C p.XR a) {A : Expr} (G : Gd g N p X sc) (h : chk g N sc (.rev a) A = true) :
    PE X A (tE p (.rev a)) ∧ PT X A (tT p (.rev a)) ∧ (isBO A = true → PW X A (tT p (.rev a))) := by
  cases A with
  | Subscript B sl pos =>
    unfold chk at h
    split at h
    · rename_i heq
      cases heq
      have i1 := (ia p.Wx X sc B G h).1
      refine se_plain (pe_weak (pe_revL i1) fun σ H Q ⟨F, S, e, rd, q⟩ => ⟨F, S, e, rd, ?_⟩) (fun _ => rfl) rfl
      simp only [ev] at q
      refine vp_bind q fun d e' _ q v H' F' S1 S2 k => ?_
      cases hf : revD d with
      | none => rw [hf] at q; exact q.elim
      | some r =>
        rw [hf] at q
        cases d with
        | lst o ds =>
          cases hf
          obtain ⟨b, vs, rfl, z, l, r⟩ := k.rep.lst_inv
          exact ⟨b, vs, rfl, .inl r, fun q' hq => Out.of (p := p) (vb := true) (sb := smp a) rd.fd k.t q q' _ hq l.rev (by rw [List.length_reverse]; exact z)⟩
        | _ => cases hf
    · exact absurd h Bool.false_ne_true
  | _ => exact absurd h Bool.false_ne_true
theorem mergeK_new : ∀ {kvs acc : List (L2.Key × V)}, (∀ p ∈ kvs, valV acc p.1 = none) → (kvs.map (·.1)).Nodup → mergeK acc kvs = acc ++ kvs
  | [], acc, _, _ => by simp [mergeK]
  | p :: kvs, acc, h, nd => by
    have nd2 := List.nodup_cons.mp nd
    show mergeK (putK acc p.1 p.2) kvs = _
    rw [putK_new p.2 (h p (by simp)), mergeK_new (fun q hq => ?_) nd2.2]
    · simp
    · rw [valV_snoc _ _ _ _ (h p (by simp)), if_neg, h q (by simp [hq])]
      intro z
      exact nd2.1 (List.mem_map.mpr ⟨q, hq, z⟩)
theorem keys_of {H : Hp} {F : AS} : ∀ {ks ds : List D} {xs us : List V} {S : AS}, RepL H F ks xs S → us.length = ks.length → ks.all isK = true → ∃ kvs : List (L2.Key × V), ks = kvs.map (fun p => kD p.1) ∧ xs = kvs.map (fun p => kV p.1) ∧ us = kvs.map (·.2) ∧ ∀ p ∈ kvs, kyOk p.1
  | [], ds, xs, us, S, r, hl, hk => by
    rw [show xs = [] from r, List.length_eq_zero_iff.mp hl]
    exact ⟨[], rfl, rfl, rfl, fun p hp => (by cases hp)⟩
  | k :: ks, ds, xs, us, S, r, hl, hk => by
    cases us with
    | nil => cases hl
    | cons u us =>
      obtain ⟨x, t, S1, S2, rfl, h1, h2, _⟩ := r
      rw [List.all_cons, Bool.and_eq_true] at hk
      obtain ⟨key, rfl⟩ := isK_ok hk.1
      obtain ⟨rfl, ok⟩ := h1.key
      obtain ⟨kvs, e1, e2, e3, e4⟩ := keys_of (ds := ds) h2 (by simpa using hl) hk.2
      exact ⟨(key, u) :: kvs, by rw [e1]; rfl, by rw [e2]; rfl, by rw [e3]; rfl, fun p hp => (List.mem_cons.mp hp).elim (fun z => z ▸ ok) (e4 p)⟩
theorem nodupK_ok : ∀ {kvs : List (L2.Key × V)}, nodupK (kvs.map fun p => kD p.1) = true → (kvs.map (·.1)).Nodup
  | [], _ => List.nodup_nil
  | p :: kvs, h => by
    simp only [List.map_cons, nodupK, Bool.and_eq_true, Bool.not_eq_true', mem_valV] at h
    refine List.nodup_cons.mpr ⟨fun hm => ?_, nodupK_ok h.2⟩
    obtain ⟨q, hq, e⟩ := List.mem_map.mp hm
    have h1 := h.1
    rw [← valV_any] at h1
    have := List.any_eq_false.mp h1 q hq
    simp [e] at this
def tDz (K : PySem.W.Frag) (ta : TA) : TE := fun σ H Q => ta σ H fun vs H1 => ∃ (a b : Addr) (kvs : List (L2.Key × V)), vs = [.ref a, .ref b] ∧ SqL K H1 a (kvs.map fun p => kV p.1) ∧ SqL K H1 b (kvs.map (·.2)) ∧ (kvs.map (·.1)).Nodup ∧
  ∀ q, H1 q = none → Q (.ref q) (upd H1 q (.dK kvs))
theorem kv_pairs : ∀ {kvs : List (L2.Key × V)} {us ws : List Value}, Vals (kvs.map fun p => kV p.1) us → Vals (kvs.map (·.2)) ws → ∃ rs : List (L2.Key × Value), KV kvs rs ∧ rs.length = kvs.length ∧ us.length = kvs.length ∧ ws.length = kvs.length ∧
    ∀ (P : Program) (w : World) (i : Nat) (u v : Value), us[i]? = some u → ws[i]? = some v → ∃ k, rs[i]? = some (k, v) ∧ (mixKind P w).is k u = true
  | [], us, ws, r, t => by
    cases r; cases t
    exact ⟨[], .nil, rfl, rfl, rfl, fun P w i u v h => by simp at h⟩
  | p :: kvs, us, ws, r, t => by
    cases r with
    | @cons _ u _ ur r1 r2 =>
      cases t with
      | @cons _ x _ wr t1 t2 =>
        obtain ⟨rs, e1, e2, e3, e4, e5⟩ := kv_pairs r2 t2
        refine ⟨(p.1, x) :: rs, .cons ⟨rfl, t1⟩ e1, by simp [e2], by simp [e3], by simp [e4], fun P w i u' v h h' => ?_⟩
        cases i with
        | zero =>
          have h1 : u = u' := by simpa using h
          have h2 : x = v := by simpa using h'
          subst h1
          subst h2
          exact ⟨p.1, rfl, kV_is r1⟩
        | succ i => simpa using e5 P w i u' v (by simpa using h) (by simpa using h')
theorem pe_dz {x y : Str} {p1 p2 pos pos2 : Pos} {A B : Expr} {ta : TA} (calm : X.calm = true) (gd : Gl X x) (md : X.mg x = none) (bd : bootBuiltins x = some (.type "dict")) (nd : x ≠ "__name__") (dd : (x == ("__debug__" : Str)) = false)
    (gz : Gl X y) (mz : X.mg y = none) (bz : bootBuiltins y = some (.type "zip")) (nz : y ≠ "__name__") (dz : (y == ("__debug__" : Str)) = false) (hpA : pl A = true) (hpB : pl B = true) (pa : PA X [A, B] ta) :
    PE X (.Call (.Name x p1) [.Call (.Name y p2) [A, B] [] pos2] [] pos) (tDz X.K ta) := by
  constructor
  intro pins s σ H Q I hq
  refine PyProof.Rows.Call_ (ld_blt I gd md bd (PyProof.Rows.callWith_type1 (PyProof.Rows.args_cons ?_ rfl) rfl rfl) nd dd)
  refine PyProof.Rows.Call_ (ld_blt I gz mz bz (PyProof.Rows.callWith_type1 (thn (pa.run pos2 pins s σ H _ I hq) fun us s1 ⟨vs, H1, I1, r1, a, b, kvs, ev, qa, qb, ndk, q⟩ => ?_) (star_pl hpA [B] X.env) (hpl_one hpB _ _)) nz dz)
  subst ev
  cases r1 with
  | cons ra rr =>
    cases rr with
    | cons rb rr =>
      cases rr
      cases ra
      cases rb
      obtain ⟨its, rv, l1, z1⟩ := I1.list qa
      obtain ⟨its2, rv2, l2, z2⟩ := I1.list qb
      obtain ⟨rs, kv, k1, k2, k3, k4⟩ := kv_pairs rv rv2
      refine call_zip_2 l1.isList l2.isList fun h' hz hTI hTO h1 h2 hsz hk => PyProof.Rows.args_nil ?_
      have I2 : L2.Inv X pins σ H1 { s1 with heap := h' } := I1.kept (t' := s1.toks) hk
      have hlen : kvs.length ≤ sizeLine := by rw [List.length_map] at z1; exact z1
      have la := l1.isList.at (h' := h') fun o e => hk _ o e
      have lb := l2.isList.at (h' := h') fun o e => hk _ o e
      refine PySem.call_dict_pairs (knd := mixKind X.prog X.w) (kvs := rs) (s := { s1 with heap := h' }) (PySem.PairArg.zip _ _ _ _ _ _ _ (PySem.W.ktu_apart s1.heap.objs.size a b l1.lt l2.lt) its.toArray its2.toArray) (I2.ok.hd calm) ⟨hz, hTI, ⟨_, _, hTO⟩, h1, h2, la, lb⟩ ?_ ?_ fun h'' tk hd hkeep => ?_
      · refine ⟨by rw [k1]; simp [k2, k3], fun i key v hr => k4 _ _ i key v ?_ ?_⟩
        · simpa using hr.1
        · simpa using hr.2
      · simp only [List.size_toArray]; rw [k2, k3]; omega
      · have km := KV.merge (kvs := []) (vs := []) kv .nil
        rw [mergeK_new (fun _ _ => valV_nil) ndk, List.nil_append] at km
        have ge : s1.heap.objs.size ≤ h'.objs.size := by rw [hsz]; omega
        have hno : (h'.objs.size == sysModules) = false := beq_eq_false_iff_ne.mpr (Nat.ne_of_gt (Nat.lt_of_lt_of_le I1.big ge))
        have kp : ∀ b o, s1.heap.get? b = some o → h''.get? b = some o := fun b o e => hkeep b o (fun hm => by
          have hb := Heap.lt_size e
          simp only [List.mem_cons, List.not_mem_nil, or_false] at hm
          have hle : s1.heap.objs.size ≤ b := by
            rcases hm with z | z | z | z <;> rw [z] <;> first | exact Nat.le_add_right _ _ | exact Nat.le_refl _
          exact absurd hb (Nat.not_lt.mpr hle)) (hk b o e)
        exact ⟨.ref h'.objs.size, upd H1 h'.objs.size (.dK kvs), I1.laid (t' := tk) kp ge (show ObjOk X.prog X.w _ _ _ (.dK kvs) from ⟨hlen, hno, merged [] rs, km, hd⟩), rfl, q _ (I1.hok.fresh ge)⟩
theorem snd_dzip {es : List E} (ie : ∀ (xs : List Expr), chks g N sc es xs = true → PA X xs (tEs p es)) {A : Expr} (G : Gd g N p X sc) (h : chk g N sc (.dzip es) A = true) :
    PE X A (tE p (.dzip es)) ∧ PT X A (tT p (.dzip es)) ∧ (isBO A = true → PW X A (tT p (.dzip es))) := by
  cases A with
  | Call fn as kws pos =>
    unfold chk at h
    split at h
    · rename_i heq
      cases heq
      rename_i x p0 y p1 xs p2
      simp only [Bool.and_eq_true, decide_eq_true_eq] at h
      obtain ⟨rfl, h1, h2, rfl, h3, h4, h5, h6⟩ := h
      obtain ⟨g1, g2, g3, g4⟩ := free_ok G h1 h2
      obtain ⟨f1, f2, f3, f4⟩ := free_ok G h3 h4
      have pa := ie xs h6
      cases xs with
      | nil => cases h5
      | cons A r =>
        cases r with
        | nil => cases h5
        | cons B r =>
          cases r with
          | cons _ _ => cases h5
          | nil =>
            cases es with
            | nil => cases h6
            | cons a0 e0 =>
              cases e0 with
              | nil => simp [chks] at h6
              | cons b0 e1 =>
                have h7 := h6
                simp only [chks, Bool.and_eq_true] at h7
                have rd : ∀ σ H Q, tE p (.dzip (a0 :: b0 :: e1)) σ H Q → tDz X.K (tEs p (a0 :: b0 :: e1)) σ H Q := fun σ H Q ⟨F, S, e, rd, q⟩ => by
                  refine ⟨F, S, e, rd, ?_⟩
                  simp only [ev] at q
                  cases hr : evs p.C (a0 :: b0 :: e1) e with
                  | ok ds e' =>
                    rw [hr, R.bind_ok] at q
                    cases hz : dzipD ds with
                    | none => rw [hz] at q; exact q.elim
                    | some r =>
                      rw [hz] at q
                      intro vs H1 F1 S1 S2 k
                      unfold dzipD at hz
                      split at hz
                      · rename_i o1 ks o2 ws
                        split at hz
                        · rename_i hc
                          cases hz
                          simp only [Bool.and_eq_true, decide_eq_true_eq] at hc
                          obtain ⟨hl, hk, hn⟩ := hc
                          obtain ⟨v1, t1, S3, S4, rfl, r1, r2, _, s1, s2⟩ := k.rep
                          obtain ⟨v2, t2, S5, S6, rfl, r3, r4, _⟩ := r2
                          rw [show t2 = [] from r4]
                          obtain ⟨a, us, rfl, z1, l1, q1⟩ := r1.lst_inv
                          obtain ⟨b, ys, rfl, z2, l2, q2⟩ := r3.lst_inv
                          obtain ⟨kvs, rfl, e2, e3, e4⟩ := keys_of (ds := ws) l1 (by rw [l2.len, hl]) hk
                          subst e2
                          subst e3
                          refine ⟨a, b, kvs, rfl, .inl q1, .inl q2, nodupK_ok hn, fun q' hq => ?_⟩
                          exact Out.of (p := p) (vb := true) (sb := smpL (a0 :: b0 :: e1)) (d := .dct true _ ws) rd.fd k.t q q' _ _ hq l2 ⟨kvs, rfl, rfl, rfl, e4⟩ z2
                        · cases hz
                      · cases hz
                  | ex x e1 => rw [hr] at q; exact q
                  | bad => rw [hr] at q; exact q
                exact se_plain (pe_weak (pe_dz G.calm g1 g2 PyProof.Rows.boot_dict g4 g3 f1 f2 PyProof.Rows.boot_zip f4 f3 h7.1 h7.2.2.2.1 pa) rd) (fun _ => rfl) rfl
    · exact absurd h Bool.false_ne_true
  | _ => exact absurd h Bool.false_ne_true
/-! ### given up -/
theorem asB_fz {r : R D} : asB (r.bind fun x e1 => .ok x.fz e1) = asB r := by
  cases r with
  | ok d e => cases d <;> rfl
  | _ => rfl
theorem snd_fz {a : E} (ia : SE g N p.C p.XR a) {A : Expr} (G : Gd g N p X sc) (h : chk g N sc (.fz a) A = true) :
    PE X A (tE p (.fz a)) ∧ PT X A (tT p (.fz a)) ∧ (isBO A = true → PW X A (tT p (.fz a))) := by
  simp only [chk, Bool.and_eq_true] at h
  obtain ⟨i1, i2, i3⟩ := ia p.Wx X sc A G h.2
  have tt : ∀ σ H Q, tT p (.fz a) σ H Q → tT p a σ H Q := fun σ H Q ⟨F, S, e, rd, q⟩ => ⟨F, S, e, rd, by
    have q : Vt p (smp a) σ H F S (asB ((ev p.C a e).bind fun x e1 => .ok x.fz e1)) Q := q
    rwa [asB_fz] at q⟩
  refine ⟨pe_weak i1 fun σ H Q ⟨F, S, e, rd, q⟩ => ⟨F, S, e, rd, ?_⟩, pt_weak i2 tt, fun hb => pw_weak (i3 hb) tt⟩
  simp only [ev] at q
  refine vp_bind q fun d e' _ q v H' F' S1 S2 k => ?_
  obtain ⟨k1, k2⟩ := k.give rd.fd h.1.1
  exact q v H' _ nos S2 (k1.val k2)
end
end Vm
namespace Vm
open PySem PySem.Spec PyProof.Rows L2

theorem dedS_step {ns : List Str} {i : Nat} {x : Str} (h : ns[i]? = some x) : dedS (ns.take (i + 1)) = addS (dedS (ns.take i)) x := by
  rw [List.take_add_one, h]
  simp [dedS, List.foldl_append]
theorem addS_mem {acc : List Str} {n k : Str} : k ∈ addS acc n ↔ k ∈ acc ∨ k = n := by
  unfold addS
  by_cases h : n ∈ acc
  · rw [if_pos h]
    exact ⟨.inl, fun z => z.elim id fun e => e ▸ h⟩
  · rw [if_neg h, List.mem_append, List.mem_singleton]
theorem addS_len {acc : List Str} {n : Str} : (addS acc n).length = if decide (n ∈ acc) = true then acc.length else acc.length + 1 := by
  unfold addS
  by_cases h : n ∈ acc
  · rw [if_pos h, if_pos (by simpa using h)]
  · rw [if_neg h, if_neg (by simpa using h), List.length_append, List.length_singleton]
theorem dedS_len : ∀ (ns acc : List Str), (ns.foldl addS acc).length ≤ acc.length + ns.length
  | [], acc => by simp
  | n :: ns, acc => by
    have h1 := dedS_len ns (addS acc n)
    have h2 : (addS acc n).length ≤ acc.length + 1 := by rw [addS_len]; split <;> omega
    rw [List.foldl_cons, List.length_cons]
    omega
section
variable {P : Program} {w : World} {A : Around}
/-- the texts are put in one by one -/
theorem tx_walk {R : Result → Shared → Prop} {I : Addr} {fp wr : List Addr} {G : Array GenState → Array GenState → Prop} {n : Nat} {Pv : Nat → Value → Prop} {St : Nat → Shared → Prop}
    (W : WalksS P w A.in1 I fp wr G n Pv St) (a : Addr) (hoff : a ∉ fp) (ns : List Str) (hn : ns.length = n) (hroom : n + 1 < scanBound) (hv : ∀ i v, Pv i v → ∃ x t, ns[i]? = some x ∧ v = Value.str x t) :
    ∀ (m i : Nat) (s : Shared), n - i = m → i ≤ n → St i s → s.heap.SetOf (PySem.strKind P w) a (fun k => decide (k ∈ dedS (ns.take i))) (dedS (ns.take i)).length →
      (∀ s', Moved (a :: wr) G s s' → s'.heap.SetOf (PySem.strKind P w) a (fun k => decide (k ∈ dedS ns)) (dedS ns).length → R (.ok (.ret .none)) s') →
      codeAny (model P w) A (.builtin "set.update.loop" ⟨[.ref a, .ref I], []⟩) R s := by
  have offw : a ∉ wr := fun z => hoff (W.sub _ z)
  have more : ∀ b ∈ wr, b ∈ a :: wr := fun b z => List.mem_cons_of_mem _ z
  have kept : ∀ {i : Nat} {s s' : Shared}, Moved wr G s s' → s.heap.SetOf (PySem.strKind P w) a (fun k => decide (k ∈ dedS (ns.take i))) (dedS (ns.take i)).length → s'.heap.SetOf (PySem.strKind P w) a (fun k => decide (k ∈ dedS (ns.take i))) (dedS (ns.take i)).length := by
    intro i s s' mv z
    obtain ⟨ob, es, ep, tb, z1, z2⟩ := z
    exact ⟨ob, es, ep, tb, mv.heap a _ offw z1, z2⟩
  intro m
  induction m with
  | zero =>
    intro i s e1 e2 st hs hR
    obtain rfl : i = n := by omega
    refine codeAny_builtin PyProof.Rows.F.entry_set_update_loop ?_
    rw [Around.under_plainId PyProof.Rows.F.plain_set_update_loop _]
    show wpAny (model P w) A.in1 (pyNext (.ref I) >>= _) _ _ s
    refine wpAny_bind (W.done s _ _ st fun s' mv => ?_)
    show wpAny (model P w) A.in1 (ret Value.none) _ _ s'
    have z := kept mv hs
    rw [List.take_of_length_le (by omega)] at z
    exact wpAny_pure (hR s' (mv.mono more) z)
  | succ m ih =>
    intro i s e1 e2 st hs hR
    have lt : i < n := by omega
    refine codeAny_builtin PyProof.Rows.F.entry_set_update_loop ?_
    rw [Around.under_plainId PyProof.Rows.F.plain_set_update_loop _]
    show wpAny (model P w) A.in1 (pyNext (.ref I) >>= _) _ _ s
    refine wpAny_bind (W.item i s _ _ lt st fun v s' pv st' mv => ?_)
    obtain ⟨x, t, hx, rfl⟩ := hv i v pv
    have hs' := kept mv hs
    show wpAny (model P w) A.in1 (holding [Value.str x t] (setAdd a (.str x t)) >>= _) _ _ s'
    refine wpAny_bind (wpAny_holding ?_)
    unfold setAdd
    refine wpAny_holding (wpAny_bind ((PySem.strKind P w).pyHash (k := x) (strKind_is _ _ _ _) ?_))
    have room : (dedS (ns.take i)).length + 1 < scanBound := by
      have h1 : (dedS (ns.take i)).length ≤ (ns.take i).length := by have := dedS_len (ns.take i) []; simpa [dedS] using this
      have h2 : (ns.take i).length ≤ i := by rw [List.length_take]; omega
      omega
    refine wpAny_setAddHashed_of (knd := PySem.strKind P w) (s := { s' with toks := s'.toks + 1 }) (strKind_is _ _ _ _) rfl hs' room fun h' same hs2 => ?_
    have hs3 : h'.SetOf (PySem.strKind P w) a (fun k => decide (k ∈ dedS (ns.take (i + 1)))) (dedS (ns.take (i + 1))).length := by
      refine PyProof.Rows.SetOf_congr hs2 (fun k => ?_) ?_
      · rw [dedS_step hx, Bool.eq_iff_iff]
        simp [addS_mem]
      · rw [dedS_step hx, addS_len]
    refine wpAny_pure ⟨plainId_quiet PyProof.Rows.F.plain_set_update_loop _, ih (i + 1) _ (by omega) lt (W.frame _ s' _ _ st' (Nat.le_succ _) fun b hb o e => ?_) hs3 fun s2 mv2 z => ?_⟩
    · rw [same.2 b fun q : b = a => hoff (by rw [← q]; exact hb)]
      exact e
    · refine hR s2 (Moved.trans W.gtrans ((mv.mono more).then_heap (Nat.le_succ _) fun b o hb e => ?_) mv2) z
      rw [same.2 b fun q : b = a => hb (by rw [q]; exact List.mem_cons_self)]
      exact e
end
-- SETS
section
variable {P : Program} {w : World} {A : Around} {E : Value → Shared → Prop} {s : Shared}
  set_option maxHeartbeats 3200000
/-- set(l), l a list or a tuple: what the loop makes of a fresh set -/
theorem set_shell {l : Addr} {T : String} {d0 : Option Addr} {its : Array Value} {nl : Nat} {y0 : Array (Option Value)} {Pst : Heap → Prop} {Q : Value → Shared → Prop} (calm : A.handled = none) (hol : s.heap.get? l = some { cls := .type T, dict := d0, data := .seq its nl, slots := y0 })
    (n1 : isSubtype (.type T) (.type "set") = pure false) (n2 : isSubtype (.type T) (.type "frozenset") = pure false) (n3 : (Value.type T == Value.type "dict") = false)
    (H : ∀ (A2 : Around) (K : Unit → Shared → Prop) (E2 : Value → Shared → Prop), A2.handled = none → (∀ (h' : Heap) (tk : Nat), Pst h' → (∀ b o, s.heap.get? b = some o → h'.get? b = some o) → K () { s with heap := h', toks := tk }) →
      wpAny (model P w) A2 (pyIter (.ref l)) (fun a s' => wpAny (model P w) A2 (do let _ ← runValue (Code.builtin "set.update.loop" ⟨[.ref s.heap.objs.size, a], []⟩); pure ()) K E2 s') E2 { s with heap := s.heap.push ({ cls := .type "set", dict := none, data := .set #[] 0 (.fresh 0 0 (!w.params.followText "set-order")) } : Obj) })
    (fin : ∀ (h' : Heap) (tk : Nat), Pst h' → (∀ b o, s.heap.get? b = some o → h'.get? b = some o) → Q (.ref s.heap.objs.size) { s with heap := h', toks := tk }) : wpAny (model P w) A (call (.type "set") [.ref l]) Q E s := by
  obtain ⟨mc, mt, mro⟩ := PySem.F.called_set.mro
  have f1 := PySem.F.called_set.made
  have f2 := PySem.F.called_set.sub
  have f3 := PySem.F.called_set.notType
  have f4 := PySem.F.called_set.canCreate
  have f5 := PySem.F.typeCall_set_1 (.ref l)
  have f6 := PySem.F.called_set.init.lookup
  have f7 := PySem.F.called_set.init.bind (.ref s.heap.objs.size)
  refine wpAny_call (codeAny_of_tree (show wpAny _ _ (callAny (.type "set") _) _ _ _ from ?_))
  refine wpAny_pure ⟨Code.quiet_builtin _ (by decide +kernel), codeAny_builtin PySem.F.entry_type_call ?_⟩
  rw [Around.under_plain (weight_type_call_type "set" [.ref l] []) rfl]
  repeat (any_goals (first | assumption | wp_step))
  refine codeAny_mono (code_set_led1 (.ref l) (E := E) (Q₁ := fun x s₁ => x = .ref s.heap.objs.size ∧ s₁ = { s with heap := s.heap.push ({ cls := .type "set", dict := none, data := .set #[] 0 (.fresh 0 0 (!w.params.followText "set-order")) } : Obj) }) ⟨rfl, rfl⟩) fun r s₁ made => ?_
  cases r with
  | error _ => exact made
  | ok fl =>
    cases fl with
    | ret x =>
      obtain ⟨rfl, rfl⟩ := made
      have new : (s.heap.push ({ cls := .type "set", dict := none, data := .set #[] 0 (.fresh 0 0 (!w.params.followText "set-order")) } : Obj)).get? s.heap.objs.size = some ({ cls := .type "set", dict := none, data := .set #[] 0 (.fresh 0 0 (!w.params.followText "set-order")) } : Obj) := Heap.get?_push_size _ rfl
      have ty : Shared.TypeIs { s with heap := s.heap.push ({ cls := .type "set", dict := none, data := .set #[] 0 (.fresh 0 0 (!w.params.followText "set-order")) } : Obj) } (.ref s.heap.objs.size) "set" := ⟨_, new, rfl⟩
      repeat (any_goals (first | assumption | wp_step))
      refine codeAny_mono (codeAny_call_builtin (R := wants (fun r s₂ => r = .none ∧ ∃ (h' : Heap) (tk : Nat), s₂ = { s with heap := h', toks := tk } ∧ Pst h' ∧ ∀ b o, s.heap.get? b = some o → h'.get? b = some o) E) PySem.F.called_set.init.plain PySem.F.entry_set_init (check_set_init_1 ty ?_)) fun r₂ s₂ got => ?_
      · have hol2 : (s.heap.push ({ cls := .type "set", dict := none, data := .set #[] 0 (.fresh 0 0 (!w.params.followText "set-order")) } : Obj)).get? l = some { cls := .type T, dict := d0, data := .seq its nl, slots := y0 } := Heap.get?_push_of_some _ hol
        have at2 : Shared.TypeIs { s with heap := s.heap.push ({ cls := .type "set", dict := none, data := .set #[] 0 (.fresh 0 0 (!w.params.followText "set-order")) } : Obj) } (.ref l) T := ⟨_, hol2, rfl⟩
        unfold Builtin.«set.__init__» noKeywords Builtin.Frozenset.updateFrom
        generalize hPI : pyIter = PI
        wp_walk
        subst hPI
        refine H _ _ _ (by simp [calm]) fun h' tk p1 p2 => ?_
        refine (show wpAny _ _ (ret Value.none) _ _ _ from wpAny_pure ⟨rfl, h', tk, rfl, p1, p2⟩)
      · cases r₂ with
        | error _ => exact got
        | ok fl₂ =>
          cases fl₂ with
          | ret r =>
            obtain ⟨rfl, h', tk, rfl, p1, p2⟩ := got
            repeat (any_goals (first | assumption | wp_step))
            exact fin _ _ p1 p2
          | _ => exact got.elim
    | _ => exact made.elim
theorem set_lstS {l : Addr} {its : Array Value} (ns : List Str) {Q : Value → Shared → Prop} (calm : A.handled = none) (at_l : s.heap.IsList l its) (are : PyProof.Rows.StrsAre its.toList ns) (room : ns.length + 1 < scanBound)
    (fin : ∀ (h' : Heap) (tk : Nat), (h'.SetOf (PySem.strKind P w) s.heap.objs.size (fun k => decide (k ∈ dedS ns)) (dedS ns).length) → (∀ b o, s.heap.get? b = some o → h'.get? b = some o) → Q (.ref s.heap.objs.size) { s with heap := h', toks := tk }) :
    wpAny (model P w) A (call (.type "set") [.ref l]) Q E s := by
  have size : its.size = ns.length := by
    have z := StrsAre.len_eq are
    rwa [Array.length_toList] at z
  obtain ⟨⟨c0, d0, x0, y0⟩, hol, hc0, nl, hx0⟩ := at_l
  simp only at hc0 hx0
  subst hc0; subst hx0
  refine set_shell (Pst := fun h' => h'.SetOf (PySem.strKind P w) s.heap.objs.size (fun k => decide (k ∈ dedS ns)) (dedS ns).length) calm hol PySem.F.sub_list_set PySem.F.sub_list_frozenset (by decide) (fun A2 K E2 calm2 K0 => ?_) fin
  have new : (s.heap.push ({ cls := .type "set", dict := none, data := .set #[] 0 (.fresh 0 0 (!w.params.followText "set-order")) } : Obj)).get? s.heap.objs.size = some ({ cls := .type "set", dict := none, data := .set #[] 0 (.fresh 0 0 (!w.params.followText "set-order")) } : Obj) := Heap.get?_push_size _ rfl
  have at2 : (s.heap.push ({ cls := .type "set", dict := none, data := .set #[] 0 (.fresh 0 0 (!w.params.followText "set-order")) } : Obj)).IsList l its := ⟨_, Heap.get?_push_of_some _ hol, rfl, nl, rfl⟩
  have lt : l < s.heap.objs.size := Heap.lt_size hol
  have sz : (s.heap.push ({ cls := .type "set", dict := none, data := .set #[] 0 (.fresh 0 0 (!w.params.followText "set-order")) } : Obj)).objs.size = s.heap.objs.size + 1 := Heap.size_push ..
  refine wpAny_pyIter_list at2 (wpAny_bind (wpAny_runValue ?_))
  have calm3 : A2.in1.handled = none := by simp [calm2]
  have far : l ≠ (s.heap.push ({ cls := .type "set", dict := none, data := .set #[] 0 (.fresh 0 0 (!w.params.followText "set-order")) } : Obj)).objs.size := by rw [sz]; exact Nat.ne_of_lt (Nat.lt_succ_of_lt lt)
  have off : s.heap.objs.size ∉ [(s.heap.push ({ cls := .type "set", dict := none, data := .set #[] 0 (.fresh 0 0 (!w.params.followText "set-order")) } : Obj)).objs.size, l] := by
    rw [sz]
    simp only [List.mem_cons, List.not_mem_nil, or_false, not_or]
    exact ⟨Nat.ne_of_lt (Nat.lt_succ_self _), Nat.ne_of_gt lt⟩
  have val : ∀ (i : Nat) (v : Value), its[i]? = some v → ∃ x t, ns[i]? = some x ∧ v = Value.str x t := fun i v hv => by
    have hi : i < ns.length := by rw [← size]; exact (Array.getElem?_eq_some_iff.mp hv).1
    obtain ⟨t, e⟩ := SS.strs_at are i v (by rw [Array.getElem?_toList]; exact hv)
    exact ⟨ns[i], t, List.getElem?_eq_getElem hi, by rw [e, List.getD_eq_getElem?_getD, List.getElem?_eq_getElem hi]; rfl⟩
  have z : ((s.heap.push ({ cls := .type "set", dict := none, data := .set #[] 0 (.fresh 0 0 (!w.params.followText "set-order")) } : Obj)).push { cls := .type "list_iterator", data := .fields #[.ref l, .int 0 0] }).get? s.heap.objs.size = some ({ cls := .type "set", dict := none, data := .set #[] 0 (.fresh 0 0 (!w.params.followText "set-order")) } : Obj) := Heap.get?_push_of_some _ new
  refine tx_walk ((Walks.list calm3 _ l far its).toS) s.heap.objs.size off ns size.symm (by rw [size]; exact room) val (its.size - 0) 0 _ (by omega) (Nat.zero_le _) ⟨⟨_, Heap.get?_push_size _ rfl, rfl, rfl⟩, at2.push _⟩ (PyProof.Rows.SetOf_congr ((PyProof.Rows.setObjOf_fresh (knd := PySem.strKind P w) _).setOf z (by unfold scanBound; omega)) (fun _ => rfl) rfl) fun s3 mv got => ?_
  obtain ⟨h3, g3, d3, t3, o3⟩ := s3
  obtain rfl : g3 = s.gens := mv.gens
  obtain rfl : d3 = s.drawn := mv.drawn
  obtain rfl : o3 = s.os := mv.os
  refine (show wpAny _ _ _ _ _ _ from wpAny_pure (K0 h3 t3 got fun b o e => ?_))
  have hb := Heap.lt_size e
  refine mv.heap b o ?_ (Heap.get?_push_of_some _ (Heap.get?_push_of_some _ e))
  simp only [List.mem_cons, List.not_mem_nil, or_false, not_or, sz]
  exact ⟨Nat.ne_of_lt hb, Nat.ne_of_lt (Nat.lt_succ_of_lt hb)⟩

theorem set_tupS {l : Addr} {its : Array Value} (ns : List Str) {Q : Value → Shared → Prop} (calm : A.handled = none) (at_l : s.heap.IsTuple l its) (are : PyProof.Rows.StrsAre its.toList ns) (room : ns.length + 1 < scanBound)
    (fin : ∀ (h' : Heap) (tk : Nat), (h'.SetOf (PySem.strKind P w) s.heap.objs.size (fun k => decide (k ∈ dedS ns)) (dedS ns).length) → (∀ b o, s.heap.get? b = some o → h'.get? b = some o) → Q (.ref s.heap.objs.size) { s with heap := h', toks := tk }) :
    wpAny (model P w) A (call (.type "set") [.ref l]) Q E s := by
  have size : its.size = ns.length := by
    have z := StrsAre.len_eq are
    rwa [Array.length_toList] at z
  obtain ⟨⟨c0, d0, x0, y0⟩, hol, hc0, nl, hx0⟩ := at_l
  simp only at hc0 hx0
  subst hc0; subst hx0
  refine set_shell (Pst := fun h' => h'.SetOf (PySem.strKind P w) s.heap.objs.size (fun k => decide (k ∈ dedS ns)) (dedS ns).length) calm hol PySem.F.sub_tuple_set PySem.F.sub_tuple_frozenset (by decide) (fun A2 K E2 calm2 K0 => ?_) fin
  have new : (s.heap.push ({ cls := .type "set", dict := none, data := .set #[] 0 (.fresh 0 0 (!w.params.followText "set-order")) } : Obj)).get? s.heap.objs.size = some ({ cls := .type "set", dict := none, data := .set #[] 0 (.fresh 0 0 (!w.params.followText "set-order")) } : Obj) := Heap.get?_push_size _ rfl
  have at2 : (s.heap.push ({ cls := .type "set", dict := none, data := .set #[] 0 (.fresh 0 0 (!w.params.followText "set-order")) } : Obj)).IsTuple l its := ⟨_, Heap.get?_push_of_some _ hol, rfl, nl, rfl⟩
  have lt : l < s.heap.objs.size := Heap.lt_size hol
  have sz : (s.heap.push ({ cls := .type "set", dict := none, data := .set #[] 0 (.fresh 0 0 (!w.params.followText "set-order")) } : Obj)).objs.size = s.heap.objs.size + 1 := Heap.size_push ..
  refine wpAny_pyIter_tuple at2 (wpAny_bind (wpAny_runValue ?_))
  have calm3 : A2.in1.handled = none := by simp [calm2]
  have far : l ≠ (s.heap.push ({ cls := .type "set", dict := none, data := .set #[] 0 (.fresh 0 0 (!w.params.followText "set-order")) } : Obj)).objs.size := by rw [sz]; exact Nat.ne_of_lt (Nat.lt_succ_of_lt lt)
  have off : s.heap.objs.size ∉ [(s.heap.push ({ cls := .type "set", dict := none, data := .set #[] 0 (.fresh 0 0 (!w.params.followText "set-order")) } : Obj)).objs.size, l] := by
    rw [sz]
    simp only [List.mem_cons, List.not_mem_nil, or_false, not_or]
    exact ⟨Nat.ne_of_lt (Nat.lt_succ_self _), Nat.ne_of_gt lt⟩
  have val : ∀ (i : Nat) (v : Value), its[i]? = some v → ∃ x t, ns[i]? = some x ∧ v = Value.str x t := fun i v hv => by
    have hi : i < ns.length := by rw [← size]; exact (Array.getElem?_eq_some_iff.mp hv).1
    obtain ⟨t, e⟩ := SS.strs_at are i v (by rw [Array.getElem?_toList]; exact hv)
    exact ⟨ns[i], t, List.getElem?_eq_getElem hi, by rw [e, List.getD_eq_getElem?_getD, List.getElem?_eq_getElem hi]; rfl⟩
  have z : ((s.heap.push ({ cls := .type "set", dict := none, data := .set #[] 0 (.fresh 0 0 (!w.params.followText "set-order")) } : Obj)).push { cls := .type "tuple_iterator", data := .fields #[.ref l, .int 0 0] }).get? s.heap.objs.size = some ({ cls := .type "set", dict := none, data := .set #[] 0 (.fresh 0 0 (!w.params.followText "set-order")) } : Obj) := Heap.get?_push_of_some _ new
  refine tx_walk ((Walks.tuple calm3 _ l far its).toS) s.heap.objs.size off ns size.symm (by rw [size]; exact room) val (its.size - 0) 0 _ (by omega) (Nat.zero_le _) ⟨⟨_, Heap.get?_push_size _ rfl, rfl, rfl⟩, at2.push _⟩ (PyProof.Rows.SetOf_congr ((PyProof.Rows.setObjOf_fresh (knd := PySem.strKind P w) _).setOf z (by unfold scanBound; omega)) (fun _ => rfl) rfl) fun s3 mv got => ?_
  obtain ⟨h3, g3, d3, t3, o3⟩ := s3
  obtain rfl : g3 = s.gens := mv.gens
  obtain rfl : d3 = s.drawn := mv.drawn
  obtain rfl : o3 = s.os := mv.os
  refine (show wpAny _ _ _ _ _ _ from wpAny_pure (K0 h3 t3 got fun b o e => ?_))
  have hb := Heap.lt_size e
  refine mv.heap b o ?_ (Heap.get?_push_of_some _ (Heap.get?_push_of_some _ e))
  simp only [List.mem_cons, List.not_mem_nil, or_false, not_or, sz]
  exact ⟨Nat.ne_of_lt hb, Nat.ne_of_lt (Nat.lt_succ_of_lt hb)⟩

theorem set_lstI {l : Addr} {its : Array Value} (ns : List Int) {Q : Value → Shared → Prop} (calm : A.handled = none) (at_l : s.heap.IsList l its) (are : PyProof.Rows.IntsAre its.toList ns) (room : ns.length + 1 < scanBound)
    (fin : ∀ (h' : Heap) (tk : Nat), (∃ c, SetR w h' s.heap.objs.size (fun k => decide (k ∈ ns)) c ∧ c ≤ ns.length) → (∀ b o, s.heap.get? b = some o → h'.get? b = some o) → Q (.ref s.heap.objs.size) { s with heap := h', toks := tk }) :
    wpAny (model P w) A (call (.type "set") [.ref l]) Q E s := by
  have size : its.size = ns.length := by
    have z := IntsAre.length are
    rwa [Array.length_toList] at z
  obtain ⟨⟨c0, d0, x0, y0⟩, hol, hc0, nl, hx0⟩ := at_l
  simp only at hc0 hx0
  subst hc0; subst hx0
  refine set_shell (Pst := fun h' => ∃ c, SetR w h' s.heap.objs.size (fun k => decide (k ∈ ns)) c ∧ c ≤ ns.length) calm hol PySem.F.sub_list_set PySem.F.sub_list_frozenset (by decide) (fun A2 K E2 calm2 K0 => ?_) fin
  have new : (s.heap.push ({ cls := .type "set", dict := none, data := .set #[] 0 (.fresh 0 0 (!w.params.followText "set-order")) } : Obj)).get? s.heap.objs.size = some ({ cls := .type "set", dict := none, data := .set #[] 0 (.fresh 0 0 (!w.params.followText "set-order")) } : Obj) := Heap.get?_push_size _ rfl
  have at2 : (s.heap.push ({ cls := .type "set", dict := none, data := .set #[] 0 (.fresh 0 0 (!w.params.followText "set-order")) } : Obj)).IsList l its := ⟨_, Heap.get?_push_of_some _ hol, rfl, nl, rfl⟩
  have lt : l < s.heap.objs.size := Heap.lt_size hol
  have sz : (s.heap.push ({ cls := .type "set", dict := none, data := .set #[] 0 (.fresh 0 0 (!w.params.followText "set-order")) } : Obj)).objs.size = s.heap.objs.size + 1 := Heap.size_push ..
  refine wpAny_pyIter_list at2 (wpAny_bind (wpAny_runValue ?_))
  have calm3 : A2.in1.handled = none := by simp [calm2]
  have far : l ≠ (s.heap.push ({ cls := .type "set", dict := none, data := .set #[] 0 (.fresh 0 0 (!w.params.followText "set-order")) } : Obj)).objs.size := by rw [sz]; exact Nat.ne_of_lt (Nat.lt_succ_of_lt lt)
  have off : s.heap.objs.size ∉ [(s.heap.push ({ cls := .type "set", dict := none, data := .set #[] 0 (.fresh 0 0 (!w.params.followText "set-order")) } : Obj)).objs.size, l] := by
    rw [sz]
    simp only [List.mem_cons, List.not_mem_nil, or_false, not_or]
    exact ⟨Nat.ne_of_lt (Nat.lt_succ_self _), Nat.ne_of_gt lt⟩
  have val : ∀ (i : Nat) (v : Value), its[i]? = some v → ∃ x t, ns[i]? = some x ∧ v = Value.int x t := fun i v hv => by
    have hi : i < ns.length := by rw [← size]; exact (Array.getElem?_eq_some_iff.mp hv).1
    obtain ⟨t, e⟩ := PyProof.Rows.IntsAre.int_at are i v (by rw [Array.getElem?_toList]; exact hv)
    exact ⟨ns[i], t, List.getElem?_eq_getElem hi, by rw [e, List.getD_eq_getElem?_getD, List.getElem?_eq_getElem hi]; rfl⟩
  have z : ((s.heap.push ({ cls := .type "set", dict := none, data := .set #[] 0 (.fresh 0 0 (!w.params.followText "set-order")) } : Obj)).push { cls := .type "list_iterator", data := .fields #[.ref l, .int 0 0] }).get? s.heap.objs.size = some ({ cls := .type "set", dict := none, data := .set #[] 0 (.fresh 0 0 (!w.params.followText "set-order")) } : Obj) := Heap.get?_push_of_some _ new
  refine set_update_ints ((Walks.list calm3 _ l far its).toS) s.heap.objs.size off ns size room val (its.size - 0) 0 _ (by omega) (Nat.zero_le _) ⟨⟨_, Heap.get?_push_size _ rfl, rfl, rfl⟩, at2.push _⟩ ⟨0, Nat.le_refl 0, setR_new_at z⟩ fun s3 c mv le got => ?_
  rw [size] at le
  obtain ⟨h3, g3, d3, t3, o3⟩ := s3
  obtain rfl : g3 = s.gens := mv.gens
  obtain rfl : d3 = s.drawn := mv.drawn
  obtain rfl : o3 = s.os := mv.os
  refine (show wpAny _ _ _ _ _ _ from wpAny_pure (K0 h3 t3 ⟨c, got, le⟩ fun b o e => ?_))
  have hb := Heap.lt_size e
  refine mv.heap b o ?_ (Heap.get?_push_of_some _ (Heap.get?_push_of_some _ e))
  simp only [List.mem_cons, List.not_mem_nil, or_false, not_or, sz]
  exact ⟨Nat.ne_of_lt hb, Nat.ne_of_lt (Nat.lt_succ_of_lt hb)⟩
end
section
variable [CN] {X : Cx} {a : Expr} {ta : TE} {p p2 q pos : Pos} {x y : Str}
theorem strs_are : ∀ {ns : List Str} {us : List Value}, Vals (ns.map V.str) us → StrsAre us ns
  | [], _, .nil => .nil
  | n :: ns, _, .cons r t => by
    obtain ⟨k, rfl⟩ := r
    exact .cons n k (strs_are t)
theorem ints_are : ∀ {ns : List Int} {us : List Value}, Vals (ns.map V.int) us → IntsAre us ns
  | [], _, .nil => .nil
  | n :: ns, _, .cons r t => by
    obtain ⟨k, rfl⟩ := r
    exact .cons n k (ints_are t)
theorem insI_mem {x k : Int} : ∀ {l : List Int}, k ∈ insI x l ↔ k = x ∨ k ∈ l
  | [] => by simp [insI]
  | y :: r => by
    unfold insI
    split
    · simp
    · split
      · rename_i h
        subst h
        simp
      · simp only [List.mem_cons, insI_mem (l := r)]
        constructor
        · rintro (h | h | h) <;> simp [h]
        · rintro (h | h | h) <;> simp [h]
theorem insI_asc {x : Int} : ∀ {l : List Int}, l.Pairwise (· < ·) → (insI x l).Pairwise (· < ·)
  | [], _ => by simp [insI]
  | y :: r, h => by
    obtain ⟨h1, h2⟩ := List.pairwise_cons.mp h
    unfold insI
    split
    · rename_i c
      refine List.pairwise_cons.mpr ⟨fun z hz => ?_, h⟩
      rcases List.mem_cons.mp hz with rfl | hz
      · exact c
      · have := h1 z hz; omega
    · split
      · exact h
      · refine List.pairwise_cons.mpr ⟨fun z hz => ?_, insI_asc h2⟩
        rcases insI_mem.mp hz with rfl | hz
        · omega
        · exact h1 z hz
theorem asc_mem {k : Int} : ∀ {l : List Int}, k ∈ asc l ↔ k ∈ l
  | [] => by simp [asc]
  | y :: r => by
    show k ∈ insI y (asc r) ↔ _
    rw [insI_mem, asc_mem, List.mem_cons]
theorem asc_asc : ∀ l : List Int, (asc l).Pairwise (· < ·)
  | [] => List.Pairwise.nil
  | y :: r => insI_asc (asc_asc r)
theorem asc_one : ∀ {l m : List Int}, l.Pairwise (· < ·) → m.Pairwise (· < ·) → (∀ k, k ∈ l ↔ k ∈ m) → l = m
  | [], [], _, _, _ => rfl
  | [], y :: m, _, _, h => by have := (h y).mpr (by simp); cases this
  | x :: l, [], _, _, h => by have := (h x).mp (by simp); cases this
  | x :: l, y :: m, h1, h2, h => by
    obtain ⟨a1, a2⟩ := List.pairwise_cons.mp h1
    obtain ⟨b1, b2⟩ := List.pairwise_cons.mp h2
    have e : x = y := by
      rcases List.mem_cons.mp ((h x).mp (by simp)) with e | e
      · exact e
      · rcases List.mem_cons.mp ((h y).mpr (by simp)) with e' | e'
        · exact e'.symm
        · have := a1 y e'; have := b1 x e; omega
    subst e
    rw [asc_one a2 b2 fun k => ?_]
    constructor
    · intro hk
      rcases List.mem_cons.mp ((h k).mp (List.mem_cons_of_mem _ hk)) with e | e
      · subst e; have := a1 k hk; omega
      · exact e
    · intro hk
      rcases List.mem_cons.mp ((h k).mpr (List.mem_cons_of_mem _ hk)) with e | e
      · subst e; have := b1 k hk; omega
      · exact e
theorem insI_len {x : Int} : ∀ l : List Int, (insI x l).length ≤ l.length + 1
  | [] => by simp [insI]
  | y :: r => by
    unfold insI
    split
    · simp
    · split
      · simp
      · have := insI_len (x := x) r
        simp only [List.length_cons]
        omega
theorem asc_len : ∀ l : List Int, (asc l).length ≤ l.length
  | [] => by simp [asc]
  | y :: r => by
    have h1 := asc_len r
    have h2 := insI_len (x := y) (asc r)
    show (insI y (asc r)).length ≤ _
    rw [List.length_cons]
    omega
def tLens (K : PySem.W.Frag) (ta : TE) : TE := fun σ H Q => ta σ H fun v H1 => ∃ (l : Addr) (ns : List Str), v = .ref l ∧ (SqL K H1 l (ns.map V.str) ∨ SqT K H1 l (ns.map V.str)) ∧ ns.length ≤ 4000 ∧ Q (.int ((dedS ns).length : Nat)) H1
theorem pe_lens (calm : X.calm = true) (g1 : Gl X x) (m1 : X.mg x = none) (b1 : bootBuiltins x = some (.builtin "len")) (n1 : x ≠ "__name__") (d1 : (x == ("__debug__" : Str)) = false)
    (g2 : Gl X y) (m2 : X.mg y = none) (b2 : bootBuiltins y = some (.type "set")) (n2 : y ≠ "__name__") (d2 : (y == ("__debug__" : Str)) = false) (hp : pl a = true) (ha : PE X a ta) :
    PE X (.Call (.Name x p) [.Call (.Name y p2) [a] [] q] [] pos) (tLens X.K ta) := by
  constructor
  intro pins s σ H Q I hq
  refine PyProof.Rows.Call_ (ld_blt I g1 m1 b1 (PyProof.Rows.callWith_builtin1 (PyProof.Rows.args_cons ?_ rfl) rfl rfl) n1 d1)
  refine PyProof.Rows.Call_ (ld_blt I g2 m2 b2 (PyProof.Rows.callWith_type1 (PyProof.Rows.args_cons (thn (ha.run pins s σ H _ I hq) fun v s1 ⟨z, H1, I1, r1, l, ns, e, hs, hz, q1⟩ => PyProof.Rows.args_nil ?_) (star_pl hp [] X.env)) (star_pl hp [] X.env) rfl) n2 d2)
  subst e
  cases r1
  have room : ns.length + 1 < scanBound := by unfold scanBound; omega
  have last : ∀ (h' : Heap) (tk : Nat), h'.SetOf (PySem.strKind X.prog X.w) s1.heap.objs.size (fun k => decide (k ∈ dedS ns)) (dedS ns).length → (∀ b o, s1.heap.get? b = some o → h'.get? b = some o) →
      wpAny (model X.prog X.w) X.A (spliced (backTo pos (starEach [] X.env))) (fun vs s₂ => wpAny (model X.prog X.w) X.A (call (.builtin "len") (Value.ref s1.heap.objs.size :: vs)) (EP X pins σ Q) X.xe s₂) X.xe { s1 with heap := h', toks := tk } := fun h' tk hS hk => by
    refine PyProof.Rows.args_nil ?_
    obtain ⟨o, es, ep, t, ho, hex, hd, _, _, _, hf, hn⟩ := hS
    have I2 : L2.Inv X pins σ H1 { s1 with heap := h', toks := tk } := I1.kept hk
    have h1 : (dedS ns).length ≤ ns.length := by have := dedS_len ns []; simpa [dedS] using this
    exact call_len_set ho hex hd hf (by rw [hn]; omega) ⟨.int ((dedS ns).length : Nat), H1, I2.tok _, ⟨_, by rw [hn]⟩, q1⟩
  rcases hs with hs | hs
  · obtain ⟨its, r, pl, hz⟩ := I1.list hs
    exact set_lstS ns (I1.ok.hd calm) pl.isList (by simpa using strs_are r) room last
  · obtain ⟨its, r, pl, hz⟩ := I1.tuple hs
    exact set_tupS ns (I1.ok.hd calm) pl (by simpa using strs_are r) room last
def tSrts (K : PySem.W.Frag) (ta : TE) : TE := fun σ H Q => ta σ H fun v H1 => ∃ (l : Addr) (ns : List Int), v = .ref l ∧ SqL K H1 l (ns.map V.int) ∧ ns.length < 63 ∧ ∀ p, H1 p = none → Q (.ref p) (upd H1 p (.lst ((asc ns).map V.int)))
theorem pe_srts (calm : X.calm = true) (g1 : Gl X x) (m1 : X.mg x = none) (b1 : bootBuiltins x = some (.builtin "sorted")) (n1 : x ≠ "__name__") (d1 : (x == ("__debug__" : Str)) = false)
    (g2 : Gl X y) (m2 : X.mg y = none) (b2 : bootBuiltins y = some (.type "set")) (n2 : y ≠ "__name__") (d2 : (y == ("__debug__" : Str)) = false) (hp : pl a = true) (ha : PE X a ta) :
    PE X (.Call (.Name x p) [.Call (.Name y p2) [a] [] q] [] pos) (tSrts X.K ta) := by
  constructor
  intro pins s σ H Q I hq
  refine PyProof.Rows.Call_ (ld_blt I g1 m1 b1 (PyProof.Rows.callWith_builtin1 (PyProof.Rows.args_cons ?_ rfl) rfl rfl) n1 d1)
  refine PyProof.Rows.Call_ (ld_blt I g2 m2 b2 (PyProof.Rows.callWith_type1 (PyProof.Rows.args_cons (thn (ha.run pins s σ H _ I hq) fun v s1 ⟨z, H1, I1, r1, l, ns, e, hs, hz, q1⟩ => PyProof.Rows.args_nil ?_) (star_pl hp [] X.env)) (star_pl hp [] X.env) rfl) n2 d2)
  subst e
  cases r1
  have room : ns.length + 1 < scanBound := by unfold scanBound; omega
  obtain ⟨its, r, pl, hz2⟩ := I1.list hs
  refine set_lstI ns (I1.ok.hd calm) pl.isList (by simpa using ints_are r) room fun h' tk ⟨c, hS, hc⟩ hk => PyProof.Rows.args_nil ?_
  have I2 : L2.Inv X pins σ H1 { s1 with heap := h', toks := tk } := I1.kept hk
  refine sorted_set (s := { s1 with heap := h', toks := tk }) hS (I1.ok.hd calm) (by omega) fun s3 p out n is k g o hp3 hg hi hs3 hm hl => ?_
  have eq : is = asc ns := asc_one hs3 (asc_asc ns) fun j => by rw [hm j, asc_mem]; simp
  subst eq
  have hn : H1 p = none := I2.hok.fresh hp3
  have J : L2.Inv X pins σ (upd H1 p (.lst ((asc ns).map V.int))) { ({ s1 with heap := h', toks := tk } : Shared) with heap := s3.heap, gens := s3.gens, drawn := s3.drawn, toks := s3.toks } :=
    I2.call (ch := []) (Un.laid k hp3 hn) (I2.hok.laid k hp3 ⟨by rw [List.length_map, hl, sizeLine_eq]; omega, out.toList, n, vals_of_ints hi, hg⟩) (by rw [g]; exact I2.bare) (fun _ z => nomatch z)
  have e : s3 = { s1 with heap := s3.heap, gens := s3.gens, drawn := s3.drawn, toks := s3.toks } := by
    cases s3
    cases s1
    cases o
    rfl
  rw [e]
  exact ⟨.ref p, _, J, rfl, q1 p hn⟩
end
section
variable [CN] {g : Tab} {N : List Str} {p : Pm} {X : Cx} {sc : Scope}
theorem ints_repL {H : Hp} {F : AS} : ∀ l : List Int, RepL H F (l.map D.int) (l.map V.int) nos
  | [] => RepL.nil
  | x :: l => RepL.cons rfl (ints_repL l)
theorem vals_strT {H : Hp} {F S : AS} : ∀ {ns : List Str} {vs : List V}, RepL H F (ns.map D.str) vs S → vs = ns.map V.str
  | [], vs, h => by rw [show vs = [] from h]; rfl
  | n :: ns, vs, h => by
    obtain ⟨v, r, S1, S2, rfl, h1, h2, dj, s1, s2⟩ := h
    obtain ⟨rfl, ok⟩ := h1
    rw [vals_strT h2]
    rfl
theorem snd_st1 {f : S1} {a : E} (ia : SE g N p.C p.XR a) {A : Expr} (G : Gd g N p X sc) (h : chk g N sc (.st1 f a) A = true) :
    PE X A (tE p (.st1 f a)) ∧ PT X A (tT p (.st1 f a)) ∧ (isBO A = true → PW X A (tT p (.st1 f a))) := by
  cases A with
  | Call fn as kws pos =>
    unfold chk at h
    split at h
    · rename_i heq
      cases heq
      rename_i x p0 y p1 z p2
      simp only [Bool.and_eq_true, decide_eq_true_eq] at h
      obtain ⟨rfl, h1, h2, rfl, h3, h4, h5, h6⟩ := h
      obtain ⟨g1, g2, g3, g4⟩ := free_ok G h1 h2
      obtain ⟨f1, f2, f3, f4⟩ := free_ok G h3 h4
      have i1 := (ia p.Wx X sc z G h6).1
      cases f with
      | len =>
        refine se_plain (pe_weak (pe_lens G.calm g1 g2 boot_len g4 g3 f1 f2 boot_set f4 f3 h5 i1) fun σ H Q ⟨F, S, e, rd, q⟩ => ⟨F, S, e, rd, ?_⟩) (fun _ => rfl) rfl
        simp only [ev] at q
        refine vp_bind q fun d e' _ q v H' F' S1 S2 k => ?_
        cases hf : st1D .len d with
        | none => rw [hf] at q; exact q.elim
        | some r =>
          rw [hf] at q
          have out := Out.of (p := p) (vb := true) (sb := smp a) (d := r) rd.fd k.t q
          cases d with
          | lst o ds =>
            obtain ⟨ns, hn, hr⟩ := Option.bind_eq_some_iff.mp hf
            obtain ⟨b, vs, rfl, z, l, r'⟩ := k.rep.lst_inv
            split at hr
            · rename_i hle
              cases hr
              rw [strsOf_eq hn] at l
              rw [(vals_strs l).1] at r'
              exact ⟨b, ns, rfl, .inl (.inl r'), hle, out _ rfl⟩
            · cases hr
          | tup ds =>
            obtain ⟨ns, hn, hr⟩ := Option.bind_eq_some_iff.mp hf
            obtain ⟨b, vs, rfl, z, l, r'⟩ := k.rep.tup_inv
            split at hr
            · rename_i hle
              cases hr
              rw [strsOf_eq hn] at l
              rw [vals_strT l] at r'
              exact ⟨b, ns, rfl, .inr (.inl r'), hle, out _ rfl⟩
            · cases hr
          | _ => cases hf
      | srt =>
        refine se_plain (pe_weak (pe_srts G.calm g1 g2 PyProof.Rows.boot_sorted g4 g3 f1 f2 boot_set f4 f3 h5 i1) fun σ H Q ⟨F, S, e, rd, q⟩ => ⟨F, S, e, rd, ?_⟩) (fun _ => rfl) rfl
        simp only [ev] at q
        refine vp_bind q fun d e' _ q v H' F' S1 S2 k => ?_
        cases hf : st1D .srt d with
        | none => rw [hf] at q; exact q.elim
        | some r =>
          rw [hf] at q
          have out := Out.of (p := p) (vb := true) (sb := smp a) (d := r) rd.fd k.t q
          cases d with
          | lst o ds =>
            obtain ⟨ns, hn, hr⟩ := Option.bind_eq_some_iff.mp hf
            obtain ⟨b, vs, rfl, z, l, r'⟩ := k.rep.lst_inv
            split at hr
            · rename_i hle
              cases hr
              rw [ints_rep l hn] at r'
              refine ⟨b, ns, rfl, .inl r', hle, fun q' hq => out q' _ hq (ints_repL _) ?_⟩
              have hl := asc_len ns
              rw [List.length_map, sizeLine_eq]
              omega
            · cases hr
          | _ => cases hf
    · exact absurd h Bool.false_ne_true
  | _ => exact absurd h Bool.false_ne_true
end
end Vm
namespace Vm
open PySem PySem.Spec PyProof.Rows L2
section
variable [CN] {X : Cx}
def rRpr (K : PySem.W.Frag) : List V → Hp → VK → Prop := fun xs H Q => (xs = [.non] ∧ Q (.str "None") H) ∨
  ∃ (l : Addr) (d : PyData), xs = [.ref l] ∧ Dp K H (.ref l) d ∧ d.hasDict = false ∧ d.showable = true ∧ d.depth ≤ 64 ∧ d.shown.length ≤ sizeLine ∧ Q (.str d.shown) H
theorem call_rpr (hg : X.A.guards = some []) (hu : X.A.units + 200 < cLine) : CallR X (.builtin "repr") (rRpr X.K) := by
  intro pins s σ H xs us Q I rx h
  rcases h with ⟨rfl, q⟩ | ⟨l, d, rfl, dp, hd, hs, hdp, hz, q⟩
  · cases rx with
    | cons r t =>
      cases t
      cases r
      refine call_repr_gives (typeIs_none s) PySem.F.slot_NoneType_repr PySem.F.entry_NoneType_repr (PySem.F.args_NoneType_repr_1 _) gives_none_repr ?_
      exact ⟨.str "None", H, I.tok _, ⟨_, rfl⟩, q⟩
  · rw [Vals.ref1 rx]
    obtain ⟨as, r⟩ := Dp.reads I d (.ref l) (.ref l) dp rfl
    refine repr_of_reads' r hs (PyData.noDict_hsm hd) hg (by omega) (fun _ _ e => e) (fun h' u tk hk => ?_) hz
    exact ⟨.str d.shown, H, I.kept hk, ⟨u, rfl⟩, q⟩
variable {g : Tab} {N : List Str} {p : Pm} {sc : Scope}
theorem rpr_some {d r : D} (h : rprD d = some r) : (d = .non ∧ r = .str "None") ∨ (((∃ o ds, d = .lst o ds) ∨ ∃ ds, d = .tup ds) ∧ shal 8 d = true ∧ (toPy d).showable = true ∧ PyData.strOk (toPy d).shown = true ∧ (toPy d).shown.length ≤ 1000000 ∧ r = .str (toPy d).shown) := by
  unfold rprD at h
  split at h
  · cases h
    exact .inl ⟨rfl, rfl⟩
  · rename_i o ds
    split at h
    · rename_i hc
      cases h
      simp only [Bool.and_eq_true, decide_eq_true_eq] at hc
      exact .inr ⟨.inl ⟨o, ds, rfl⟩, hc.1, hc.2.1, hc.2.2.1, hc.2.2.2, rfl⟩
    · cases h
  · rename_i ds
    split at h
    · rename_i hc
      cases h
      simp only [Bool.and_eq_true, decide_eq_true_eq] at hc
      exact .inr ⟨.inr ⟨ds, rfl⟩, hc.1, hc.2.1, hc.2.2.1, hc.2.2.2, rfl⟩
    · cases h
  · cases h
theorem snd_rpr {a : E} (ia : SE g N p.C p.XR a) {A : Expr} (G : Gd g N p X sc) (h : chk g N sc (.rpr a) A = true) :
    PE X A (tE p (.rpr a)) ∧ PT X A (tT p (.rpr a)) ∧ (isBO A = true → PW X A (tT p (.rpr a))) := by
  cases A with
  | Call fn xs kws pos =>
    unfold chk at h
    split at h
    · rename_i heq
      cases heq
      rename_i x p0 y
      simp only [Bool.and_eq_true, decide_eq_true_eq] at h
      obtain ⟨rfl, h1, h2, hb, hp, hy⟩ := h
      obtain ⟨g1, g2, g3, g4⟩ := free_ok G h1 h2
      have i1 := (ia p.Wx X sc y G hy).1
      have pa := pa_cons i1 pa_nil (star_pl hp [] X.env)
      have hs := star_pl hp [] X.env
      have rd : ∀ σ H Q, tE p (.rpr a) σ H Q → tCB (rRpr X.K) (tCons (tE p a) tNil) σ H Q := fun σ H Q ⟨F, S, e, rd, q⟩ => by
        refine ⟨F, S, e, rd, ?_⟩
        simp only [ev] at q
        refine vp_bind q fun d e' _ q v H' F' S1 S2 k => ?_
        cases ho : rprD d with
        | none => rw [ho] at q; exact q.elim
        | some r =>
          rw [ho] at q
          have out := Out.of (p := p) (vb := true) (sb := smp a) (d := r) rd.fd k.t q
          rcases rpr_some ho with ⟨rfl, rfl⟩ | ⟨hd, c1, c2, c3, c4, rfl⟩
          · have hv : v = .non := k.rep
            subst hv
            exact .inl ⟨rfl, out _ ⟨rfl, by decide +kernel, by decide +kernel⟩⟩
          · obtain ⟨l, rfl⟩ : ∃ l, v = .ref l := by
              rcases hd with ⟨o, ds, rfl⟩ | ⟨ds, rfl⟩
              · obtain ⟨b, vs, rfl, _⟩ := k.rep.lst_inv
                exact ⟨b, rfl⟩
              · obtain ⟨b, vs, rfl, _⟩ := k.rep.tup_inv
                exact ⟨b, rfl⟩
            have hl := Rep.lay _ _ _ _ c1 k.rep
            have hz : (toPy d).shown.length ≤ sizeLine := Nat.le_trans c4 (by decide)
            exact .inr ⟨l, toPy d, rfl, Rep.dp _ _ _ _ c1 k.rep, PyData.hasDict_of_canLay _ hl, c2, Nat.le_trans (shal_depth _ _ c1) (by decide), hz, out _ ⟨rfl, c3, hz⟩⟩
      refine se_plain (pe_weak ?_ rd) (fun _ => rfl) rfl
      exact pe_callB (call_rpr (G.rep hb) G.un) g1 g2 PyProof.Rows.boot_repr pa g4 g3 hs (hpl_nil _ _)
    · exact absurd h Bool.false_ne_true
  | _ => exact absurd h Bool.false_ne_true
end
end Vm
namespace Vm
open PySem PySem.Spec PyProof.Rows L2
def Itdn (hi : Int) (n : Nat) : It := ⟨fun i _ => i < n, fun i H x H' => H' = H ∧ x = .int (hi - i), fun i _ => n ≤ i⟩
theorem turn_down {P : Program} {w : World} {K : PySem.W.Frag} {tg : Expr} (it : Addr) (hi : Int) (n : Nat) : Turn P w K tg (Itdn hi n) [it] it (fun i h => IsRangeIter h it (hi + (i : Nat) * (-1)) ((n : Int) - (i : Nat)) (-1)) where
  mem := by simp
  obj := fun i h st b hb => by
    obtain rfl : b = it := by simpa using hb
    exact ⟨_, st, fun v z => by
      have z : Data.fields _ = Data.cell v := z
      cases z⟩
  keep := fun i h h' st k => k it (by simp) _ st
  item := by
    intro X hP hw hK hc i pins s σ H E I hf st hg
    subst hP hw hK
    obtain ⟨f0, f1, f2, f3, f4, f5⟩ := hf it (by simp)
    refine (Walks.range (prog := X.prog) (w := X.w) (I.ok.hd hc) it hi (-1) n).item i s _ _ hg st fun v h' tk hv st' kk => ?_
    obtain ⟨t, rfl⟩ := hv
    have J : L2.Inv X pins σ H { s with heap := h', toks := tk } := I.turned (fun b o hb e => kk b o (by simpa using hb) e) f0 f1 f3 f4 f5
    refine ⟨_, rfl, go_of (s := { s with heap := h', toks := tk }) (n := "range_iterator") st' rfl rfl (by decide) ⟨.int (hi - i), H, J, ⟨t, ?_⟩, ⟨rfl, rfl⟩, st', fun b hb => (hf b hb).1⟩⟩
    have e : hi + (i : Int) * -1 = hi - (i : Int) := by omega
    rw [e]
  done := by
    intro X hP hw hK hc i pins s σ H E I hf st hg
    subst hP hw hK
    obtain ⟨f0, f1, f2, f3, f4, f5⟩ := hf it (by simp)
    have hg : n ≤ i := hg
    exact wpAny_pyNext_range_end (I.ok.hd hc) st (by omega) fun h' eb => ⟨rfl, I.turned (t' := s.toks) (fun b o hb e => eb b o hb e) f0 f1 f3 f4 f5⟩
  self := fun _ _ _ _ _ st h => wpAny_pyIter_rangeiter st h
theorem size_down (a b : Int) : Builtin.Range.rangeSize a b (-1) = if a > b then a - b else 0 := by
  unfold Builtin.Range.rangeSize
  rw [if_neg (by decide)]
  by_cases h : a > b
  · rw [if_pos h, if_pos h, show -(-1 : Int) = 1 from rfl, Int.ediv_one]
    omega
  · rw [if_neg h, if_neg h]
theorem small_down {a b : Int} (ha : -(2 ^ 61) ≤ a) (ha' : a < 2 ^ 61) (hb : -(2 ^ 61) ≤ b) (hb' : b < 2 ^ 61) : Builtin.Range.small a b (-1) = true := by
  unfold Builtin.Range.small
  rw [size_down]
  simp only [Builtin.Range.rangeFitsLong, Bool.and_eq_true, Bool.or_eq_true, decide_eq_true_eq, beq_iff_eq, show ¬ ((-1 : Int) > 0) by decide, if_false]
  split <;> omega
section
variable {X : Cx} {tg : Expr}
def iRng3 (ta : TA) : TI := fun σ H R => ta σ H fun vs H1 => ∃ i j : Int, vs = [.int i, .int j, .int (-1)] ∧ (-(2 ^ 60) ≤ i ∧ i ≤ 2 ^ 60 ∧ -(2 ^ 60) ≤ j ∧ j ≤ 2 ^ 60) ∧ R (Itdn i (i - j).toNat) H1
theorem pi_range3 {a b c : Expr} {ta : TA} {p pos : Pos} (hg : Gl X "range") (hm : X.mg "range" = none) (ha : PA X [a, b, c] ta) (h1 : starEach [a, b, c] X.env = (false, eval a X.env) :: starEach [b, c] X.env) (h2 : starEach [b, c] X.env = [(false, eval b X.env), (false, eval c X.env)]) :
    PI X tg (.Call (.Name "range" p) [a, b, c] [] pos) (iRng3 ta) := by
  refine ⟨fun pins s σ H R I h => ?_⟩
  refine Call_ (ld_blt I hg hm boot_range (PyProof.Rows.callWith_type1 (thn (ha.run pos pins s σ H _ I h) fun us s1 ⟨vs, H1, I1, r1, q1⟩ => ?_) h1 (by rw [h2]; rfl)))
  obtain ⟨i, j, e, ⟨q1, q2, q3, q4⟩, q⟩ := q1
  subst e
  cases r1 with
  | cons r rr =>
    cases rr with
    | cons r' rr =>
      cases rr with
      | cons r'' rr =>
        cases rr
        obtain ⟨t, rfl⟩ := r
        obtain ⟨u, rfl⟩ := r'
        obtain ⟨v, rfl⟩ := r''
        refine call_range_3 (by decide) ?_ (Or.inl (PyProof.noPylong_small (by omega)))
        refine wpAny_pyIter_range (IsRange.new ..) (small_down (by omega) (by omega) (by omega) (by omega)) ?_
        have J : L2.Inv X pins σ H1 { s1 with heap := s1.heap.push { cls := .type "range", data := .fields #[.int i t, .int j u, .int (-1) v] } } := I1.kept fun b o e => Heap.get?_push_of_some _ e
        refine ⟨(s1.heap.push { cls := .type "range", data := .fields #[.int i t, .int j u, .int (-1) v] }).objs.size, [(s1.heap.push { cls := .type "range", data := .fields #[.int i t, .int j u, .int (-1) v] }).objs.size], _, _, H1, rfl, J.kept (t' := s1.toks) fun b o e => Heap.get?_push_of_some _ e, turn_down _ i (i - j).toNat, ?_, fun b hb => ?_, q⟩
        · have e1 : i + ((0 : Nat) : Int) * (-1) = i := by simp
          have e2 : (((i - j).toNat : Nat) : Int) - ((0 : Nat) : Int) = Builtin.Range.rangeSize i j (-1) := by rw [size_down]; split <;> omega
          show IsRangeIter _ _ (i + ((0 : Nat) : Int) * (-1)) ((((i - j).toNat : Nat) : Int) - ((0 : Nat) : Int)) (-1)
          rw [e1, e2]
          exact Heap.get?_push_size _ rfl
        · obtain rfl : b = (s1.heap.push { cls := .type "range", data := .fields #[.int i t, .int j u, .int (-1) v] }).objs.size := by simpa using hb
          exact J.fpOk (Nat.le_refl _) (J.hok.fresh (Nat.le_refl _))
end
end Vm
namespace Vm
open PySem PySem.Spec PyProof.Rows L2
section
variable [CN] {g : Tab} {N : List Str} {p : Pm} {X : Cx} {sc : Scope}
theorem hits_D {pins : List (Addr × Obj)} {σ : Sl} {H : Hp} {s : Shared} (I : Inv X pins σ H s) {F S T : AS} {A : Around} (hu : A.units + 64 < cLine) {ls : List (L2.Key × V)} {vb : List (L2.Key × Value)} {ws : List D} (rb : KV ls vb) (hb : RepL H F ws (ls.map (·.2)) T) (sb : ∀ d ∈ ws, shal 6 d = true) :
    ∀ {ks : List (L2.Key × V)} {va : List (L2.Key × Value)} {ds : List D}, KV ks va → RepL H F ds (ks.map (·.2)) S → (∀ d ∈ ds, shal 6 d = true) →
    PySem.W.KeqHitsP X.prog X.w A s vb va (((ks.map fun p => kD p.1).zip ds).all fun p => match look p.1 (ls.map fun p => kD p.1) ws with
      | some w => eqD p.2 w
      | none => false) := by
  intro ks
  induction ks with
  | nil =>
    intro va ds ra hd sd
    cases ra
    exact .nil
  | cons k ks ih =>
    intro va ds ra hd sd
    cases ra with
    | @cons _ q _ qs h t =>
      obtain ⟨h1, h2⟩ := h
      obtain ⟨key, v⟩ := q
      have h1' : k.1 = key := h1
      cases ds with
      | nil => cases (show (k :: ks).map (·.2) = [] from hd)
      | cons d ds =>
        obtain ⟨x, r, S1, S2, e, hd1, hd2, dj, s1, s2⟩ := hd
        cases e
        have rest := ih t (hd2.mono _ _ _ _ s2) fun d' hd' => sd d' (List.mem_cons_of_mem _ hd')
        have lk := look_rep k.1 hb
        rw [List.map_cons, List.zip_cons_cons, List.all_cons]
        show PySem.W.KeqHitsP X.prog X.w A s vb ((key, v) :: qs) ((match look (kD k.1) (ls.map fun p => kD p.1) ws with
          | some w => eqD d w
          | none => false) && _)
        cases hlk : look (kD k.1) (ls.map fun p => kD p.1) ws with
        | none =>
          rw [hlk] at lk
          have hn : valueAt vb key = none := by
            have := rb.val k.1
            rw [lk, h1'] at this
            cases hv : valueAt vb key with
            | none => rfl
            | some u => rw [hv] at this; exact this.elim
          simp only [Bool.false_and]
          exact .miss hn
        | some w =>
          rw [hlk] at lk
          obtain ⟨y, hy, ry⟩ := lk
          have rr : RelO (some y) (valueAt vb key) := by rw [← hy, ← h1']; exact rb.val k.1
          obtain ⟨u, hu', ru⟩ := rr.some_of
          have hw : w ∈ ws := by
            clear rest ih rr hu' ru ry hy sd hd1
            generalize (ls.map fun p => kD p.1) = kk at hlk
            clear hb rb
            induction kk generalizing ws with
            | nil => cases ws <;> cases hlk
            | cons k0 kk ih2 =>
              cases ws with
              | nil => cases hlk
              | cons w0 ws =>
                rw [look] at hlk
                split at hlk
                · cases hlk; exact List.mem_cons_self
                · exact List.mem_cons_of_mem _ (ih2 (fun d hd => sb d (List.mem_cons_of_mem _ hd)) hlk)
          have sd1 := sd d List.mem_cons_self
          have sw1 := sb w hw
          obtain ⟨as, r1⟩ := Dp.reads I (toPy d) k.2 v (Rep.dp d k.2 S1 6 sd1 hd1) h2
          obtain ⟨bs, r2⟩ := Dp.reads I (toPy w) y u (Rep.dp w y T 6 sw1 ry) ru
          have hde := shal_depth d 6 sd1
          have he := SeqAt.eqAt_reads (toPy d) (toPy w) A s v u as bs r1 r2 (Rep.lay d k.2 S1 6 sd1 hd1) (Rep.lay w y T 6 sw1 ry) (by omega)
          rw [eqv_toPy d w 6 sd1] at he
          exact .hit hu' he.eqP rest
theorem opD_eqd (hu : X.A.units + 200 < cLine) : OpR X (compareOp .Eq) (rD2 deqD) := by
  intro pins s σ H x y v u Q I rx ry h
  obtain ⟨F, a, b, S1, S2, d, ra, rb, e, out⟩ := h
  cases a <;> (first | (cases e; done) | skip)
  cases b <;> (first | (cases e; done) | skip)
  · rename_i o ks vs o' ks' vs'
    simp only [deqD] at e
    split at e
    · rename_i hc
      simp only [Bool.and_eq_true, List.all_eq_true] at hc
      cases e
      obtain ⟨p1, kvs, rfl, z, l, r, rfl, ok⟩ := ra.dct_inv
      obtain ⟨p2, kvs2, rfl, z2, l2, r2, rfl, ok2⟩ := rb.dct_inv
      cases rx
      cases ry
      obtain ⟨_, hs1, va, ka, da⟩ := dk_of I.hok r
      obtain ⟨_, hs2, vb, kb, db⟩ := dk_of I.hok r2
      show wpAny (model X.prog X.w) X.A (richCompare .Eq (.ref p1) (.ref p2)) (EP X pins σ Q) X.xe s
      refine PySem.W.rcP_dicts hs1 hs2 da db (by omega) (fun _ => hits_D I (by show X.A.units + 1 + 64 < cLine; omega) kb l2 hc.2 ka l hc.1) X.xe (EP X pins σ Q) ?_
      refine ⟨.bl _, H, I, rfl, ?_⟩
      have q := out _ rfl
      rw [List.length_map, List.length_map] at q
      rw [← ka.length, ← kb.length]
      have e : (kvs.length == kvs2.length) = decide (kvs.length = kvs2.length) := by
        by_cases c : kvs.length = kvs2.length <;> simp [c]
      rw [e]
      exact q
    · cases e
theorem snd_eqd {a b : E} (ia : SE g N p.C p.XR a) (ib : SE g N p.C p.XR b) {A : Expr} (G : Gd g N p X sc) (h : chk g N sc (.eqd a b) A = true) :
    PE X A (tE p (.eqd a b)) ∧ PT X A (tT p (.eqd a b)) ∧ (isBO A = true → PW X A (tT p (.eqd a b))) := by
  cases A with
  | Compare x ops cs pos =>
    unfold chk at h
    split at h
    · rename_i heq
      cases heq
      simp only [Bool.and_eq_true, Bool.or_eq_true] at h
      obtain ⟨hp, hm, hx, hy⟩ := h
      have i1 := (ia p.Wx X sc _ G hx).1
      have i2 := (ib p.Wx X sc _ G hy).1
      have rd : ∀ σ H Q, tE p (.eqd a b) σ H Q → tOp (rD2 deqD) (tE p a) (tE p b) σ H Q := two_rd (f := deqD) (fun z => z) hm rfl rfl fun e => rfl
      exact se_test (pe_weak (pe_cmpR (opD_eqd G.un) i1 i2 (mark_pl hp _)) rd) (pt_weak (pt_cmpR (opD_eqd G.un) i1 i2 (mark_pl hp _)) (tt_of rd)) rfl
    · exact absurd h Bool.false_ne_true
  | _ => exact absurd h Bool.false_ne_true
/-! ### isinstance -/
theorem snd_isc {c : Str} {a : E} (ia : SE g N p.C p.XR a) {A : Expr} (G : Gd g N p X sc) (h : chk g N sc (.isc c a) A = true) :
    PE X A (tE p (.isc c a)) ∧ PT X A (tT p (.isc c a)) ∧ (isBO A = true → PW X A (tT p (.isc c a))) := by
  cases A with
  | Call fn xs kws pos =>
    unfold chk at h
    split at h
    · rename_i heq
      cases heq
      rename_i x p0 y z pz
      simp only [Bool.and_eq_true, decide_eq_true_eq] at h
      obtain ⟨rfl, h1, h2, hp, rfl, hz, hc, hy⟩ := h
      obtain ⟨g1, g2, g3, g4⟩ := free_ok G h1 h2
      obtain ⟨e1, e2, e3⟩ := okGl_ok G hz
      obtain ⟨k1, k2, k3⟩ := G.isi _ (List.contains_iff_mem.mp hc)
      have i1 := (ia p.Wx X sc y G hy).1
      have j1 := pe_glob (pos := pz) (v := .ref (CN.cn z)) e1 k1 rfl e2
      refine se_plain (pe_weak (pe_callB call_isi g1 g2 PyProof.Rows.boot_isinstance (pa_cons i1 (pa_cons j1 pa_nil (star_pl rfl [] X.env)) (star_pl hp [_] X.env)) g4 g3 (star_pl hp [_] X.env) (hpl_one rfl _ _)) fun σ H Q ⟨F, S, e, rd, q⟩ => ⟨F, S, e, rd, ?_⟩) (fun _ => rfl) rfl
      simp only [ev] at q
      refine vp_bind q fun d e' _ q v H' F' S1 S2 k => ?_
      cases d with
      | ins o c' fs vs =>
        simp only [iscD] at q
        split at q
        · rename_i hcc
          subst hcc
          obtain ⟨b, us, dx, rfl, hl, rl, hi⟩ := k.rep.ins_inv
          refine ⟨.ref b, _, .ref (CN.cn c'), .ref (CN.cn c'), true, rfl, .own _, .base (.ins hi k2 k3.ha k3.hn k3.htk k3.hm), ?_, q _ H' F' nos S2 (k.t.val rfl)⟩
          unfold PySem.W.kitOne
          rw [if_pos (by simp)]
        · exact q.elim
      | _ => exact q.elim
    · exact absurd h Bool.false_ne_true
  | _ => exact absurd h Bool.false_ne_true
/-! ### == of instances -/
def rEqi (p : Pm) (ds : List (Str × Str)) : R2 := fun x y H Q => ∃ c key, (c, key) ∈ ds ∧ (∃ a dx fs, x = .ref a ∧ H a = some (.ins (CN.cn c) dx fs)) ∧ (∃ b dy gs, y = .ref b ∧ H b = some (.ins (CN.cn c) dy gs)) ∧
  spC p.C p.XR key 2 [x, y] H (fun v H' => (∃ k, v = .bl k) ∧ Q v H') (fun _ _ _ => False)
theorem lookup_mem {ds : List (Str × Str)} {c key : Str} (h : ds.lookup c = some key) : (c, key) ∈ ds := by
  induction ds with
  | nil => cases h
  | cons q ds ih =>
    obtain ⟨c', k'⟩ := q
    rw [List.lookup_cons] at h
    split at h
    · rename_i hb
      cases h
      rw [beq_iff_eq.mp hb]
      exact List.mem_cons_self
    · exact List.mem_cons_of_mem _ (ih h)
theorem snd_eqi {ds : List (Str × Str)} {a b : E} (ia : SE g N p.C p.XR a) (ib : SE g N p.C p.XR b) {A : Expr} (G : Gd g N p X sc) (h : chk g N sc (.eqi ds a b) A = true) :
    PE X A (tE p (.eqi ds a b)) ∧ PT X A (tT p (.eqi ds a b)) ∧ (isBO A = true → PW X A (tT p (.eqi ds a b))) := by
  cases A with
  | Compare x ops cs pos =>
    unfold chk at h
    split at h
    · rename_i heq
      cases heq
      simp only [Bool.and_eq_true] at h
      obtain ⟨hp, ⟨hva, hvb⟩, ⟨_, hds⟩, hx, hy⟩ := h
      have i1 := (ia p.Wx X sc _ G hx).1
      have i2 := (ib p.Wx X sc _ G hy).1
      have opr : OpR X (compareOp .Eq) (rEqi p ds) := by
        intro pins s σ H x y v u Q I rx ry h
        obtain ⟨c, key, hm, ⟨a, dx, fs, rfl, ea⟩, ⟨b, dy, gs, rfl, eb⟩, hs⟩ := h
        cases rx
        cases ry
        have hd := List.all_eq_true.mp hds _ hm
        rw [Bool.and_eq_true, List.any_eq_true] at hd
        obtain ⟨⟨r0, hr0, er0⟩, hf⟩ := hd
        have er0 : r0 = (c, ("__eq__" : Str), key) := of_decide_eq_true er0
        subst er0
        obtain ⟨g1, g2⟩ := G.meth _ _ _ hr0
        obtain ⟨fn, hfn, hnl⟩ : ∃ fn, g.fn' key = some fn ∧ fn.ps.length = 2 := by
          cases hq : g.fn' key with
          | none => rw [hq] at hf; cases hf
          | some fn => rw [hq] at hf; exact ⟨fn, rfl, of_decide_eq_true hf⟩
        obtain ⟨fd, k, hb, F, hr, _⟩ := G.fnk _ _ hfn
        obtain ⟨mA, J, _⟩ := ins_get I.hok ea
        obtain ⟨mB, J', _⟩ := ins_get I.hok eb
        obtain ⟨od, J, _⟩ := J.look
        obtain ⟨od', J', _⟩ := J'.look
        obtain ⟨m, hF⟩ := I.fr
        have un := G.un
        show wpAny (model X.prog X.w) X.A (richCompare .Eq (.ref a) (.ref b)) (EP X pins σ Q) X.xe s
        refine PySem.W.cmp_K (op := .Eq) (tb := .ref (CN.cn c)) (by omega) hF I.ok.mod.kin J J'.type (by simp [PySem.W.notFirst]) g2.at_ g2.fn ?_
        rw [← hnl] at hs
        refine thn (run_fnS (E := fun _ _ _ _ => False) (us := [.ref a, .ref b]) (vs := [.ref a, .ref b]) F (hr.mono (by omega)) hb (fun pins H s e s' I ⟨_, _, _, _, _, _, _, _, _, _, _, _, z⟩ => z.elim) I (.cons rfl (.cons rfl .nil)) hs) fun w s' ⟨z, H', I', rz, ⟨k, ek⟩, q⟩ => ?_
        subst ek
        cases rz
        exact ⟨.bl k, H', I', rfl, q⟩
      have rd : ∀ σ H Q, tE p (.eqi ds a b) σ H Q → tOp (rEqi p ds) (tE p a) (tE p b) σ H Q := fun σ H Q ⟨F, S, e, rd, q⟩ => by
        simp only [ev] at q
        refine ⟨F, S, e, rd, vp_bind q fun d1 e1 _ q v1 H1 F1 S1 S2 a1 => ?_⟩
        have q1 := Vp.pre (sb2 := false) rd.fd a1.t q (fun z => by cases z)
        refine ⟨F1, S2, e1, .of_aft a1, vp_bind q1 fun d2 e2 _ q2 v2 H2 F2 T1 T2 a2 => ?_⟩
        have r1 := a1.keep a2.t (.inl hva)
        cases d1 with
        | ins o c fs vs =>
          cases d2 with
          | ins o' c' fs' vs' =>
            unfold eqA at q2
            cases hk : eqKey ds (.ins o c fs vs) (.ins o' c' fs' vs') with
            | none => rw [hk] at q2; exact q2.elim
            | some key =>
              rw [hk] at q2
              have q2 : Vp p (isV (E.eqi ds a b)) false σ H1 F1 S2 (asBD (callA p.C key [.d (.ins o c fs vs), .d (.ins o' c' fs' vs')] e2)).still Q := q2
              have hk2 : (if c = c' ∧ (D.ins o c fs vs).isF = true ∧ (D.ins o' c' fs' vs').isF = true then ds.lookup c else none) = some key := hk
              clear hk
              split at hk2
              · rename_i hcc
                obtain ⟨rfl, f1, f2⟩ := hcc
                obtain ⟨b1, us, dx, rfl, _, _, hi1⟩ := r1.ins_inv
                obtain ⟨b2, us2, dy, rfl, _, _, hi2⟩ := a2.rep.ins_inv
                refine ⟨c, key, lookup_mem hk2, ⟨b1, dx, _, rfl, hi1⟩, ⟨b2, dy, _, rfl, hi2⟩, ?_⟩
                have n1 := Rep.isF _ _ _ f1 r1
                have n2 := Rep.isF _ _ _ f2 a2.rep
                refine call_of (p := ⟨p.C, p.XR, fun _ _ _ _ => False⟩) (F := F1) (H := H1) (S := S2) (T1 := nos) (as := [.d (.ins o c fs vs), .d (.ins o' c fs' vs')]) (vs := [V.ref b1, V.ref b2]) (σ := σ) (e1 := e2) a1.ch.fd a2.t.weak ⟨_, _, nos, nos, rfl, n1, ⟨_, _, nos, nos, rfl, n2, rfl, dj_nos, sb_nos, sb_nos⟩, dj_nos, sb_nos, sb_nos⟩ sb_nos dj_nos (fun _ z => z.elim) rfl ?_
                show Vp _ true false σ H1 F1 S2 (callA p.C key [.d (.ins o c fs vs), .d (.ins o' c fs' vs')] e2) _
                cases hc : callA p.C key [.d (.ins o c fs vs), .d (.ins o' c fs' vs')] e2 with
                | ok d e' =>
                  rw [hc] at q2
                  intro v H' F' S3 S4 aa
                  cases d <;> (first | exact q2.elim | skip)
                  obtain rfl := aa.rep
                  exact ⟨⟨_, rfl⟩, q2 _ H' F' S3 S4 aa⟩
                | ex x e' => rw [hc] at q2; exact q2.elim
                | bad => rw [hc] at q2; exact q2.elim
              · cases hk2
          | _ => exact q2.elim
        | _ => exact q2.elim
      exact se_test (pe_weak (pe_cmpR opr i1 i2 (mark_pl hp _)) rd) (pt_weak (pt_cmpR opr i1 i2 (mark_pl hp _)) (tt_of rd)) rfl
    · exact absurd h Bool.false_ne_true
  | _ => exact absurd h Bool.false_ne_true
/-! ### a dict of the text -/
theorem snd_ixg {x : Str} {kvs : List (Str × Str)} {a : E} (ia : SE g N p.C p.XR a) {A : Expr} (G : Gd g N p X sc) (h : chk g N sc (.ixg x kvs a) A = true) :
    PE X A (tE p (.ixg x kvs a)) ∧ PT X A (tT p (.ixg x kvs a)) ∧ (isBO A = true → PW X A (tT p (.ixg x kvs a))) := by
  cases A with
  | Subscript B z pos =>
    unfold chk at h
    split at h
    · rename_i heq
      cases heq
      simp only [Bool.and_eq_true, decide_eq_true_eq, List.any_eq_true] at h
      obtain ⟨rfl, h1, ⟨q0, hq, rfl⟩, hp, hz⟩ := h
      obtain ⟨e1, e2, e3⟩ := okGl_ok G h1
      obtain ⟨p0, hm, hk⟩ := G.dcs _ _ hq
      have i1 := (ia p.Wx X sc _ G hz).1
      refine se_plain (pe_weak (pe_ix ix_kdict (pe_glob (v := .ref p0) e1 hm rfl e2) i1 (plainIx_pl hp)) fun σ H Q ⟨F, S, e, rd, q⟩ => ⟨F, S, e, rd, ?_⟩) (fun _ => rfl) rfl
      simp only [ev] at q
      refine vp_bind q fun d e' _ q v H' F' S1 S2 k => ?_
      cases d with
      | str y =>
        cases hl : kvs.lookup y with
        | none =>
          have : lookG kvs (.str y) = none := by show (kvs.lookup y).map D.str = none; rw [hl]; rfl
          rw [this] at q
          exact q.elim
        | some w =>
          have : lookG kvs (.str y) = some (.str w) := by show (kvs.lookup y).map D.str = _; rw [hl]; rfl
          rw [this] at q
          obtain ⟨rfl, _⟩ := k.rep
          obtain ⟨k1, k2⟩ := hk y w hl
          exact ⟨p0, y, .str w, rfl, rfl, k1, q _ H' F' nos S2 (k.t.val ⟨rfl, k2⟩)⟩
      | _ => exact q.elim
    · exact absurd h Bool.false_ne_true
  | _ => exact absurd h Bool.false_ne_true
end
end Vm
namespace Vm
open PySem PySem.Spec PyProof.Rows L2
open Sem (wp)
theorem drawsTup {prog : Program} {w : World} {A : Around} (hh : A.handled = none) (it l : Addr) (hne : l ≠ it) (items : Array Value) :
    Draws prog w A it [it, l] items.size (fun i v => items[i]? = some v) (fun i h => h.IsTupleIter it l i ∧ h.IsTuple l items) where
  live := fun _ _ st => let ⟨o, ho, _⟩ := st.1; ⟨o, ho⟩
  frame := fun _ _ _ st hk => ⟨st.1.at fun o e => hk it (by simp) o e, st.2.at fun o e => hk l (by simp) o e⟩
  item := fun i s Q E hi st hQ => by
    refine RZ.nextOf_tuple_item st.1 st.2 (x := items[i]) (by simp [hi]) fun h' hit' hs' => ?_
    exact hQ _ h' s.toks (by simp [hi]) ⟨hit', st.2.extBut hs'.extBut hne⟩ hs'
  done := fun s Q E st hE => RZ.nextOf_tuple_end hh st.1 st.2 (by simp) hE
theorem meets_enumT (l : Addr) (items : Array Value) :
    Meets (Builtin.«enumerate.__new__» ⟨[.type "enumerate", .ref l], []⟩) (fun _ R s => s.heap.IsTuple l items ∧
      R (.ok (.ret (.ref (s.heap.push { cls := .type "tuple_iterator", data := .fields #[.ref l, .int 0 0] }).objs.size)))
        { s with heap := (s.heap.push { cls := .type "tuple_iterator", data := .fields #[.ref l, .int 0 0] }).push { cls := .type "enumerate", data := .fields #[.none, .bool false, .ref s.heap.objs.size, rawInt 0, .none, .none] } }) :=
  .of_wp fun prog w A R s h => by
    obtain ⟨hp, g, d, tk, os⟩ := s
    obtain ⟨hT, h⟩ := h
    have hsub := sub_enumerate
    have q1 : ∀ {A' : Around} {E : Value → Shared → Prop} {Q : Value → Shared → Prop}, Q (.ref hp.objs.size) ⟨hp.push { cls := .type "tuple_iterator", data := .fields #[.ref l, .int 0 0] }, g, d, tk, os⟩ → wpAny (model prog w) A' (pyIter (.ref l)) Q E ⟨hp, g, d, tk, os⟩ :=
      fun q => wpAny_pyIter_tuple hT q
    obtain ⟨ol, hl, hc, n, hd⟩ := id hT
    wp_walk using q1, AutoSeq1.wpAny_loadPart' hl
    refine wpAny_stack_any fun st => wpAny_pure ?_
    split
    · rename_i c _ _ _ _ _
      cases (c == Value.type "enumerate")
      · wp_walk using q1, AutoSeq1.wpAny_loadPart' hl
        exact ⟨_, rfl, h⟩
      · wp_walk using q1, AutoSeq1.wpAny_loadPart' hl
        exact ⟨_, rfl, h⟩
    · wp_walk using q1, AutoSeq1.wpAny_loadPart' hl
      exact ⟨_, rfl, h⟩
section
variable {prog : Program} {w : World} {A : Around} {E : Value → Shared → Prop} {s : Shared}
theorem call_enumT {l : Addr} {items : Array Value} {Q : Value → Shared → Prop} (hL : s.heap.IsTuple l items)
    (h : ∀ h', IsEnum h' (s.heap.objs.size + 1) s.heap.objs.size 0 .none → h'.IsTupleIter s.heap.objs.size l 0 → h'.objs.size = s.heap.objs.size + 2 →
      (∀ b o, s.heap.get? b = some o → h'.get? b = some o) → Q (.ref (s.heap.objs.size + 1)) { s with heap := h' }) :
    wpAny (model prog w) A (call (.type "enumerate") [.ref l]) Q E s := by
  refine callType_new F.called_enumerate (by decide) (F.typeCall_enumerate_1 _) (F.newCall_enumerate_1 _) (fun obj => F.args_object_init_2 obj _) F.entry_enumerate_new
    (meets_enumT l items) ⟨hL, ?_⟩
  have hz : (s.heap.push { cls := .type "tuple_iterator", data := .fields #[.ref l, .int 0 0] }).objs.size = s.heap.objs.size + 1 := Heap.size_push ..
  show _ ∧ _
  rw [hz]
  have he : IsEnum ((s.heap.push { cls := .type "tuple_iterator", data := .fields #[.ref l, .int 0 0] }).push
      { cls := .type "enumerate", data := .fields #[.none, .bool false, .ref s.heap.objs.size, rawInt 0, .none, .none] }) (s.heap.objs.size + 1) s.heap.objs.size 0 .none := by
    have := Heap.get?_push_size (s.heap.push { cls := .type "tuple_iterator", data := .fields #[.ref l, .int 0 0] })
      (o := { cls := .type "enumerate", data := .fields #[.none, .bool false, .ref s.heap.objs.size, rawInt 0, .none, .none] }) rfl
    rw [hz] at this; exact this
  refine ⟨⟨_, he, rfl⟩, h _ he ⟨_, Heap.get?_push_of_some _ (Heap.get?_push_size _ rfl), rfl, rfl⟩ (by rw [Heap.size_push, hz]) fun b o x => Heap.get?_push_of_some _ (Heap.get?_push_of_some _ x)⟩
theorem wpAny_pyNext_enum_endT {e it l : Addr} {i : Nat} {items : Array Value} {old : Value} {Q : Option Value → Shared → Prop} (hh : A.handled = none)
    (he : IsEnum s.heap e it i old) (hit : s.heap.IsTupleIter it l i) (hl : s.heap.IsTuple l items) (hx : items[i]? = none)
    (hQ : ∀ h', Heap.ExtBut it s.heap h' → Q none { s with heap := h' }) : wpAny (model prog w) A (pyNext (.ref e)) Q E s := by
  have hT : s.TypeIs (.ref e) "enumerate" := ⟨_, he, rfl⟩
  unfold pyNext
  refine wpAny_bind (wpAny_attempt (wpAny_callSpecial?_slot (name := Str.ofString "__next__") hT F.slot_enumerate_next
    (wpAny_call_entry F.slot_enumerate_next hT F.entry_enumerate_next ?_ (F.args_enumerate_next_1 _))))
  show wpAny _ _ (field (.ref e) 2 >>= _) _ _ _
  refine wpAny_bind (wpAny_field he rfl (x := .ref it) rfl ?_)
  refine wpAny_bind (RZ.nextOf_tuple_end hh hit hl hx fun h' x he' hx' => ?_)
  obtain ⟨o, ho, hc⟩ := hx'
  refine wpAny_bind (wpAny_isInstance (T := "StopIteration") (b := true) ⟨o, ho, hc⟩ isSubtype_stop ?_)
  exact wpAny_pure (hQ _ he')
end
/-- the tuple at a, each item in a new pair -/
def ItteT (K : PySem.W.Frag) (a : Addr) : It :=
  ⟨fun i H => ∃ (xs : List V) (x : V), SqT K H a xs ∧ xs[i]? = some x, fun i H v H' => ∃ T x, v = .ref T ∧ H T = none ∧ H' = upd H T (.tup [.int (i : Nat), x]) ∧ ∀ xs, SqT K H a xs → xs[i]? = some x, fun i H => ∃ xs : List V, SqT K H a xs ∧ xs.length ≤ i⟩
theorem turn_enumT {P : Program} {w : World} {K : PySem.W.Frag} {elts : List Expr} {kk : Nat} {tpos : Pos} (a e it : Addr) (hai : a ≠ it) (hae : a ≠ e) :
    Turn P w K (.Tuple elts kk tpos) (ItteT K a) [e, it] e (fun i h => (∃ old, IsEnum h e it ((i : Nat) : Int) old) ∧ h.IsTupleIter it a i ∧ e ≠ it) where
  mem := by simp
  obj := fun i h st b hb => by
    obtain ⟨⟨old, he⟩, ⟨o, ho, hc, hd⟩, _⟩ := st
    have e' : b = e ∨ b = it := by simpa using hb
    rcases e' with z | z
    · rw [z]; exact ⟨_, he, fun v q => nomatch q⟩
    · rw [z]; exact ⟨o, ho, fun v q => by rw [hd] at q; cases q⟩
  keep := fun i h h' st k => let ⟨⟨old, he⟩, hi, hne⟩ := st; ⟨⟨old, k e (by simp) _ he⟩, hi.at fun o q => k it (by simp) o q, hne⟩
  item := by
    intro X hP hw hK hc i pins s σ H E I hf st hg
    subst hP hw hK
    obtain ⟨⟨old, he⟩, hit, hne⟩ := st
    obtain ⟨xs, x, hq, hx⟩ := hg
    obtain ⟨its, rv, p, hz⟩ := I.tuple hq
    obtain ⟨u, hu, ru⟩ := rv.get hx
    have hel : e < s.heap.objs.size := Heap.lt_size he
    have hil : it < s.heap.objs.size := by obtain ⟨_, q, _⟩ := hit; exact Heap.lt_size q
    have hlt : i < its.toArray.size := by
      rw [List.size_toArray]
      exact (List.getElem?_eq_some_iff.mp hu).1
    refine wpAny_pyNext_enum_itemD (drawsTup (A := X.A.in1) (I.ok.hd hc) it a hai its.toArray) he ⟨hit, p⟩ hlt hne (by simp [hne, Ne.symm hae]) fun u' h' tk hu' ho hst' hT hsz hk => ?_
    have e1 : u' = u := by
      have : its[i]? = some u' := by simpa using hu'
      rw [hu] at this
      exact (Option.some.inj this).symm
    subst e1
    refine ⟨_, rfl, wpAny_letOwnedTupleGo_enum (s := { s with heap := h', toks := tk + 1 }) ho fun h'' he' sb => ?_⟩
    have hT2 : h''.get? s.heap.objs.size = some { cls := .type "tuple", data := .seq #[.int i tk, u'] } := (sb.2 _ (Nat.ne_of_gt hel)).trans hT
    have new : ObjOk X.prog X.w (upd H s.heap.objs.size (.tup [.int (i : Nat), x])) h'' s.heap.objs.size (.tup [.int (i : Nat), x]) :=
      ⟨by show 2 ≤ sizeLine; decide, [.int i tk, u'], .cons ⟨_, rfl⟩ (.cons ru .nil), ⟨_, hT2, rfl, _, rfl⟩⟩
    have I1 : Inv X pins σ (upd H s.heap.objs.size (.tup [.int (i : Nat), x])) { s with heap := h'', toks := tk + 1 } :=
      I.turnedNew (ch := [e, it]) (fun b ob hb q => (sb.2 b (fun z => hb (by simp [z]))).trans (hk b ob (fun z => hb (by simp [z])) (fun z => hb (by simp [z])) q)) hf (Nat.le_refl _) new
    refine ⟨.ref s.heap.objs.size, _, I1, rfl, ⟨_, x, rfl, I.hok.fresh (Nat.le_refl _), rfl, fun ys hy => by rw [I.tuple_inj hy hq]; exact hx⟩, ⟨⟨u', ?_⟩, hst'.1.at fun o q => (sb.2 it (Ne.symm hne)).trans q, hne⟩, fun b hb => ?_⟩
    · have e1 : ((i + 1 : Nat) : Int) = (i : Int) + 1 := by omega
      rw [e1]; exact he'
    · have hb' : b < s.heap.objs.size := by
        have e' : b = e ∨ b = it := by simpa using hb
        rcases e' with z | z
        · rw [z]; exact hel
        · rw [z]; exact hil
      rw [upd_ne (Nat.ne_of_lt hb')]
      exact (hf b hb).1
  done := by
    intro X hP hw hK hc i pins s σ H E I hf st hg
    subst hP hw hK
    obtain ⟨⟨old, he⟩, hit, hne⟩ := st
    obtain ⟨xs, hq, hx⟩ := hg
    obtain ⟨its, rv, p, hz⟩ := I.tuple hq
    obtain ⟨f0, f1, f2, f3, f4, f5⟩ := hf it (by simp)
    have hl := rv.length
    have hi : its.length ≤ i := by omega
    refine wpAny_pyNext_enum_endT (I.ok.hd hc) he hit p (by simpa using hi) fun h' eb => ⟨rfl, I.turned (t' := s.toks) (fun b o hb q => eb b o hb q) f0 f1 f3 f4 f5⟩
  self := fun A i s Q E st h => let ⟨⟨_, he⟩, _⟩ := st; wpAny_pyIter_enum he h
def iEnumA (K : PySem.W.Frag) (ta : TA) : TI := fun σ H R => ta σ H fun vs H1 => ∃ a xs, vs = [.ref a] ∧ ((SqL K H1 a xs ∧ R (Ite K a) H1) ∨ (SqT K H1 a xs ∧ R (ItteT K a) H1))
theorem pi_enumA {X : Cx} {e : Expr} {ta : TA} {p pos tpos : Pos} {elts : List Expr} {kk : Nat} (hg : Gl X "enumerate") (hm : X.mg "enumerate" = none) (ha : PA X [e] ta) (hs : starEach [e] X.env = [(false, eval e X.env)] := by rfl) :
    PI X (.Tuple elts kk tpos) (.Call (.Name "enumerate" p) [e] [] pos) (iEnumA X.K ta) := by
  refine ⟨fun pins s σ H R I h => ?_⟩
  refine Call_ (ld_blt I hg hm boot_enumerate (PyProof.Rows.callWith_type1 (thn (ha.run pos pins s σ H _ I h) fun us s1 ⟨vs, H1, I1, r1, q1⟩ => ?_) hs rfl))
  obtain ⟨a, xs, ex, q⟩ := q1
  subst ex
  cases r1 with
  | cons r rr =>
    cases rr
    cases r
    have fresh : ∀ b ∈ [s1.heap.objs.size + 1, s1.heap.objs.size], FpOk X pins H1 b := fun b hb => by
      have e' : b = s1.heap.objs.size + 1 ∨ b = s1.heap.objs.size := by simpa using hb
      have hle : s1.heap.objs.size ≤ b := by
        rcases e' with z | z
        · rw [z]; exact Nat.le_add_right _ _
        · rw [z]; exact Nat.le_refl _
      exact I1.fpOk hle (I1.hok.fresh hle)
    rcases q with ⟨hq, q⟩ | ⟨hq, q⟩
    · obtain ⟨its, rv, p', hz⟩ := I1.list hq
      refine call_enumerate_list p'.isList fun h' he hit hsz hk => wpAny_pyIter_enum he ?_
      have I2 : Inv X pins σ H1 { s1 with heap := h' } := I1.kept (t' := s1.toks) hk
      exact ⟨s1.heap.objs.size + 1, [s1.heap.objs.size + 1, s1.heap.objs.size], _, _, H1, rfl, I2, turn_enum a (s1.heap.objs.size + 1) s1.heap.objs.size, ⟨⟨.none, he⟩, hit, Nat.succ_ne_self _⟩, fresh, q⟩
    · obtain ⟨its, rv, p', hz⟩ := I1.tuple hq
      have hlt : a < s1.heap.objs.size := by obtain ⟨_, z, _⟩ := id p'; exact Heap.lt_size z
      refine call_enumT p' fun h' he hit hsz hk => wpAny_pyIter_enum he ?_
      have I2 : Inv X pins σ H1 { s1 with heap := h' } := I1.kept (t' := s1.toks) hk
      exact ⟨s1.heap.objs.size + 1, [s1.heap.objs.size + 1, s1.heap.objs.size], _, _, H1, rfl, I2, turn_enumT a (s1.heap.objs.size + 1) s1.heap.objs.size (Nat.ne_of_lt hlt) (Nat.ne_of_lt (Nat.lt_succ_of_lt hlt)), ⟨⟨.none, he⟩, hit, Nat.succ_ne_self _⟩, fresh, q⟩
end Vm
namespace Vm
open PySem PySem.Spec L2
variable [CN]

section
variable {g : Tab} {N : List Str} {p : Pm} {X : Cx} {sc : Scope}
/-! ### targets -/
def tTg (t : Tg) : TG := fun v σ H Q => ∃ F S1 S d e e', Rep H F d v S1 ∧ ERs H F e σ S ∧ Dj S1 S ∧ asgT t d e = some e' ∧
  ∀ σ', (∀ j, j ∉ tgSlots t → σ'[j]? = σ[j]?) → σ'.length = σ.length → ERs H F e' σ' (fun a => S1 a ∨ S a) → Q σ' H
def tTgs (ts : List Tg) : TGs := fun vs σ H Q => ∃ F S1 S ds e e', RepL H F ds vs S1 ∧ ERs H F e σ S ∧ Dj S1 S ∧ asgL ts ds e = some e' ∧
  ∀ σ', (∀ j, j ∉ tgSlots.tgsSlots ts → σ'[j]? = σ[j]?) → σ'.length = σ.length → ERs H F e' σ' (fun a => S1 a ∨ S a) → Q σ' H
theorem pg_weak {A : Expr} {t t' : TG} (h : PG X A t) (w : ∀ v σ H Q, t' v σ H Q → t v σ H Q) : PG X A t' := ⟨fun pins s σ H v u Q I r q => h.run pins s σ H v u Q I r (w v σ H Q q)⟩
theorem pgs_weak {A : List Expr} {t t' : TGs} (h : PGs X A t) (w : ∀ v σ H Q, t' v σ H Q → t v σ H Q) : PGs X A t' := ⟨fun pins s σ H v u Q I r q => h.run pins s σ H v u Q I r (w v σ H Q q)⟩
theorem asgE_pl {e : Expr} (h : pl e = true) (es : List Expr) (env : Env) : (assignEach (e :: es) env).map (·.2) = assign e env :: (assignEach es env).map (·.2) := by
  cases e <;> first | rfl | (cases h)
theorem asgE_len {sc : Scope} {fn : Str → Bool} : ∀ {ts : List Tg} {es : List Expr}, tgsB N sc fn ts es = true → ∀ env : Env, (assignEach es env).length = ts.length ∧ (assignEach es env).findIdx? (·.1) = none
  | [], [], _, env => ⟨rfl, rfl⟩
  | [], _ :: _, h, _ => by cases h
  | _ :: _, [], h, _ => by cases h
  | t :: ts, e :: es, h, env => by
    simp only [tgsB, Bool.and_eq_true] at h
    obtain ⟨a, b⟩ := asgE_len h.2.2 env
    have e1 : assignEach (e :: es) env = (false, assign e env) :: assignEach es env := by
      have hp := h.1
      cases e <;> first | rfl | (cases hp)
    rw [e1, List.length_cons, List.length_cons, a, List.findIdx?_cons, b]
    exact ⟨rfl, rfl⟩
mutual
theorem tg_ok (hN : X.N = N) (nd : N.Nodup) (hc : X.calm = true) (hsc : X.env.scope = sc) {fn : Str → Bool} (hf : ∀ x, fn x = true → X.fn x = true) : ∀ (t : Tg) (A : Expr), tgB N sc fn t A = true → PG X A (tTg t)
  | .nm i, A, h => by
    cases A with
    | Name x pos =>
      simp only [tgB, Bool.and_eq_true, Bool.or_eq_true, decide_eq_true_eq] at h
      obtain ⟨h1, h2⟩ := h
      have hx : Loc X.env.scope x := by
        rw [hsc]
        rcases h2 with h2 | h2
        · exact .inl h2
        · exact .inr h2.1
      have hfx : X.fn x = true ∨ X.env.scope.names.lookup x = some .local := by
        rw [hsc]
        rcases h2 with h2 | h2
        · exact .inr h2
        · exact .inl (hf x h2.2)
      refine pg_weak (pg_name (hN ▸ nd) (by rw [hN]; exact h1) hx hfx) fun v σ H Q ⟨F, S1, S, d, e, e', r, er, dj, ha, q⟩ => ?_
      simp only [asgT] at ha
      split at ha
      · rename_i hi
        cases ha
        exact q _ (fun j hj => List.getElem?_set_ne (by simpa [tgSlots] using fun z : i = j => hj (by simp [tgSlots, z]))) (List.length_set ..) (er.put hi r dj)
      · cases ha
    | _ => exact absurd h Bool.false_ne_true
  | .tup ts, A, h => by
    cases A with
    | Tuple es k pos =>
      have h : tgsB N sc fn ts es = true := h
      obtain ⟨l1, l2⟩ := asgE_len h X.env
      refine pg_weak (pg_tup hc (tgs_ok hN nd hc hsc hf ts es h) l1 l2) fun v σ H Q ⟨F, S1, S, d, e, e', r, er, dj, ha, q⟩ => ?_
      cases d <;> (first | (cases ha; done) | skip)
      rename_i ds
      obtain ⟨a, vs, rfl, z, l, rd⟩ := r.tup_inv
      have hl : ts.length = ds.length := by
        have : ∀ (ts : List Tg) (ds : List D) (e e' : Nv), asgL ts ds e = some e' → ts.length = ds.length := by
          intro ts
          induction ts with
          | nil => intro ds e e' h; cases ds <;> first | rfl | cases h
          | cons t ts ih =>
            intro ds e e' h
            cases ds with
            | nil => cases h
            | cons d ds =>
              simp only [asgL] at h
              obtain ⟨e1, _, h2⟩ := Option.bind_eq_some_iff.mp h
              rw [List.length_cons, List.length_cons, ih ds e1 e' h2]
        exact this ts ds e e' ha
      exact ⟨a, vs, rfl, .inl rd, by rw [l.len, hl], F, S1, S, ds, e, e', l, er, dj, ha, q⟩
    | _ => exact absurd h Bool.false_ne_true
theorem tgs_ok (hN : X.N = N) (nd : N.Nodup) (hc : X.calm = true) (hsc : X.env.scope = sc) {fn : Str → Bool} (hf : ∀ x, fn x = true → X.fn x = true) : ∀ (ts : List Tg) (es : List Expr), tgsB N sc fn ts es = true → PGs X es (tTgs ts)
  | [], [], _ => pgs_weak pgs_nil fun vs σ H Q ⟨F, S1, S, ds, e, e', r, er, dj, ha, q⟩ => by
    cases ds with
    | nil => cases ha; exact ⟨r, q σ (fun _ _ => rfl) rfl (er.mono fun _ z => .inr z)⟩
    | cons d ds => cases ha
  | [], _ :: _, h => by cases h
  | _ :: _, [], h => by cases h
  | t :: ts, x :: es, h => by
    simp only [tgsB, Bool.and_eq_true] at h
    refine pgs_weak (pgs_cons (tg_ok hN nd hc hsc hf t x h.2.1) (tgs_ok hN nd hc hsc hf ts es h.2.2) (asgE_pl h.1 es X.env)) fun vs σ H Q ⟨F, S1, S, ds, e, e', r, er, dj, ha, q⟩ => ?_
    cases ds with
    | nil => cases ha
    | cons d ds =>
      obtain ⟨v, vr, T1, T2, rfl, r1, r2, d12, t1, t2⟩ := r
      simp only [asgL] at ha
      obtain ⟨e1, ha1, ha2⟩ := Option.bind_eq_some_iff.mp ha
      refine ⟨v, vr, rfl, F, T1, S, d, e, e1, r1, er, dj.mono t1 Sb.refl, ha1, fun σ1 hs1 hl1 er1 => ?_⟩
      refine ⟨F, T2, fun a => T1 a ∨ S a, ds, e1, e', r2, er1, fun a z w => w.elim (fun w => d12 a w z) (dj a (t2 a z)), ha2, fun σ2 hs2 hl2 er2 => ?_⟩
      refine q σ2 (fun j hj => ?_) (hl2.trans hl1) (er2.mono fun a z => z.elim (fun z => .inl (t2 a z)) fun z => z.imp_left (t1 a))
      rw [hs2 j fun z => hj (by simp [tgSlots.tgsSlots, z]), hs1 j fun z => hj (by simp [tgSlots.tgsSlots, z])]
end
/-! ### what is walked -/
structure AfI (vb : Bool) (σ : Sl) (H : Hp) (F S : AS) (H' : Hp) (F' : AS) (ds : List D) (vs : List V) (S1 : AS) (e' : Nv) (S2 : AS) : Prop where
  t : AftT false σ H F S H' F' e' S2
  rep : RepL H' F' ds vs S1
  s1 : vb = true → Sb S1 F'
  dj : vb = true → Dj S1 S2
  n1 : vb = true → Nw S H S1
/-- at turn i the iterator gives the i-th thing, so long as the sources stand -/
def Jok (ds : List D) (J : It) (good : Hp → AS → Prop) : Prop := ∀ H F i, good H F →
  (∀ d, ds[i]? = some d → J.go i H ∧ ∀ x H', J.yld i H x H' → (H' = H ∨ ∃ T t, H T = none ∧ H' = upd H T (.tup t)) ∧ ((FD H F) → Rep H' F d x nos)) ∧ (ds.length ≤ i → J.stop i H)
def tI (p : Pm) (ik : Ik) (is : List E) (vb : Bool) : TI := fun σ H R => ∃ F S e, Rdy H F S e σ ∧ match evs p.C is e with
  | .ok xs e' => ∃ ds, itemsD ik xs = some ds ∧ ∀ vs H' F' S1 S2 J, AfI vb σ H F S H' F' xs vs S1 e' S2 → Jok ds J (fun H F => RepL H F xs vs S1) → R J H'
  | .ex x e' => Vx p σ H F S x e'
  | .bad => False
theorem pi_weak {tg A : Expr} {t t' : TI} (h : PI X tg A t) (w : ∀ σ H R, t' σ H R → t σ H R) : PI X tg A t' := ⟨fun pins s σ H R I q => h.run pins s σ H R I (w σ H R q)⟩
theorem sqL_inj {K : PySem.W.Frag} {H : Hp} {a : Addr} {xs : List V} (r : Rd H a (.lst xs)) : SqL K H a xs := .inl r
theorem get_nos {H : Hp} {F : AS} {ds : List D} {vs : List V} {i : Nat} {d : D} (r : RepL H F ds vs nos) (h : ds[i]? = some d) : ∃ v, vs[i]? = some v ∧ Rep H F d v nos := r.get h
/-- a list -/
theorem jok_list {K : PySem.W.Frag} {o : Bool} {ds : List D} {a : Addr} {S1 : AS} : Jok ds (Itl K a) (fun H F => RepL H F [.lst o ds] [.ref a] S1) := fun H F i r => by
  obtain ⟨v, t, T1, T2, e, r1, _⟩ := r
  cases e
  obtain ⟨a', vs, e, z, l, q⟩ := r1.lst_inv
  cases e
  refine ⟨fun d hd => ?_, fun hi => ⟨vs, .inl q, by rw [l.len]; exact hi⟩⟩
  obtain ⟨v, hv, rv⟩ := l.get hd
  refine ⟨⟨vs, v, .inl q, hv⟩, fun x H' y => ?_⟩
  obtain ⟨rfl, y⟩ := y
  have := y vs (.inl q)
  rw [hv] at this; cases this
  exact ⟨.inl rfl, fun _ => rv⟩
theorem jok_tup {K : PySem.W.Frag} {ds : List D} {a : Addr} {S1 : AS} (hf : isFL ds = true) : Jok ds (Itt K a) (fun H F => RepL H F [.tup ds] [.ref a] S1) := fun H F i r => by
  obtain ⟨v, t, T1, T2, e, r1, _⟩ := r
  cases e
  obtain ⟨a', vs, e, z, l, q⟩ := r1.tup_inv
  cases e
  refine ⟨fun d hd => ?_, fun hi => ⟨vs, .inl q, by rw [l.len]; exact hi⟩⟩
  obtain ⟨v, hv, rv⟩ := (RepL.isF _ _ _ hf l).get hd
  refine ⟨⟨vs, v, .inl q, hv⟩, fun x H' y => ?_⟩
  obtain ⟨rfl, y⟩ := y
  have := y vs (.inl q)
  rw [hv] at this; cases this
  exact ⟨.inl rfl, fun _ => rv⟩
theorem jok_str {s : Str} {ds : List D} (e : strItems s = ds) (ok : okS s) {good : Hp → AS → Prop} : Jok ds (Its s) good := fun H F i _ => by
  subst e
  have stop : (strItems s).length ≤ i → s.cps.size ≤ i := fun hi => by simpa [strItems] using hi
  refine ⟨fun d hd => ?_, fun hi => stop hi⟩
  unfold strItems at hd
  rw [List.getElem?_map] at hd
  obtain ⟨c, hc, rfl⟩ := Option.map_eq_some_iff.mp hd
  have hc' : s.cps[i]? = some c := by simpa using hc
  refine ⟨(Array.getElem?_eq_some_iff.mp hc').1, fun x H' y => ?_⟩
  obtain ⟨rfl, c', h1, rfl⟩ := y
  rw [hc'] at h1; cases h1
  refine ⟨.inl rfl, fun _ => ⟨rfl, ?_⟩⟩
  refine ⟨?_, by show (1 : Nat) ≤ sizeLine; rw [sizeLine_eq]; decide⟩
  have h1 := ok.1
  unfold PyData.strOk at *
  rw [← Array.all_toList, List.all_eq_true] at h1
  have := h1 c (List.mem_of_getElem? hc)
  simpa using this
theorem jok_rng {lo hi : Int} {ds : List D} (e : rngD lo hi = some ds) {good : Hp → AS → Prop} : Jok ds (Itr lo (hi - lo).toNat) good := fun H F i _ => by
  unfold rngD at e
  split at e
  · cases e
    refine ⟨fun d hd => ?_, fun hi' => (by rw [List.length_map, List.length_range] at hi'; exact hi')⟩
    rw [List.getElem?_map] at hd
    obtain ⟨k, hk, rfl⟩ := Option.map_eq_some_iff.mp hd
    obtain ⟨h1, h2⟩ := List.getElem?_eq_some_iff.mp hk
    rw [List.getElem_range] at h2
    subst h2
    refine ⟨(by rw [List.length_range] at h1; exact h1), fun x H' y => ?_⟩
    obtain ⟨rfl, rfl⟩ := y
    exact ⟨.inl rfl, fun _ => rfl⟩
  · cases e
theorem jok_rng3 {hi lo : Int} {ds : List D} (e : rngD3 hi lo = some ds) {good : Hp → AS → Prop} : Jok ds (Itdn hi (hi - lo).toNat) good := fun H F i _ => by
  unfold rngD3 at e
  split at e
  · cases e
    refine ⟨fun d hd => ?_, fun hi' => (by rw [List.length_map, List.length_range] at hi'; exact hi')⟩
    rw [List.getElem?_map] at hd
    obtain ⟨k, hk, rfl⟩ := Option.map_eq_some_iff.mp hd
    obtain ⟨h1, h2⟩ := List.getElem?_eq_some_iff.mp hk
    rw [List.getElem_range] at h2
    subst h2
    refine ⟨(by rw [List.length_range] at h1; exact h1), fun x H' y => ?_⟩
    obtain ⟨rfl, rfl⟩ := y
    exact ⟨.inl rfl, fun _ => rfl⟩
  · cases e
theorem zw_get {α β γ : Type} {f : α → β → γ} {xs : List α} {ys : List β} {i : Nat} {c : γ} (h : (List.zipWith f xs ys)[i]? = some c) : ∃ a b, xs[i]? = some a ∧ ys[i]? = some b ∧ f a b = c := by
  rw [List.getElem?_zipWith] at h
  cases hx : xs[i]? with
  | none => rw [hx] at h; cases h
  | some a =>
    cases hy : ys[i]? with
    | none => rw [hx, hy] at h; cases h
    | some b =>
      rw [hx, hy] at h
      exact ⟨a, b, rfl, rfl, Option.some.inj h⟩
theorem tup2 {H : Hp} {F : AS} {T : Addr} {a b : D} {x y : V} (hT : H T = none) (fd : FD H F) (ra : Rep H F a x nos) (rb : Rep H F b y nos) : Rep (upd H T (.tup [x, y])) F (.tup [a, b]) (.ref T) nos := by
  have up : ∀ {d v}, Rep H F d v nos → Rep (upd H T (.tup [x, y])) F d v nos := fun r => Rep.step _ _ _ r (fun x o hx _ => upd_keep hT hx.1) fun x hx => .inl hx
  exact ⟨T, [x, y], rfl, .inl upd_same, fun h => fd T h hT, by show 2 ≤ sizeLine; rw [sizeLine_eq]; decide, RepL.cons (up ra) (RepL.cons (up rb) RepL.nil)⟩
theorem jok_enum {K : PySem.W.Frag} {o : Bool} {ds : List D} {a : Addr} {S1 : AS} : Jok (List.zipWith (fun (i : Nat) x => .tup [.int (i : Int), x]) (List.range ds.length) ds) (Ite K a) (fun H F => RepL H F [.lst o ds] [.ref a] S1) := fun H F i r => by
  obtain ⟨v, t, T1, T2, e, r1, _⟩ := r
  cases e
  obtain ⟨a', vs, e, z, l, q⟩ := r1.lst_inv
  cases e
  refine ⟨fun d hd => ?_, fun hi => ⟨vs, .inl q, by rw [l.len]; simpa using hi⟩⟩
  obtain ⟨k, d', hk, hd', rfl⟩ := zw_get hd
  obtain ⟨h1, h2⟩ := List.getElem?_eq_some_iff.mp hk
  rw [List.getElem_range] at h2
  subst h2
  obtain ⟨v, hv, rv⟩ := l.get hd'
  refine ⟨⟨vs, v, .inl q, hv⟩, fun x H' y => ?_⟩
  obtain ⟨T, w, rfl, hT, rfl, y⟩ := y
  have := y vs (.inl q)
  rw [hv] at this; cases this
  exact ⟨.inr ⟨T, _, hT, rfl⟩, fun fd => tup2 hT fd rfl rv⟩
theorem jok_enumT {K : PySem.W.Frag} {ds : List D} {a : Addr} {S1 : AS} (hf : isFL ds = true) : Jok (List.zipWith (fun (i : Nat) x => .tup [.int (i : Int), x]) (List.range ds.length) ds) (ItteT K a) (fun H F => RepL H F [.tup ds] [.ref a] S1) := fun H F i r => by
  obtain ⟨v, t, T1, T2, e, r1, _⟩ := r
  cases e
  obtain ⟨a', vs, e, z, l, q⟩ := r1.tup_inv
  cases e
  refine ⟨fun d hd => ?_, fun hi => ⟨vs, .inl q, by rw [l.len]; simpa using hi⟩⟩
  obtain ⟨k, d', hk, hd', rfl⟩ := zw_get hd
  obtain ⟨h1, h2⟩ := List.getElem?_eq_some_iff.mp hk
  rw [List.getElem_range] at h2
  subst h2
  obtain ⟨v, hv, rv⟩ := (RepL.isF _ _ _ hf l).get hd'
  refine ⟨⟨vs, v, .inl q, hv⟩, fun x H' y => ?_⟩
  obtain ⟨T, w, rfl, hT, rfl, y⟩ := y
  have := y vs (.inl q)
  rw [hv] at this; cases this
  exact ⟨.inr ⟨T, _, hT, rfl⟩, fun fd => tup2 hT fd rfl rv⟩
theorem jok_zipT {K : PySem.W.Frag} {ds es : List D} {a b : Addr} {S1 : AS} (hf : isFL ds = true) (hf2 : isFL es = true) : Jok (List.zipWith (fun x y => .tup [x, y]) ds es) (RZ.ItzT K a b) (fun H F => RepL H F [.tup ds, .tup es] [.ref a, .ref b] S1) := fun H F i r => by
  obtain ⟨v, t, T1, T2, e, r1, r2, _⟩ := r
  cases e
  obtain ⟨v2, t2, U1, U2, e, r3, r4, _⟩ := r2
  cases e
  obtain ⟨a', vs, e, z, l, q⟩ := r1.tup_inv
  cases e
  obtain ⟨b', us, e, z', l', q'⟩ := r3.tup_inv
  cases e
  refine ⟨fun d hd => ?_, fun hi => ⟨vs, us, .inl q, .inl q', ?_⟩⟩
  · obtain ⟨d1, d2, h1, h2, rfl⟩ := zw_get hd
    obtain ⟨v, hv, rv⟩ := (RepL.isF _ _ _ hf l).get h1
    obtain ⟨u, hu, ru⟩ := (RepL.isF _ _ _ hf2 l').get h2
    refine ⟨⟨vs, us, v, u, .inl q, .inl q', hv, hu⟩, fun x H' y => ?_⟩
    obtain ⟨T, x1, x2, rfl, hT, rfl, y1, y2⟩ := y
    have e1 := y1 vs (.inl q)
    rw [hv] at e1; cases e1
    have e2 := y2 us (.inl q')
    rw [hu] at e2; cases e2
    exact ⟨.inr ⟨T, _, hT, rfl⟩, fun fd => tup2 hT fd rv ru⟩
  · rw [List.length_zipWith] at hi
    have := l.len
    have := l'.len
    omega
theorem jok_zip {K : PySem.W.Frag} {o o2 : Bool} {ds es : List D} {a b : Addr} {S1 : AS} : Jok (List.zipWith (fun x y => .tup [x, y]) ds es) (Itz K a b) (fun H F => RepL H F [.lst o ds, .lst o2 es] [.ref a, .ref b] S1) := fun H F i r => by
  obtain ⟨v, t, T1, T2, e, r1, r2, _⟩ := r
  cases e
  obtain ⟨v2, t2, U1, U2, e2, r2, _⟩ := r2
  cases e2
  obtain ⟨a', vs, e, z, l, q⟩ := r1.lst_inv
  cases e
  obtain ⟨b', us, e, z', l', q'⟩ := r2.lst_inv
  cases e
  refine ⟨fun d hd => ?_, fun hi => ⟨vs, us, .inl q, .inl q', ?_⟩⟩
  · obtain ⟨x1, y1, hx, hy, rfl⟩ := zw_get hd
    obtain ⟨v, hv, rv⟩ := l.get hx
    obtain ⟨u, hu, ru⟩ := l'.get hy
    refine ⟨⟨vs, us, v, u, .inl q, .inl q', hv, hu⟩, fun x H' y => ?_⟩
    obtain ⟨T, w1, w2, rfl, hT, rfl, y1, y2⟩ := y
    have e1 := y1 vs (.inl q)
    rw [hv] at e1; cases e1
    have e2 := y2 us (.inl q')
    rw [hu] at e2; cases e2
    exact ⟨.inr ⟨T, _, hT, rfl⟩, fun fd => tup2 hT fd rv ru⟩
  · rw [List.length_zipWith] at hi
    rw [l.len, l'.len]; omega
theorem pi_or {tg A : Expr} {w1 w2 : TI} (h1 : PI X tg A w1) (h2 : PI X tg A w2) : PI X tg A (fun σ H R => w1 σ H R ∨ w2 σ H R) := ⟨fun pins s σ H R I q => q.elim (h1.run pins s σ H R I) (h2.run pins s σ H R I)⟩
theorem aft_i {vb sb : Bool} {σ : Sl} {H H1 : Hp} {F F1 S S1 S2 : AS} {d : D} {v : V} {e1 : Nv} (a : Aft vb sb σ H F S H1 F1 d v S1 e1 S2) : AfI vb σ H F S H1 F1 [d] [v] S1 e1 S2 :=
  ⟨a.t.weak, ⟨v, [], S1, nos, rfl, a.rep, rfl, dj_nos.symm, Sb.refl, sb_nos⟩, a.s1, a.dj, a.n1⟩
/-- over a value -/
theorem pi_seq {a : E} {tg A : Expr} {vb : Bool} (hp : PE X A (tE p a)) (hv : vb = true → isV a = true) : PI X tg A (tI p .seq [a] vb) := by
  refine pi_weak (pi_or (pi_list hp) (pi_or (pi_tup hp) (pi_str hp))) fun σ H W ⟨F, S, e, rd, q⟩ => ?_
  simp only [evs] at q
  cases hr : ev p.C a e with
  | ok d e1 =>
    rw [hr] at q
    simp only [R.bind_ok] at q
    obtain ⟨ds, hds, q⟩ := q
    have w : ∀ {v H1 F1 S1 S2}, Aft (isV a) (smp a) σ H F S H1 F1 d v S1 e1 S2 → AfI vb σ H F S H1 F1 [d] [v] S1 e1 S2 := fun k =>
      ⟨k.t.weak, (aft_i k).rep, fun z => k.s1 (hv z), fun z => k.dj (hv z), fun z => k.n1 (hv z)⟩
    cases d with
    | lst o xs =>
      cases hds
      refine .inl ⟨F, S, e, rd, ?_⟩
      rw [hr]
      intro v H1 F1 S1 S2 k
      obtain ⟨a', vs, rfl, z, l, r⟩ := k.rep.lst_inv
      exact ⟨a', rfl, ⟨vs, .inl r⟩, q _ H1 F1 S1 S2 _ (w k) jok_list⟩
    | tup xs =>
      simp only [itemsD] at hds
      split at hds
      · rename_i hf
        cases hds
        refine .inr (.inl ⟨F, S, e, rd, ?_⟩)
        rw [hr]
        intro v H1 F1 S1 S2 k
        obtain ⟨a', vs, rfl, z, l, r⟩ := k.rep.tup_inv
        exact ⟨a', rfl, ⟨vs, .inl r⟩, q _ H1 F1 S1 S2 _ (w k) (jok_tup hf)⟩
      · cases hds
    | str s =>
      cases hds
      refine .inr (.inr ⟨F, S, e, rd, ?_⟩)
      rw [hr]
      intro v H1 F1 S1 S2 k
      obtain ⟨rfl, ok⟩ := id k.rep
      exact ⟨s, rfl, q _ H1 F1 S1 S2 _ (w k) (jok_str rfl ok)⟩
    | _ => cases hds
  | ex x e1 =>
    rw [hr] at q
    exact .inl ⟨F, S, e, rd, by rw [hr]; exact q⟩
  | bad => rw [hr] at q; exact q.elim
theorem afl_i {sb vb : Bool} {σ : Sl} {H H1 : Hp} {F F1 S S1 S2 : AS} {ds : List D} {vs : List V} {e1 : Nv} (a : AfL sb σ H F S H1 F1 ds vs S1 e1 S2) : AfI vb σ H F S H1 F1 ds vs S1 e1 S2 :=
  ⟨a.t.weak, a.rep, fun _ => a.s1, fun _ => a.dj, fun _ => a.n1⟩
theorem len1 {α : Type} {xs : List α} (h : xs.length = 1) : ∃ x, xs = [x] := by
  match xs, h with
  | [x], _ => exact ⟨x, rfl⟩
theorem len2 {α : Type} {xs : List α} (h : xs.length = 2) : ∃ x y, xs = [x, y] := by
  match xs, h with
  | [x, y], _ => exact ⟨x, y, rfl⟩
theorem len3 {α : Type} {xs : List α} (h : xs.length = 3) : ∃ x y z, xs = [x, y, z] := by
  match xs, h with
  | [x, y, z], _ => exact ⟨x, y, z, rfl⟩
/-- range, enumerate, zip -/
theorem pi_call {ik : Ik} {is : List E} {tg : Expr} {y : Str} {p0 pos : Pos} {xs : List Expr} {vb : Bool} (G : Gd g N p X sc) (hik : ik ≠ .seq) (htg : (ik = .enum ∨ ik = .zip) → ∃ es k q, tg = .Tuple es k q) (h1 : y = ikname ik) (h2 : okGl sc y = true) (h3 : g.free.contains y = true) (h4 : xs.length = ikn ik)
    (h5 : chks g N sc is xs = true) (ie : PA X xs (tEs p is)) : PI X tg (.Call (.Name y p0) xs [] pos) (tI p ik is vb) := by
  obtain ⟨g1, g2, g3, g4⟩ := free_ok G h2 h3
  have gen : ∀ {t : TI}, (∀ σ H R F S e, Rdy H F S e σ → (match evs p.C is e with
      | .ok xs e' => ∃ ds, itemsD ik xs = some ds ∧ ∀ vs H' F' S1 S2 J, AfI vb σ H F S H' F' xs vs S1 e' S2 → Jok ds J (fun H F => RepL H F xs vs S1) → R J H'
      | .ex x e' => Vx p σ H F S x e'
      | .bad => False) → t σ H R) → PI X tg (.Call (.Name y p0) xs [] pos) t → PI X tg (.Call (.Name y p0) xs [] pos) (tI p ik is vb) := fun h hp => pi_weak hp fun σ H R ⟨F, S, e, rd, q⟩ => h σ H R F S e rd q
  cases ik with
  | seq => exact absurd rfl hik
  | rng1 =>
    obtain ⟨x, rfl⟩ := len1 h4
    subst h1
    have hp : pl x = true := by
      cases is with
      | nil => cases h5
      | cons a r => simp only [chks, Bool.and_eq_true] at h5; exact h5.1
    refine gen (fun σ H R F S e rd q => ?_) (pi_range1 g1 g2 ie (star_pl hp [] X.env))
    refine ⟨F, S, e, rd, ?_⟩
    cases hr : evs p.C is e with
    | ok ds e1 =>
      rw [hr] at q
      intro vs H1 F1 S1 S2 k
      obtain ⟨es, hes, q⟩ := q
      have hes' : ∃ j, ds = [.int j] ∧ rngD 0 j = some es := by
        match ds, hes with
        | [.int j], hes => exact ⟨j, rfl, hes⟩
      obtain ⟨j, rfl, hj⟩ := hes'
      obtain ⟨v, t, T1, T2, rfl, r1, r2, _⟩ := id k.rep
      cases r1
      rw [show t = [] from r2] at k ⊢
      have bd : -(2 ^ 60) ≤ (0 : Int) ∧ (0 : Int) ≤ 2 ^ 60 ∧ -(2 ^ 60) ≤ j ∧ j ≤ 2 ^ 60 ∧ j - 0 ≤ 1000000 := by
        unfold rngD at hj
        split at hj
        · assumption
        · cases hj
      refine ⟨j, rfl, by omega, by omega, q _ H1 F1 S1 S2 _ (afl_i k) ?_⟩
      have := jok_rng hj (good := fun H F => RepL H F [.int j] [.int j] S1)
      simpa using this
    | ex x e1 => rw [hr] at q; exact q
    | bad => rw [hr] at q; exact q
  | rng2 =>
    obtain ⟨x, x2, rfl⟩ := len2 h4
    subst h1
    have hp : pl x = true ∧ pl x2 = true := by
      cases is with
      | nil => cases h5
      | cons a r =>
        simp only [chks, Bool.and_eq_true] at h5
        refine ⟨h5.1, ?_⟩
        cases r with
        | nil => exact absurd h5.2.2.2 Bool.false_ne_true
        | cons b r => simp only [chks, Bool.and_eq_true] at h5; exact h5.2.2.2.1
    refine gen (fun σ H R F S e rd q => ?_) (pi_range2 g1 g2 ie (by rw [star_pl hp.1, star_pl hp.2]; rfl) (star_pl hp.2 [] X.env))
    refine ⟨F, S, e, rd, ?_⟩
    cases hr : evs p.C is e with
    | ok ds e1 =>
      rw [hr] at q
      intro vs H1 F1 S1 S2 k
      obtain ⟨es, hes, q⟩ := q
      have hes' : ∃ i j, ds = [.int i, .int j] ∧ rngD i j = some es := by
        match ds, hes with
        | [.int i, .int j], hes => exact ⟨i, j, rfl, hes⟩
      obtain ⟨i, j, rfl, hj⟩ := hes'
      obtain ⟨v, t, T1, T2, rfl, r1, r2, _⟩ := id k.rep
      cases r1
      obtain ⟨v2, t2, U1, U2, rfl, r3, r4, _⟩ := r2
      cases r3
      rw [show t2 = [] from r4] at k ⊢
      have bd : -(2 ^ 60) ≤ i ∧ i ≤ 2 ^ 60 ∧ -(2 ^ 60) ≤ j ∧ j ≤ 2 ^ 60 ∧ j - i ≤ 1000000 := by
        unfold rngD at hj
        split at hj
        · assumption
        · cases hj
      exact ⟨i, j, rfl, ⟨by omega, by omega, by omega, by omega⟩, q _ H1 F1 S1 S2 _ (afl_i k) (jok_rng hj)⟩
    | ex x e1 => rw [hr] at q; exact q
    | bad => rw [hr] at q; exact q
  | rng3 =>
    obtain ⟨x, x2, x3, rfl⟩ := len3 h4
    subst h1
    have hp : pl x = true ∧ pl x2 = true ∧ pl x3 = true := by
      cases is with
      | nil => cases h5
      | cons a r =>
        simp only [chks, Bool.and_eq_true] at h5
        refine ⟨h5.1, ?_⟩
        cases r with
        | nil => exact absurd h5.2.2.2 Bool.false_ne_true
        | cons b r =>
          simp only [chks, Bool.and_eq_true] at h5
          refine ⟨h5.2.2.2.1, ?_⟩
          cases r with
          | nil => exact absurd h5.2.2.2.2.2.2 Bool.false_ne_true
          | cons c r => simp only [chks, Bool.and_eq_true] at h5; exact h5.2.2.2.2.2.2.1
    refine gen (fun σ H R F S e rd q => ?_) (pi_range3 g1 g2 ie (star_pl hp.1 [x2, x3] X.env) (by rw [star_pl hp.2.1, star_pl hp.2.2]; rfl))
    refine ⟨F, S, e, rd, ?_⟩
    cases hr : evs p.C is e with
    | ok ds e1 =>
      rw [hr] at q
      intro vs H1 F1 S1 S2 k
      obtain ⟨es, hes, q⟩ := q
      have hes' : ∃ i j, ds = [.int i, .int j, .int (-1)] ∧ rngD3 i j = some es := by
        match ds, hes with
        | [.int i, .int j, .int l], hes =>
          simp only [itemsD] at hes
          split at hes
          · rename_i hl
            subst hl
            exact ⟨i, j, rfl, hes⟩
          · cases hes
      obtain ⟨i, j, rfl, hj⟩ := hes'
      obtain ⟨v, t, T1, T2, rfl, r1, r2, _⟩ := id k.rep
      cases r1
      obtain ⟨v2, t2, U1, U2, rfl, r3, r4, _⟩ := r2
      cases r3
      obtain ⟨v3, t3, W1, W2, rfl, r5, r6, _⟩ := r4
      cases r5
      rw [show t3 = [] from r6] at k ⊢
      have bd : -(2 ^ 60) ≤ j ∧ j ≤ 2 ^ 60 ∧ -(2 ^ 60) ≤ i ∧ i ≤ 2 ^ 60 ∧ i - j ≤ 1000000 := by
        unfold rngD3 at hj
        split at hj
        · assumption
        · cases hj
      exact ⟨i, j, rfl, ⟨by omega, by omega, by omega, by omega⟩, q _ H1 F1 S1 S2 _ (afl_i k) (jok_rng3 hj)⟩
    | ex x e1 => rw [hr] at q; exact q
    | bad => rw [hr] at q; exact q
  | enum =>
    obtain ⟨x, rfl⟩ := len1 h4
    obtain ⟨es0, k0, q0, rfl⟩ := htg (.inl rfl)
    subst h1
    have hp : pl x = true := by
      cases is with
      | nil => cases h5
      | cons a r => simp only [chks, Bool.and_eq_true] at h5; exact h5.1
    refine gen (fun σ H R F S e rd q => ?_) (pi_enumA g1 g2 ie (star_pl hp [] X.env))
    refine ⟨F, S, e, rd, ?_⟩
    cases hr : evs p.C is e with
    | ok ds e1 =>
      rw [hr] at q
      intro vs H1 F1 S1 S2 k
      obtain ⟨es, hes, q⟩ := q
      have hes' : ∃ xs, ((∃ o, ds = [.lst o xs]) ∨ (ds = [.tup xs] ∧ isFL xs = true)) ∧ es = List.zipWith (fun (i : Nat) x => .tup [.int (i : Int), x]) (List.range xs.length) xs := by
        match ds, hes with
        | [.lst o xs], hes => exact ⟨xs, .inl ⟨o, rfl⟩, (Option.some.inj hes).symm⟩
        | [.tup xs], hes =>
          simp only [itemsD] at hes
          split at hes
          · rename_i hf
            exact ⟨xs, .inr ⟨rfl, hf⟩, (Option.some.inj hes).symm⟩
          · cases hes
      obtain ⟨xs, ⟨o, rfl⟩ | ⟨rfl, hf⟩, rfl⟩ := hes'
      · obtain ⟨v, t, T1, T2, rfl, r1, r2, _⟩ := id k.rep
        obtain ⟨a', vs, rfl, z, l, r⟩ := r1.lst_inv
        rw [show t = [] from r2] at k ⊢
        exact ⟨a', vs, rfl, .inl ⟨.inl r, q _ H1 F1 S1 S2 _ (afl_i k) jok_enum⟩⟩
      · obtain ⟨v, t, T1, T2, rfl, r1, r2, _⟩ := id k.rep
        obtain ⟨a', vs, rfl, z, l, r⟩ := r1.tup_inv
        rw [show t = [] from r2] at k ⊢
        exact ⟨a', vs, rfl, .inr ⟨.inl r, q _ H1 F1 S1 S2 _ (afl_i k) (jok_enumT hf)⟩⟩
    | ex x e1 => rw [hr] at q; exact q
    | bad => rw [hr] at q; exact q
  | zip =>
    obtain ⟨x, x2, rfl⟩ := len2 h4
    obtain ⟨es0, k0, q0, rfl⟩ := htg (.inr rfl)
    subst h1
    have hp : pl x = true ∧ pl x2 = true := by
      cases is with
      | nil => cases h5
      | cons a r =>
        simp only [chks, Bool.and_eq_true] at h5
        refine ⟨h5.1, ?_⟩
        cases r with
        | nil => exact absurd h5.2.2.2 Bool.false_ne_true
        | cons b r => simp only [chks, Bool.and_eq_true] at h5; exact h5.2.2.2.1
    refine gen (fun σ H R F S e rd q => ?_) (RZ.pi_zipA g1 g2 ie (star_pl hp.1 [x2] X.env) (hpl_one hp.2 _ _))
    refine ⟨F, S, e, rd, ?_⟩
    cases hr : evs p.C is e with
    | ok ds e1 =>
      rw [hr] at q
      intro vs H1 F1 S1 S2 k
      obtain ⟨es, hes, q⟩ := q
      have hes' : ∃ xs ys, ((∃ o o2, ds = [.lst o xs, .lst o2 ys]) ∨ (ds = [.tup xs, .tup ys] ∧ isFL xs = true ∧ isFL ys = true)) ∧ es = List.zipWith (fun x y => .tup [x, y]) xs ys := by
        match ds, hes with
        | [.lst o xs, .lst o2 ys], hes => exact ⟨xs, ys, .inl ⟨o, o2, rfl⟩, (Option.some.inj hes).symm⟩
        | [.tup xs, .tup ys], hes =>
          simp only [itemsD] at hes
          split at hes
          · rename_i hf
            simp only [Bool.and_eq_true] at hf
            exact ⟨xs, ys, .inr ⟨rfl, hf⟩, (Option.some.inj hes).symm⟩
          · cases hes
      obtain ⟨xs, ys, ⟨o, o2, rfl⟩ | ⟨rfl, hf, hf2⟩, rfl⟩ := hes'
      · obtain ⟨v, t, T1, T2, rfl, r1, r2, _⟩ := id k.rep
        obtain ⟨a', vs, rfl, z, l, r⟩ := r1.lst_inv
        obtain ⟨v2, t2, U1, U2, rfl, r3, r4, _⟩ := r2
        obtain ⟨b', us, rfl, z', l', r'⟩ := r3.lst_inv
        rw [show t2 = [] from r4] at k ⊢
        exact ⟨a', b', vs, us, rfl, .inl ⟨.inl r, .inl r', q _ H1 F1 S1 S2 _ (afl_i k) jok_zip⟩⟩
      · obtain ⟨v, t, T1, T2, rfl, r1, r2, _⟩ := id k.rep
        obtain ⟨a', vs, rfl, z, l, r⟩ := r1.tup_inv
        obtain ⟨v2, t2, U1, U2, rfl, r3, r4, _⟩ := r2
        obtain ⟨b', us, rfl, z', l', r'⟩ := r3.tup_inv
        rw [show t2 = [] from r4] at k ⊢
        exact ⟨a', b', vs, us, rfl, .inr ⟨.inl r, .inl r', q _ H1 F1 S1 S2 _ (afl_i k) (jok_zipT hf hf2)⟩⟩
    | ex x e1 => rw [hr] at q; exact q
    | bad => rw [hr] at q; exact q
theorem items_len {H : Hp} {F S : AS} {ik : Ik} {xs ds : List D} {vs : List V} (h : itemsD ik xs = some ds) (r : RepL H F xs vs S) : ds.length ≤ sizeLine := by
  have lst : ∀ {o ys v S}, Rep H F (.lst o ys) v S → ys.length ≤ sizeLine := fun r => by
    obtain ⟨a, vs, rfl, z, l, _⟩ := r.lst_inv
    rw [← l.len]; exact z
  have tpl : ∀ {ys v S}, Rep H F (.tup ys) v S → ys.length ≤ sizeLine := fun r => by
    obtain ⟨a, vs, rfl, z, l, _⟩ := r.tup_inv
    rw [← l.len]; exact z
  have rng : ∀ {lo hi}, rngD lo hi = some ds → ds.length ≤ sizeLine := fun {lo hi} h => by
    unfold rngD at h
    split at h
    · rename_i hb
      cases h
      rw [List.length_map, List.length_range]
      exact lim_ok (by omega)
    · cases h
  have rng3 : ∀ {hi lo}, rngD3 hi lo = some ds → ds.length ≤ sizeLine := fun {hi lo} h => by
    unfold rngD3 at h
    split at h
    · rename_i hb
      cases h
      rw [List.length_map, List.length_range]
      exact lim_ok (by omega)
    · cases h
  unfold itemsD at h
  split at h
  · cases h
    obtain ⟨v, t, T1, T2, rfl, r1, _⟩ := r
    exact lst r1
  · split at h
    · cases h
      obtain ⟨v, t, T1, T2, rfl, r1, _⟩ := r
      obtain ⟨a, vs, rfl, z, l, _⟩ := r1.tup_inv
      rw [← l.len]; exact z
    · cases h
  · cases h
    obtain ⟨v, t, T1, T2, rfl, r1, _⟩ := r
    obtain ⟨rfl, ok⟩ := r1
    have := ok.2
    unfold strItems
    rw [List.length_map]
    simpa [Str.length] using this
  · exact rng h
  · exact rng h
  · split at h
    · exact rng3 h
    · cases h
  · cases h
    obtain ⟨v, t, T1, T2, rfl, r1, _⟩ := r
    have := lst r1
    rw [List.length_zipWith, List.length_range]
    omega
  · split at h
    · cases h
      obtain ⟨v, t, T1, T2, rfl, r1, _⟩ := r
      have := tpl r1
      rw [List.length_zipWith, List.length_range]
      omega
    · cases h
  · split at h
    · cases h
      obtain ⟨v, t, T1, T2, rfl, r1, _⟩ := r
      have := tpl r1
      rw [List.length_zipWith]
      omega
    · cases h
  · cases h
    obtain ⟨v, t, T1, T2, rfl, r1, _⟩ := r
    have := lst r1
    rw [List.length_zipWith]
    omega
  · cases h
/-! ### the slots of a comprehension -/
theorem unσ {H : Hp} {F : AS} : ∀ {e : Nv} {σ : Sl} {S : AS} {i : Nat}, ERs H F e (σ.set i none) S → ERs H F (e.set i none) σ S
  | [], σ, _, i, h => by
    have : σ = [] := by
      have h : σ.set i none = [] := h
      cases σ with
      | nil => rfl
      | cons a b => cases i <;> cases h
    subst this; rfl
  | o :: e, σ, S, i, h => by
    obtain ⟨u, r, S1, S2, q, h1, h2, dj, s1, s2⟩ := h
    cases σ with
    | nil => cases q
    | cons w ws =>
      cases i with
      | zero =>
        obtain ⟨_, q2⟩ := List.cons.inj q
        subst q2
        exact ⟨w, ws, S1, S2, rfl, (fun d hd => by cases hd), h2, dj, s1, s2⟩
      | succ i =>
        obtain ⟨q1, q2⟩ := List.cons.inj q
        have q1 : w = u := q1
        have q2 : ws.set i none = r := q2
        subst q1 q2
        exact ⟨w, ws, S1, S2, rfl, h1, unσ h2, dj, s1, s2⟩
theorem wipeE_set (e : Nv) (v : Nat) : ∀ vs : List Nat, wipeE (e.set v none) vs = (wipeE e vs).set v none
  | [] => rfl
  | w :: vs => by
    show (wipeE (e.set v none) vs).set w none = ((wipeE e vs).set w none).set v none
    rw [wipeE_set e v vs]
    by_cases h : v = w
    · subst h; rfl
    · exact List.set_comm _ _ h
theorem ERs.unwipe {H : Hp} {F S : AS} : ∀ {e : Nv} {σ : Sl} {vs : List Nat}, ERs H F e (wipe σ vs) S → ERs H F (wipeE e vs) σ S
  | e, σ, [], h => h
  | e, σ, v :: vs, h => by
    have h : ERs H F e ((wipe σ vs).set v none) S := h
    have := ERs.unwipe (vs := vs) (unσ h)
    rw [wipeE_set] at this
    exact this
theorem ERs.wiped {H : Hp} {F S : AS} {e : Nv} {σ : Sl} (h : ERs H F e σ S) : ∀ vs : List Nat, ERs H F (wipeE e vs) (L2.wipe σ vs) S
  | [] => h
  | v :: vs => (ERs.wiped h vs).goneσ
theorem wipeE_idem (e : Nv) : ∀ vs : List Nat, wipeE (wipeE e vs) vs = wipeE e vs
  | [] => rfl
  | v :: vs => by
    show (wipeE ((wipeE e vs).set v none) vs).set v none = (wipeE e vs).set v none
    rw [wipeE_set, wipeE_idem e vs, List.set_set]
theorem wipe_in {σ : Sl} {j : Nat} : ∀ {vs : List Nat}, j ∈ vs → (L2.wipe σ vs)[j]? = if j < σ.length then some none else none
  | v :: vs, h => by
    show ((L2.wipe σ vs).set v none)[j]? = _
    by_cases e : v = j
    · subst e
      by_cases hl : v < σ.length
      · rw [if_pos hl, List.getElem?_set_self (by rw [wipe_length]; exact hl)]
      · rw [if_neg hl, List.getElem?_eq_none]
        rw [List.length_set, wipe_length]; omega
    · rw [List.getElem?_set_ne e]
      exact wipe_in ((List.mem_cons.mp h).resolve_left fun z => e z.symm)
theorem wipe_eq {σ σ2 : Sl} {vs : List Nat} (h : ∀ j, j ∉ vs → σ2[j]? = (L2.wipe σ vs)[j]?) (hl : σ2.length = σ.length) : L2.wipe σ2 vs = L2.wipe σ vs := by
  apply List.ext_getElem?
  intro j
  by_cases hj : j ∈ vs
  · rw [wipe_in hj, wipe_in hj, hl]
  · rw [wipe_out hj, h j hj]
/-! ### tests in a comprehension -/
theorem pts_ok {ifs : List E} {cs : List Expr} (h : chkTs g N sc ifs cs = true) (ii : ∀ a x, ifs = [a] → chk g N sc a x = true → PT X x (tT p a)) :
    PTs X cs (fun σ H Q => ∃ F S e, Rdy H F S e σ ∧ Vt p (smpL ifs) σ H F S (evTs p.C ifs e) Q) := by
  cases ifs with
  | nil =>
    simp only [chkTs, List.isEmpty_iff] at h
    subst h
    exact ⟨fun pins s σ H Q I ⟨F, S, e, rd, q⟩ => pts_nil.run pins s σ H Q I (q H F S (rd.refl.imp fun _ => rfl))⟩
  | cons a r =>
    unfold chkTs at h
    split at h
    · rw [Bool.and_eq_true, List.isEmpty_iff] at h
      obtain ⟨rfl, h⟩ := h
      refine ⟨fun pins s σ H Q I ⟨F, S, e, rd, q⟩ => (pts_one (ii a _ rfl h)).run pins s σ H Q I ⟨F, S, e, rd, ?_⟩⟩
      simp only [evTs] at q
      cases hr : asB (ev p.C a e) with
      | ok b e1 =>
        rw [hr] at q
        intro H' F' S2 k
        cases b <;> exact q H' F' S2 (k.imp fun z => by simpa [smpL, Bool.and_eq_true] using z)
      | ex x e1 => rw [hr] at q; exact q.elim
      | bad => rw [hr] at q; exact q
    · cases h
end
end Vm
namespace Vm
open PySem PySem.Spec PyProof.Rows L2
variable [CN]
section
variable {g : Tab} {N : List Str} {p : Pm} {X : Cx} {sc : Scope}
theorem own_upd {sb : Bool} {σ : Sl} {H H1 : Hp} {F F1 S S1 : AS} {e1 : Nv} {i : Nat} {xs ys : List D} {vs us : List V} {a : Addr} (fd : FD H F) (k : AftT sb σ H F S H1 F1 e1 S1) (he : e1[i]? = some (some (.lst true xs))) (hv : σ[i]? = some (some (.ref a))) (hH : H1 a = some (.lst vs))
    (r : RepL H1 F1 ys us nos) (hz : us.length ≤ sizeLine) : AftT false σ H F S (upd H1 a (.lst us)) F1 (e1.set i (some (.lst true ys))) S1 := by
  obtain ⟨v, T1, T2, hv', rp, er, dj, t1, t2⟩ := k.er.out he
  rw [hv] at hv'; cases hv'
  obtain ⟨a', vs', ea, z, l, c⟩ := rp
  cases ea
  obtain ⟨_, hH', hT⟩ : true = true ∧ H1 a = some (.lst vs') ∧ T1 a := by
    rcases c with ⟨c, _⟩ | c
    · cases c
    · exact c
  have fa : F1 a := k.s2 a (t1 a hT)
  have kp : ∀ x o, H1 x = some o → x ≠ a → upd H1 a (.lst us) x = some o := fun x o h n => by rw [upd_ne n]; exact h
  have dm : ∀ x, H1 x ≠ none → upd H1 a (.lst us) x ≠ none := fun x h => by
    by_cases hx : x = a
    · rw [hx, upd_same]; simp
    · rw [upd_ne hx]; exact h
  have na : ∀ x, ¬ F1 x ∨ T2 x → x ≠ a := fun x h e => by
    rcases h with h | h
    · exact h (e ▸ fa)
    · exact dj x (e ▸ hT) h
  have er2 : ERs (upd H1 a (.lst us)) F1 (e1.set i none) σ T2 := er.step (fun x o h n => kp x o h.1 (na x n)) fun x h => .inl h
  have r2 : RepL (upd H1 a (.lst us)) F1 ys us nos := RepL.step ys us nos r (fun x o h n => kp x o h.1 (na x (n.imp_right fun z => z.elim))) fun x h => .inl h
  have hi : i < (e1.set i none).length := by rw [List.length_set]; exact (List.getElem?_eq_some_iff.mp he).1
  have er3 := ERs.back (d := .lst true ys) er2 hi hv ⟨a, us, rfl, hz, r2, .inr ⟨rfl, upd_same, hT⟩⟩ dj
  rw [List.set_set] at er3
  refine ⟨⟨fun x o h ns => ?_, k.ch.new, k.ch.old, fun x h => dm x (k.ch.dom x h), k.ch.fd.upd hH not_hard_lst⟩, er3.mono fun x h => h.elim (t1 x) (t2 x), k.s2, k.n2, fun z => by cases z⟩
  exact kp x o (k.ch.keep x o h ns) fun e => (k.n2 a (t1 a hT)).elim (fun z => ns (e ▸ z)) fun z => by rw [e] at h; have h := h.1; rw [z] at h; cases h
theorem slot_ref {H1 : Hp} {F1 S1 : AS} {e1 : Nv} {σ : Sl} {i : Nat} {xs : List D} (er : ERs H1 F1 e1 σ S1) (he : e1[i]? = some (some (.lst true xs))) : ∃ a vs, σ[i]? = some (some (.ref a)) ∧ H1 a = some (.lst vs) ∧ RepL H1 F1 xs vs nos ∧ vs.length ≤ sizeLine := by
  obtain ⟨v, hv, rp⟩ := er.get he
  obtain ⟨a, vs, rfl, z, l, c⟩ := rp
  rcases c with ⟨c, _⟩ | ⟨_, c, _⟩
  · cases c
  · exact ⟨a, vs, hv, c, l, z⟩
theorem lst_ty {K : PySem.W.Frag} {H : Hp} {F S : AS} {o : Bool} {xs : List Vm.D} {w : L2.V} (h : Rep H F (.lst o xs) w S) : ∃ a, w = .ref a ∧ tyV K "list" w H := by
  obtain ⟨a, vs, rfl, z, l, c⟩ := h
  refine ⟨a, rfl, .inl ⟨rfl, vs, .inl ?_⟩⟩
  rcases c with ⟨_, c⟩ | ⟨_, c, _⟩
  · exact c.1
  · exact .inl c
theorem snd_pop {z : Bool} {i : Nat} {A : Expr} (G : Gd g N p X sc) (h : chk g N sc (.pop z i) A = true) :
    PE X A (tE p (.pop z i)) ∧ PT X A (tT p (.pop z i)) ∧ (isBO A = true → PW X A (tT p (.pop z i))) := by
  cases A with
  | Call fn xs kws pos =>
    unfold chk at h
    split at h
    · rename_i heq
      cases heq
      rename_i o po m ap
      simp only [Bool.and_eq_true, decide_eq_true_eq] at h
      obtain ⟨rfl, ho, hl, hx⟩ := h
      refine se_plain ?_ (fun _ => rfl) rfl
      have key : ∀ {σ H Q}, tE p (.pop z i) σ H Q → ∃ (F S : AS) (e : Nv) (a : Addr) (ds : List Vm.D) (vs : List V) (d : Vm.D) (v : V), Rdy H F S e σ ∧ σ[i]? = some (some (.ref a)) ∧ H a = some (.lst vs) ∧ tyV X.K "list" (.ref a) H ∧ RepL H F ds vs nos ∧ vs.length ≤ sizeLine ∧
          (if z then vs.head? else vs.getLast?) = some v ∧ Q v (upd H a (.lst (if z then vs.drop 1 else vs.take (vs.length - 1)))) := fun {σ H Q} ⟨F, S, e, rd, q⟩ => by
        simp only [ev] at q
        split at q
        · rename_i ds he
          obtain ⟨a, vs, hσ, hH, l, hz⟩ := slot_ref rd.er he
          obtain ⟨w, hw, rw'⟩ := rd.er.get he
          obtain ⟨a', e', ty⟩ := lst_ty (K := X.K) rw'
          rw [hσ] at hw; cases hw
          cases e'
          have hlen := l.len
          cases hd : (if z then ds.head? else ds.getLast?) with
          | none => rw [hd] at q; exact q.elim
          | some d =>
            rw [hd] at q
            have hv : ∃ v, (if z then vs.head? else vs.getLast?) = some v ∧ Rep H F d v nos := by
              cases z with
              | true =>
                simp only [if_true, List.head?_eq_getElem?] at hd ⊢
                exact l.get hd
              | false =>
                simp only [Bool.false_eq_true, if_false, List.getLast?_eq_getElem?] at hd ⊢
                rw [hlen]
                exact l.get hd
            obtain ⟨v, hv, rv⟩ := hv
            refine ⟨F, S, e, a, ds, vs, d, v, rd, hσ, hH, ty, l, hz, hv, ?_⟩
            have k := own_upd (ys := if z then ds.drop 1 else ds.take (ds.length - 1)) (us := if z then vs.drop 1 else vs.take (vs.length - 1)) rd.fd rd.refl he hσ hH (by
              cases z with
              | true => simp only [if_true]; exact RepL.drop 1 l
              | false => simp only [Bool.false_eq_true, if_false]; rw [hlen]; exact RepL.take _ l) (by
              cases z with
              | true => simp only [if_true, List.length_drop]; omega
              | false => simp only [Bool.false_eq_true, if_false, List.length_take]; omega)
            refine q v _ _ nos _ (k.val ?_)
            have fa : F a := by
              obtain ⟨v1, T1, T2, hv', rp, er, dj, t1, t2⟩ := rd.er.out he
              rw [hσ] at hv'; cases hv'
              obtain ⟨a', vs', ea, _, _, c⟩ := rp
              cases ea
              rcases c with ⟨c, _⟩ | ⟨_, _, c⟩
              · cases c
              · exact rd.sf a (t1 a c)
            exact Rep.step d v nos rv (fun x o hx n => by
              rw [upd_ne fun e => ?_]
              · exact hx.1
              · rcases n with n | n
                · exact n (e ▸ fa)
                · exact n) fun x h => .inl h
        · exact q.elim
      cases xs with
      | nil =>
        have hz : z = false := by simpa using hx
        subst hz
        refine pe_weak (pe_bm0 F.plainAttrs_list F.slot_list_pop F.type_list_pop mt_pop (pe_nm G ho) (by rfl) hl) fun σ H Q q => ?_
        obtain ⟨F, S, e, a, ds, vs, d, v, rd, hσ, hH, ty, l, hz, hv, q⟩ := key q
        simp only [Bool.false_eq_true, if_false] at hv q
        exact ⟨.ref a, hσ, ty, a, vs, v, rfl, rfl, hH, by rw [← List.getLast?_eq_getElem?]; exact hv, by rw [List.dropLast_eq_take]; exact q⟩
      | cons x xs =>
        cases xs with
        | cons _ _ =>
          exfalso
          split at hx
          · rename_i heq; cases heq
          · rename_i heq; cases heq
          · cases hx
        | nil =>
          split at hx
          · rename_i heq
            cases heq
          · rename_i j cp heq
            cases heq
            have hz : z = true := by simpa using hx
            subst hz
            refine pe_weak (pe_bm F.plainAttrs_list F.slot_list_pop F.type_list_pop mt_popAt (pe_nm G ho) (pa_cons pe_int pa_nil (by rfl)) (by rfl) (by rfl) hl (by rfl) (by rfl)) fun σ H Q q => ?_
            obtain ⟨F, S, e, a, ds, vs, d, v, rd, hσ, hH, ty, l, hz, hv, q⟩ := key q
            simp only [if_true] at hv q
            have h0 : 0 < vs.length := by
              cases vs with
              | nil => cases hv
              | cons _ _ => simp
            refine ⟨.ref a, hσ, ty, a, vs, 0, 0, v, rfl, rfl, hH, by decide, by decide, ?_, by rw [← List.head?_eq_getElem?]; exact hv, ?_⟩
            · unfold seqIndex?
              simp
              exact fun z => by rw [z] at h0; cases h0
            · rw [List.eraseIdx_zero]
              rw [List.drop_one] at q
              exact q
          · cases hx
    · exact absurd h Bool.false_ne_true
  | _ => exact absurd h Bool.false_ne_true
end
end Vm
namespace Vm
open PySem PySem.Spec PyProof.Rows L2
variable [CN]
section
variable {g : Tab} {N : List Str} {p : Pm} {X : Cx} {sc : Scope}
def rPk : R2 := fun x y H Q => ∃ F a b S1 S2 d, Rep H F a x S1 ∧ Rep H F b y S2 ∧ pkD a b = some d ∧ ∀ v, Rep H F d v S1 → Q v H
theorem pkD_ok (hu : X.A.units + 65 < cLine) : IxR X rPk := by
  intro value slice pins s σ H x y v u Q I rx ry h hs
  obtain ⟨F, a, b, S1, S2, d, ra, rb, e, out⟩ := h
  cases a <;> (first | (cases e; done) | skip)
  rename_i o ks ds
  simp only [pkD] at e
  split at e
  · rename_i hk
    obtain ⟨k, rfl⟩ := isK_ok hk
    obtain ⟨p, kvs, rfl, z, l, r, rfl, ok⟩ := ra.dct_inv
    obtain ⟨rfl, _⟩ := rb.key
    have lk := look_rep k l
    rw [e] at lk
    obtain ⟨w, hw, rw'⟩ := lk
    have g := dget_of k r
    rw [hw] at g
    cases (show v = Value.ref p from rx)
    exact PyProof.Rows.tail_any (dict_typeIs I g) PySem.F.slot_dict_getitem.lookup (d_getItem (by omega) I g ry fun w' s' I' rw2 => ⟨_, H, I', rw2, out _ rw'⟩) hs
  · cases e
theorem snd_ixp {a i : E} (ia : SE g N p.C p.XR a) (ib : SE g N p.C p.XR i) {A : Expr} {sc : Scope} (G : Gd g N p X sc) (h : chk g N sc (.ixp a i) A = true) : PE X A (tE p (.ixp a i)) ∧ PT X A (tT p (.ixp a i)) ∧ (isBO A = true → PW X A (tT p (.ixp a i))) := by
  cases A with
  | Subscript x y pos =>
    simp only [chk, Bool.and_eq_true, Bool.or_eq_true] at h
    obtain ⟨hp, hm, hx, hy⟩ := h
    have i1 := (ia p.Wx X sc x G hx).1
    have i2 := (ib p.Wx X sc y G hy).1
    refine se_plain (pe_weak (pe_ix (pkD_ok (by have := G.un; omega)) i1 i2 (plainIx_pl hp)) fun σ H Q ⟨F, S, e, rd, q⟩ => ⟨F, S, e, rd, ?_⟩) (fun _ => rfl) rfl
    simp only [ev] at q
    refine vp_bind q fun d1 e1 _ q v1 H1 F1 S1 S2 a1 => ?_
    have q1 := Vp.pre (sb2 := smp i) rd.fd a1.t q (by simp only [smp, Bool.and_eq_true]; exact id)
    refine ⟨F1, S2, e1, .of_aft a1, vp_bind q1 fun d2 e2 _ q2 v2 H2 F2 T1 T2 a2 => ?_⟩
    have k := a1.keep a2.t hm
    cases ho : pkD d1 d2 with
    | none => rw [ho] at q2; exact q2.elim
    | some d =>
      rw [ho] at q2
      exact ⟨F2, d1, d2, S1, T1, d, k, a2.rep, ho, fun v r => q2 v H2 F2 S1 T2 ⟨a2.ch, r, a2.er, (fun z => by cases z), a2.s2, a2.n2, (fun z => by cases z), (fun z => by cases z), a2.ext⟩⟩
  | _ => exact absurd h Bool.false_ne_true
/-- one of a dict's lists is another one -/
theorem child_upd {H : Hp} {F : AS} {k : D} {xs ys : List D} {ws : List V} {c : Addr} {vs0 : List V} (fc : F c) (ry : RepL H F ys ws nos) (hz : ws.length ≤ sizeLine) : ∀ {ks ds : List D} {us : List V} {T : AS}, RepL H F ds us T → look k ks ds = some (.lst true xs) →
    ∀ {j : Nat}, (ks.findIdx? fun k' => eqD k' k) = some j → us[j]? = some (.ref c) → RepL (upd H c (.lst ws)) F (putL k (.lst true ys) ks ds) us T ∧ T c
  | [], ds, us, T, r, hl, j, hj, hu => by cases hj
  | k' :: ks, [], us, T, r, hl, j, hj, hu => by cases hl
  | k' :: ks, d :: ds, us, T, r, hl, j, hj, hu => by
    obtain ⟨v, r', S1, S2, rfl, h1, h2, dj, s1, s2⟩ := r
    have kp : ∀ x o, H x = some o → x ≠ c → upd H c (.lst ws) x = some o := fun x o h n => by rw [upd_ne n]; exact h
    rw [look] at hl
    rw [List.findIdx?_cons] at hj
    rw [putL]
    by_cases he : eqD k' k = true
    · rw [if_pos he] at hl ⊢
      rw [if_pos he] at hj
      cases hj
      cases hl
      cases hu
      obtain ⟨c', vs, ec, z, l, cc⟩ := h1
      cases ec
      obtain ⟨_, hc, sc⟩ : true = true ∧ H c = some (.lst vs) ∧ S1 c := by
        rcases cc with ⟨cc, _⟩ | cc
        · cases cc
        · exact cc
      refine ⟨⟨.ref c, r', S1, S2, rfl, ⟨c, ws, rfl, hz, RepL.step ys ws nos ry (fun x o h n => kp x o h.1 fun e => ?_) fun x h => .inl h, .inr ⟨rfl, upd_same, sc⟩⟩, RepL.step ds r' S2 h2 (fun x o h n => kp x o h.1 fun e => ?_) fun x h => .inl h, dj, s1, s2⟩, s1 c sc⟩
      · rcases n with n | n
        · exact n (e ▸ fc)
        · exact n
      · rcases n with n | n
        · exact n (e ▸ fc)
        · exact dj c sc (e ▸ n)
    · rw [if_neg he] at hl ⊢
      rw [if_neg he] at hj
      obtain ⟨j', hj', rfl⟩ := Option.map_eq_some_iff.mp hj
      obtain ⟨h3, sc⟩ := child_upd (vs0 := vs0) fc ry hz h2 hl hj' (by simpa using hu)
      refine ⟨⟨v, r', S1, S2, rfl, Rep.step d v S1 h1 (fun x o h n => kp x o h.1 fun e => ?_) fun x h => .inl h, h3, dj, s1, s2⟩, s2 c sc⟩
      rcases n with n | n
      · exact n (e ▸ fc)
      · exact dj c (e ▸ n) sc
def rDg : R2 := fun x y H Q => ∃ a kvs k v, x = .ref a ∧ y = kV k ∧ H a = some (.dK kvs) ∧ valV kvs k = some v ∧ Q v H
theorem dg_ok (hu : X.A.units + 65 < cLine) : IxR X rDg := by
  intro value slice pins s σ H x y v u Q I rx ry h hs
  obtain ⟨a, kvs, k, w, rfl, rfl, hH, hw, q⟩ := h
  have g := dget_of k hH
  rw [hw] at g
  cases (show v = Value.ref a from rx)
  exact PyProof.Rows.tail_any (dict_typeIs I g) PySem.F.slot_dict_getitem.lookup (d_getItem (by omega) I g ry fun w' s' I' rw2 => ⟨_, H, I', rw2, q⟩) hs
theorem valV_idx {k : L2.Key} {v : V} : ∀ {kvs : List (L2.Key × V)}, valV kvs k = some v → ∃ j : Nat, ((kvs.map fun p => kD p.1).findIdx? fun k' => eqD k' (kD k)) = some j ∧ (kvs.map (·.2))[j]? = some v
  | [], h => by cases h
  | p :: kvs, h => by
    rw [List.map_cons, List.findIdx?_cons, eqD_kD]
    unfold valV at h
    rw [List.find?_cons] at h
    by_cases e : p.1 = k
    · simp only [e, decide_true, Option.map_some, Option.some.injEq] at h
      exact ⟨0, by simp [e], by simp [h]⟩
    · simp only [e, decide_false] at h
      obtain ⟨j, h1, h2⟩ := valV_idx (kvs := kvs) h
      exact ⟨j + 1, by simp [e, h1], by simpa using h2⟩
theorem putL_len {k x : D} : ∀ {ks ds : List D}, ks.length = ds.length → (putL k x ks ds).length = ds.length
  | [], ds, h => by
    cases ds with
    | nil => rfl
    | cons _ _ => cases h
  | _ :: _, [], h => by cases h
  | k' :: ks, d :: ds, h => by
    rw [putL]
    split
    · rfl
    · rw [List.length_cons, List.length_cons, putL_len (by simpa using h)]
theorem child_own {H : Hp} {F : AS} {k : D} {xs : List D} {c : Addr} : ∀ {ks ds : List D} {us : List V} {T : AS}, RepL H F ds us T → look k ks ds = some (.lst true xs) →
    ∀ {j : Nat}, (ks.findIdx? fun k' => eqD k' k) = some j → us[j]? = some (.ref c) → T c
  | [], ds, us, T, r, hl, j, hj, hu => by cases hj
  | k' :: ks, [], us, T, r, hl, j, hj, hu => by cases hl
  | k' :: ks, d :: ds, us, T, r, hl, j, hj, hu => by
    obtain ⟨v, r', S1, S2, rfl, h1, h2, dj, s1, s2⟩ := r
    rw [look] at hl
    rw [List.findIdx?_cons] at hj
    by_cases he : eqD k' k = true
    · rw [if_pos he] at hl
      rw [if_pos he] at hj
      cases hj
      cases hl
      cases hu
      obtain ⟨c', vs, ec, z, l, cc⟩ := h1
      cases ec
      rcases cc with ⟨cc, _⟩ | ⟨_, _, cc⟩
      · cases cc
      · exact s1 c cc
    · rw [if_neg he] at hl
      rw [if_neg he] at hj
      obtain ⟨j', hj', rfl⟩ := Option.map_eq_some_iff.mp hj
      exact s2 c (child_own h2 hl hj' (by simpa using hu))
/-- a list in a slot's dict grows -/
theorem own_child {σ : Sl} {H : Hp} {F S : AS} {e : Nv} {i : Nat} {ks ds : List D} {k : L2.Key} {xs : List D} {z : D} {zv : V} {a c : Addr} {kvs : List (L2.Key × V)} {vs : List V} (rd : Rdy H F S e σ) (he : e[i]? = some (some (.dct true ks ds))) (hv : σ[i]? = some (some (.ref a)))
    (hH : H a = some (.dK kvs)) (hl : look (kD k) ks ds = some (.lst true xs)) (hw : valV kvs k = some (.ref c)) (hc : H c = some (.lst vs)) (rl : RepL H F xs vs nos) (rz : Rep H F z zv nos) (hz : vs.length + 1 ≤ sizeLine) :
    AftT false σ H F S (upd H c (.lst (vs ++ [zv]))) F (e.set i (some (.dct true ks (putL (kD k) (.lst true (xs ++ [z])) ks ds)))) S := by
  obtain ⟨v, T1, T2, hv', rp, er, dj, t1, t2⟩ := rd.er.out he
  rw [hv] at hv'; cases hv'
  obtain ⟨a', us, T, u, ea, zl, ⟨kvs', rfl, hks, hus, ok⟩, l, cc⟩ := rp
  cases ea
  obtain ⟨_, hH', sa, na, sb⟩ : true = true ∧ H a = some (.dK kvs') ∧ T1 a ∧ ¬ T a ∧ Sb T T1 := by
    rcases cc with ⟨cc, _⟩ | cc
    · cases cc
    · exact cc
  rw [hH] at hH'
  cases hH'
  subst hks hus
  obtain ⟨j, j1, j2⟩ := valV_idx hw
  have tc : T c := child_own l hl j1 j2
  have fc : F c := rd.sf c (t1 c (sb c tc))
  obtain ⟨l2, _⟩ := child_upd (vs0 := vs) fc (ys := xs ++ [z]) (ws := vs ++ [zv]) (rl.app (.cons rz .nil)) (by rw [List.length_append]; exact hz) l hl j1 j2
  have hac : a ≠ c := fun q => na (q ▸ tc)
  have kp : ∀ x o, H x = some o → x ≠ c → upd H c (.lst (vs ++ [zv])) x = some o := fun x o h n => by rw [upd_ne n]; exact h
  have dm : ∀ x, H x ≠ none → upd H c (.lst (vs ++ [zv])) x ≠ none := fun x h => by
    by_cases hx : x = c
    · rw [hx, upd_same]; simp
    · rw [upd_ne hx]; exact h
  have er2 : ERs (upd H c (.lst (vs ++ [zv]))) F (e.set i none) σ T2 := er.step (fun x o h n => kp x o h.1 fun q => by
    rcases n with n | n
    · exact n (q ▸ fc)
    · exact dj c (sb c tc) (q ▸ n)) fun x h => .inl h
  have hi : i < (e.set i none).length := by rw [List.length_set]; exact (List.getElem?_eq_some_iff.mp he).1
  have er3 := ERs.back (d := .dct true (kvs.map fun p => kD p.1) (putL (kD k) (.lst true (xs ++ [z])) (kvs.map fun p => kD p.1) ds)) er2 hi hv ⟨a, kvs.map (·.2), T, .dK kvs, rfl, zl, ⟨kvs, rfl, rfl, rfl, ok⟩, l2, .inr ⟨rfl, kp a _ hH hac, sa, na, sb⟩⟩ dj
  rw [List.set_set] at er3
  refine ⟨⟨fun x o h ns => kp x o h.1 fun q => ns (q ▸ t1 c (sb c tc)), fun x h => .inl h, fun x h _ => h, fun x h => dm x h, rd.fd.upd hc not_hard_lst⟩, er3.mono fun x h => h.elim (t1 x) (t2 x), rd.sf, fun x h => .inl h, fun z => by cases z⟩
end
end Vm
namespace Vm
open PySem PySem.Spec L2
variable [CN]

section
variable {g : Tab} {N : List Str} {p : Pm} {X : Cx} {sc : Scope}
abbrev noW : WX := fun _ _ _ _ => False
theorem takes_no {X : Cx} : Takes X noW := fun _ _ ⟨_, _, _, _, _, _, _, _, _, _, _, _, _, _, _, _, w⟩ => w.elim
theorem Gd.blk {C : Orc} {XR : Hp → AS → D → Value → Option Addr → Prop} {Wx : WX} (G : Gd g N ⟨C, XR, Wx⟩ X sc) (s : Shared) (H : Hp) (scope : Scope) (Cc : Addr) (cl : List (Str × Addr)) (fp : List Addr) :
    Gd g N ⟨C, XR, noW⟩ (X.blk s H scope (compEnvC scope cl Cc X.env) fp) (relS scope sc) where
  hN := G.hN
  nd := G.nd
  sc := by
    show relS scope X.env.scope = relS scope sc
    rw [G.sc]
  calm := G.calm
  un := G.un
  free := G.free
  cons := G.cons
  tk := takes_no
  fnk0 := G.fnk0
  xr := G.xr
  rm := G.rm
  exc := G.exc
  lam := fun z => ⟨(G.lam z).ex⟩
  rep := G.rep
  isi := G.isi
  dcs := G.dcs
  glo := G.glo
  meth := G.meth
  mak := G.mak
  fld := G.fld
theorem Vt.of_ok {sb : Bool} {σ : Sl} {H : Hp} {F S : AS} {r : R Bool} {Q : Bool → Hp → Prop} (h : ∀ b e', r = .ok b e' → ∀ H' F' S2, AftT sb σ H F S H' F' e' S2 → Q b H') (hx : ∀ x e', r = .ex x e' → False) (hb : r = .bad → False) : Vt p sb σ H F S r Q := by
  cases r with
  | ok b e' => exact h b e' rfl
  | ex x e' => exact (hx x e' rfl).elim
  | bad => exact (hb rfl).elim
theorem Vp.of_ok {vb sb : Bool} {σ : Sl} {H : Hp} {F S : AS} {r : R D} {Q : VK} (h : ∀ b e', r = .ok b e' → ∀ v H' F' S1 S2, Aft vb sb σ H F S H' F' b v S1 e' S2 → Q v H') (hx : ∀ x e', r = .ex x e' → False) (hb : r = .bad → False) : Vp p vb sb σ H F S r Q := by
  cases r with
  | ok b e' => exact h b e' rfl
  | ex x e' => exact (hx x e' rfl).elim
  | bad => exact (hb rfl).elim
theorem kt_lst {H : Hp} {a : Addr} {vs : List V} (h : H a = some (.lst vs)) : Kt H a (.lst vs) := ⟨h, fun _ z => by cases z⟩
theorem kt_dK {H : Hp} {a : Addr} {vs : List (L2.Key × V)} (h : H a = some (.dK vs)) : Kt H a (.dK vs) := ⟨h, fun _ z => by cases z⟩
theorem still_ok {α : Type} {r : R α} {x : α} {e : Nv} (h : r.still = .ok x e) : r = .ok x e := by
  cases r <;> first | exact h | cases h
/-- what a loop's source needs to stand -/
def Stb (G : Hp → AS → Prop) (S1 : AS) : Prop := ∀ H F H' F', G H F → (∀ a o, Kt H a o → ¬ F a ∨ S1 a → H' a = some o) → (∀ a, F' a → F a ∨ H a = none) → G H' F'
theorem stb_repL {xs : List D} {vs : List V} {S1 : AS} : Stb (fun H F => RepL H F xs vs S1) S1 := fun _ _ _ _ r k n => RepL.step xs vs S1 r k n
/-- the turns of a comprehension -/
structure LcW (vb : Bool) (σ : Sl) (H : Hp) (F S : AS) (G : Hp → AS → Prop) (S1 : AS) (Dd : Addr) (i : Nat) (Hc : Hp) (Fc Sc : AS) (ec : Nv) (av : List V) (acc : List D) : Prop where
  A : AftT false σ H F S Hc Fc ec Sc
  src : G Hc Fc
  sd : vb = true → Dj S1 Sc
  sf : vb = true → Sb S1 Fc
  hD : Hc Dd = some (.lst av)
  rep : RepL Hc Fc acc av nos
  fD : Fc Dd
  nD : ¬ Sc Dd
  nS : ¬ S1 Dd
  len : acc.length ≤ i
section
variable {C : Orc} {XR : Hp → AS → D → Value → Option Addr → Prop} {own : List Nat} {vb : Bool} {σ σ2 : Sl} {H : Hp} {F S : AS} {G : Hp → AS → Prop} {S1 : AS} {Dd : Addr} {i : Nat} {Hc : Hp} {Fc Sc : AS} {ec : Nv} {av : List V} {acc : List D}
theorem LcW.wiped (w : LcW vb σ H F S G S1 Dd i Hc Fc Sc ec av acc) (vs : List Nat) : LcW vb (wipe σ vs) H F S G S1 Dd i Hc Fc Sc (wipeE ec vs) av acc :=
  ⟨⟨w.A.ch, w.A.er.wiped vs, w.A.s2, w.A.n2, fun z => by cases z⟩, w.src, w.sd, w.sf, w.hD, w.rep, w.fD, w.nD, w.nS, w.len⟩
theorem LcW.unwiped {vs : List Nat} (w : LcW vb (wipe σ vs) H F S G S1 Dd i Hc Fc Sc ec av acc) (h : wipeE ec vs = ec) : LcW vb σ H F S G S1 Dd i Hc Fc Sc ec av acc :=
  ⟨⟨w.A.ch, by rw [← h]; exact w.A.er.unwipe, w.A.s2, w.A.n2, fun z => by cases z⟩, w.src, w.sd, w.sf, w.hD, w.rep, w.fD, w.nD, w.nS, w.len⟩
theorem LcW.up (w : LcW vb σ H F S G S1 Dd i Hc Fc Sc ec av acc) {j : Nat} (h : acc.length ≤ j) : LcW vb σ H F S G S1 Dd j Hc Fc Sc ec av acc := ⟨w.A, w.src, w.sd, w.sf, w.hD, w.rep, w.fD, w.nD, w.nS, h⟩
/-- the target, the tests -/
theorem lc_tgt {tg : Tg} {ifs : List E} {d : D} {x : V} {Hy : Hp} {e1 : Nv} (fd : FD H F) (gs : Stb G S1)
    (w : LcW vb (wipe σ own) H F S G S1 Dd i Hc Fc Sc ec av acc) (hy : Hy = Hc ∨ ∃ T t, Hc T = none ∧ Hy = upd Hc T (.tup t)) (rx : Rep Hy Fc d x nos) (he : asgT tg d ec = some e1)
    (hown : ∀ k, k ∈ tgSlots tg → k ∈ own) (hm : vb = true ∨ smpL ifs = true)
    {K : Sl → Bool → Hp → Prop} (go : match evTs C ifs e1 with
      | .ok b e2 => ∀ σ2 H3 F3 S3, wipe σ2 own = wipe σ own → LcW vb σ2 H F S G S1 Dd i H3 F3 S3 e2 av acc → Rdy H3 F3 S3 e2 σ2 → K σ2 b H3
      | _ => False) :
    tTg tg x (wipe σ own) Hy fun σ2 H2 => wipe σ2 own = wipe σ own ∧ (∃ F S e, Rdy H2 F S e σ2 ∧ Vt ⟨C, XR, noW⟩ (smpL ifs) σ2 H2 F S (evTs C ifs e) fun b H3 => K σ2 b H3) := by
  -- the new pair stands
  have kp : ∀ a o, Hc a = some o → Hy a = some o := fun a o h => by
    rcases hy with rfl | ⟨T, t, hT, rfl⟩
    · exact h
    · exact upd_keep hT h
  have kn : ∀ a, Hc a ≠ none → Hy a ≠ none := fun a h z => h (by
    cases q : Hc a with
    | none => rfl
    | some o => rw [kp a o q] at z; cases z)
  have A0 : AftT false (wipe σ own) H F S Hy Fc ec Sc := ⟨⟨fun a o h ns => kp a o (w.A.ch.keep a o h ns), w.A.ch.new, w.A.ch.old, fun a h => kn a (w.A.ch.dom a h), w.A.ch.fd.hard (fun a o h _ => kp a o h) fun a h => kn a (w.A.ch.fd a h)⟩, w.A.er.step (fun a o h _ => kp a o h.1) fun a h => .inl h, w.A.s2, w.A.n2, fun z => by cases z⟩
  have src0 : G Hy Fc := gs _ _ _ _ w.src (fun a o h _ => kp a o h.1) fun a h => .inl h
  have rep0 : RepL Hy Fc acc av nos := RepL.step acc av nos w.rep (fun a o h _ => kp a o h.1) fun a h => .inl h
  have hD0 : Hy Dd = some (.lst av) := kp _ _ w.hD
  refine ⟨Fc, nos, Sc, d, ec, e1, rx, A0.er, dj_nos, he, fun σ2 hs2 hl2 er2 => ?_⟩
  have er2 := er2.mono (T := Sc) fun a z => z.elim (fun z => z.elim) id
  have hw : wipe σ2 own = wipe σ own := wipe_eq (fun j hj => hs2 j fun z => hj (hown j z)) (by rw [hl2, wipe_length])
  refine ⟨hw, Fc, Sc, e1, ⟨er2, A0.s2, A0.ch.fd⟩, ?_⟩
  have A1 : AftT false σ2 H F S Hy Fc e1 Sc := ⟨A0.ch, er2, A0.s2, A0.n2, fun z => by cases z⟩
  refine Vt.of_ok (fun b e2 hb H3 F3 S3 k3 => ?_) (fun x e' h => by rw [h] at go; exact go) (fun h => by rw [h] at go; exact go)
  rw [hb] at go
  -- behind the tests
  have keep3 : ∀ a o, Kt Hy a o → (¬ Fc a ∨ S1 a) → H3 a = some o := fun a o h z => by
    rcases hm with hm | hm
    · exact k3.ch.keep a o h fun q => z.elim (fun z => z (A0.s2 a q)) fun z => w.sd hm a z q
    · exact k3.ext hm a o h
  have A3 := (A1.trans fd k3).weak
  have src3 : G H3 F3 := gs _ _ _ _ src0 keep3 k3.ch.new
  have rep3 : RepL H3 F3 acc av nos := RepL.step acc av nos rep0 (fun a o h z => k3.ch.keep a o h fun q => z.elim (fun z => z (A0.s2 a q)) fun z => z) k3.ch.new
  have hD3 : H3 Dd = some (.lst av) := k3.ch.keep _ _ (kt_lst hD0) w.nD
  have fD3 : F3 Dd := k3.ch.old _ w.fD w.nD
  have nD3 : ¬ S3 Dd := fun q => (k3.n2 _ q).elim w.nD fun z => by rw [hD0] at z; cases z
  have sd3 : vb = true → Dj S1 S3 := fun hvb a z q => (k3.n2 a q).elim (fun q => w.sd hvb a z q) fun q => kn a (w.A.ch.fd a (w.sf hvb a z)) q
  have sf3 : vb = true → Sb S1 F3 := fun hvb a z => k3.ch.old a (w.sf hvb a z) (w.sd hvb a z)
  exact go σ2 H3 F3 S3 hw ⟨A3, src3, sd3, sf3, hD3, rep3, fD3, nD3, w.nS, w.len⟩ (.of_aftT k3)
/-- one more thing in the list -/
theorem lc_put {elt : E} {H3 : Hp} {F3 S3 : AS} {e2 : Nv} (fd : FD H F) (hdD : H Dd = none) (gs : Stb G S1) (w : LcW vb σ2 H F S G S1 Dd i H3 F3 S3 e2 av acc) (hz : acc.length < sizeLine)
    (hv : isV elt = true) (hm : vb = true ∨ smp elt = true) {Nx : Hp → Prop} (go : match (ev C elt e2).still with
        | .ok y e3 => ∀ H' F' S' av', LcW vb σ2 H F S G S1 Dd (i + 1) H' F' S' e3 av' (acc ++ [y.fz]) → Nx H'
        | _ => False) :
    tE ⟨C, XR, noW⟩ elt σ2 H3 fun y H4 => ∃ acc, H4 Dd = some (.lst acc) ∧ acc.length < sizeLine ∧ Nx (upd H4 Dd (.lst (acc ++ [y]))) := by
  obtain ⟨A3, src3, sd3, sf3, hD3, rep3, fD3, nD3, nS, len⟩ := w
  refine ⟨F3, S3, e2, ⟨A3.er, A3.s2, A3.ch.fd⟩, ?_⟩
  refine Vp.of_ok (fun y e3 hy3 v H4 F4 U1 S4 k4 => ?_) (fun x e' h => by rw [h] at go; exact go) (fun h => by rw [h] at go; exact go)
  rw [hy3] at go
  have A4 := (A3.trans fd k4.t).weak
  obtain ⟨g1, g2⟩ := k4.give A3.ch.fd hv
  have keep4 : ∀ a o, Kt H3 a o → (¬ F3 a ∨ S1 a) → H4 a = some o := fun a o h z => by
    rcases hm with hm | hm
    · exact k4.ch.keep a o h fun q => z.elim (fun z => z (A3.s2 a q)) fun z => sd3 hm a z q
    · exact k4.ext hm a o h
  have hD4 : H4 Dd = some (.lst av) := k4.ch.keep _ _ (kt_lst hD3) nD3
  have nU : ¬ U1 Dd := fun q => (k4.n1 hv _ q).elim nD3 fun z => by rw [hD3] at z; cases z
  have fD4 : F4 Dd := k4.ch.old _ fD3 nD3
  have nD4 : ¬ S4 Dd := fun q => (k4.n2 _ q).elim nD3 fun z => by rw [hD3] at z; cases z
  have src4 : G H4 F4 := gs _ _ _ _ src3 keep4 k4.ch.new
  have rep4 : RepL H4 F4 acc av nos := RepL.step acc av nos rep3 (fun a o h z => k4.ch.keep a o h fun q => z.elim (fun z => z (A3.s2 a q)) fun z => z) k4.ch.new
  have al : av.length = acc.length := rep4.len
  refine ⟨av, hD4, by rw [al]; exact hz, ?_⟩
  -- the list at Dd has grown
  have put : ∀ a o, H4 a = some o → a ≠ Dd → upd H4 Dd (.lst (av ++ [v])) a = some o := fun a o h z => by rw [upd_ne z]; exact h
  refine go (upd H4 Dd (.lst (av ++ [v]))) (fun a => F4 a ∧ ¬ U1 a) S4 (av ++ [v]) ⟨?_, ?_, fun hvb a z q => ?_, fun hvb a z => ⟨k4.ch.old a (sf3 hvb a z) (sd3 hvb a z), fun q => (k4.n1 hv a q).elim (sd3 hvb a z) (A3.ch.fd a (sf3 hvb a z))⟩, upd_same, ?_, ⟨fD4, nU⟩, nD4, nS, by rw [List.length_append]; exact Nat.succ_le_succ len⟩
  · have B := (A3.trans fd g1).weak
    refine ⟨⟨fun a o h ns => put a o (B.ch.keep a o h ns) (fun z => by have h := h.1; rw [z, hdD] at h; cases h), B.ch.new, B.ch.old, fun a h => ?_, B.ch.fd.upd hD4 not_hard_lst⟩, ?_, B.s2, B.n2, fun z => by cases z⟩
    · by_cases hz : a = Dd
      · rw [hz, upd_same]; simp
      · rw [upd_ne hz]; exact B.ch.dom a h
    · exact B.er.step (fun a o h z => put a o h.1 fun q => by
        rcases z with z | z
        · exact z (q ▸ ⟨fD4, nU⟩)
        · exact nD4 (q ▸ z)) fun a h => .inl h
  · refine gs _ _ _ _ (gs H4 F4 H4 (fun a => F4 a ∧ ¬ U1 a) src4 (fun _ _ e _ => e.1) fun a h => .inl h.1) (fun a o h z => put a o h.1 fun q => ?_) fun a h => .inl h
    rcases z with z | z
    · exact z (q ▸ ⟨fD4, nU⟩)
    · exact nS (q ▸ z)
  · exact (k4.n2 a q).elim (fun q => sd3 hvb a z q) fun q => A3.ch.fd a (sf3 hvb a z) q
  · have r1 := RepL.less rep4 (F' := fun a => F4 a ∧ ¬ U1 a) fun a h => h.1
    have r2 := r1.app (RepL.cons g2 RepL.nil)
    refine RepL.step _ _ nos r2 (fun a o h z => put a o h.1 fun q => ?_) fun a h => .inl h
    rcases z with z | z
    · exact z (q ▸ ⟨fD4, nU⟩)
    · exact z
theorem lc_turn {elt : E} {tg : Tg} {ifs : List E} {d : D} {x : V} {Hy : Hp} {e1 : Nv} (fd : FD H F) (hdD : H Dd = none) (gs : Stb G S1)
    (w : LcW vb (wipe σ own) H F S G S1 Dd i Hc Fc Sc ec av acc) (hy : Hy = Hc ∨ ∃ T t, Hc T = none ∧ Hy = upd Hc T (.tup t)) (rx : Rep Hy Fc d x nos) (he : asgT tg d ec = some e1) (hz : acc.length < sizeLine)
    (hown : ∀ k, k ∈ tgSlots tg → k ∈ own) (hv : isV elt = true) (hm : vb = true ∨ (smp elt = true ∧ smpL ifs = true))
    {Nx : Hp → Prop} (go : match evTs C ifs e1 with
      | .ok true e2 => (match (ev C elt e2).still with
        | .ok y e3 => ∀ H' F' S' av', LcW vb (wipe σ own) H F S G S1 Dd (i + 1) H' F' S' (wipeE e3 own) av' (acc ++ [y.fz]) → Nx H'
        | _ => False)
      | .ok false e2 => ∀ H' F' S' av', LcW vb (wipe σ own) H F S G S1 Dd (i + 1) H' F' S' (wipeE e2 own) av' acc → Nx H'
      | _ => False) :
    tTg tg x (wipe σ own) Hy fun σ2 H2 => wipe σ2 own = wipe σ own ∧ (∃ F S e, Rdy H2 F S e σ2 ∧ Vt ⟨C, XR, noW⟩ (smpL ifs) σ2 H2 F S (evTs C ifs e) fun b H3 =>
      if b = true then tE ⟨C, XR, noW⟩ elt σ2 H3 fun y H4 => ∃ acc, H4 Dd = some (.lst acc) ∧ acc.length < sizeLine ∧ Nx (upd H4 Dd (.lst (acc ++ [y]))) else Nx H3) := by
  refine lc_tgt (K := fun σ2 b H3 => if b = true then tE ⟨C, XR, noW⟩ elt σ2 H3 fun y H4 => ∃ acc, H4 Dd = some (.lst acc) ∧ acc.length < sizeLine ∧ Nx (upd H4 Dd (.lst (acc ++ [y]))) else Nx H3) fd gs w hy rx he hown (hm.imp_right fun z => z.2) ?_
  cases ht : evTs C ifs e1 with
  | ok b e2 =>
    rw [ht] at go
    intro σ2 H3 F3 S3 hw w3 rd3
    cases b with
    | false =>
      rw [if_neg Bool.false_ne_true]
      have w4 := w3.wiped own
      rw [hw] at w4
      exact go H3 F3 S3 av (w4.up (Nat.le_succ_of_le w.len))
    | true =>
      rw [if_pos rfl]
      refine lc_put fd hdD gs w3 hz hv (hm.imp_right fun z => z.1) ?_
      simp only at go
      cases hy3 : (ev C elt e2).still with
      | ok y e3 =>
        rw [hy3] at go
        intro H' F' S' av' w5
        have w6 := w5.wiped own
        rw [hw] at w6
        exact go H' F' S' av' w6
      | ex x' e' => rw [hy3] at go; exact go
      | bad => rw [hy3] at go; exact go
  | ex x' e' => rw [ht] at go; exact go
  | bad => rw [ht] at go; exact go
end
theorem lc_loop {C : Orc} {XR : Hp → AS → D → Value → Option Addr → Prop} {vb : Bool} {σ : Sl} {H H1 : Hp} {F F1 S S1 S2 : AS} {xs ds rr : List D} {vs : List V} {e1 ef : Nv} {Dd : Addr} {elt : E} {tg : Tg} {ifs : List E} {ow : List Nat} {J : It} {Q : VK} (fd : FD H F) (k : AfI vb σ H F S H1 F1 xs vs S1 e1 S2) (jok : Jok ds J (fun H F => RepL H F xs vs S1))
    (hDd : H1 Dd = none) (nS1 : ¬ S1 Dd) (hz : ds.length ≤ sizeLine) (hown : ∀ k, k ∈ tgSlots tg → k ∈ ow) (hv : isV elt = true) (hmm : vb = true ∨ (smp elt = true ∧ smpL ifs = true))
    (hf : lcGo (fun e => wipeE e ow) (asgT tg) (fun e => evTs C ifs e) (fun e => (ev C elt e).still) ds (wipeE e1 ow) = .ok rr ef)
    (fin : ∀ Hc Fc Sc av, LcW vb σ H F S (fun H F => RepL H F xs vs S1) S1 Dd ds.length Hc Fc Sc ef av rr → Q (.ref Dd) Hc) :
    ∃ W : Nat → Nat → Hp → Prop, (∃ m, W 0 m (upd H1 Dd (.lst []))) ∧ ∀ i m H, W i m H → (J.stop i H ∧ Q (.ref Dd) H) ∨ (J.go i H ∧ ∃ Nx : Hp → Prop, (∀ H', Nx H' → ∃ m', m' < m ∧ W (i + 1) m' H') ∧ ∀ x H', J.yld i H x H' → tTg tg x (wipe σ ow) H' fun σ2 H2 => wipe σ2 ow = wipe σ ow ∧ (∃ F S e, Rdy H2 F S e σ2 ∧ Vt ⟨C, XR, noW⟩ (smpL ifs) σ2 H2 F S (evTs C ifs e) fun b H3 =>
      if b = true then tE ⟨C, XR, noW⟩ elt σ2 H3 fun y H4 => ∃ acc, H4 Dd = some (.lst acc) ∧ acc.length < sizeLine ∧ Nx (upd H4 Dd (.lst (acc ++ [y]))) else Nx H3)) := by
  have hdD : H Dd = none := Classical.byContradiction fun z => k.t.ch.dom Dd z hDd
  -- the invariant
  refine ⟨fun i m Hc => m = ds.length - i ∧ i ≤ ds.length ∧ ∃ Fc Sc ec av acc r, LcW vb (wipe σ ow) H F S (fun H F => RepL H F xs vs S1) S1 Dd i Hc Fc Sc ec av acc ∧ wipeE ec ow = ec ∧
      lcGo (fun e => wipeE e ow) (asgT tg) (fun e => evTs C ifs e) (fun e => (ev C elt e).still) (ds.drop i) ec = .ok r ef ∧ acc ++ r = rr, ⟨ds.length, rfl, Nat.zero_le _, ?_⟩, fun i m Hc ⟨em, hi, Fc, Sc, ec, av, acc, r, w, hwe, hgo, hacc⟩ => ?_⟩
  · have b := k.t.new (o := .lst []) fd hDd
    have nD : ¬ S2 Dd := fun z => k.t.ch.fd Dd (k.t.s2 _ z) hDd
    refine ⟨_, S2, wipeE e1 ow, [], [], rr, ⟨⟨b.ch, b.er.wiped ow, b.s2, b.n2, fun z => by cases z⟩, RepL.newF hDd k.rep, k.dj, fun z a q => .inl (k.s1 z a q), upd_same, rfl, .inr rfl, nD, nS1, Nat.le_refl _⟩, wipeE_idem e1 ow, by rw [List.drop_zero]; exact hf, rfl⟩
  · by_cases hlt : i < ds.length
    · have hd := List.getElem?_eq_getElem hlt
      obtain ⟨j1, j2⟩ := jok Hc Fc i w.src
      obtain ⟨jg, jy⟩ := j1 _ hd
      refine .inr ⟨jg, fun H' => ∃ m', m' < m ∧ m' = ds.length - (i + 1) ∧ i + 1 ≤ ds.length ∧ ∃ Fc Sc ec av acc r, LcW vb (wipe σ ow) H F S (fun H F => RepL H F xs vs S1) S1 Dd (i + 1) H' Fc Sc ec av acc ∧ wipeE ec ow = ec ∧
        lcGo (fun e => wipeE e ow) (asgT tg) (fun e => evTs C ifs e) (fun e => (ev C elt e).still) (ds.drop (i + 1)) ec = .ok r ef ∧ acc ++ r = rr, fun H' z => z, fun x Hy hy => ?_⟩
      obtain ⟨y1, y2⟩ := jy x Hy hy
      rw [List.drop_eq_getElem_cons hlt] at hgo
      simp only [lcGo] at hgo
      cases he : asgT tg ds[i] ec with
      | none => rw [he] at hgo; cases hgo
      | some e1' =>
        rw [he] at hgo
        simp only at hgo
        refine lc_turn fd hdD stb_repL w y1 (y2 w.A.ch.fd) he (Nat.lt_of_le_of_lt w.len (Nat.lt_of_lt_of_le hlt hz)) hown hv hmm ?_
        cases ht : evTs C ifs e1' with
        | ok b e2 =>
          rw [ht, R.bind_ok] at hgo
          cases b with
          | true =>
            rw [if_pos rfl] at hgo
            simp only
            cases hy3 : (ev C elt e2).still with
            | ok y e3 =>
              rw [hy3, R.bind_ok] at hgo
              simp only
              intro H' F' S' av' w'
              cases hn : lcGo (fun e => wipeE e ow) (asgT tg) (fun e => evTs C ifs e) (fun e => (ev C elt e).still) (ds.drop (i + 1)) (wipeE e3 ow) with
              | ok r' ef' =>
                rw [hn, R.bind_ok] at hgo
                cases hgo
                exact ⟨_, by omega, rfl, hlt, F', S', _, av', _, r', w', wipeE_idem e3 ow, hn, by rw [← hacc]; simp⟩
              | ex x' e' => rw [hn] at hgo; cases hgo
              | bad => rw [hn] at hgo; cases hgo
            | ex x' e' => rw [hy3] at hgo; cases hgo
            | bad => rw [hy3] at hgo; cases hgo
          | false =>
            rw [if_neg Bool.false_ne_true] at hgo
            simp only
            intro H' F' S' av' w'
            exact ⟨_, by omega, rfl, hlt, F', S', _, av', _, r, w', wipeE_idem e2 ow, hgo, hacc⟩
        | ex x' e' => rw [ht] at hgo; cases hgo
        | bad => rw [ht] at hgo; cases hgo
    · have ei : i = ds.length := by omega
      refine .inl ⟨(jok Hc Fc i w.src).2 (by omega), ?_⟩
      rw [ei, List.drop_length] at hgo
      simp only [lcGo] at hgo
      cases hgo
      rw [List.append_nil] at hacc
      subst hacc
      exact fin Hc Fc Sc av ((w.unwiped hwe).up (Nat.le_trans w.len hi))
theorem snd_lc {elt : E} {tg : Tg} {ik : Ik} {is ifs : List E} {own : List (Str × Nat)} (ie : SE g N p.C p.XR elt) (iq : ∀ (Wx : WX) (X : Cx) (sc : Scope) (a : E) (x : Expr), ifs = [a] → Gd g N ⟨p.C, p.XR, Wx⟩ X sc → chk g N sc a x = true → PT X x (tT ⟨p.C, p.XR, Wx⟩ a))
    (i1 : ∀ (a : E) (x : Expr), is = [a] → chk g N sc a x = true → PE X x (tE p a)) (il : ∀ xs, chks g N sc is xs = true → PA X xs (tEs p is)) {A : Expr} (G : Gd g N p X sc)
    (h : chk g N sc (.lc elt tg ik is ifs own) A = true) : ∃ x t i cs scope pos wi, A = .ListComp x [⟨t, i, cs, 0⟩] scope pos ∧ PI X t i wi ∧ BlkOk X.N X.env.scope scope own ∧
      (∀ (s : Shared) (H : Hp) (C : Addr) (cl : List (Str × Addr)) (fp : List Addr), PG (X.blk s H scope (compEnvC scope cl C X.env) fp) t (tTg tg)) ∧
      (∀ (s : Shared) (H : Hp) (C : Addr) (cl : List (Str × Addr)) (fp : List Addr), PTs (X.blk s H scope (compEnvC scope cl C X.env) fp) cs (fun σ H Q => ∃ F S e, Rdy H F S e σ ∧ Vt ⟨p.C, p.XR, noW⟩ (smpL ifs) σ H F S (evTs p.C ifs e) Q)) ∧
      (∀ (s : Shared) (H : Hp) (C : Addr) (cl : List (Str × Addr)) (fp : List Addr), PE (X.blk s H scope (compEnvC scope cl C X.env) fp) x (tE ⟨p.C, p.XR, noW⟩ elt)) ∧ (∀ x, foldedSetIterable i X.env x = pure x) ∧
      ∀ σ H Q, tE p (.lc elt tg ik is ifs own) σ H Q → tLc wi (tTg tg) (fun σ H Q => ∃ F S e, Rdy H F S e σ ∧ Vt ⟨p.C, p.XR, noW⟩ (smpL ifs) σ H F S (evTs p.C ifs e) Q) (tE ⟨p.C, p.XR, noW⟩ elt) (own.map (·.2)) σ H Q := by
  cases A with
  | ListComp x gs scope pos =>
    unfold chk at h
    split at h
    · rename_i heq
      cases heq
      rename_i t i cs
      simp only [Bool.and_eq_true, Bool.or_eq_true, List.all_eq_true] at h
      obtain ⟨hp, hk, hb, ht, hs, hv, hx, hc, hm, hi⟩ := h
      have hN : X.N = N := G.hN
      have bok : BlkOk X.N X.env.scope scope own := by rw [hN, G.sc]; exact blkOk_by hb
      have hown : ∀ k, k ∈ tgSlots tg → k ∈ own.map (·.2) := fun k hk => List.contains_iff_mem.mp (hs k hk)
      -- the source is one's own, or the turns write nothing
      obtain ⟨vb, hvb, hmm⟩ : ∃ vb : Bool, (vb = true → ∀ a ∈ is, isV a = true) ∧ (vb = true ∨ (smp elt = true ∧ smpL ifs = true)) := by
        rcases hm with hm | hm
        · exact ⟨true, fun _ => hm, .inl rfl⟩
        · exact ⟨false, (fun z => by cases z), .inr hm⟩
      have hpi : PI X t i (tI p ik is vb) := by
        cases ik with
        | seq =>
          cases is with
          | nil => cases hi
          | cons a r =>
            simp only [chkOne, Bool.and_eq_true, List.isEmpty_iff] at hi
            obtain ⟨rfl, hi⟩ := hi
            exact pi_seq (i1 a i rfl hi) fun z => hvb z a (by simp)
        | _ =>
          simp only at hi
          split at hi
          · simp only [Bool.and_eq_true, decide_eq_true_eq] at hi
            obtain ⟨h1, h2, h3, h4, h5⟩ := hi
            refine pi_call G (by decide) (fun z => ?_) h1 h2 h3 h4 h5 (il _ h5)
            first
              | (rcases z with z | z <;> cases z; done)
              | (cases tg with
                | tup ts =>
                  cases t with
                  | Tuple es k q => exact ⟨es, k, q, rfl⟩
                  | _ => exact absurd ht Bool.false_ne_true
                | nm j => exact absurd hk Bool.false_ne_true)
          · cases hi
      refine ⟨x, t, i, cs, scope, pos, tI p ik is vb, rfl, hpi, bok, fun s H C cl fp => ?_, fun s H C cl fp => ?_, fun s H C cl fp => ?_, sole_pl hp X.env, fun σ H Q ⟨F, S, e, rd, q⟩ => ?_⟩
      · exact tg_ok (X := X.blk s H scope (compEnvC scope cl C X.env) fp) (fn := fun x => scope.names.lookup x == some .cell) hN G.nd G.calm (G.blk s H scope C cl fp).sc (fun _ z => z) tg t ht
      · exact pts_ok hc fun a x ha hx => iq noW _ _ a x ha (G.blk s H scope C cl fp) hx
      · exact (ie noW _ _ x (G.blk s H scope C cl fp) hx).1
      · simp only [ev] at q
        refine ⟨F, S, e, rd, ?_⟩
        cases hr : evs p.C is e with
        | ok xs e1 =>
          rw [hr, R.bind_ok] at q
          cases hds : itemsD ik xs with
          | none => rw [hds] at q; exact q.elim
          | some ds =>
            rw [hds] at q
            simp only at q
            refine ⟨ds, hds, fun vs H1 F1 S1' S2 J k' jok' Dd hDd => ?_⟩
            obtain ⟨S1, k, jok, nS1⟩ : ∃ S1 : AS, AfI vb σ H F S H1 F1 xs vs S1 e1 S2 ∧ Jok ds J (fun H F => RepL H F xs vs S1) ∧ ¬ S1 Dd := by
              refine ⟨fun a => S1' a ∧ H1 a ≠ none, ⟨k'.t, RepL.dom xs vs S1' k'.rep, fun z a q => k'.s1 z a q.1, fun z a q => k'.dj z a q.1, fun z a q => k'.n1 z a q.1⟩, fun H F i r => jok' H F i (RepL.mono xs vs _ _ r fun a q => q.1), fun q => q.2 hDd⟩
            have hz := items_len hds k.rep
            have hdD : H Dd = none := Classical.byContradiction fun z => k.t.ch.dom Dd z hDd
            generalize hown' : own.map (·.2) = ow at *
            cases hf : (lcGo (fun e => wipeE e ow) (asgT tg) (fun e => evTs p.C ifs e) (fun e => (ev p.C elt e).still) ds (wipeE e1 ow)).still with
            | ex x e' => 
              exfalso
              cases hl : lcGo (fun e => wipeE e ow) (asgT tg) (fun e => evTs p.C ifs e) (fun e => (ev p.C elt e).still) ds (wipeE e1 ow) <;> rw [hl] at hf <;> cases hf
            | bad => rw [hf] at q; exact q.elim
            | ok rr ef =>
              rw [hf, R.bind_ok] at q
              have hf := still_ok hf
              refine lc_loop rd.fd k jok hDd nS1 hz hown hv hmm hf fun Hc Fc Sc av w => ?_
              refine q (.ref Dd) Hc Fc (fun a => a = Dd) Sc ⟨w.A.ch, ⟨Dd, av, rfl, ?_, w.rep, .inr ⟨rfl, w.hD, rfl⟩⟩, w.A.er, fun _ a z => z ▸ w.fD, w.A.s2, w.A.n2, fun _ a z s => w.nD (z ▸ s), fun _ a z => .inr (z ▸ hdD), fun z => by cases z⟩
              rw [w.rep.len]
              exact Nat.le_trans w.len hz
        | ex x e1 => rw [hr] at q; exact q
        | bad => rw [hr] at q; exact q
    · exact absurd h Bool.false_ne_true
  | _ => exact absurd h Bool.false_ne_true
theorem snd_lcb {elt : E} {tg : Tg} {j : Nat} {ifs : List E} {own : List (Str × Nat)} (ie : SE g N p.C p.XR elt) (iq : ∀ (Wx : WX) (X : Cx) (sc : Scope) (a : E) (x : Expr), ifs = [a] → Gd g N ⟨p.C, p.XR, Wx⟩ X sc → chk g N sc a x = true → PT X x (tT ⟨p.C, p.XR, Wx⟩ a))
    {A : Expr} (G : Gd g N p X sc)
    (h : chk g N sc (.lcb elt tg j ifs own) A = true) : ∃ x t i cs scope pos wi, A = .ListComp x [⟨t, i, cs, 0⟩] scope pos ∧ PI X t i wi ∧ BlkOk X.N X.env.scope scope own ∧
      (∀ (s : Shared) (H : Hp) (C : Addr) (cl : List (Str × Addr)) (fp : List Addr), PG (X.blk s H scope (compEnvC scope cl C X.env) fp) t (tTg tg)) ∧
      (∀ (s : Shared) (H : Hp) (C : Addr) (cl : List (Str × Addr)) (fp : List Addr), PTs (X.blk s H scope (compEnvC scope cl C X.env) fp) cs (fun σ H Q => ∃ F S e, Rdy H F S e σ ∧ Vt ⟨p.C, p.XR, noW⟩ (smpL ifs) σ H F S (evTs p.C ifs e) Q)) ∧
      (∀ (s : Shared) (H : Hp) (C : Addr) (cl : List (Str × Addr)) (fp : List Addr), PE (X.blk s H scope (compEnvC scope cl C X.env) fp) x (tE ⟨p.C, p.XR, noW⟩ elt)) ∧ (∀ x, foldedSetIterable i X.env x = pure x) ∧
      ∀ σ H Q, tE p (.lcb elt tg j ifs own) σ H Q → tLc wi (tTg tg) (fun σ H Q => ∃ F S e, Rdy H F S e σ ∧ Vt ⟨p.C, p.XR, noW⟩ (smpL ifs) σ H F S (evTs p.C ifs e) Q) (tE ⟨p.C, p.XR, noW⟩ elt) (own.map (·.2)) σ H Q := by
  cases A with
  | ListComp x gs scope pos =>
    unfold chk at h
    split at h
    · rename_i heq
      cases heq
      rename_i t y py cs
      simp only [Bool.and_eq_true, List.all_eq_true] at h
      obtain ⟨hy, hb, ht, hs, hv, hx, hc⟩ := h
      have hN : X.N = N := G.hN
      have bok : BlkOk X.N X.env.scope scope own := by rw [hN, G.sc]; exact blkOk_by hb
      have hown : ∀ k, k ∈ tgSlots tg → k ∈ own.map (·.2) := fun k hk => List.contains_iff_mem.mp (hs k hk)
      refine ⟨x, t, .Name y py, cs, scope, pos, _, rfl, pi_list (pe_nm G hy), bok, fun s H C cl fp => ?_, fun s H C cl fp => ?_, fun s H C cl fp => ?_, sole_pl rfl X.env, fun σ H Q ⟨F, S, e, rd, q⟩ => ?_⟩
      · exact tg_ok (X := X.blk s H scope (compEnvC scope cl C X.env) fp) (fn := fun x => scope.names.lookup x == some .cell) hN G.nd G.calm (G.blk s H scope C cl fp).sc (fun _ z => z) tg t ht
      · exact pts_ok hc fun a x ha hx => iq noW _ _ a x ha (G.blk s H scope C cl fp) hx
      · exact (ie noW _ _ x (G.blk s H scope C cl fp) hx).1
      · simp only [ev] at q
        split at q
        · rename_i o ds he
          obtain ⟨v, S1, S2, hv', r1, er, dj, s1, s2⟩ := rd.er.out he
          obtain ⟨a, vs, rfl, hz, l, r⟩ := r1.lst_inv
          have a0 : Aft true true σ H F S H F (.lst o ds) (.ref a) S1 (e.set j none) S2 := ⟨.refl rd.fd, r1, er, fun _ => s1.trans rd.sf, s2.trans rd.sf, fun x z => .inl (s2 x z), fun _ => dj, fun _ x z => .inl (s1 x z), fun _ _ _ z => z.1⟩
          refine ⟨.ref a, hv', a, rfl, ⟨vs, .inl r⟩, fun Dd hDd => ?_⟩
          generalize hown' : own.map (·.2) = ow at *
          cases hf : (lcGo (fun e => wipeE e ow) (asgT tg) (fun e => evTs p.C ifs e) (fun e => (ev p.C elt e).still) ds (wipeE (e.set j none) ow)).still with
          | ex x e' =>
            exfalso
            cases hl : lcGo (fun e => wipeE e ow) (asgT tg) (fun e => evTs p.C ifs e) (fun e => (ev p.C elt e).still) ds (wipeE (e.set j none) ow) <;> rw [hl] at hf <;> cases hf
          | bad => rw [hf] at q; exact q.elim
          | ok rr ef =>
            rw [hf, R.bind_ok] at q
            have hf := still_ok hf
            by_cases hj : j < ef.length
            case neg => rw [if_neg hj] at q; exact q.elim
            rw [if_pos hj] at q
            refine lc_loop rd.fd (aft_i a0) jok_list hDd (fun z => rd.fd _ (rd.sf _ (s1 _ z)) hDd) (by rw [← l.len]; exact hz) hown hv (.inl rfl) hf fun Hc Fc Sc av w => ?_
            obtain ⟨v1, t1, U1, U2, e1, rs, r2, d12, u1, u2⟩ := w.src
            cases e1
            have er' := ERs.back (d := .lst o ds) (v := .ref a) w.A.er hj hv' rs (fun x z q => w.sd rfl x (u1 x z) q)
            refine q (.ref Dd) Hc Fc (fun a => a = Dd) (fun x => U1 x ∨ Sc x) ⟨w.A.ch, ⟨Dd, av, rfl, ?_, w.rep, .inr ⟨rfl, w.hD, rfl⟩⟩, er', fun _ a z => z ▸ w.fD, fun x z => z.elim (fun z => w.sf rfl x (u1 x z)) (w.A.s2 x), fun x z => z.elim (fun z => .inl (s1 x (u1 x z))) (w.A.n2 x), fun _ a z s => s.elim (fun s => w.nS (z ▸ u1 a s)) fun s => w.nD (z ▸ s), fun _ a z => .inr (z ▸ hDd), fun z => by cases z⟩
            rw [w.rep.len]
            exact Nat.le_trans w.len (by rw [← l.len]; exact hz)
        · exact q.elim
    · exact absurd h Bool.false_ne_true
  | _ => exact absurd h Bool.false_ne_true
/-- a loop's source -/
theorem pi_src {C : Orc} {XR : Hp → AS → D → Value → Option Addr → Prop} {Wx : WX} {X : Cx} {sc sc' : Scope} {ik : Ik} {is : List E} {tg : Tg} {t i : Expr} {vb : Bool} {fn : Str → Bool} (G : Gd g N ⟨C, XR, Wx⟩ X sc) (hvb : vb = true → ∀ a ∈ is, isV a = true)
    (hi : (match ik with
      | .seq => chkOne g N sc is i
      | ik => (match i with
        | .Call (.Name y _) xs [] _ => decide (y = ikname ik) && (okGl sc y && (g.free.contains y && (decide (xs.length = ikn ik) && chks g N sc is xs)))
        | _ => false)) = true)
    (hk : ikTg ik tg = true) (ht : tgB N sc' fn tg t = true) (i1 : ∀ (a : E) (x : Expr), is = [a] → chk g N sc a x = true → PE X x (tE ⟨C, XR, Wx⟩ a)) (il : ∀ xs, chks g N sc is xs = true → PA X xs (tEs ⟨C, XR, Wx⟩ is)) : PI X t i (tI ⟨C, XR, Wx⟩ ik is vb) := by
  cases ik with
  | seq =>
    cases is with
    | nil => cases hi
    | cons a r =>
      simp only [chkOne, Bool.and_eq_true, List.isEmpty_iff] at hi
      obtain ⟨rfl, hi⟩ := hi
      exact pi_seq (i1 a i rfl hi) fun z => hvb z a (by simp)
  | _ =>
    simp only at hi
    split at hi
    · simp only [Bool.and_eq_true, decide_eq_true_eq] at hi
      obtain ⟨h1, h2, h3, h4, h5⟩ := hi
      refine pi_call G (by decide) (fun z => ?_) h1 h2 h3 h4 h5 (il _ h5)
      first
        | (rcases z with z | z <;> cases z; done)
        | (cases tg with
          | tup ts =>
            cases t with
            | Tuple es k q => exact ⟨es, k, q, rfl⟩
            | _ => exact absurd ht Bool.false_ne_true
          | nm j => exact absurd hk Bool.false_ne_true)
    · cases hi
theorem stb_and {G1 G2 : Hp → AS → Prop} {S1 S2 : AS} (a : Stb G1 S1) (b : Stb G2 S2) : Stb (fun H F => G1 H F ∧ G2 H F) (fun x => S1 x ∨ S2 x) := fun H F H' F' q k n =>
  ⟨a H F H' F' q.1 (fun x o h z => k x o h (z.imp_right .inl)) n, b H F H' F' q.2 (fun x o h z => k x o h (z.imp_right .inr)) n⟩
/-- a fresh list, before the first turn -/
theorem LcW.start {σ : Sl} {H : Hp} {F S : AS} {xs : List D} {vs : List V} {S1 S2 : AS} {H1 : Hp} {F1 : AS} {e1 : Nv} {Dd : Addr} {ow : List Nat} (fd : FD H F) (k : AfI true σ H F S H1 F1 xs vs S1 e1 S2) (hDd : H1 Dd = none) (nS1 : ¬ S1 Dd) :
    LcW true (wipe σ ow) H F S (fun H F => RepL H F xs vs S1) S1 Dd 0 (upd H1 Dd (.lst [])) (fun x => F1 x ∨ x = Dd) S2 (wipeE e1 ow) [] [] := by
  have b := k.t.new (o := .lst []) fd hDd
  have nD : ¬ S2 Dd := fun z => k.t.ch.fd Dd (k.t.s2 _ z) hDd
  exact ⟨⟨b.ch, b.er.wiped ow, b.s2, b.n2, fun z => by cases z⟩, RepL.newF hDd k.rep, k.dj, fun z a q => .inl (k.s1 z a q), upd_same, rfl, .inr rfl, nD, nS1, Nat.le_refl _⟩
/-- the inner source stands beside the outer one -/
theorem LcW.inner {σ2 : Sl} {H : Hp} {F S : AS} {G : Hp → AS → Prop} {S1 : AS} {Dd : Addr} {i : Nat} {H3 : Hp} {F3 S3 : AS} {e2 : Nv} {av : List V} {acc : List D} (fd : FD H F) (gs : Stb G S1) (w : LcW true σ2 H F S G S1 Dd i H3 F3 S3 e2 av acc)
    {xs1 : List D} {vs1 : List V} {T1 S4 : AS} {H4 : Hp} {F4 : AS} {e4 : Nv} (k : AfI true σ2 H3 F3 S3 H4 F4 xs1 vs1 T1 e4 S4) :
    LcW true σ2 H F S (fun H F => G H F ∧ RepL H F xs1 vs1 T1) (fun x => S1 x ∨ T1 x) Dd i H4 F4 S4 e4 av acc := by
  obtain ⟨A3, src3, sd3, sf3, hD3, rep3, fD3, nD3, nS, len⟩ := w
  have kp : ∀ a o, Kt H3 a o → ¬ S3 a → H4 a = some o := fun a o h n => k.t.ch.keep a o h n
  have nn : FD H3 F3 := A3.ch.fd
  refine ⟨(A3.trans fd k.t).weak, ⟨gs _ _ _ _ src3 (fun a o h z => kp a o h fun q => z.elim (fun z => z (A3.s2 a q)) fun z => sd3 rfl a z q) k.t.ch.new, k.rep⟩, fun _ a z q => ?_, fun _ a z => ?_, kp _ _ (kt_lst hD3) nD3, RepL.step acc av nos rep3 (fun a o h z => kp a o h fun q => z.elim (fun z => z (A3.s2 a q)) fun z => z) k.t.ch.new, k.t.ch.old _ fD3 nD3, fun q => ?_, fun q => ?_, len⟩
  · rcases z with z | z
    · exact (k.t.n2 a q).elim (fun q => sd3 rfl a z q) fun q => nn a (sf3 rfl a z) q
    · exact k.dj rfl a z q
  · rcases z with z | z
    · exact k.t.ch.old a (sf3 rfl a z) (sd3 rfl a z)
    · exact k.s1 rfl a z
  · exact (k.t.n2 _ q).elim nD3 fun z => by rw [hD3] at z; cases z
  · rcases q with q | q
    · exact nS q
    · exact (k.n1 rfl _ q).elim nD3 fun z => by rw [hD3] at z; cases z
/-- and is done -/
theorem LcW.outer {σ2 : Sl} {H : Hp} {F S : AS} {G : Hp → AS → Prop} {S1 : AS} {Dd : Addr} {i : Nat} {H3 : Hp} {F3 S3 : AS} {e2 : Nv} {av : List V} {acc : List D} {G' : Hp → AS → Prop} {T1 : AS}
    (w : LcW true σ2 H F S (fun H F => G H F ∧ G' H F) (fun x => S1 x ∨ T1 x) Dd i H3 F3 S3 e2 av acc) : LcW true σ2 H F S G S1 Dd i H3 F3 S3 e2 av acc :=
  ⟨w.A, w.src.1, fun z a q => w.sd z a (.inl q), fun z a q => w.sf z a (.inl q), w.hD, w.rep, w.fD, w.nD, fun q => w.nS (.inl q), w.len⟩
theorem snd_lc2 {elt : E} {tg tg1 : Tg} {ik ik1 : Ik} {is ifs is1 ifs1 : List E} {own : List (Str × Nat)} {w1 : List Nat} (ie : SE g N p.C p.XR elt) (iq : ∀ (Wx : WX) (X : Cx) (sc : Scope) (a : E) (x : Expr), ifs = [a] → Gd g N ⟨p.C, p.XR, Wx⟩ X sc → chk g N sc a x = true → PT X x (tT ⟨p.C, p.XR, Wx⟩ a))
    (iq1 : ∀ (Wx : WX) (X : Cx) (sc : Scope) (a : E) (x : Expr), ifs1 = [a] → Gd g N ⟨p.C, p.XR, Wx⟩ X sc → chk g N sc a x = true → PT X x (tT ⟨p.C, p.XR, Wx⟩ a))
    (i1 : ∀ (a : E) (x : Expr), is = [a] → chk g N sc a x = true → PE X x (tE p a)) (il : ∀ xs, chks g N sc is xs = true → PA X xs (tEs p is))
    (j1 : ∀ (Wx : WX) (X : Cx) (sc : Scope) (a : E) (x : Expr), is1 = [a] → Gd g N ⟨p.C, p.XR, Wx⟩ X sc → chk g N sc a x = true → PE X x (tE ⟨p.C, p.XR, Wx⟩ a)) (jl : ∀ (Wx : WX) (X : Cx) (sc : Scope) (xs : List Expr), Gd g N ⟨p.C, p.XR, Wx⟩ X sc → chks g N sc is1 xs = true → PA X xs (tEs ⟨p.C, p.XR, Wx⟩ is1)) {A : Expr} (G : Gd g N p X sc)
    (h : chk g N sc (.lc2 elt tg ik is ifs tg1 ik1 is1 ifs1 own w1) A = true) : ∃ x t i cs t1 i1 cs1 scope pos wi, A = .ListComp x [⟨t, i, cs, 0⟩, ⟨t1, i1, cs1, 0⟩] scope pos ∧ PI X t i wi ∧ BlkOk X.N X.env.scope scope own ∧ (∀ i ∈ w1, i ∈ own.map (·.2)) ∧
      (∀ (s : Shared) (H : Hp) (C : Addr) (cl : List (Str × Addr)) (fp : List Addr), PG (X.blk s H scope (compEnvC scope cl C X.env) fp) t (tTg tg)) ∧
      (∀ (s : Shared) (H : Hp) (C : Addr) (cl : List (Str × Addr)) (fp : List Addr), PTs (X.blk s H scope (compEnvC scope cl C X.env) fp) cs (fun σ H Q => ∃ F S e, Rdy H F S e σ ∧ Vt ⟨p.C, p.XR, noW⟩ (smpL ifs) σ H F S (evTs p.C ifs e) Q)) ∧
      (∀ (s : Shared) (H : Hp) (C : Addr) (cl : List (Str × Addr)) (fp : List Addr), PI (X.blk s H scope (compEnvC scope cl C X.env) fp) t1 i1 (tI ⟨p.C, p.XR, noW⟩ ik1 is1 true)) ∧
      (∀ (s : Shared) (H : Hp) (C : Addr) (cl : List (Str × Addr)) (fp : List Addr), PG (X.blk s H scope (compEnvC scope cl C X.env) fp) t1 (tTg tg1)) ∧
      (∀ (s : Shared) (H : Hp) (C : Addr) (cl : List (Str × Addr)) (fp : List Addr), PTs (X.blk s H scope (compEnvC scope cl C X.env) fp) cs1 (fun σ H Q => ∃ F S e, Rdy H F S e σ ∧ Vt ⟨p.C, p.XR, noW⟩ (smpL ifs1) σ H F S (evTs p.C ifs1 e) Q)) ∧
      (∀ (s : Shared) (H : Hp) (C : Addr) (cl : List (Str × Addr)) (fp : List Addr), PE (X.blk s H scope (compEnvC scope cl C X.env) fp) x (tE ⟨p.C, p.XR, noW⟩ elt)) ∧ (∀ x, foldedSetIterable i X.env x = pure x) ∧ (∀ env x, foldedSetIterable i1 env x = pure x) ∧
      ∀ σ H Q, tE p (.lc2 elt tg ik is ifs tg1 ik1 is1 ifs1 own w1) σ H Q → tLc2 wi (tTg tg) (fun σ H Q => ∃ F S e, Rdy H F S e σ ∧ Vt ⟨p.C, p.XR, noW⟩ (smpL ifs) σ H F S (evTs p.C ifs e) Q) (tI ⟨p.C, p.XR, noW⟩ ik1 is1 true) (tTg tg1) (fun σ H Q => ∃ F S e, Rdy H F S e σ ∧ Vt ⟨p.C, p.XR, noW⟩ (smpL ifs1) σ H F S (evTs p.C ifs1 e) Q) (tE ⟨p.C, p.XR, noW⟩ elt) (own.map (·.2)) w1 σ H Q := by
  cases A with
  | ListComp x gs scope pos =>
    unfold chk at h
    split at h
    · rename_i heq
      cases heq
      rename_i t i cs t1 i1' cs1
      simp only [Bool.and_eq_true, List.all_eq_true] at h
      obtain ⟨hp, hp1, hk, hk1, hb, ht, ht1, hs, hs1, hw1, hv, hx, hc, hc1, hm, hm1, hi, hi1⟩ := h
      have hN : X.N = N := G.hN
      have bok : BlkOk X.N X.env.scope scope own := by rw [hN, G.sc]; exact blkOk_by hb
      have hown : ∀ k, k ∈ tgSlots tg → k ∈ own.map (·.2) := fun k hk => List.contains_iff_mem.mp (hs k hk)
      have hown1 : ∀ k, k ∈ tgSlots tg1 → k ∈ w1 := fun k hk => List.contains_iff_mem.mp (hs1 k hk)
      have hpi : PI X t i (tI p ik is true) := pi_src (C := p.C) (XR := p.XR) (Wx := p.Wx) G (fun _ => hm) hi hk ht i1 il
      refine ⟨x, t, i, cs, t1, i1', cs1, scope, pos, tI p ik is true, rfl, hpi, bok, fun k hk => List.contains_iff_mem.mp (hw1 k hk), fun s H C cl fp => ?_, fun s H C cl fp => ?_, fun s H C cl fp => ?_, fun s H C cl fp => ?_, fun s H C cl fp => ?_, fun s H C cl fp => ?_, sole_pl hp X.env, fun env x => sole_pl hp1 env x, fun σ H Q ⟨F, S, e, rd, q⟩ => ?_⟩
      · exact tg_ok (X := X.blk s H scope (compEnvC scope cl C X.env) fp) (fn := fun x => scope.names.lookup x == some .cell) hN G.nd G.calm (G.blk s H scope C cl fp).sc (fun _ z => z) tg t ht
      · exact pts_ok hc fun a x ha hx => iq noW _ _ a x ha (G.blk s H scope C cl fp) hx
      · exact pi_src (G.blk s H scope C cl fp) (fun _ => hm1) hi1 hk1 ht1 (fun a x ha hx => j1 noW _ _ a x ha (G.blk s H scope C cl fp) hx) (fun xs hx => jl noW _ _ xs (G.blk s H scope C cl fp) hx)
      · exact tg_ok (X := X.blk s H scope (compEnvC scope cl C X.env) fp) (fn := fun x => scope.names.lookup x == some .cell) hN G.nd G.calm (G.blk s H scope C cl fp).sc (fun _ z => z) tg1 t1 ht1
      · exact pts_ok hc1 fun a x ha hx => iq1 noW _ _ a x ha (G.blk s H scope C cl fp) hx
      · exact (ie noW _ _ x (G.blk s H scope C cl fp) hx).1
      · simp only [ev] at q
        refine ⟨F, S, e, rd, ?_⟩
        cases hr : evs p.C is e with
        | ok xs e1 =>
          rw [hr, R.bind_ok] at q
          cases hds : itemsD ik xs with
          | none => rw [hds] at q; exact q.elim
          | some ds =>
            rw [hds] at q
            simp only at q
            refine ⟨ds, hds, fun vs H1 F1 S1' S2 J k' jok' Dd hDd => ?_⟩
            obtain ⟨S1, k, jok, nS1⟩ : ∃ S1 : AS, AfI true σ H F S H1 F1 xs vs S1 e1 S2 ∧ Jok ds J (fun H F => RepL H F xs vs S1) ∧ ¬ S1 Dd := by
              refine ⟨fun a => S1' a ∧ H1 a ≠ none, ⟨k'.t, RepL.dom xs vs S1' k'.rep, fun z a q => k'.s1 z a q.1, fun z a q => k'.dj z a q.1, fun z a q => k'.n1 z a q.1⟩, fun H F i r => jok' H F i (RepL.mono xs vs _ _ r fun a q => q.1), fun q => q.2 hDd⟩
            have hdD : H Dd = none := Classical.byContradiction fun z => k.t.ch.dom Dd z hDd
            generalize hown' : own.map (·.2) = ow at *
            generalize hinn : (fun e => (evs p.C is1 e).still.bind fun xs1 e2 => match itemsD ik1 xs1 with
              | none => R.bad
              | some ds1 => lcGo (fun e => wipeE e w1) (asgT tg1) (fun e => evTs p.C ifs1 e) (fun e => (ev p.C elt e).still) ds1 (wipeE e2 w1)) = inn at *
            cases hf : (lc2Go (fun e => wipeE e ow) (asgT tg) (fun e => evTs p.C ifs e) inn ds (wipeE e1 ow)).still with
            | ex x e' =>
              exfalso
              cases hl : lc2Go (fun e => wipeE e ow) (asgT tg) (fun e => evTs p.C ifs e) inn ds (wipeE e1 ow) <;> rw [hl] at hf <;> cases hf
            | bad => rw [hf] at q; exact q.elim
            | ok rr ef =>
              rw [hf, R.bind_ok] at q
              have hf := still_ok hf
              by_cases hrr : rr.length < lim
              case neg => rw [if_neg hrr] at q; exact q.elim
              rw [if_pos hrr] at q
              have hrs : rr.length < sizeLine := Nat.lt_trans hrr (by decide)
              -- the invariant
              refine ⟨fun i m Hc => m = ds.length - i ∧ i ≤ ds.length ∧ ∃ n Fc Sc ec av acc r, LcW true (wipe σ ow) H F S (fun H F => RepL H F xs vs S1) S1 Dd n Hc Fc Sc ec av acc ∧ wipeE ec ow = ec ∧
                  lc2Go (fun e => wipeE e ow) (asgT tg) (fun e => evTs p.C ifs e) inn (ds.drop i) ec = .ok r ef ∧ acc ++ r = rr, ⟨ds.length, rfl, Nat.zero_le _, 0, _, S2, wipeE e1 ow, [], [], rr, LcW.start rd.fd k hDd nS1, wipeE_idem e1 ow, by rw [List.drop_zero]; exact hf, rfl⟩, fun i m Hc ⟨em, hi, n, Fc, Sc, ec, av, acc, r, w, hwe, hgo, hacc⟩ => ?_⟩
              by_cases hlt : i < ds.length
              · have hd := List.getElem?_eq_getElem hlt
                obtain ⟨j1, j2⟩ := jok Hc Fc i w.src
                obtain ⟨jg, jy⟩ := j1 _ hd
                refine .inr ⟨jg, fun H' => ∃ m', m' < m ∧ m' = ds.length - (i + 1) ∧ i + 1 ≤ ds.length ∧ ∃ n Fc Sc ec av acc r, LcW true (wipe σ ow) H F S (fun H F => RepL H F xs vs S1) S1 Dd n H' Fc Sc ec av acc ∧ wipeE ec ow = ec ∧
                  lc2Go (fun e => wipeE e ow) (asgT tg) (fun e => evTs p.C ifs e) inn (ds.drop (i + 1)) ec = .ok r ef ∧ acc ++ r = rr, fun H' z => z, fun x Hy hy => ?_⟩
                obtain ⟨y1, y2⟩ := jy x Hy hy
                rw [List.drop_eq_getElem_cons hlt] at hgo
                simp only [lc2Go] at hgo
                cases he : asgT tg ds[i] ec with
                | none => rw [he] at hgo; cases hgo
                | some e1' =>
                  rw [he] at hgo
                  simp only at hgo
                  refine lc_tgt (K := fun σ2 b H3 => if b = true then _ else _) rd.fd stb_repL w y1 (y2 w.A.ch.fd) he hown (.inl rfl) ?_
                  cases ht : evTs p.C ifs e1' with
                  | ex x' e' => rw [ht] at hgo; cases hgo
                  | bad => rw [ht] at hgo; cases hgo
                  | ok b e2 =>
                    rw [ht, R.bind_ok] at hgo
                    simp only
                    intro σ2 H3 F3 S3 hw w3 rd3
                    cases b with
                    | false =>
                      rw [if_neg Bool.false_ne_true] at hgo
                      rw [if_neg Bool.false_ne_true]
                      have w4 := w3.wiped ow
                      rw [hw] at w4
                      exact ⟨_, by omega, rfl, hlt, n, F3, S3, _, av, _, r, w4, wipeE_idem e2 ow, hgo, hacc⟩
                    | true =>
                      rw [if_pos rfl] at hgo
                      rw [if_pos rfl]
                      cases hin : inn e2 with
                      | ex x' e' => rw [hin] at hgo; cases hgo
                      | bad => rw [hin] at hgo; cases hgo
                      | ok r1 e3 =>
                        rw [hin, R.bind_ok] at hgo
                        cases hn : lc2Go (fun e => wipeE e ow) (asgT tg) (fun e => evTs p.C ifs e) inn (ds.drop (i + 1)) (wipeE e3 ow) with
                        | ex x' e' => rw [hn] at hgo; cases hgo
                        | bad => rw [hn] at hgo; cases hgo
                        | ok r' ef' =>
                          rw [hn, R.bind_ok] at hgo
                          cases hgo
                          -- the inner turns
                          rw [← hinn] at hin
                          simp only at hin
                          refine ⟨F3, S3, e2, rd3, ?_⟩
                          cases hr1 : evs p.C is1 e2 with
                          | ex x' e' => rw [hr1] at hin; cases hin
                          | bad => rw [hr1] at hin; cases hin
                          | ok xs1 e4 =>
                            rw [hr1] at hin
                            simp only [R.still, R.bind_ok] at hin
                            cases hds1 : itemsD ik1 xs1 with
                            | none => rw [hds1] at hin; cases hin
                            | some ds1 =>
                              rw [hds1] at hin
                              simp only at hin
                              refine ⟨ds1, hds1, fun vs1 H4 F4 T1 S4 J1 k4 jok1 => ?_⟩
                              have w5 := (LcW.inner rd.fd stb_repL w3 k4).wiped w1
                              refine ⟨fun j m Hc => m = ds1.length - j ∧ j ≤ ds1.length ∧ ∃ n Fc Sc ec av acc' r, LcW true (wipe σ2 w1) H F S (fun H F => RepL H F xs vs S1 ∧ RepL H F xs1 vs1 T1) (fun a => S1 a ∨ T1 a) Dd n Hc Fc Sc ec av acc' ∧ wipeE ec w1 = ec ∧
                                lcGo (fun e => wipeE e w1) (asgT tg1) (fun e => evTs p.C ifs1 e) (fun e => (ev p.C elt e).still) (ds1.drop j) ec = .ok r e3 ∧ acc' ++ r = acc ++ r1, ⟨ds1.length, rfl, Nat.zero_le _, n, F4, S4, _, av, acc, r1, w5, wipeE_idem e4 w1, by rw [List.drop_zero]; exact hin, rfl⟩, fun j m' Hc' ⟨em', hj, n', Fc', Sc', ec', av', acc', r0, w', hwe', hgo', hacc'⟩ => ?_⟩
                              by_cases hlt1 : j < ds1.length
                              · have hd1 := List.getElem?_eq_getElem hlt1
                                obtain ⟨l1, l2⟩ := jok1 Hc' Fc' j w'.src.2
                                obtain ⟨lg, ly⟩ := l1 _ hd1
                                refine .inr ⟨lg, fun H' => ∃ k', k' < m' ∧ k' = ds1.length - (j + 1) ∧ j + 1 ≤ ds1.length ∧ ∃ n Fc Sc ec av acc' r, LcW true (wipe σ2 w1) H F S (fun H F => RepL H F xs vs S1 ∧ RepL H F xs1 vs1 T1) (fun a => S1 a ∨ T1 a) Dd n H' Fc Sc ec av acc' ∧ wipeE ec w1 = ec ∧
                                  lcGo (fun e => wipeE e w1) (asgT tg1) (fun e => evTs p.C ifs1 e) (fun e => (ev p.C elt e).still) (ds1.drop (j + 1)) ec = .ok r e3 ∧ acc' ++ r = acc ++ r1, fun H' z => z, fun x' Hy' hy' => ?_⟩
                                obtain ⟨z1, z2⟩ := ly x' Hy' hy'
                                rw [List.drop_eq_getElem_cons hlt1] at hgo'
                                simp only [lcGo] at hgo'
                                have hal : acc'.length < sizeLine := by
                                  have e1 := congrArg List.length hacc'
                                  have e2 := congrArg List.length hacc
                                  simp only [List.length_append] at e1 e2
                                  omega
                                cases he1 : asgT tg1 ds1[j] ec' with
                                | none => rw [he1] at hgo'; cases hgo'
                                | some e1'' =>
                                  rw [he1] at hgo'
                                  simp only at hgo'
                                  refine lc_turn rd.fd hdD (stb_and stb_repL stb_repL) w' z1 (z2 w'.A.ch.fd) he1 hal hown1 hv (.inl rfl) ?_
                                  cases ht1 : evTs p.C ifs1 e1'' with
                                  | ok b e5 =>
                                    rw [ht1, R.bind_ok] at hgo'
                                    cases b with
                                    | true =>
                                      rw [if_pos rfl] at hgo'
                                      simp only
                                      cases hy3 : (ev p.C elt e5).still with
                                      | ok y e6 =>
                                        rw [hy3, R.bind_ok] at hgo'
                                        simp only
                                        intro H' F' S' av'' w''
                                        cases hn1 : lcGo (fun e => wipeE e w1) (asgT tg1) (fun e => evTs p.C ifs1 e) (fun e => (ev p.C elt e).still) (ds1.drop (j + 1)) (wipeE e6 w1) with
                                        | ok r'' ef'' =>
                                          rw [hn1, R.bind_ok] at hgo'
                                          cases hgo'
                                          exact ⟨_, by omega, rfl, hlt1, _, F', S', _, av'', _, r'', w'', wipeE_idem e6 w1, hn1, by rw [← hacc']; simp⟩
                                        | ex x' e' => rw [hn1] at hgo'; cases hgo'
                                        | bad => rw [hn1] at hgo'; cases hgo'
                                      | ex x' e' => rw [hy3] at hgo'; cases hgo'
                                      | bad => rw [hy3] at hgo'; cases hgo'
                                    | false =>
                                      rw [if_neg Bool.false_ne_true] at hgo'
                                      simp only
                                      intro H' F' S' av'' w''
                                      exact ⟨_, by omega, rfl, hlt1, _, F', S', _, av'', _, r0, w'', wipeE_idem e5 w1, hgo', hacc'⟩
                                  | ex x' e' => rw [ht1] at hgo'; cases hgo'
                                  | bad => rw [ht1] at hgo'; cases hgo'
                              · have ej : j = ds1.length := by omega
                                refine .inl ⟨(jok1 Hc' Fc' j w'.src.2).2 (by omega), ?_⟩
                                rw [ej, List.drop_length] at hgo'
                                simp only [lcGo] at hgo'
                                cases hgo'
                                rw [List.append_nil] at hacc'
                                subst hacc'
                                have w6 := ((w'.unwiped hwe').outer).wiped ow
                                rw [hw] at w6
                                exact ⟨_, by omega, rfl, hlt, n', Fc', Sc', _, av', _, r', w6, wipeE_idem _ ow, hn, by rw [← hacc]; simp⟩
              · have ei : i = ds.length := by omega
                refine .inl ⟨(jok Hc Fc i w.src).2 (by omega), ?_⟩
                rw [ei, List.drop_length] at hgo
                simp only [lc2Go] at hgo
                cases hgo
                rw [List.append_nil] at hacc
                subst hacc
                have er : ERs Hc Fc ef σ Sc := by rw [← hwe]; exact w.A.er.unwipe
                refine q (.ref Dd) Hc Fc (fun a => a = Dd) Sc ⟨w.A.ch, ⟨Dd, av, rfl, ?_, w.rep, .inr ⟨rfl, w.hD, rfl⟩⟩, er, fun _ a z => z ▸ w.fD, w.A.s2, w.A.n2, fun _ a z s => w.nD (z ▸ s), fun _ a z => .inr (z ▸ hdD), fun z => by cases z⟩
                rw [w.rep.len]
                exact Nat.le_of_lt hrs
        | ex x e1 => rw [hr] at q; exact q
        | bad => rw [hr] at q; exact q
    · exact absurd h Bool.false_ne_true
  | _ => exact absurd h Bool.false_ne_true
/-! ### dict comprehensions -/
structure DcW (own : List Nat) (vb : Bool) (σ : Sl) (H : Hp) (F S : AS) (xs : List D) (vs : List V) (S1 : AS) (Dd : Addr) (i : Nat) (Hc : Hp) (Fc Sc : AS) (ec : Nv) (kvs : List (L2.Key × V)) (ks acc : List D) : Prop where
  A : AftT false (wipe σ own) H F S Hc Fc ec Sc
  src : RepL Hc Fc xs vs S1
  sd : vb = true → Dj S1 Sc
  sf : vb = true → Sb S1 Fc
  hD : Hc Dd = some (.dK kvs)
  hk : ks = kvs.map fun p => kD p.1
  ok : ∀ p ∈ kvs, kyOk p.1
  rep : RepL Hc Fc acc (kvs.map (·.2)) nos
  fD : Fc Dd
  nD : ¬ Sc Dd
  nS : ¬ S1 Dd
  len : kvs.length ≤ i
theorem dc_turn {C : Orc} {XR : Hp → AS → D → Value → Option Addr → Prop} {own : List Nat} {vb : Bool} {σ : Sl} {H : Hp} {F S : AS} {xs : List D} {vs : List V} {S1 : AS} {Dd : Addr} {i : Nat} {Hc : Hp} {Fc Sc : AS} {ec : Nv} {kvs : List (L2.Key × V)} {ks acc : List D}
    {kx vx : E} {tg : Tg} {ifs : List E} {d : D} {x : V} {Hy : Hp} {e1 : Nv} (fd : FD H F) (hdD : H Dd = none)
    (w : DcW own vb σ H F S xs vs S1 Dd i Hc Fc Sc ec kvs ks acc) (hy : Hy = Hc ∨ ∃ T t, Hc T = none ∧ Hy = upd Hc T (.tup t)) (rx : Rep Hy Fc d x nos) (he : asgT tg d ec = some e1) (hz : kvs.length < sizeLine)
    (hown : ∀ k, k ∈ tgSlots tg → k ∈ own) (hv : isV vx = true) (hm : vb = true ∨ (smp kx = true ∧ (smp vx = true ∧ smpL ifs = true)))
    {Nx : Hp → Prop} (go : match evTs C ifs e1 with
      | .ok true e2 => (match (ev C kx e2).still with
        | .ok k e3 => isK k = true ∧ (match (ev C vx e3).still with
          | .ok y e4 => ∀ H' F' S' kvs', DcW own vb σ H F S xs vs S1 Dd (i + 1) H' F' S' (wipeE e4 own) kvs' (putD k y.fz ks acc).1 (putD k y.fz ks acc).2 → Nx H'
          | _ => False)
        | _ => False)
      | .ok false e2 => ∀ H' F' S' kvs', DcW own vb σ H F S xs vs S1 Dd (i + 1) H' F' S' (wipeE e2 own) kvs' ks acc → Nx H'
      | _ => False) :
    tTg tg x (wipe σ own) Hy fun σ2 H2 => wipe σ2 own = wipe σ own ∧ (∃ F S e, Rdy H2 F S e σ2 ∧ Vt ⟨C, XR, noW⟩ (smpL ifs) σ2 H2 F S (evTs C ifs e) fun b H3 =>
      if b = true then tE ⟨C, XR, noW⟩ kx σ2 H3 fun y H4 => tE ⟨C, XR, noW⟩ vx σ2 H4 fun z H5 => ∃ kvs k, y = kV k ∧ H5 Dd = some (.dK kvs) ∧ kvs.length < sizeLine ∧ Nx (upd H5 Dd (.dK (putK kvs k z))) else Nx H3) := by
  -- the new pair stands
  have kp : ∀ a o, Hc a = some o → Hy a = some o := fun a o h => by
    rcases hy with rfl | ⟨T, t, hT, rfl⟩
    · exact h
    · exact upd_keep hT h
  have kn : ∀ a, Hc a ≠ none → Hy a ≠ none := fun a h z => h (by
    cases q : Hc a with
    | none => rfl
    | some o => rw [kp a o q] at z; cases z)
  have A0 : AftT false (wipe σ own) H F S Hy Fc ec Sc := ⟨⟨fun a o h ns => kp a o (w.A.ch.keep a o h ns), w.A.ch.new, w.A.ch.old, fun a h => kn a (w.A.ch.dom a h), w.A.ch.fd.hard (fun a o h _ => kp a o h) fun a h => kn a (w.A.ch.fd a h)⟩, w.A.er.step (fun a o h _ => kp a o h.1) fun a h => .inl h, w.A.s2, w.A.n2, fun z => by cases z⟩
  have src0 : RepL Hy Fc xs vs S1 := RepL.step xs vs S1 w.src (fun a o h _ => kp a o h.1) fun a h => .inl h
  have rep0 : RepL Hy Fc acc (kvs.map (·.2)) nos := RepL.step acc _ nos w.rep (fun a o h _ => kp a o h.1) fun a h => .inl h
  have hD0 : Hy Dd = some (.dK kvs) := kp _ _ w.hD
  refine ⟨Fc, nos, Sc, d, ec, e1, rx, A0.er, dj_nos, he, fun σ2 hs2 hl2 er2 => ?_⟩
  have er2 := er2.mono (T := Sc) fun a z => z.elim (fun z => z.elim) id
  have hw : wipe σ2 own = wipe σ own := wipe_eq (fun j hj => hs2 j fun z => hj (hown j z)) (by rw [hl2, wipe_length])
  refine ⟨hw, Fc, Sc, e1, ⟨er2, A0.s2, A0.ch.fd⟩, ?_⟩
  have A1 : AftT false σ2 H F S Hy Fc e1 Sc := ⟨A0.ch, er2, A0.s2, A0.n2, fun z => by cases z⟩
  refine Vt.of_ok (fun b e2 hb H3 F3 S3 k3 => ?_) (fun x e' h => by rw [h] at go; exact go) (fun h => by rw [h] at go; exact go)
  rw [hb] at go
  -- behind the tests
  have keep3 : ∀ a o, Kt Hy a o → (¬ Fc a ∨ S1 a) → H3 a = some o := fun a o h z => by
    rcases hm with hm | hm
    · exact k3.ch.keep a o h fun q => z.elim (fun z => z (A0.s2 a q)) fun z => w.sd hm a z q
    · exact k3.ext hm.2.2 a o h
  have A3 := (A1.trans fd k3).weak
  have src3 : RepL H3 F3 xs vs S1 := RepL.step xs vs S1 src0 keep3 k3.ch.new
  have rep3 : RepL H3 F3 acc (kvs.map (·.2)) nos := RepL.step acc _ nos rep0 (fun a o h z => k3.ch.keep a o h fun q => z.elim (fun z => z (A0.s2 a q)) fun z => z) k3.ch.new
  have hD3 : H3 Dd = some (.dK kvs) := k3.ch.keep _ _ (kt_dK hD0) w.nD
  have fD3 : F3 Dd := k3.ch.old _ w.fD w.nD
  have nD3 : ¬ S3 Dd := fun q => (k3.n2 _ q).elim w.nD fun z => by rw [hD0] at z; cases z
  have sd3 : vb = true → Dj S1 S3 := fun hvb a z q => (k3.n2 a q).elim (fun q => w.sd hvb a z q) fun q => kn a (w.A.ch.fd a (w.sf hvb a z)) q
  have sf3 : vb = true → Sb S1 F3 := fun hvb a z => k3.ch.old a (w.sf hvb a z) (w.sd hvb a z)
  cases b with
  | false =>
    rw [if_neg Bool.false_ne_true]
    refine go H3 F3 S3 kvs ⟨?_, src3, sd3, sf3, hD3, w.hk, w.ok, rep3, fD3, nD3, w.nS, Nat.le_succ_of_le w.len⟩
    refine ⟨A3.ch, ?_, A3.s2, A3.n2, fun z => by cases z⟩
    rw [← hw]
    exact k3.er.wiped own
  | true =>
    rw [if_pos rfl]
    refine ⟨F3, S3, e2, .of_aftT k3, ?_⟩
    simp only at go
    refine Vp.of_ok (fun ky e3 hy3 kv H4 F4 U0 S4 k4 => ?_) (fun x e' h => by rw [h] at go; exact go) (fun h => by rw [h] at go; exact go)
    rw [hy3] at go
    obtain ⟨hkk, go⟩ := go
    obtain ⟨key, rfl⟩ := isK_ok hkk
    obtain ⟨rfl, hkok⟩ := k4.rep.key
    have A4 := (A3.trans fd k4.t).weak
    have keep4 : ∀ a o, Kt H3 a o → (¬ F3 a ∨ S1 a) → H4 a = some o := fun a o h z => by
      rcases hm with hm | hm
      · exact k4.ch.keep a o h fun q => z.elim (fun z => z (k3.s2 a q)) fun z => sd3 hm a z q
      · exact k4.ext hm.1 a o h
    have hD4 : H4 Dd = some (.dK kvs) := k4.ch.keep _ _ (kt_dK hD3) nD3
    have fD4 : F4 Dd := k4.ch.old _ fD3 nD3
    have nD4 : ¬ S4 Dd := fun q => (k4.n2 _ q).elim nD3 fun z => by rw [hD3] at z; cases z
    have src4 : RepL H4 F4 xs vs S1 := RepL.step xs vs S1 src3 keep4 k4.ch.new
    have rep4 : RepL H4 F4 acc (kvs.map (·.2)) nos := RepL.step acc _ nos rep3 (fun a o h z => k4.ch.keep a o h fun q => z.elim (fun z => z (k3.s2 a q)) fun z => z) k4.ch.new
    have sd4 : vb = true → Dj S1 S4 := fun hvb a z q => (k4.n2 a q).elim (fun q => sd3 hvb a z q) fun q => k3.ch.fd a (sf3 hvb a z) q
    have sf4 : vb = true → Sb S1 F4 := fun hvb a z => k4.ch.old a (sf3 hvb a z) (sd3 hvb a z)
    refine ⟨F4, S4, e3, .of_aft k4, ?_⟩
    refine Vp.of_ok (fun y e4 hy4 v H5 F5 U1 S5 k5 => ?_) (fun x e' h => by rw [h] at go; exact go) (fun h => by rw [h] at go; exact go)
    rw [hy4] at go
    have A5 := (A4.trans fd k5.t).weak
    obtain ⟨g1, g2⟩ := k5.give k4.ch.fd hv
    have keep5 : ∀ a o, Kt H4 a o → (¬ F4 a ∨ S1 a) → H5 a = some o := fun a o h z => by
      rcases hm with hm | hm
      · exact k5.ch.keep a o h fun q => z.elim (fun z => z (k4.s2 a q)) fun z => sd4 hm a z q
      · exact k5.ext hm.2.1 a o h
    have hD5 : H5 Dd = some (.dK kvs) := k5.ch.keep _ _ (kt_dK hD4) nD4
    have nU : ¬ U1 Dd := fun q => (k5.n1 hv _ q).elim nD4 fun z => by rw [hD4] at z; cases z
    have fD5 : F5 Dd := k5.ch.old _ fD4 nD4
    have nD5 : ¬ S5 Dd := fun q => (k5.n2 _ q).elim nD4 fun z => by rw [hD4] at z; cases z
    have src5 : RepL H5 F5 xs vs S1 := RepL.step xs vs S1 src4 keep5 k5.ch.new
    have rep5 : RepL H5 F5 acc (kvs.map (·.2)) nos := RepL.step acc _ nos rep4 (fun a o h z => k5.ch.keep a o h fun q => z.elim (fun z => z (k4.s2 a q)) fun z => z) k5.ch.new
    refine ⟨kvs, key, rfl, hD5, hz, ?_⟩
    -- the dict at Dd has grown
    have put : ∀ a o, H5 a = some o → a ≠ Dd → upd H5 Dd (.dK (putK kvs key v)) a = some o := fun a o h z => by rw [upd_ne z]; exact h
    have r1 := RepL.less rep5 (F' := fun a => F5 a ∧ ¬ U1 a) fun a h => h.1
    have r1' := RepL.step acc _ nos r1 (H' := upd H5 Dd (.dK (putK kvs key v))) (F' := fun a => F5 a ∧ ¬ U1 a) (fun a o h z => put a o h.1 fun q => by
      rcases z with z | z
      · exact z (q ▸ ⟨fD5, nU⟩)
      · exact z) fun a h => .inl h
    have g2' := Rep.step y.fz v nos g2 (H' := upd H5 Dd (.dK (putK kvs key v))) (F' := fun a => F5 a ∧ ¬ U1 a) (fun a o h z => put a o h.1 fun q => by
      rcases z with z | z
      · exact z (q ▸ ⟨fD5, nU⟩)
      · exact z) fun a h => .inl h
    obtain ⟨⟨kvs2, e9, pk, pv, pok⟩, pr⟩ := putD_rep g2' hkok r1' w.ok
    injection e9 with e9
    subst e9
    refine go (upd H5 Dd (.dK (putK kvs key v))) (fun a => F5 a ∧ ¬ U1 a) S5 (putK kvs key v) ⟨?_, ?_, fun hvb a z q => ?_, fun hvb a z => ⟨k5.ch.old a (sf4 hvb a z) (sd4 hvb a z), fun q => (k5.n1 hv a q).elim (sd4 hvb a z) (k4.ch.fd a (sf4 hvb a z))⟩, upd_same, ?_, pok, ?_, ⟨fD5, nU⟩, nD5, w.nS, ?_⟩
    · have B := (A4.trans fd g1).weak
      refine ⟨⟨fun a o h ns => put a o (B.ch.keep a o h ns) (fun z => by have h := h.1; rw [z, hdD] at h; cases h), B.ch.new, B.ch.old, fun a h => ?_, B.ch.fd.upd hD5 not_hard_dK⟩, ?_, B.s2, B.n2, fun z => by cases z⟩
      · by_cases hz : a = Dd
        · rw [hz, upd_same]; simp
        · rw [upd_ne hz]; exact B.ch.dom a h
      · rw [← hw]
        refine ERs.wiped ?_ own
        exact B.er.step (fun a o h z => put a o h.1 fun q => by
          rcases z with z | z
          · exact z (q ▸ ⟨fD5, nU⟩)
          · exact nD5 (q ▸ z)) fun a h => .inl h
    · refine RepL.step xs vs S1 (RepL.less src5 fun a h => h.1) (fun a o h z => put a o h.1 fun q => ?_) fun a h => .inl h
      rcases z with z | z
      · exact z (q ▸ ⟨fD5, nU⟩)
      · exact w.nS (q ▸ z)
    · exact (k5.n2 a q).elim (fun q => sd4 hvb a z q) fun q => k4.ch.fd a (sf4 hvb a z) q
    · rw [w.hk]; exact pk
    · rw [w.hk]; exact pr
    · have := L2.length_putK kvs key v
      have := w.len
      omega
theorem snd_dc {kx vx : E} {tg : Tg} {ik : Ik} {is ifs : List E} {own : List (Str × Nat)} (ik' : SE g N p.C p.XR kx) (ie : SE g N p.C p.XR vx) (iq : ∀ (Wx : WX) (X : Cx) (sc : Scope) (a : E) (x : Expr), ifs = [a] → Gd g N ⟨p.C, p.XR, Wx⟩ X sc → chk g N sc a x = true → PT X x (tT ⟨p.C, p.XR, Wx⟩ a))
    (i1 : ∀ (a : E) (x : Expr), is = [a] → chk g N sc a x = true → PE X x (tE p a)) (il : ∀ xs, chks g N sc is xs = true → PA X xs (tEs p is)) {A : Expr} (G : Gd g N p X sc)
    (h : chk g N sc (.dc kx vx tg ik is ifs own) A = true) : ∃ x y t i cs scope pos wi, A = .DictComp x y [⟨t, i, cs, 0⟩] scope pos ∧ PI X t i wi ∧ BlkOk X.N X.env.scope scope own ∧
      (∀ (s : Shared) (H : Hp) (C : Addr) (cl : List (Str × Addr)) (fp : List Addr), PG (X.blk s H scope (compEnvC scope cl C X.env) fp) t (tTg tg)) ∧
      (∀ (s : Shared) (H : Hp) (C : Addr) (cl : List (Str × Addr)) (fp : List Addr), PTs (X.blk s H scope (compEnvC scope cl C X.env) fp) cs (fun σ H Q => ∃ F S e, Rdy H F S e σ ∧ Vt ⟨p.C, p.XR, noW⟩ (smpL ifs) σ H F S (evTs p.C ifs e) Q)) ∧
      (∀ (s : Shared) (H : Hp) (C : Addr) (cl : List (Str × Addr)) (fp : List Addr), PE (X.blk s H scope (compEnvC scope cl C X.env) fp) x (tE ⟨p.C, p.XR, noW⟩ kx)) ∧ (∀ (s : Shared) (H : Hp) (C : Addr) (cl : List (Str × Addr)) (fp : List Addr), PE (X.blk s H scope (compEnvC scope cl C X.env) fp) y (tE ⟨p.C, p.XR, noW⟩ vx)) ∧ (∀ x, foldedSetIterable i X.env x = pure x) ∧
      ∀ σ H Q, tE p (.dc kx vx tg ik is ifs own) σ H Q → tDc wi (tTg tg) (fun σ H Q => ∃ F S e, Rdy H F S e σ ∧ Vt ⟨p.C, p.XR, noW⟩ (smpL ifs) σ H F S (evTs p.C ifs e) Q) (tE ⟨p.C, p.XR, noW⟩ kx) (tE ⟨p.C, p.XR, noW⟩ vx) (own.map (·.2)) σ H Q := by
  cases A with
  | DictComp x y gs scope pos =>
    unfold chk at h
    split at h
    · rename_i heq
      cases heq
      rename_i t i cs
      simp only [Bool.and_eq_true, Bool.or_eq_true, List.all_eq_true] at h
      obtain ⟨hp, hk, hb, ht, hs, hv, hxk, hx, hc, hm, hi⟩ := h
      have hN : X.N = N := G.hN
      have bok : BlkOk X.N X.env.scope scope own := by rw [hN, G.sc]; exact blkOk_by hb
      have hown : ∀ k, k ∈ tgSlots tg → k ∈ own.map (·.2) := fun k hk => List.contains_iff_mem.mp (hs k hk)
      -- the source is one's own, or the turns write nothing
      obtain ⟨vb, hvb, hmm⟩ : ∃ vb : Bool, (vb = true → ∀ a ∈ is, isV a = true) ∧ (vb = true ∨ (smp kx = true ∧ (smp vx = true ∧ smpL ifs = true))) := by
        rcases hm with hm | hm
        · exact ⟨true, fun _ => hm, .inl rfl⟩
        · exact ⟨false, (fun z => by cases z), .inr hm⟩
      have hpi : PI X t i (tI p ik is vb) := by
        cases ik with
        | seq =>
          cases is with
          | nil => cases hi
          | cons a r =>
            simp only [chkOne, Bool.and_eq_true, List.isEmpty_iff] at hi
            obtain ⟨rfl, hi⟩ := hi
            exact pi_seq (i1 a i rfl hi) fun z => hvb z a (by simp)
        | _ =>
          simp only at hi
          split at hi
          · simp only [Bool.and_eq_true, decide_eq_true_eq] at hi
            obtain ⟨h1, h2, h3, h4, h5⟩ := hi
            refine pi_call G (by decide) (fun z => ?_) h1 h2 h3 h4 h5 (il _ h5)
            first
              | (rcases z with z | z <;> cases z; done)
              | (cases tg with
                | tup ts =>
                  cases t with
                  | Tuple es k q => exact ⟨es, k, q, rfl⟩
                  | _ => exact absurd ht Bool.false_ne_true
                | nm j => exact absurd hk Bool.false_ne_true)
          · cases hi
      refine ⟨x, y, t, i, cs, scope, pos, tI p ik is vb, rfl, hpi, bok, fun s H C cl fp => ?_, fun s H C cl fp => ?_, fun s H C cl fp => ?_, fun s H C cl fp => ?_, sole_pl hp X.env, fun σ H Q ⟨F, S, e, rd, q⟩ => ?_⟩
      · exact tg_ok (X := X.blk s H scope (compEnvC scope cl C X.env) fp) (fn := fun x => scope.names.lookup x == some .cell) hN G.nd G.calm (G.blk s H scope C cl fp).sc (fun _ z => z) tg t ht
      · exact pts_ok hc fun a x ha hx => iq noW _ _ a x ha (G.blk s H scope C cl fp) hx
      · exact (ik' noW _ _ x (G.blk s H scope C cl fp) hxk).1
      · exact (ie noW _ _ y (G.blk s H scope C cl fp) hx).1
      · simp only [ev] at q
        refine ⟨F, S, e, rd, ?_⟩
        cases hr : evs p.C is e with
        | ok xs e1 =>
          rw [hr, R.bind_ok] at q
          cases hds : itemsD ik xs with
          | none => rw [hds] at q; exact q.elim
          | some ds =>
            rw [hds] at q
            simp only at q
            refine ⟨ds, hds, fun vs H1 F1 S1' S2 J k' jok' Dd hDd => ?_⟩
            obtain ⟨S1, k, jok, nS1⟩ : ∃ S1 : AS, AfI vb σ H F S H1 F1 xs vs S1 e1 S2 ∧ Jok ds J (fun H F => RepL H F xs vs S1) ∧ ¬ S1 Dd := by
              refine ⟨fun a => S1' a ∧ H1 a ≠ none, ⟨k'.t, RepL.dom xs vs S1' k'.rep, fun z a q => k'.s1 z a q.1, fun z a q => k'.dj z a q.1, fun z a q => k'.n1 z a q.1⟩, fun H F i r => jok' H F i (RepL.mono xs vs _ _ r fun a q => q.1), fun q => q.2 hDd⟩
            have hz := items_len hds k.rep
            have hdD : H Dd = none := Classical.byContradiction fun z => k.t.ch.dom Dd z hDd
            generalize hown' : own.map (·.2) = ow at *
            cases hf : (dcGo (fun e => wipeE e ow) (asgT tg) (fun e => evTs p.C ifs e) (fun e => (ev p.C kx e).still) (fun e => (ev p.C vx e).still) ds [] [] (wipeE e1 ow)).still with
            | ex x e' => 
              exfalso
              cases hl : dcGo (fun e => wipeE e ow) (asgT tg) (fun e => evTs p.C ifs e) (fun e => (ev p.C kx e).still) (fun e => (ev p.C vx e).still) ds [] [] (wipeE e1 ow) <;> rw [hl] at hf <;> cases hf
            | bad => rw [hf] at q; exact q.elim
            | ok rr ef =>
              rw [hf, R.bind_ok] at q
              have hf := still_ok hf
              -- the invariant
              refine ⟨fun i m Hc => m = ds.length - i ∧ i ≤ ds.length ∧ ∃ Fc Sc ec kvs ks acc, DcW ow vb σ H F S xs vs S1 Dd i Hc Fc Sc ec kvs ks acc ∧ wipeE ec ow = ec ∧
                  dcGo (fun e => wipeE e ow) (asgT tg) (fun e => evTs p.C ifs e) (fun e => (ev p.C kx e).still) (fun e => (ev p.C vx e).still) (ds.drop i) ks acc ec = .ok rr ef, ⟨ds.length, rfl, Nat.zero_le _, ?_⟩, fun i m Hc ⟨em, hi, Fc, Sc, ec, kvs, ks, acc, w, hwe, hgo⟩ => ?_⟩
              · have b := k.t.new (o := .dK []) rd.fd hDd
                have nD : ¬ S2 Dd := fun z => k.t.ch.fd Dd (k.t.s2 _ z) hDd
                refine ⟨_, S2, wipeE e1 ow, [], [], [], ⟨⟨b.ch, b.er.wiped ow, b.s2, b.n2, fun z => by cases z⟩, RepL.newF hDd k.rep, k.dj, fun z a q => .inl (k.s1 z a q), upd_same, rfl, (fun p hp => (by cases hp)), rfl, .inr rfl, nD, nS1, Nat.le_refl _⟩, wipeE_idem e1 ow, by rw [List.drop_zero]; exact hf⟩
              · by_cases hlt : i < ds.length
                · have hd := List.getElem?_eq_getElem hlt
                  obtain ⟨j1, j2⟩ := jok Hc Fc i w.src
                  obtain ⟨jg, jy⟩ := j1 _ hd
                  refine .inr ⟨jg, fun H' => ∃ m', m' < m ∧ m' = ds.length - (i + 1) ∧ i + 1 ≤ ds.length ∧ ∃ Fc Sc ec kvs ks acc, DcW ow vb σ H F S xs vs S1 Dd (i + 1) H' Fc Sc ec kvs ks acc ∧ wipeE ec ow = ec ∧
                    dcGo (fun e => wipeE e ow) (asgT tg) (fun e => evTs p.C ifs e) (fun e => (ev p.C kx e).still) (fun e => (ev p.C vx e).still) (ds.drop (i + 1)) ks acc ec = .ok rr ef, fun H' z => z, fun x Hy hy => ?_⟩
                  obtain ⟨y1, y2⟩ := jy x Hy hy
                  rw [List.drop_eq_getElem_cons hlt] at hgo
                  simp only [dcGo] at hgo
                  cases he : asgT tg ds[i] ec with
                  | none => rw [he] at hgo; cases hgo
                  | some e1' =>
                    rw [he] at hgo
                    simp only at hgo
                    refine dc_turn rd.fd hdD w y1 (y2 w.A.ch.fd) he (Nat.lt_of_le_of_lt w.len (Nat.lt_of_lt_of_le hlt hz)) hown hv hmm ?_
                    cases ht : evTs p.C ifs e1' with
                    | ok b e2 =>
                      rw [ht, R.bind_ok] at hgo
                      cases b with
                      | true =>
                        rw [if_pos rfl] at hgo
                        simp only
                        cases hy3 : (ev p.C kx e2).still with
                        | ok ky e3 =>
                          rw [hy3, R.bind_ok] at hgo
                          simp only
                          by_cases hkk : isK ky = true
                          · rw [if_pos hkk] at hgo
                            refine ⟨hkk, ?_⟩
                            cases hy4 : (ev p.C vx e3).still with
                            | ok y4 e4 =>
                              rw [hy4, R.bind_ok] at hgo
                              simp only
                              intro H' F' S' kvs' w'
                              exact ⟨_, by omega, rfl, hlt, F', S', _, kvs', _, _, w', wipeE_idem e4 ow, hgo⟩
                            | ex x' e' => rw [hy4] at hgo; cases hgo
                            | bad => rw [hy4] at hgo; cases hgo
                          · rw [if_neg hkk] at hgo; cases hgo
                        | ex x' e' => rw [hy3] at hgo; cases hgo
                        | bad => rw [hy3] at hgo; cases hgo
                      | false =>
                        rw [if_neg Bool.false_ne_true] at hgo
                        simp only
                        intro H' F' S' kvs' w'
                        exact ⟨_, by omega, rfl, hlt, F', S', _, kvs', _, _, w', wipeE_idem e2 ow, hgo⟩
                    | ex x' e' => rw [ht] at hgo; cases hgo
                    | bad => rw [ht] at hgo; cases hgo
                · have ei : i = ds.length := by omega
                  refine .inl ⟨(jok Hc Fc i w.src).2 (by omega), ?_⟩
                  rw [ei, List.drop_length] at hgo
                  simp only [dcGo] at hgo
                  cases hgo
                  have er : ERs Hc Fc ef σ Sc := by rw [← hwe]; exact w.A.er.unwipe
                  refine q (.ref Dd) Hc Fc (fun a => a = Dd) Sc ⟨w.A.ch, ⟨Dd, _, nos, _, rfl, ?_, ⟨kvs, rfl, w.hk, rfl, w.ok⟩, w.rep, .inr ⟨rfl, w.hD, rfl, fun z => z, sb_nos⟩⟩, er, fun _ a z => z ▸ w.fD, w.A.s2, w.A.n2, fun _ a z s => w.nD (z ▸ s), fun _ a z => .inr (z ▸ hdD), fun z => by cases z⟩
                  rw [List.length_map]
                  exact Nat.le_trans w.len (Nat.le_trans hi hz)
        | ex x e1 => rw [hr] at q; exact q
        | bad => rw [hr] at q; exact q
    · exact absurd h Bool.false_ne_true
  | _ => exact absurd h Bool.false_ne_true
end
end Vm
namespace Vm
open PySem PySem.Spec L2
variable [CN]

section
variable {g : Tab} {N : List Str} {p : Pm} {X : Cx} {sc : Scope}
theorem snoc_own {H : Hp} {F : AS} {d : D} {w : V} {U : AS} (rv : Rep H F d w U) : ∀ {ds : List D} {us : List V} {T : AS}, RepL H F ds us T → Dj T U → RepL H F (ds ++ [d]) (us ++ [w]) (fun x => T x ∨ U x)
  | [], us, T, r, dj => by
    rw [show us = [] from r]
    exact ⟨w, [], U, nos, rfl, rv, rfl, fun _ _ z => z, fun _ z => .inr z, sb_nos⟩
  | d0 :: ds, us, T, r, dj => by
    obtain ⟨v, r', S1, S2, rfl, h1, h2, dj', s1, s2⟩ := r
    exact ⟨v, r' ++ [w], S1, _, rfl, h1, snoc_own rv h2 (dj.mono s2 Sb.refl), fun a z q => q.elim (dj' a z) fun q => dj a (s1 a z) q, fun a z => .inl (s1 a z), fun a z => z.imp_left (s2 a)⟩
theorem new_rep {H : Hp} {F T U : AS} {k : L2.Key} {d : D} {w : V} (rv : Rep H F d w U) (hk : kyOk k) {kvs : List (L2.Key × V)} {ds : List D} (r : RepL H F ds (kvs.map (·.2)) T) (dj : Dj T U) (ok : ∀ p ∈ kvs, kyOk p.1) (hn : memD (kD k) (kvs.map fun p => kD p.1) = false) :
    ((kvs.map fun p => kD p.1) ++ [kD k] = (putK kvs k w).map fun p => kD p.1) ∧ (∀ p ∈ putK kvs k w, kyOk p.1) ∧ RepL H F (ds ++ [d]) ((putK kvs k w).map (·.2)) (fun x => T x ∨ U x) := by
  rw [mem_valV] at hn
  have e : putK kvs k w = kvs ++ [(k, w)] := by
    unfold putK
    rw [valV_any, hn, if_neg Bool.false_ne_true]
  rw [e]
  refine ⟨by simp, fun p hp => ?_, by rw [List.map_append]; exact snoc_own rv r dj⟩
  rcases List.mem_append.mp hp with hp | hp
  · exact ok p hp
  · rw [List.mem_singleton.mp hp]; exact hk
structure DoW (own : List Nat) (vb : Bool) (σ : Sl) (H : Hp) (F S : AS) (xs : List D) (vs : List V) (S1 : AS) (Dd : Addr) (i : Nat) (Hc : Hp) (Fc Sc : AS) (ec : Nv) (kvs : List (L2.Key × V)) (ks acc : List D) (T : AS) : Prop where
  A : AftT false (wipe σ own) H F S Hc Fc ec Sc
  src : RepL Hc Fc xs vs S1
  sd : vb = true → Dj S1 Sc
  sf : vb = true → Sb S1 Fc
  hD : Hc Dd = some (.dK kvs)
  hk : ks = kvs.map fun p => kD p.1
  ok : ∀ p ∈ kvs, kyOk p.1
  rep : RepL Hc Fc acc (kvs.map (·.2)) T
  tF : Sb T Fc
  tS : Dj T Sc
  tD : ¬ T Dd
  tN : Nw S H T
  fD : Fc Dd
  nD : ¬ Sc Dd
  nS : ¬ S1 Dd
  len : kvs.length ≤ i
theorem do_turn {C : Orc} {XR : Hp → AS → D → Value → Option Addr → Prop} {own : List Nat} {vb : Bool} {σ : Sl} {H : Hp} {F S : AS} {xs : List D} {vs : List V} {S1 : AS} {Dd : Addr} {i : Nat} {Hc : Hp} {Fc Sc : AS} {ec : Nv} {kvs : List (L2.Key × V)} {ks acc : List D} {T : AS}
    {kx vx : E} {tg : Tg} {ifs : List E} {d : D} {x : V} {Hy : Hp} {e1 : Nv} (fd : FD H F) (hdD : H Dd = none)
    (w : DoW own vb σ H F S xs vs S1 Dd i Hc Fc Sc ec kvs ks acc T) (hy : Hy = Hc ∨ ∃ T t, Hc T = none ∧ Hy = upd Hc T (.tup t)) (rx : Rep Hy Fc d x nos) (he : asgT tg d ec = some e1) (hz : kvs.length < sizeLine)
    (hown : ∀ k, k ∈ tgSlots tg → k ∈ own) (hv : isV vx = true) (hm : vb = true ∨ (smp kx = true ∧ (smp vx = true ∧ smpL ifs = true)))
    {Nx : Hp → Prop} (go : match evTs C ifs e1 with
      | .ok true e2 => (match (ev C kx e2).still with
        | .ok k e3 => (isK k = true ∧ memD k ks = false) ∧ (match (ev C vx e3).still with
          | .ok y e4 => ∀ H' F' S' kvs' T', DoW own vb σ H F S xs vs S1 Dd (i + 1) H' F' S' (wipeE e4 own) kvs' (ks ++ [k]) (acc ++ [y]) T' → Nx H'
          | _ => False)
        | _ => False)
      | .ok false e2 => ∀ H' F' S' kvs' T', DoW own vb σ H F S xs vs S1 Dd (i + 1) H' F' S' (wipeE e2 own) kvs' ks acc T' → Nx H'
      | _ => False) :
    tTg tg x (wipe σ own) Hy fun σ2 H2 => wipe σ2 own = wipe σ own ∧ (∃ F S e, Rdy H2 F S e σ2 ∧ Vt ⟨C, XR, noW⟩ (smpL ifs) σ2 H2 F S (evTs C ifs e) fun b H3 =>
      if b = true then tE ⟨C, XR, noW⟩ kx σ2 H3 fun y H4 => tE ⟨C, XR, noW⟩ vx σ2 H4 fun z H5 => ∃ kvs k, y = kV k ∧ H5 Dd = some (.dK kvs) ∧ kvs.length < sizeLine ∧ Nx (upd H5 Dd (.dK (putK kvs k z))) else Nx H3) := by
  -- the new pair stands
  have kp : ∀ a o, Hc a = some o → Hy a = some o := fun a o h => by
    rcases hy with rfl | ⟨T, t, hT, rfl⟩
    · exact h
    · exact upd_keep hT h
  have kn : ∀ a, Hc a ≠ none → Hy a ≠ none := fun a h z => h (by
    cases q : Hc a with
    | none => rfl
    | some o => rw [kp a o q] at z; cases z)
  have A0 : AftT false (wipe σ own) H F S Hy Fc ec Sc := ⟨⟨fun a o h ns => kp a o (w.A.ch.keep a o h ns), w.A.ch.new, w.A.ch.old, fun a h => kn a (w.A.ch.dom a h), w.A.ch.fd.hard (fun a o h _ => kp a o h) fun a h => kn a (w.A.ch.fd a h)⟩, w.A.er.step (fun a o h _ => kp a o h.1) fun a h => .inl h, w.A.s2, w.A.n2, fun z => by cases z⟩
  have src0 : RepL Hy Fc xs vs S1 := RepL.step xs vs S1 w.src (fun a o h _ => kp a o h.1) fun a h => .inl h
  have rep0 : RepL Hy Fc acc (kvs.map (·.2)) T := RepL.step acc _ T w.rep (fun a o h _ => kp a o h.1) fun a h => .inl h
  have hD0 : Hy Dd = some (.dK kvs) := kp _ _ w.hD
  refine ⟨Fc, nos, Sc, d, ec, e1, rx, A0.er, dj_nos, he, fun σ2 hs2 hl2 er2 => ?_⟩
  have er2 := er2.mono (T := Sc) fun a z => z.elim (fun z => z.elim) id
  have hw : wipe σ2 own = wipe σ own := wipe_eq (fun j hj => hs2 j fun z => hj (hown j z)) (by rw [hl2, wipe_length])
  refine ⟨hw, Fc, Sc, e1, ⟨er2, A0.s2, A0.ch.fd⟩, ?_⟩
  have A1 : AftT false σ2 H F S Hy Fc e1 Sc := ⟨A0.ch, er2, A0.s2, A0.n2, fun z => by cases z⟩
  refine Vt.of_ok (fun b e2 hb H3 F3 S3 k3 => ?_) (fun x e' h => by rw [h] at go; exact go) (fun h => by rw [h] at go; exact go)
  rw [hb] at go
  -- behind the tests
  have keep3 : ∀ a o, Kt Hy a o → (¬ Fc a ∨ S1 a) → H3 a = some o := fun a o h z => by
    rcases hm with hm | hm
    · exact k3.ch.keep a o h fun q => z.elim (fun z => z (A0.s2 a q)) fun z => w.sd hm a z q
    · exact k3.ext hm.2.2 a o h
  have A3 := (A1.trans fd k3).weak
  have src3 : RepL H3 F3 xs vs S1 := RepL.step xs vs S1 src0 keep3 k3.ch.new
  have rep3 : RepL H3 F3 acc (kvs.map (·.2)) T := RepL.step acc _ T rep0 (fun a o h z => k3.ch.keep a o h fun q => z.elim (fun z => z (A0.s2 a q)) fun z => w.tS a z q) k3.ch.new
  have tS3 : Dj T S3 := fun a z q => (k3.n2 a q).elim (fun q => w.tS a z q) (fun q => kn a (w.A.ch.fd a (w.tF a z)) q)
  have tF3 : Sb T F3 := fun a z => k3.ch.old a (w.tF a z) (w.tS a z)
  have hD3 : H3 Dd = some (.dK kvs) := k3.ch.keep _ _ (kt_dK hD0) w.nD
  have fD3 : F3 Dd := k3.ch.old _ w.fD w.nD
  have nD3 : ¬ S3 Dd := fun q => (k3.n2 _ q).elim w.nD fun z => by rw [hD0] at z; cases z
  have sd3 : vb = true → Dj S1 S3 := fun hvb a z q => (k3.n2 a q).elim (fun q => w.sd hvb a z q) fun q => kn a (w.A.ch.fd a (w.sf hvb a z)) q
  have sf3 : vb = true → Sb S1 F3 := fun hvb a z => k3.ch.old a (w.sf hvb a z) (w.sd hvb a z)
  cases b with
  | false =>
    rw [if_neg Bool.false_ne_true]
    refine go H3 F3 S3 kvs T ⟨?_, src3, sd3, sf3, hD3, w.hk, w.ok, rep3, tF3, tS3, w.tD, w.tN, fD3, nD3, w.nS, Nat.le_succ_of_le w.len⟩
    refine ⟨A3.ch, ?_, A3.s2, A3.n2, fun z => by cases z⟩
    rw [← hw]
    exact k3.er.wiped own
  | true =>
    rw [if_pos rfl]
    refine ⟨F3, S3, e2, .of_aftT k3, ?_⟩
    simp only at go
    refine Vp.of_ok (fun ky e3 hy3 kv H4 F4 U0 S4 k4 => ?_) (fun x e' h => by rw [h] at go; exact go) (fun h => by rw [h] at go; exact go)
    rw [hy3] at go
    obtain ⟨⟨hkk, hnk⟩, go⟩ := go
    obtain ⟨key, rfl⟩ := isK_ok hkk
    obtain ⟨rfl, hkok⟩ := k4.rep.key
    have A4 := (A3.trans fd k4.t).weak
    have keep4 : ∀ a o, Kt H3 a o → (¬ F3 a ∨ S1 a) → H4 a = some o := fun a o h z => by
      rcases hm with hm | hm
      · exact k4.ch.keep a o h fun q => z.elim (fun z => z (k3.s2 a q)) fun z => sd3 hm a z q
      · exact k4.ext hm.1 a o h
    have hD4 : H4 Dd = some (.dK kvs) := k4.ch.keep _ _ (kt_dK hD3) nD3
    have fD4 : F4 Dd := k4.ch.old _ fD3 nD3
    have nD4 : ¬ S4 Dd := fun q => (k4.n2 _ q).elim nD3 fun z => by rw [hD3] at z; cases z
    have src4 : RepL H4 F4 xs vs S1 := RepL.step xs vs S1 src3 keep4 k4.ch.new
    have rep4 : RepL H4 F4 acc (kvs.map (·.2)) T := RepL.step acc _ T rep3 (fun a o h z => k4.ch.keep a o h fun q => z.elim (fun z => z (k3.s2 a q)) fun z => tS3 a z q) k4.ch.new
    have tS4 : Dj T S4 := fun a z q => (k4.n2 a q).elim (fun q => tS3 a z q) (fun q => k3.ch.fd a (tF3 a z) q)
    have tF4 : Sb T F4 := fun a z => k4.ch.old a (tF3 a z) (tS3 a z)
    have sd4 : vb = true → Dj S1 S4 := fun hvb a z q => (k4.n2 a q).elim (fun q => sd3 hvb a z q) fun q => k3.ch.fd a (sf3 hvb a z) q
    have sf4 : vb = true → Sb S1 F4 := fun hvb a z => k4.ch.old a (sf3 hvb a z) (sd3 hvb a z)
    refine ⟨F4, S4, e3, .of_aft k4, ?_⟩
    refine Vp.of_ok (fun y e4 hy4 v H5 F5 U1 S5 k5 => ?_) (fun x e' h => by rw [h] at go; exact go) (fun h => by rw [h] at go; exact go)
    rw [hy4] at go
    have A5 := (A4.trans fd k5.t).weak
    have keep5 : ∀ a o, Kt H4 a o → (¬ F4 a ∨ S1 a) → H5 a = some o := fun a o h z => by
      rcases hm with hm | hm
      · exact k5.ch.keep a o h fun q => z.elim (fun z => z (k4.s2 a q)) fun z => sd4 hm a z q
      · exact k5.ext hm.2.1 a o h
    have hD5 : H5 Dd = some (.dK kvs) := k5.ch.keep _ _ (kt_dK hD4) nD4
    have nU : ¬ U1 Dd := fun q => (k5.n1 hv _ q).elim nD4 fun z => by rw [hD4] at z; cases z
    have fD5 : F5 Dd := k5.ch.old _ fD4 nD4
    have nD5 : ¬ S5 Dd := fun q => (k5.n2 _ q).elim nD4 fun z => by rw [hD4] at z; cases z
    have src5 : RepL H5 F5 xs vs S1 := RepL.step xs vs S1 src4 keep5 k5.ch.new
    have rep5 : RepL H5 F5 acc (kvs.map (·.2)) T := RepL.step acc _ T rep4 (fun a o h z => k5.ch.keep a o h fun q => z.elim (fun z => z (k4.s2 a q)) fun z => tS4 a z q) k5.ch.new
    have tS5 : Dj T S5 := fun a z q => (k5.n2 a q).elim (fun q => tS4 a z q) (fun q => k4.ch.fd a (tF4 a z) q)
    have tF5 : Sb T F5 := fun a z => k5.ch.old a (tF4 a z) (tS4 a z)
    refine ⟨kvs, key, rfl, hD5, hz, ?_⟩
    -- the dict at Dd has grown
    have put : ∀ a o, H5 a = some o → a ≠ Dd → upd H5 Dd (.dK (putK kvs key v)) a = some o := fun a o h z => by rw [upd_ne z]; exact h
    have r1' := RepL.step acc _ T rep5 (H' := upd H5 Dd (.dK (putK kvs key v))) (F' := F5) (fun a o h z => put a o h.1 fun q => by
      rcases z with z | z
      · exact z (q ▸ fD5)
      · exact w.tD (q ▸ z)) fun a h => .inl h
    have g2' := Rep.step y v U1 k5.rep (H' := upd H5 Dd (.dK (putK kvs key v))) (F' := F5) (fun a o h z => put a o h.1 fun q => by
      rcases z with z | z
      · exact z (q ▸ fD5)
      · exact nU (q ▸ z)) fun a h => .inl h
    have dTU : Dj T U1 := fun a z q => (k5.n1 hv a q).elim (fun q => tS4 a z q) fun q => k4.ch.fd a (tF4 a z) q
    rw [w.hk] at hnk
    obtain ⟨pk, pok, pr⟩ := new_rep g2' hkok r1' dTU w.ok hnk
    refine go (upd H5 Dd (.dK (putK kvs key v))) F5 S5 (putK kvs key v) _ ⟨?_, ?_, fun hvb a z q => ?_, fun hvb a z => k5.ch.old a (sf4 hvb a z) (sd4 hvb a z), upd_same, ?_, pok, pr, ?_, ?_, ?_, ?_, fD5, nD5, w.nS, ?_⟩
    · refine ⟨⟨fun a o h ns => put a o (A5.ch.keep a o h ns) (fun z => by have h := h.1; rw [z, hdD] at h; cases h), A5.ch.new, A5.ch.old, fun a h => ?_, A5.ch.fd.upd hD5 not_hard_dK⟩, ?_, A5.s2, A5.n2, fun z => by cases z⟩
      · by_cases hz : a = Dd
        · rw [hz, upd_same]; simp
        · rw [upd_ne hz]; exact A5.ch.dom a h
      · rw [← hw]
        refine ERs.wiped ?_ own
        exact A5.er.step (fun a o h z => put a o h.1 fun q => by
          rcases z with z | z
          · exact z (q ▸ fD5)
          · exact nD5 (q ▸ z)) fun a h => .inl h
    · refine RepL.step xs vs S1 src5 (fun a o h z => put a o h.1 fun q => ?_) fun a h => .inl h
      rcases z with z | z
      · exact z (q ▸ fD5)
      · exact w.nS (q ▸ z)
    · exact (k5.n2 a q).elim (fun q => sd4 hvb a z q) fun q => k4.ch.fd a (sf4 hvb a z) q
    · rw [w.hk]; exact pk
    · exact fun a z => z.elim (tF5 a) (k5.s1 hv a)
    · exact fun a z q => z.elim (fun z => tS5 a z q) fun z => k5.dj hv a z q
    · exact fun z => z.elim w.tD nU
    · exact fun a z => z.elim (w.tN a) fun z => (k5.n1 hv a z).elim (A4.n2 a) fun z => .inr (Classical.byContradiction fun n => A4.ch.dom a n z)
    · have := L2.length_putK kvs key v
      have := w.len
      omega
theorem snd_dco {kx vx : E} {tg : Tg} {ik : Ik} {is ifs : List E} {own : List (Str × Nat)} (ik' : SE g N p.C p.XR kx) (ie : SE g N p.C p.XR vx) (iq : ∀ (Wx : WX) (X : Cx) (sc : Scope) (a : E) (x : Expr), ifs = [a] → Gd g N ⟨p.C, p.XR, Wx⟩ X sc → chk g N sc a x = true → PT X x (tT ⟨p.C, p.XR, Wx⟩ a))
    (i1 : ∀ (a : E) (x : Expr), is = [a] → chk g N sc a x = true → PE X x (tE p a)) (il : ∀ xs, chks g N sc is xs = true → PA X xs (tEs p is)) {A : Expr} (G : Gd g N p X sc)
    (h : chk g N sc (.dco kx vx tg ik is ifs own) A = true) : ∃ x y t i cs scope pos wi, A = .DictComp x y [⟨t, i, cs, 0⟩] scope pos ∧ PI X t i wi ∧ BlkOk X.N X.env.scope scope own ∧
      (∀ (s : Shared) (H : Hp) (C : Addr) (cl : List (Str × Addr)) (fp : List Addr), PG (X.blk s H scope (compEnvC scope cl C X.env) fp) t (tTg tg)) ∧
      (∀ (s : Shared) (H : Hp) (C : Addr) (cl : List (Str × Addr)) (fp : List Addr), PTs (X.blk s H scope (compEnvC scope cl C X.env) fp) cs (fun σ H Q => ∃ F S e, Rdy H F S e σ ∧ Vt ⟨p.C, p.XR, noW⟩ (smpL ifs) σ H F S (evTs p.C ifs e) Q)) ∧
      (∀ (s : Shared) (H : Hp) (C : Addr) (cl : List (Str × Addr)) (fp : List Addr), PE (X.blk s H scope (compEnvC scope cl C X.env) fp) x (tE ⟨p.C, p.XR, noW⟩ kx)) ∧ (∀ (s : Shared) (H : Hp) (C : Addr) (cl : List (Str × Addr)) (fp : List Addr), PE (X.blk s H scope (compEnvC scope cl C X.env) fp) y (tE ⟨p.C, p.XR, noW⟩ vx)) ∧ (∀ x, foldedSetIterable i X.env x = pure x) ∧
      ∀ σ H Q, tE p (.dco kx vx tg ik is ifs own) σ H Q → tDc wi (tTg tg) (fun σ H Q => ∃ F S e, Rdy H F S e σ ∧ Vt ⟨p.C, p.XR, noW⟩ (smpL ifs) σ H F S (evTs p.C ifs e) Q) (tE ⟨p.C, p.XR, noW⟩ kx) (tE ⟨p.C, p.XR, noW⟩ vx) (own.map (·.2)) σ H Q := by
  cases A with
  | DictComp x y gs scope pos =>
    unfold chk at h
    split at h
    · rename_i heq
      cases heq
      rename_i t i cs
      simp only [Bool.and_eq_true, Bool.or_eq_true, List.all_eq_true] at h
      obtain ⟨hp, hk, hb, ht, hs, hv, hxk, hx, hc, hm, hi⟩ := h
      have hN : X.N = N := G.hN
      have bok : BlkOk X.N X.env.scope scope own := by rw [hN, G.sc]; exact blkOk_by hb
      have hown : ∀ k, k ∈ tgSlots tg → k ∈ own.map (·.2) := fun k hk => List.contains_iff_mem.mp (hs k hk)
      -- the source is one's own, or the turns write nothing
      obtain ⟨vb, hvb, hmm⟩ : ∃ vb : Bool, (vb = true → ∀ a ∈ is, isV a = true) ∧ (vb = true ∨ (smp kx = true ∧ (smp vx = true ∧ smpL ifs = true))) := by
        rcases hm with hm | hm
        · exact ⟨true, fun _ => hm, .inl rfl⟩
        · exact ⟨false, (fun z => by cases z), .inr hm⟩
      have hpi : PI X t i (tI p ik is vb) := by
        cases ik with
        | seq =>
          cases is with
          | nil => cases hi
          | cons a r =>
            simp only [chkOne, Bool.and_eq_true, List.isEmpty_iff] at hi
            obtain ⟨rfl, hi⟩ := hi
            exact pi_seq (i1 a i rfl hi) fun z => hvb z a (by simp)
        | _ =>
          simp only at hi
          split at hi
          · simp only [Bool.and_eq_true, decide_eq_true_eq] at hi
            obtain ⟨h1, h2, h3, h4, h5⟩ := hi
            refine pi_call G (by decide) (fun z => ?_) h1 h2 h3 h4 h5 (il _ h5)
            first
              | (rcases z with z | z <;> cases z; done)
              | (cases tg with
                | tup ts =>
                  cases t with
                  | Tuple es k q => exact ⟨es, k, q, rfl⟩
                  | _ => exact absurd ht Bool.false_ne_true
                | nm j => exact absurd hk Bool.false_ne_true)
          · cases hi
      refine ⟨x, y, t, i, cs, scope, pos, tI p ik is vb, rfl, hpi, bok, fun s H C cl fp => ?_, fun s H C cl fp => ?_, fun s H C cl fp => ?_, fun s H C cl fp => ?_, sole_pl hp X.env, fun σ H Q ⟨F, S, e, rd, q⟩ => ?_⟩
      · exact tg_ok (X := X.blk s H scope (compEnvC scope cl C X.env) fp) (fn := fun x => scope.names.lookup x == some .cell) hN G.nd G.calm (G.blk s H scope C cl fp).sc (fun _ z => z) tg t ht
      · exact pts_ok hc fun a x ha hx => iq noW _ _ a x ha (G.blk s H scope C cl fp) hx
      · exact (ik' noW _ _ x (G.blk s H scope C cl fp) hxk).1
      · exact (ie noW _ _ y (G.blk s H scope C cl fp) hx).1
      · simp only [ev] at q
        refine ⟨F, S, e, rd, ?_⟩
        cases hr : evs p.C is e with
        | ok xs e1 =>
          rw [hr, R.bind_ok] at q
          cases hds : itemsD ik xs with
          | none => rw [hds] at q; exact q.elim
          | some ds =>
            rw [hds] at q
            simp only at q
            refine ⟨ds, hds, fun vs H1 F1 S1' S2 J k' jok' Dd hDd => ?_⟩
            obtain ⟨S1, k, jok, nS1⟩ : ∃ S1 : AS, AfI vb σ H F S H1 F1 xs vs S1 e1 S2 ∧ Jok ds J (fun H F => RepL H F xs vs S1) ∧ ¬ S1 Dd := by
              refine ⟨fun a => S1' a ∧ H1 a ≠ none, ⟨k'.t, RepL.dom xs vs S1' k'.rep, fun z a q => k'.s1 z a q.1, fun z a q => k'.dj z a q.1, fun z a q => k'.n1 z a q.1⟩, fun H F i r => jok' H F i (RepL.mono xs vs _ _ r fun a q => q.1), fun q => q.2 hDd⟩
            have hz := items_len hds k.rep
            have hdD : H Dd = none := Classical.byContradiction fun z => k.t.ch.dom Dd z hDd
            generalize hown' : own.map (·.2) = ow at *
            cases hf : (dcoGo (fun e => wipeE e ow) (asgT tg) (fun e => evTs p.C ifs e) (fun e => (ev p.C kx e).still) (fun e => (ev p.C vx e).still) ds [] [] (wipeE e1 ow)).still with
            | ex x e' => 
              exfalso
              cases hl : dcoGo (fun e => wipeE e ow) (asgT tg) (fun e => evTs p.C ifs e) (fun e => (ev p.C kx e).still) (fun e => (ev p.C vx e).still) ds [] [] (wipeE e1 ow) <;> rw [hl] at hf <;> cases hf
            | bad => rw [hf] at q; exact q.elim
            | ok rr ef =>
              rw [hf, R.bind_ok] at q
              have hf := still_ok hf
              -- the invariant
              refine ⟨fun i m Hc => m = ds.length - i ∧ i ≤ ds.length ∧ ∃ Fc Sc ec kvs ks acc T, DoW ow vb σ H F S xs vs S1 Dd i Hc Fc Sc ec kvs ks acc T ∧ wipeE ec ow = ec ∧
                  dcoGo (fun e => wipeE e ow) (asgT tg) (fun e => evTs p.C ifs e) (fun e => (ev p.C kx e).still) (fun e => (ev p.C vx e).still) (ds.drop i) ks acc ec = .ok rr ef, ⟨ds.length, rfl, Nat.zero_le _, ?_⟩, fun i m Hc ⟨em, hi, Fc, Sc, ec, kvs, ks, acc, T, w, hwe, hgo⟩ => ?_⟩
              · have b := k.t.new (o := .dK []) rd.fd hDd
                have nD : ¬ S2 Dd := fun z => k.t.ch.fd Dd (k.t.s2 _ z) hDd
                refine ⟨_, S2, wipeE e1 ow, [], [], [], nos, ⟨⟨b.ch, b.er.wiped ow, b.s2, b.n2, fun z => by cases z⟩, RepL.newF hDd k.rep, k.dj, fun z a q => .inl (k.s1 z a q), upd_same, rfl, (fun p hp => (by cases hp)), rfl, sb_nos, dj_nos, (fun z => z), (fun _ z => z.elim), .inr rfl, nD, nS1, Nat.le_refl _⟩, wipeE_idem e1 ow, by rw [List.drop_zero]; exact hf⟩
              · by_cases hlt : i < ds.length
                · have hd := List.getElem?_eq_getElem hlt
                  obtain ⟨j1, j2⟩ := jok Hc Fc i w.src
                  obtain ⟨jg, jy⟩ := j1 _ hd
                  refine .inr ⟨jg, fun H' => ∃ m', m' < m ∧ m' = ds.length - (i + 1) ∧ i + 1 ≤ ds.length ∧ ∃ Fc Sc ec kvs ks acc T, DoW ow vb σ H F S xs vs S1 Dd (i + 1) H' Fc Sc ec kvs ks acc T ∧ wipeE ec ow = ec ∧
                    dcoGo (fun e => wipeE e ow) (asgT tg) (fun e => evTs p.C ifs e) (fun e => (ev p.C kx e).still) (fun e => (ev p.C vx e).still) (ds.drop (i + 1)) ks acc ec = .ok rr ef, fun H' z => z, fun x Hy hy => ?_⟩
                  obtain ⟨y1, y2⟩ := jy x Hy hy
                  rw [List.drop_eq_getElem_cons hlt] at hgo
                  simp only [dcoGo] at hgo
                  cases he : asgT tg ds[i] ec with
                  | none => rw [he] at hgo; cases hgo
                  | some e1' =>
                    rw [he] at hgo
                    simp only at hgo
                    refine do_turn rd.fd hdD w y1 (y2 w.A.ch.fd) he (Nat.lt_of_le_of_lt w.len (Nat.lt_of_lt_of_le hlt hz)) hown hv hmm ?_
                    cases ht : evTs p.C ifs e1' with
                    | ok b e2 =>
                      rw [ht, R.bind_ok] at hgo
                      cases b with
                      | true =>
                        rw [if_pos rfl] at hgo
                        simp only
                        cases hy3 : (ev p.C kx e2).still with
                        | ok ky e3 =>
                          rw [hy3, R.bind_ok] at hgo
                          simp only
                          by_cases hkk : (isK ky && !memD ky ks) = true
                          · rw [if_pos hkk] at hgo
                            refine ⟨by simpa using hkk, ?_⟩
                            cases hy4 : (ev p.C vx e3).still with
                            | ok y4 e4 =>
                              rw [hy4, R.bind_ok] at hgo
                              simp only
                              intro H' F' S' kvs' T' w'
                              exact ⟨_, by omega, rfl, hlt, F', S', _, kvs', _, _, T', w', wipeE_idem e4 ow, hgo⟩
                            | ex x' e' => rw [hy4] at hgo; cases hgo
                            | bad => rw [hy4] at hgo; cases hgo
                          · rw [if_neg hkk] at hgo; cases hgo
                        | ex x' e' => rw [hy3] at hgo; cases hgo
                        | bad => rw [hy3] at hgo; cases hgo
                      | false =>
                        rw [if_neg Bool.false_ne_true] at hgo
                        simp only
                        intro H' F' S' kvs' T' w'
                        exact ⟨_, by omega, rfl, hlt, F', S', _, kvs', _, _, T', w', wipeE_idem e2 ow, hgo⟩
                    | ex x' e' => rw [ht] at hgo; cases hgo
                    | bad => rw [ht] at hgo; cases hgo
                · have ei : i = ds.length := by omega
                  refine .inl ⟨(jok Hc Fc i w.src).2 (by omega), ?_⟩
                  rw [ei, List.drop_length] at hgo
                  simp only [dcoGo] at hgo
                  cases hgo
                  have er : ERs Hc Fc ef σ Sc := by rw [← hwe]; exact w.A.er.unwipe
                  refine q (.ref Dd) Hc Fc (fun a => a = Dd ∨ T a) Sc ⟨w.A.ch, ⟨Dd, _, T, _, rfl, ?_, ⟨kvs, rfl, w.hk, rfl, w.ok⟩, w.rep, .inr ⟨rfl, w.hD, .inl rfl, w.tD, fun _ z => .inr z⟩⟩, er, fun _ a z => z.elim (fun z => z ▸ w.fD) (w.tF a), w.A.s2, w.A.n2, fun _ a z s => z.elim (fun z => w.nD (z ▸ s)) fun z => w.tS a z s, fun _ a z => z.elim (fun z => .inr (z ▸ hdD)) (w.tN a), fun z => by cases z⟩
                  rw [List.length_map]
                  exact Nat.le_trans w.len (Nat.le_trans hi hz)
        | ex x e1 => rw [hr] at q; exact q
        | bad => rw [hr] at q; exact q
    · exact absurd h Bool.false_ne_true
  | _ => exact absurd h Bool.false_ne_true
end
end Vm
namespace Vm
open PySem PySem.Spec PyProof.Rows L2
variable [CN]
/-- but for c all stands -/
def Oth (H H' : Hp) (c : Addr) : Prop := ∀ a o, H a = some o → a ≠ c → H' a = some o
/-- a change of what stands behind v, at c -/
def Fits (H H' : Hp) (F : AS) (c : Addr) (g : D → Option (D × D)) (v : V) : Prop := ∀ d d' y S, Rep H F d v S → Sb S F → g d = some (d', y) → S c ∧ Rep H' F d' v S
section
variable {H H' : Hp} {F : AS} {c : Addr} {g : D → Option (D × D)}
theorem Oth.rep (O : Oth H H' c) (fc : F c) {d : D} {v : V} {S : AS} (r : Rep H F d v S) (n : ¬ S c) : Rep H' F d v S :=
  Rep.step d v S r (fun a o h z => O a o h.1 fun e => z.elim (fun z => z (e ▸ fc)) fun z => n (e ▸ z)) fun a h => .inl h
theorem Oth.repL (O : Oth H H' c) (fc : F c) {d : List D} {v : List V} {S : AS} (r : RepL H F d v S) (n : ¬ S c) : RepL H' F d v S :=
  RepL.step d v S r (fun a o h z => O a o h.1 fun e => z.elim (fun z => z (e ▸ fc)) fun z => n (e ▸ z)) fun a h => .inl h
theorem onF_rep (O : Oth H H' c) {f : Str} {w : V} (fit : Fits H H' F c g w) : ∀ {fs : List Str} {vs vs' : List D} {us : List V} {y : D} {T : AS}, RepL H F vs us T → Sb T F → onF f g fs vs = some (vs', y) → (fs.zip us).lookup f = some w → T c ∧ RepL H' F vs' us T
  | [], vs, vs', us, y, T, r, s, h, l => by simp [onF] at h
  | k :: fs, [], vs', us, y, T, r, s, h, l => by simp [onF] at h
  | k :: fs, v :: vs, vs', us, y, T, r, s, h, l => by
    obtain ⟨u, t, S1, S2, rfl, h1, h2, dj, s1, s2⟩ := r
    rw [onF] at h
    rw [List.zip_cons_cons, List.lookup_cons] at l
    by_cases e : f = k
    · rw [if_pos e] at h
      rw [beq_iff_eq.mpr e] at l
      cases l
      obtain ⟨p, hp, hq⟩ := Option.map_eq_some_iff.mp h
      cases hq
      obtain ⟨k1, k2⟩ := fit _ _ _ _ h1 (s1.trans s) hp
      exact ⟨s1 c k1, _, t, S1, S2, rfl, k2, O.repL (s c (s1 c k1)) h2 fun z => dj c k1 z, dj, s1, s2⟩
    · rw [if_neg e] at h
      rw [show (f == k) = false from beq_eq_false_iff_ne.mpr e] at l
      obtain ⟨p, hp, hq⟩ := Option.map_eq_some_iff.mp h
      cases hq
      obtain ⟨k1, k2⟩ := onF_rep O fit h2 (s2.trans s) hp l
      exact ⟨s2 c k1, _, t, S1, S2, rfl, O.rep (s c (s2 c k1)) h1 fun z => dj c z k1, k2, dj, s1, s2⟩
theorem onK_rep (O : Oth H H' c) {k : L2.Key} {w : V} (fit : Fits H H' F c g w) : ∀ {kvs : List (L2.Key × V)} {vs vs' : List D} {y : D} {T : AS}, RepL H F vs (kvs.map (·.2)) T → Sb T F → onK (kD k) g (kvs.map fun p => kD p.1) vs = some (vs', y) → valV kvs k = some w → T c ∧ RepL H' F vs' (kvs.map (·.2)) T
  | [], vs, vs', y, T, r, s, h, l => by simp [onK] at h
  | p :: kvs, [], vs', y, T, r, s, h, l => by simp [onK] at h
  | p :: kvs, v :: vs, vs', y, T, r, s, h, l => by
    obtain ⟨u, t, S1, S2, e0, h1, h2, dj, s1, s2⟩ := r
    rw [List.map_cons] at e0
    injection e0 with e1 e2
    subst e1 e2
    rw [List.map_cons, onK, eqD_kD] at h
    unfold valV at l
    rw [List.find?_cons] at l
    by_cases e : p.1 = k
    · rw [decide_eq_true e] at h
      simp only [if_pos] at h
      simp only [e, decide_true, Option.map_some, Option.some.injEq] at l
      subst l
      obtain ⟨q, hp, hq⟩ := Option.map_eq_some_iff.mp h
      cases hq
      obtain ⟨k1, k2⟩ := fit _ _ _ _ h1 (s1.trans s) hp
      exact ⟨s1 c k1, _, _, S1, S2, rfl, k2, O.repL (s c (s1 c k1)) h2 fun z => dj c k1 z, dj, s1, s2⟩
    · rw [decide_eq_false e] at h
      simp only [Bool.false_eq_true, if_false] at h
      simp only [e, decide_false] at l
      obtain ⟨q, hp, hq⟩ := Option.map_eq_some_iff.mp h
      cases hq
      obtain ⟨k1, k2⟩ := onK_rep O fit h2 (s2.trans s) hp l
      exact ⟨s2 c k1, _, _, S1, S2, rfl, O.rep (s c (s2 c k1)) h1 fun z => dj c z k1, k2, dj, s1, s2⟩
theorem onN_rep (O : Oth H H' c) {w : V} (fit : Fits H H' F c g w) : ∀ {n : Nat} {vs vs' : List D} {us : List V} {y : D} {T : AS}, RepL H F vs us T → Sb T F → onN g n vs = some (vs', y) → us[n]? = some w → T c ∧ RepL H' F vs' us T
  | n, [], vs', us, y, T, r, s, h, l => by cases n <;> simp [onN] at h
  | 0, v :: vs, vs', us, y, T, r, s, h, l => by
    obtain ⟨u, t, S1, S2, rfl, h1, h2, dj, s1, s2⟩ := r
    rw [onN] at h
    cases l
    obtain ⟨q, hp, hq⟩ := Option.map_eq_some_iff.mp h
    cases hq
    obtain ⟨k1, k2⟩ := fit _ _ _ _ h1 (s1.trans s) hp
    exact ⟨s1 c k1, _, _, S1, S2, rfl, k2, O.repL (s c (s1 c k1)) h2 fun z => dj c k1 z, dj, s1, s2⟩
  | n + 1, v :: vs, vs', us, y, T, r, s, h, l => by
    obtain ⟨u, t, S1, S2, rfl, h1, h2, dj, s1, s2⟩ := r
    rw [onN] at h
    obtain ⟨q, hp, hq⟩ := Option.map_eq_some_iff.mp h
    cases hq
    obtain ⟨k1, k2⟩ := onN_rep O fit h2 (s2.trans s) hp (by simpa using l)
    exact ⟨s2 c k1, _, _, S1, S2, rfl, O.rep (s c (s2 c k1)) h1 fun z => dj c z k1, k2, dj, s1, s2⟩
/-! ### one step -/
def StF (H : Hp) (cs : List Str) (f : Str) (a : Addr) (w : V) : Prop := ∃ cl dx fs, cl ∈ cs ∧ H a = some (.ins (CN.cn cl) dx fs) ∧ fs.lookup f = some w
def StK (H : Hp) (k : L2.Key) (a : Addr) (w : V) : Prop := (∃ kvs, H a = some (.dK kvs) ∧ valV kvs k = some w) ∨ ∃ xs i, k = .inl i ∧ Rd H a (.tup xs) ∧ atI xs i = some w
theorem fits_fld (O : Oth H H' c) {cs : List Str} {f : Str} {a : Addr} {w : V} (st : StF H cs f a w) (fit : Fits H H' F c g w) : Fits H H' F c (onFd cs f g) (.ref a) := fun d d' y S r s h => by
  cases d with
  | ins o cl fs vs => ?_
  | _ => cases h
  simp only [onFd] at h
  split at h
  · obtain ⟨p, hp, hq⟩ := Option.map_eq_some_iff.mp h
    cases hq
    obtain ⟨b, us, T, dx, e, hl, rl, hH, q⟩ := r
    cases e
    obtain ⟨cl2, dx2, fs2, _, hH2, hlk⟩ := st
    rw [hH] at hH2
    injection hH2 with hH2
    injection hH2 with _ _ hfs
    rw [← hfs] at hlk
    have sT : Sb T S := by
      rcases q with ⟨_, nt, _⟩ | ⟨_, _, _, sb⟩
      · exact fun x t => (nt x t).elim
      · exact sb
    obtain ⟨k1, k2⟩ := onF_rep O fit rl (sT.trans s) hp hlk
    have nac : a ≠ c := by
      rcases q with ⟨_, nt, _⟩ | ⟨_, _, nt, _⟩
      · exact (nt c k1).elim
      · exact fun e => nt (e ▸ k1)
    exact ⟨sT c k1, a, us, T, dx, rfl, hl, k2, O a _ hH nac, q⟩
  · cases h
theorem fits_key (O : Oth H H' c) {k : L2.Key} {kd : D} {a : Addr} {w : V} (hk : ∀ k', kd = kD k' → k' = k) (st : StK H k a w) (fit : Fits H H' F c g w) : Fits H H' F c (onKd kd g) (.ref a) := fun d d' y S r s h => by
  cases d with
  | dct o ks vs =>
    simp only [onKd] at h
    split at h
    · rename_i hik
      obtain ⟨k', rfl⟩ := isK_ok hik
      have := hk k' rfl
      subst this
      obtain ⟨p, hp, hq⟩ := Option.map_eq_some_iff.mp h
      cases hq
      obtain ⟨b, us, T, u, e, hz, ⟨kvs, rfl, rfl, rfl, ok⟩, rl, q⟩ := r
      cases e
      have hH : H a = some (.dK kvs) := by
        rcases q with ⟨_, _, z, _⟩ | ⟨_, z, _⟩ <;> exact z
      have hw : valV kvs k' = some w := by
        rcases st with ⟨kvs2, h2, h3⟩ | ⟨xs, i, _, h2, _⟩
        · rw [hH] at h2
          cases h2
          exact h3
        · rcases h2 with h2 | ⟨o, h2⟩ <;> (rw [hH] at h2; cases h2)
      have sT : Sb T S := by
        rcases q with ⟨_, nt, _⟩ | ⟨_, _, _, _, sb⟩
        · exact fun x t => (nt x t).elim
        · exact sb
      obtain ⟨k1, k2⟩ := onK_rep O fit rl (sT.trans s) hp hw
      have nac : a ≠ c := by
        rcases q with ⟨_, nt, _⟩ | ⟨_, _, _, nt, _⟩
        · exact (nt c k1).elim
        · exact fun e => nt (e ▸ k1)
      exact ⟨sT c k1, a, _, T, _, rfl, hz, ⟨kvs, rfl, rfl, rfl, ok⟩, k2, q.imp (fun ⟨x, y, _, z⟩ => ⟨x, y, O a _ hH nac, z⟩) fun ⟨x, _, z⟩ => ⟨x, O a _ hH nac, z⟩⟩
    · cases h
  | tup xs =>
    cases kd with
    | int i => ?_
    | _ => cases h
    have := hk (.inl i) rfl
    subst this
    simp only [onKd] at h
    obtain ⟨n, hn, h⟩ := Option.bind_eq_some_iff.mp h
    obtain ⟨p, hp, hq⟩ := Option.map_eq_some_iff.mp h
    cases hq
    obtain ⟨b, us, e, rd, nf, hz, rl⟩ := r
    cases e
    have hw : us[n]? = some w := by
      rcases st with ⟨kvs2, h2, h3⟩ | ⟨xs2, i2, e2, h2, h3⟩
      · rcases rd with rd | ⟨o, rd⟩ <;> (rw [h2] at rd; cases rd)
      · cases e2
        have exs : us = xs2 := by
          rcases rd with rd | ⟨o, rd⟩ <;> rcases h2 with h2 | ⟨o2, h2⟩ <;> (rw [h2] at rd; cases rd; try rfl)
        subst exs
        unfold atI at h3
        rw [rl.len, hn] at h3
        exact h3
    obtain ⟨k1, k2⟩ := onN_rep O fit rl s hp hw
    have nac : a ≠ c := fun e => nf (e ▸ s c k1)
    exact ⟨k1, a, us, rfl, Rd.keep rd fun o z => O a o z nac, nf, hz, k2⟩
  | _ => cases h
/-! ### the way along a path -/
def KyV (σ : Sl) : Ky → L2.Key → Prop
  | .sl j, k => σ[j]? = some (some (kV k))
  | .ct d, k => d = kD k
def WkP (σ : Sl) (H : Hp) : Pth → V → Prop
  | .sl i, w => σ[i]? = some (some w)
  | .fld p cs f, w => ∃ a, WkP σ H p (.ref a) ∧ StF H cs f a w
  | .key p k, w => ∃ a ky, WkP σ H p (.ref a) ∧ KyV σ k ky ∧ StK H ky a w
theorem kD_inj {a b : L2.Key} (h : kD a = kD b) : a = b := by
  cases a <;> cases b <;> simp only [kD, D.int.injEq, D.str.injEq, reduceCtorEq] at h <;> rw [h]
theorem kV_inj {a b : L2.Key} (h : kV a = kV b) : a = b := by
  cases a <;> cases b <;> simp only [kV, V.int.injEq, V.str.injEq, reduceCtorEq] at h <;> rw [h]
theorem KyV.det {σ : Sl} {k : Ky} {a b : L2.Key} (h : KyV σ k a) (h2 : KyV σ k b) : a = b := by
  cases k with
  | sl j =>
    have h : σ[j]? = some (some (kV a)) := h
    have h2 : σ[j]? = some (some (kV b)) := h2
    rw [h] at h2
    exact kV_inj (Option.some.inj (Option.some.inj h2))
  | ct d => exact kD_inj ((show d = kD a from h).symm.trans h2)
theorem StF.det {cs : List Str} {f : Str} {a : Addr} {w w' : V} (h : StF H cs f a w) (h2 : StF H cs f a w') : w = w' := by
  obtain ⟨cl, dx, fs, _, e1, l1⟩ := h
  obtain ⟨cl2, dx2, fs2, _, e2, l2⟩ := h2
  rw [e1] at e2
  injection e2 with e2
  injection e2 with _ _ hfs
  rw [← hfs, l1] at l2
  exact Option.some.inj l2
theorem StK.det {k : L2.Key} {a : Addr} {w w' : V} (h : StK H k a w) (h2 : StK H k a w') : w = w' := by
  rcases h with ⟨kvs, e1, l1⟩ | ⟨xs, i, ek, e1, l1⟩ <;> rcases h2 with ⟨kvs2, e2, l2⟩ | ⟨xs2, i2, ek2, e2, l2⟩
  · rw [e1] at e2; cases e2
    rw [l1] at l2; exact Option.some.inj l2
  · rcases e2 with e2 | ⟨o, e2⟩ <;> (rw [e1] at e2; cases e2)
  · rcases e1 with e1 | ⟨o, e1⟩ <;> (rw [e2] at e1; cases e1)
  · have exs : xs = xs2 := by
      rcases e1 with e1 | ⟨o, e1⟩ <;> rcases e2 with e2 | ⟨o2, e2⟩ <;> (rw [e1] at e2; cases e2; try rfl)
    subst exs
    rw [ek] at ek2
    cases ek2
    rw [l1] at l2; exact Option.some.inj l2
theorem WkP.det {σ : Sl} : ∀ {p : Pth} {w w' : V}, WkP σ H p w → WkP σ H p w' → w = w'
  | .sl i, w, w', h, h2 => by
    have h : σ[i]? = some (some w) := h
    have h2 : σ[i]? = some (some w') := h2
    rw [h] at h2
    exact Option.some.inj (Option.some.inj h2)
  | .fld p cs f, w, w', ⟨a, h, st⟩, ⟨a2, h2, st2⟩ => by
    cases WkP.det h h2
    exact st.det st2
  | .key p k, w, w', ⟨a, ky, h, hk, st⟩, ⟨a2, ky2, h2, hk2, st2⟩ => by
    cases WkP.det h h2
    cases hk.det hk2
    exact st.det st2
/-- what is shared and what S owns stands -/
def Kp (H : Hp) (F S : AS) (H' : Hp) : Prop := ∀ a o, Kt H a o → ¬ F a ∨ S a → H' a = some o
theorem onF_ex {f : Str} : ∀ {fs : List Str} {vs vs' : List D} {us : List V} {y : D} {T : AS}, RepL H F vs us T → onF f g fs vs = some (vs', y) → ∃ w d1 d1' S1, (fs.zip us).lookup f = some w ∧ Rep H F d1 w S1 ∧ Sb S1 T ∧ g d1 = some (d1', y)
  | [], vs, vs', us, y, T, r, h => by simp [onF] at h
  | k :: fs, [], vs', us, y, T, r, h => by simp [onF] at h
  | k :: fs, v :: vs, vs', us, y, T, r, h => by
    obtain ⟨u, t, S1, S2, rfl, h1, h2, dj, s1, s2⟩ := r
    rw [onF] at h
    rw [List.zip_cons_cons, List.lookup_cons]
    by_cases e : f = k
    · rw [if_pos e] at h
      rw [beq_iff_eq.mpr e]
      obtain ⟨p, hp, hq⟩ := Option.map_eq_some_iff.mp h
      cases hq
      exact ⟨u, v, p.1, S1, rfl, h1, s1, hp⟩
    · rw [if_neg e] at h
      rw [show (f == k) = false from beq_eq_false_iff_ne.mpr e]
      obtain ⟨p, hp, hq⟩ := Option.map_eq_some_iff.mp h
      cases hq
      obtain ⟨w, d1, d1', S3, z1, z2, z3, z4⟩ := onF_ex h2 hp
      exact ⟨w, d1, d1', S3, z1, z2, z3.trans s2, z4⟩
theorem onK_ex {k : L2.Key} : ∀ {kvs : List (L2.Key × V)} {vs vs' : List D} {y : D} {T : AS}, RepL H F vs (kvs.map (·.2)) T → onK (kD k) g (kvs.map fun p => kD p.1) vs = some (vs', y) → ∃ w d1 d1' S1, valV kvs k = some w ∧ Rep H F d1 w S1 ∧ Sb S1 T ∧ g d1 = some (d1', y)
  | [], vs, vs', y, T, r, h => by simp [onK] at h
  | p :: kvs, [], vs', y, T, r, h => by simp [onK] at h
  | p :: kvs, v :: vs, vs', y, T, r, h => by
    obtain ⟨u, t, S1, S2, e0, h1, h2, dj, s1, s2⟩ := r
    rw [List.map_cons] at e0
    injection e0 with e1 e2
    subst e1 e2
    rw [List.map_cons, onK, eqD_kD] at h
    unfold valV
    rw [List.find?_cons]
    by_cases e : p.1 = k
    · rw [decide_eq_true e] at h
      simp only [if_pos] at h
      obtain ⟨q, hp, hq⟩ := Option.map_eq_some_iff.mp h
      cases hq
      exact ⟨p.2, v, q.1, S1, by simp only [e, decide_true, Option.map_some], h1, s1, hp⟩
    · rw [decide_eq_false e] at h
      simp only [Bool.false_eq_true, if_false] at h
      obtain ⟨q, hp, hq⟩ := Option.map_eq_some_iff.mp h
      cases hq
      obtain ⟨w, d1, d1', S3, z1, z2, z3, z4⟩ := onK_ex h2 hp
      refine ⟨w, d1, d1', S3, ?_, z2, z3.trans s2, z4⟩
      simp only [e, decide_false]
      exact z1
theorem onN_ex : ∀ {n : Nat} {vs vs' : List D} {us : List V} {y : D} {T : AS}, RepL H F vs us T → onN g n vs = some (vs', y) → ∃ w d1 d1' S1, us[n]? = some w ∧ Rep H F d1 w S1 ∧ Sb S1 T ∧ g d1 = some (d1', y)
  | n, [], vs', us, y, T, r, h => by cases n <;> simp [onN] at h
  | 0, v :: vs, vs', us, y, T, r, h => by
    obtain ⟨u, t, S1, S2, rfl, h1, h2, dj, s1, s2⟩ := r
    rw [onN] at h
    obtain ⟨q, hp, hq⟩ := Option.map_eq_some_iff.mp h
    cases hq
    exact ⟨u, v, q.1, S1, rfl, h1, s1, hp⟩
  | n + 1, v :: vs, vs', us, y, T, r, h => by
    obtain ⟨u, t, S1, S2, rfl, h1, h2, dj, s1, s2⟩ := r
    rw [onN] at h
    obtain ⟨q, hp, hq⟩ := Option.map_eq_some_iff.mp h
    cases hq
    obtain ⟨w, d1, d1', S3, z1, z2, z3, z4⟩ := onN_ex h2 hp
    exact ⟨w, d1, d1', S3, by simpa using z1, z2, z3.trans s2, z4⟩
theorem onFd_ex {cs : List Str} {f : Str} {d d' y : D} {v : V} {S : AS} (r : Rep H F d v S) (h : onFd cs f g d = some (d', y)) : ∃ a w d1 d1' S1, v = .ref a ∧ StF H cs f a w ∧ (∀ H', Kp H F S H' → StF H' cs f a w) ∧ Rep H F d1 w S1 ∧ Sb S1 S ∧ g d1 = some (d1', y) := by
  cases d with
  | ins o cl fs vs => ?_
  | _ => cases h
  simp only [onFd] at h
  split at h
  · rename_i hc
    obtain ⟨p, hp, hq⟩ := Option.map_eq_some_iff.mp h
    cases hq
    obtain ⟨a, us, T, dx, rfl, hl, rl, hH, q⟩ := r
    have sT : Sb T S := by
      rcases q with ⟨_, nt, _⟩ | ⟨_, _, _, sb⟩
      · exact fun x t => (nt x t).elim
      · exact sb
    obtain ⟨w, d1, d1', S1, z1, z2, z3, z4⟩ := onF_ex rl hp
    exact ⟨a, w, d1, d1', S1, rfl, ⟨cl, dx, _, List.contains_iff_mem.mp hc, hH, z1⟩, fun H' K => ⟨cl, dx, _, List.contains_iff_mem.mp hc, K a _ ⟨hH, fun _ z => by cases z⟩ (q.imp (fun q => q.2.2) fun q => q.2.1), z1⟩, z2, z3.trans sT, z4⟩
  · cases h
theorem onKd_ex {kd : D} {d d' y : D} {v : V} {S : AS} (r : Rep H F d v S) (h : onKd kd g d = some (d', y)) : ∃ k a w d1 d1' S1, kd = kD k ∧ v = .ref a ∧ StK H k a w ∧ (∀ H', Kp H F S H' → StK H' k a w) ∧ Rep H F d1 w S1 ∧ Sb S1 S ∧ g d1 = some (d1', y) := by
  cases d with
  | dct o ks vs =>
    simp only [onKd] at h
    split at h
    · rename_i hik
      obtain ⟨k, rfl⟩ := isK_ok hik
      obtain ⟨p, hp, hq⟩ := Option.map_eq_some_iff.mp h
      cases hq
      obtain ⟨a, us, T, u, rfl, hz, ⟨kvs, rfl, rfl, rfl, ok⟩, rl, q⟩ := r
      have sT : Sb T S := by
        rcases q with ⟨_, nt, _⟩ | ⟨_, _, _, _, sb⟩
        · exact fun x t => (nt x t).elim
        · exact sb
      have hH : H a = some (.dK kvs) := by
        rcases q with ⟨_, _, z, _⟩ | ⟨_, z, _⟩ <;> exact z
      obtain ⟨w, d1, d1', S1, z1, z2, z3, z4⟩ := onK_ex rl hp
      exact ⟨k, a, w, d1, d1', S1, rfl, rfl, .inl ⟨kvs, hH, z1⟩, fun H' K => .inl ⟨kvs, K a _ ⟨hH, fun _ z => by cases z⟩ (q.imp (fun q => q.2.2.2) fun q => q.2.2.1), z1⟩, z2, z3.trans sT, z4⟩
    · cases h
  | tup xs =>
    cases kd with
    | int i => ?_
    | _ => cases h
    simp only [onKd] at h
    obtain ⟨n, hn, h⟩ := Option.bind_eq_some_iff.mp h
    obtain ⟨p, hp, hq⟩ := Option.map_eq_some_iff.mp h
    cases hq
    obtain ⟨a, us, rfl, rd, nf, hz, rl⟩ := r
    obtain ⟨w, d1, d1', S1, z1, z2, z3, z4⟩ := onN_ex rl hp
    have hat : atI us i = some w := by
      unfold atI
      rw [rl.len, hn]
      exact z1
    exact ⟨.inl i, a, w, d1, d1', S1, rfl, rfl, .inr ⟨us, i, rfl, rd, hat⟩, fun H' K => .inr ⟨us, i, rfl, Rd.keepK rd (fun _ z => by cases z) fun o z => K a o z (.inl nf), hat⟩, z2, z3, z4⟩
  | _ => cases h
/-- the slots' keys -/
def KyOk (H : Hp) (F : AS) (e : Nv) (σ : Sl) : Prop := ∀ (j : Nat) (d : D), e[j]? = some (some d) → ∃ v S, σ[j]? = some (some v) ∧ Rep H F d v S
theorem ky_ok {e : Nv} {σ : Sl} (ok : KyOk H F e σ) {k : Ky} {kd : D} (h : kyD e k = some kd) {ky : L2.Key} (hk : kd = kD ky) : KyV σ k ky := by
  subst hk
  cases k with
  | sl j =>
    simp only [kyD] at h
    obtain ⟨o, ho, h⟩ := Option.bind_eq_some_iff.mp h
    have h : o = some (kD ky) := h
    subst h
    obtain ⟨v, S, hv, r⟩ := ok j _ ho
    obtain ⟨rfl, _⟩ := r.key
    exact hv
  | ct d =>
    simp only [kyD, Option.some.injEq] at h
    exact h
theorem wk_ex {e : Nv} {σ : Sl} (ok : KyOk H F e σ) {v0 : V} {d0 : D} {T1 : AS} {i : Nat} (hv : σ[i]? = some (some v0)) (r : Rep H F d0 v0 T1) : ∀ {p : Pth} {g h : D → Option (D × D)} {d' y : D}, p.root = i → p.fn e g = some h → h d0 = some (d', y) →
    ∃ w d1 d1' S1, WkP σ H p w ∧ (∀ H', Kp H F T1 H' → WkP σ H' p w) ∧ Rep H F d1 w S1 ∧ Sb S1 T1 ∧ g d1 = some (d1', y)
  | .sl j, g, h, d', y, hr, hf, hh => by
    cases hr
    simp only [Pth.fn, Option.some.injEq] at hf
    subst hf
    exact ⟨v0, d0, d', T1, hv, fun H' _ => hv, r, Sb.refl, hh⟩
  | .fld p cs f, g, h, d', y, hr, hf, hh => by
    obtain ⟨w, d1, d1', S1, z1, z2, z3, z4, z5⟩ := wk_ex ok hv r (p := p) hr hf hh
    obtain ⟨a, w', d2, d2', S2, rfl, y1, y2, y3, y4, y5⟩ := onFd_ex z3 z5
    exact ⟨w', d2, d2', S2, ⟨a, z1, y1⟩, fun H' K => ⟨a, z2 H' K, y2 H' fun b o hb n => K b o hb (n.imp_right (z4 b))⟩, y3, y4.trans z4, y5⟩
  | .key p k, g, h, d', y, hr, hf, hh => by
    simp only [Pth.fn] at hf
    obtain ⟨kd, hk, hf⟩ := Option.bind_eq_some_iff.mp hf
    obtain ⟨w, d1, d1', S1, z1, z2, z3, z4, z5⟩ := wk_ex ok hv r (p := p) hr hf hh
    obtain ⟨ky, a, w', d2, d2', S2, e1, rfl, y1, y2, y3, y4, y5⟩ := onKd_ex z3 z5
    have kk := ky_ok ok hk e1
    exact ⟨w', d2, d2', S2, ⟨a, ky, z1, kk, y1⟩, fun H' K => ⟨a, ky, z2 H' K, kk, y2 H' fun b o hb n => K b o hb (n.imp_right (z4 b))⟩, y3, y4.trans z4, y5⟩
theorem wk_fits {e : Nv} {σ : Sl} (ok : KyOk H F e σ) (O : Oth H H' c) : ∀ {p : Pth} {g h : D → Option (D × D)} {w : V}, p.fn e g = some h → WkP σ H p w → Fits H H' F c g w → ∃ v0, σ[p.root]? = some (some v0) ∧ Fits H H' F c h v0
  | .sl j, g, h, w, hf, wk, fit => by
    simp only [Pth.fn, Option.some.injEq] at hf
    subst hf
    exact ⟨w, wk, fit⟩
  | .fld p cs f, g, h, w, hf, ⟨a, wk, st⟩, fit => wk_fits ok O (p := p) hf wk (fits_fld O st fit)
  | .key p k, g, h, w, hf, ⟨a, ky, wk, kk, st⟩, fit => by
    simp only [Pth.fn] at hf
    obtain ⟨kd, hk, hf⟩ := Option.bind_eq_some_iff.mp hf
    exact wk_fits ok O (p := p) hf wk (fits_key O (fun k' e1 => (ky_ok ok hk e1).det kk) st fit)
theorem KyOk.of {e : Nv} {σ : Sl} {S : AS} (er : ERs H F e σ S) : KyOk H F e σ := fun j d h => by
  obtain ⟨v, hv, r⟩ := er.get h
  exact ⟨v, S, hv, r⟩
theorem onPt_some {e e' : Nv} {p : Pth} {g : D → Option (D × D)} {y : D} (h : onPt e p g = some (e', y)) : ∃ f d d', p.fn e g = some f ∧ e[p.root]? = some (some d) ∧ f d = some (d', y) ∧ e' = e.set p.root (some d') := by
  unfold onPt at h
  obtain ⟨f, hf, h⟩ := Option.bind_eq_some_iff.mp h
  obtain ⟨d, hd, h⟩ := Option.bind_eq_some_iff.mp h
  obtain ⟨q, hq, h⟩ := Option.map_eq_some_iff.mp h
  cases h
  obtain ⟨o, ho, hd⟩ := Option.bind_eq_some_iff.mp hd
  have hd : o = some d := hd
  subst hd
  exact ⟨f, d, q.1, hf, ho, hq, rfl⟩
/-- along the path to the thing that is changed -/
theorem pt_ex {e e' : Nv} {σ : Sl} {S : AS} {p : Pth} {y : D} (er : ERs H F e σ S) (h : onPt e p g = some (e', y)) : ∃ w d1 d1' S1, WkP σ H p w ∧ Rep H F d1 w S1 ∧ Sb S1 S ∧ g d1 = some (d1', y) := by
  obtain ⟨f, d, d', hf, hd, hh, _⟩ := onPt_some h
  obtain ⟨v, hv, r⟩ := er.get hd
  obtain ⟨w, d1, d1', S1, z1, z2, z3, z4, z5⟩ := wk_ex (KyOk.of er) hv r rfl hf hh
  exact ⟨w, d1, d1', S1, z1, z3, z4, z5⟩
/-- the thing at a path is another one -/
theorem own_path {sb : Bool} {σ : Sl} {H0 H1 : Hp} {F0 F1 S S1 : AS} {e1 e2 : Nv} {p : Pth} {u : HO} {y : D} {w : V} (nh : ∃ o, H1 c = some o ∧ ¬ Hard o) (fd : FD H0 F0) (k : AftT sb σ H0 F0 S H1 F1 e1 S1) (hp : onPt e1 p g = some (e2, y)) (wk : WkP σ H1 p w)
    (fit : Fits H1 (upd H1 c u) F1 c g w) : AftT false σ H0 F0 S (upd H1 c u) F1 e2 S1 := by
  obtain ⟨f, d, d', hf, he, hh, rfl⟩ := onPt_some hp
  have O : Oth H1 (upd H1 c u) c := fun x o h n => by rw [upd_ne n]; exact h
  obtain ⟨v0, hv, fit0⟩ := wk_fits (KyOk.of k.er) O hf wk fit
  obtain ⟨v, T1, T2, hv', rp, er, dj, t1, t2⟩ := k.er.out he
  rw [hv] at hv'; cases hv'
  obtain ⟨hT, rp2⟩ := fit0 _ _ _ _ rp (t1.trans k.s2) hh
  have fa : F1 c := k.s2 c (t1 c hT)
  have dm : ∀ x, H1 x ≠ none → upd H1 c u x ≠ none := fun x h => by
    by_cases hx : x = c
    · rw [hx, upd_same]; simp
    · rw [upd_ne hx]; exact h
  have er2 : ERs (upd H1 c u) F1 (e1.set p.root none) σ T2 := er.step (fun x o h n => O x o h.1 fun e => n.elim (fun n => n (e ▸ fa)) fun n => dj c hT (e ▸ n)) fun x h => .inl h
  have hi : p.root < (e1.set p.root none).length := by rw [List.length_set]; exact (List.getElem?_eq_some_iff.mp he).1
  have er3 := ERs.back (d := d') er2 hi hv rp2 dj
  rw [List.set_set] at er3
  refine ⟨⟨fun x o h ns => ?_, k.ch.new, k.ch.old, fun x h => dm x (k.ch.dom x h), nh.elim fun _ z => k.ch.fd.upd z.1 z.2⟩, er3.mono fun x h => h.elim (t1 x) (t2 x), k.s2, k.n2, fun z => by cases z⟩
  exact O x o (k.ch.keep x o h ns) fun e => (k.n2 c (t1 c hT)).elim (fun z => ns (e ▸ z)) fun z => by rw [e] at h; have h := h.1; rw [z] at h; cases h
/-- a list is another one -/
theorem fits_lst {vs ws : List V} (hc : H c = some (.lst vs)) (hz : ws.length ≤ sizeLine) (hg : ∀ d d' y, g d = some (d', y) → ∃ xs ys, d = .lst true xs ∧ d' = .lst true ys ∧ (RepL H F xs vs nos → RepL H F ys ws nos)) : Fits H (upd H c (.lst ws)) F c g (.ref c) := fun d d' y S r s h => by
  obtain ⟨xs, ys, rfl, rfl, hr⟩ := hg _ _ _ h
  obtain ⟨a, vs', e, z, l, q⟩ := r
  cases e
  obtain ⟨_, hH, sa⟩ : true = true ∧ H c = some (.lst vs') ∧ S c := by
    rcases q with ⟨q, _⟩ | q
    · cases q
    · exact q
  rw [hc] at hH
  cases hH
  have O : Oth H (upd H c (.lst ws)) c := fun x o h n => by rw [upd_ne n]; exact h
  exact ⟨sa, c, ws, rfl, hz, O.repL (s c sa) (hr l) id, .inr ⟨rfl, upd_same, sa⟩⟩
/-- a dict is another one -/
theorem fits_dct {kvs kws : List (L2.Key × V)} (hc : H c = some (.dK kvs)) (hz : kws.length ≤ sizeLine) (hg : ∀ d d' y, g d = some (d', y) → ∃ ks ds ks' ds', d = .dct true ks ds ∧ d' = .dct true ks' ds' ∧ (ks = kvs.map (fun p => kD p.1) → (∀ p ∈ kvs, kyOk p.1) → ∀ T, RepL H F ds (kvs.map (·.2)) T → ks' = kws.map (fun p => kD p.1) ∧ (∀ p ∈ kws, kyOk p.1) ∧ RepL H F ds' (kws.map (·.2)) T)) :
    Fits H (upd H c (.dK kws)) F c g (.ref c) := fun d d' y S r s h => by
  obtain ⟨ks, ds, ks', ds', rfl, rfl, hr⟩ := hg _ _ _ h
  obtain ⟨a, us, T, u, e, z, ⟨kvs', rfl, ek, rfl, ok⟩, l, q⟩ := r
  cases e
  obtain ⟨_, hH, sa, nt, sb⟩ : true = true ∧ H c = some (.dK kvs') ∧ S c ∧ ¬ T c ∧ Sb T S := by
    rcases q with ⟨q, _⟩ | q
    · cases q
    · exact q
  rw [hc] at hH
  cases hH
  obtain ⟨rfl, ok2, l2⟩ := hr ek ok T l
  have O : Oth H (upd H c (.dK kws)) c := fun x o h n => by rw [upd_ne n]; exact h
  exact ⟨sa, c, _, T, _, rfl, by rw [List.length_map]; exact hz, ⟨kws, rfl, rfl, rfl, ok2⟩, O.repL (s c sa) l2 nt, .inr ⟨rfl, upd_same, sa, nt, sb⟩⟩
end
end Vm
namespace Vm
open PySem PySem.Spec PyProof.Rows L2
variable [CN]
section
variable {g : Tab} {N : List Str} {p : Pm} {X : Cx} {sc : Scope}
def tPth (q : Pth) : TE := fun σ H Q => ∃ w, WkP σ H q w ∧ Q w H
def tKy (k : Ky) : TE := fun σ H Q => ∃ ky, KyV σ k ky ∧ Q (kV ky) H
def rKt : R2 := fun x y H Q => ∃ a k w, x = .ref a ∧ y = kV k ∧ StK H k a w ∧ Q w H
theorem kt_ok (hu : X.A.units + 65 < cLine) : IxR X rKt := by
  intro value slice pins s σ H x y v u Q I rx ry h hs
  obtain ⟨a, k, w, rfl, rfl, st, q⟩ := h
  rcases st with ⟨kvs, hH, hw⟩ | ⟨xs, i, rfl, rd, hat⟩
  · exact dg_ok hu value slice pins s σ H _ _ v u Q I rx ry ⟨a, kvs, k, w, rfl, rfl, hH, hw, q⟩ hs
  · exact ix_tup value slice pins s σ H _ _ v u Q I rx ry ⟨a, xs, i, w, rfl, rfl, .inl rd, hat, q⟩ hs
theorem pe_ky (G : Gd g N p X sc) : ∀ {k : Ky} {A : Expr}, chkKy N sc k A = true → PE X A (tKy k)
  | .sl j, A, h => by
    cases A with
    | Name x pos => exact pe_weak (pe_nm G h) fun σ H Q ⟨ky, hk, q⟩ => ⟨_, hk, q⟩
    | _ => exact absurd h Bool.false_ne_true
  | .ct d, A, h => by
    cases A with
    | Constant c k pos =>
      simp only [chkKy, Bool.and_eq_true] at h
      obtain ⟨h1, h2⟩ := h
      cases d <;> (first | (cases h2; done) | skip) <;> cases c <;> (first | (cases h1; done) | skip)
      · have e := of_decide_eq_true h1
        subst e
        refine pe_weak pe_int fun σ H Q ⟨ky, hk, q⟩ => ?_
        cases ky with
        | inl i => cases hk; exact q
        | inr s => cases hk
      · simp only [constD, Bool.and_eq_true, decide_eq_true_eq] at h1
        obtain ⟨rfl, _⟩ := h1
        refine pe_weak pe_str fun σ H Q ⟨ky, hk, q⟩ => ?_
        cases ky with
        | inl i => cases hk
        | inr s => cases hk; exact q
    | _ => exact absurd h Bool.false_ne_true
theorem pe_pth (G : Gd g N p X sc) : ∀ {q : Pth} {A : Expr}, chkP g N sc q A = true → PE X A (tPth q)
  | .sl i, A, h => by
    cases A with
    | Name x pos => exact pe_weak (pe_nm G h) fun σ H Q ⟨w, hw, q⟩ => ⟨w, hw, q⟩
    | _ => exact absurd h Bool.false_ne_true
  | .fld q cs f, A, h => by
    cases A with
    | Attribute B n pos =>
      simp only [chkP, Bool.and_eq_true, decide_eq_true_eq, List.all_eq_true, List.any_eq_true] at h
      obtain ⟨rfl, h1, h2, h3⟩ := h
      refine pe_weak (pe_fld (pe_pth G h3) (rcv_base h1 n X.env)) fun σ H Q ⟨w, ⟨a, wk, cl, dx, fs, hc, hH, hl⟩, q⟩ => ?_
      obtain ⟨z, hz, rfl⟩ := h2 cl hc
      obtain ⟨g1, g2⟩ := G.fld _ _ hz
      exact ⟨.ref a, wk, a, _, dx, fs, w, rfl, hH, g1, g2, hl, q⟩
    | _ => exact absurd h Bool.false_ne_true
  | .key q k, A, h => by
    cases A with
    | Subscript B K pos =>
      simp only [chkP, Bool.and_eq_true] at h
      obtain ⟨hp, h1, h2⟩ := h
      exact pe_weak (pe_ix (kt_ok (by have := G.un; omega)) (pe_pth G h1) (pe_ky G h2) (plainIx_pl hp)) fun σ H Q ⟨w, ⟨a, ky, wk, hk, st⟩, q⟩ => ⟨.ref a, wk, ky, hk, a, ky, w, rfl, rfl, st, q⟩
    | _ => exact absurd h Bool.false_ne_true
theorem popG_some {z : Bool} {d d' y : D} (h : popG z d = some (d', y)) : ∃ xs, d = .lst true xs ∧ (if z then xs.head? else xs.getLast?) = some y ∧ d' = .lst true (if z then xs.drop 1 else xs.take (xs.length - 1)) := by
  cases d with
  | lst o xs => ?_
  | _ => cases h
  cases o with
  | false => cases h
  | true =>
    simp only [popG] at h
    split at h
    · rename_i d hd
      cases h
      exact ⟨xs, rfl, hd, rfl⟩
    · cases h
theorem snd_ppop {z : Bool} {q : Pth} {A : Expr} (G : Gd g N p X sc) (h : chk g N sc (.ppop z q) A = true) :
    PE X A (tE p (.ppop z q)) ∧ PT X A (tT p (.ppop z q)) ∧ (isBO A = true → PW X A (tT p (.ppop z q))) := by
  cases A with
  | Call fn xs kws pos =>
    unfold chk at h
    split at h
    · rename_i heq
      cases heq
      rename_i B m ap
      simp only [Bool.and_eq_true, decide_eq_true_eq] at h
      obtain ⟨rfl, ho, hrb, hl, hx⟩ := h
      refine se_plain ?_ (fun _ => rfl) rfl
      have key : ∀ {σ H Q}, tE p (.ppop z q) σ H Q → ∃ (a : Addr) (vs : List V) (v : V), WkP σ H q (.ref a) ∧ H a = some (.lst vs) ∧ tyV X.K "list" (.ref a) H ∧ vs.length ≤ sizeLine ∧
          (if z then vs.head? else vs.getLast?) = some v ∧ Q v (upd H a (.lst (if z then vs.drop 1 else vs.take (vs.length - 1)))) := fun {σ H Q} ⟨F, S, e, rd, q0⟩ => by
        simp only [ev] at q0
        split at q0
        · rename_i e' d hon
          obtain ⟨w, d1, d1', S1, wk, r, s1, hg⟩ := pt_ex rd.er hon
          obtain ⟨ds, rfl, hd, rfl⟩ := popG_some hg
          obtain ⟨a, vs, rfl, hz, l, c⟩ := r
          obtain ⟨_, hH, sa⟩ : true = true ∧ H a = some (.lst vs) ∧ S1 a := by
            rcases c with ⟨c, _⟩ | c
            · cases c
            · exact c
          have hlen := l.len
          have hv : ∃ v, (if z then vs.head? else vs.getLast?) = some v ∧ Rep H F d v nos := by
            cases z with
            | true =>
              simp only [if_true, List.head?_eq_getElem?] at hd ⊢
              exact l.get hd
            | false =>
              simp only [Bool.false_eq_true, if_false, List.getLast?_eq_getElem?] at hd ⊢
              rw [hlen]
              exact l.get hd
          obtain ⟨v, hv, rv⟩ := hv
          refine ⟨a, vs, v, wk, hH, .inl ⟨rfl, vs, .inl (.inl hH)⟩, hz, hv, ?_⟩
          have k := own_path (c := a) (u := .lst (if z then vs.drop 1 else vs.take (vs.length - 1))) ⟨_, hH, not_hard_lst⟩ rd.fd rd.refl hon wk (fits_lst hH (by
            cases z with
            | true => simp only [if_true, List.length_drop]; omega
            | false => simp only [Bool.false_eq_true, if_false, List.length_take]; omega) fun d d' y hg => by
              obtain ⟨xs, rfl, _, rfl⟩ := popG_some hg
              refine ⟨xs, _, rfl, rfl, fun l => ?_⟩
              have hlen := l.len
              cases z with
              | true => simp only [if_true]; exact RepL.drop 1 l
              | false => simp only [Bool.false_eq_true, if_false]; rw [hlen]; exact RepL.take _ l)
          refine q0 v _ _ nos _ (k.val ?_)
          have fa : F a := rd.sf a (s1 a sa)
          exact Rep.step d v nos rv (fun x o hx n => by
            rw [upd_ne fun e => ?_]
            · exact hx.1
            · rcases n with n | n
              · exact n (e ▸ fa)
              · exact n) fun x h => .inl h
        · exact q0.elim
      cases xs with
      | nil =>
        have hz : z = false := by simpa using hx
        subst hz
        refine pe_weak (pe_bm0 F.plainAttrs_list F.slot_list_pop F.type_list_pop mt_pop (pe_pth G ho) (rcv_base hrb _ _) hl) fun σ H Q q => ?_
        obtain ⟨a, vs, v, wk, hH, ty, hz, hv, q⟩ := key q
        simp only [Bool.false_eq_true, if_false] at hv q
        exact ⟨.ref a, wk, ty, a, vs, v, rfl, rfl, hH, by rw [← List.getLast?_eq_getElem?]; exact hv, by rw [List.dropLast_eq_take]; exact q⟩
      | cons x xs =>
        cases xs with
        | cons _ _ =>
          exfalso
          split at hx
          · rename_i heq; cases heq
          · rename_i heq; cases heq
          · cases hx
        | nil =>
          split at hx
          · rename_i heq
            cases heq
          · rename_i j cp heq
            cases heq
            have hz : z = true := by simpa using hx
            subst hz
            refine pe_weak (pe_bm F.plainAttrs_list F.slot_list_pop F.type_list_pop mt_popAt (pe_pth G ho) (pa_cons pe_int pa_nil (by rfl)) (rcv_base hrb _ _) (by rfl) hl (by rfl) (by rfl)) fun σ H Q q => ?_
            obtain ⟨a, vs, v, wk, hH, ty, hz, hv, q⟩ := key q
            simp only [if_true] at hv q
            have h0 : 0 < vs.length := by
              cases vs with
              | nil => cases hv
              | cons _ _ => simp
            refine ⟨.ref a, wk, ty, a, vs, 0, 0, v, rfl, rfl, hH, by decide, by decide, ?_, by rw [← List.head?_eq_getElem?]; exact hv, ?_⟩
            · unfold seqIndex?
              simp
              exact fun z => by rw [z] at h0; cases h0
            · rw [List.eraseIdx_zero]
              rw [List.drop_one] at q
              exact q
          · cases hx
    · exact absurd h Bool.false_ne_true
  | _ => exact absurd h Bool.false_ne_true
/-! ### a look -/
theorem ERs.fzE {H : Hp} {F : AS} : ∀ {e : Nv} {σ : Sl} {S T : AS}, ERs H F e σ S → Sb S T → ERs H (fun a => F a ∧ ¬ T a) (fzE e) σ nos
  | [], σ, S, T, h, k => h
  | o :: e, σ, S, T, h, k => by
    obtain ⟨u, r, S1, S2, q, h1, h2, dj, s1, s2⟩ := h
    refine ⟨u, r, nos, nos, q, fun d hd => ?_, ERs.fzE h2 (s2.trans k), dj_nos, sb_nos, sb_nos⟩
    cases o with
    | none => cases hd
    | some d0 =>
      cases hd
      obtain ⟨v, hv, hr⟩ := h1 d0 rfl
      exact ⟨v, hv, (Rep.frz d0 v S1 hr).less fun a z => ⟨z.1, fun y => z.2 (k a (s1 a y))⟩⟩
theorem shal0_rep {H H' : Hp} {F F' S S' : AS} {d : D} {v : V} (h : shal 0 d = true) (r : Rep H F d v S) : Rep H' F' d v S' := by
  cases d <;> first | exact r | cases h
theorem shal0_repL {H H' : Hp} {F F' S S' : AS} : ∀ {ds : List D} {vs : List V}, ds.all (shal 0) = true → RepL H F ds vs S → RepL H' F' ds vs S'
  | [], vs, h, r => r
  | d :: ds, vs, h, r => by
    rw [List.all_cons, Bool.and_eq_true] at h
    obtain ⟨u, t, S1, S2, e, h1, h2, dj, s1, s2⟩ := r
    exact ⟨u, t, nos, nos, e, shal0_rep h.1 h1, shal0_repL h.2 h2, dj_nos, sb_nos, sb_nos⟩
theorem newF_rep {H : Hp} {F F' S : AS} {d : D} {v : V} (h : newF d = true) (r : Rep H F d v S) : Rep H F' d v S := by
  cases d with
  | lst o xs =>
    simp only [newF, Bool.and_eq_true] at h
    obtain ⟨rfl, h2⟩ := h
    obtain ⟨a, vs, e, z, l, c⟩ := r
    refine ⟨a, vs, e, z, shal0_repL h2 l, .inr ?_⟩
    rcases c with ⟨c, _⟩ | c
    · cases c
    · exact c
  | tup xs => cases h
  | dct o ks vs => cases h
  | ins o c fs vs => cases h
  | _ => exact r
theorem snd_bor {a : E} (ia : SE g N p.C p.XR a) {A : Expr} (G : Gd g N p X sc) (h : chk g N sc (.bor a) A = true) :
    PE X A (tE p (.bor a)) ∧ PT X A (tT p (.bor a)) ∧ (isBO A = true → PW X A (tT p (.bor a))) := by
  simp only [chk, Bool.and_eq_true] at h
  obtain ⟨⟨hv, hA⟩, h⟩ := h
  obtain ⟨i1, i2, i3⟩ := ia p.Wx X sc A G h
  have base : ∀ {σ : Sl} {H : Hp} {F S : AS} {e : Nv}, Rdy H F S e σ → Rdy H (fun a => F a ∧ ¬ S a) nos (fzE e) σ := fun rd => ⟨ERs.fzE rd.er Sb.refl, sb_nos, rd.fd.less fun x z => z.1⟩
  have back : ∀ {σ : Sl} {H H' : Hp} {F S F' S2 : AS} {e e' : Nv} {sb : Bool}, Rdy H F S e σ → AftT sb σ H (fun a => F a ∧ ¬ S a) nos H' F' e' S2 → AftT true σ H F S H' (fun a => F' a ∨ S a) e S := fun {σ H H' F S F' S2 e e' sb} rd k => by
    have kp : ∀ x o, Kt H x o → H' x = some o := fun x o hx => k.ch.keep x o hx id
    refine ⟨⟨fun x o hx _ => kp x o hx, fun x z => z.elim (fun z => (k.ch.new x z).imp_left (·.1)) fun z => .inl (rd.sf x z), fun x z n => .inl (k.ch.old x ⟨z, n⟩ id), k.ch.dom, ⟨fun x z => z.elim (k.ch.fd x) fun z => k.ch.dom x (rd.fd x (rd.sf x z)), k.ch.fd.tb⟩⟩, ?_, fun x z => .inr z, fun x z => .inl z, fun _ => kp⟩
    exact rd.er.step (fun x o hx _ => kp x o hx) fun x z => z.elim (fun z => (k.ch.new x z).imp_left (·.1)) fun z => .inl (rd.sf x z)
  have full : ∀ {σ : Sl} {H H' : Hp} {F S F' S1 S2 : AS} {e e' : Nv} {sb : Bool} {d : D} {v : V}, newF d = true → Rdy H F S e σ → Aft (isV a) sb σ H (fun a => F a ∧ ¬ S a) nos H' F' d v S1 e' S2 → Aft true true σ H F S H' (fun a => F' a ∨ S a) d v S1 e S := fun {σ H H' F S F' S1 S2 e e' sb d v} hn rd k => by
    have b := back rd k.t
    have n1 := k.n1 hv
    exact ⟨b.ch, newF_rep hn k.rep, b.er, fun _ x z => .inl (k.s1 hv x z), b.s2, b.n2, fun _ x y z => (n1 x y).elim id fun w => rd.fd x (rd.sf x z) w, fun _ x z => (n1 x z).elim (fun w => w.elim) .inr, b.ext⟩
  have tt : ∀ {σ : Sl} {H : Hp} {Q : Bool → Hp → Prop}, tT p (.bor a) σ H Q → tT p a σ H Q := fun {σ H Q} ⟨F, S, e, rd, q⟩ => by
    refine ⟨_, _, _, base rd, ?_⟩
    simp only [ev] at q
    cases hr : ev p.C a (fzE e) with
    | ok d e' =>
      rw [hr] at q
      simp only at q
      split at q
      · rename_i hn
        cases d with
        | bl b => exact fun H' F' S2 k => q H' _ S (back rd k)
        | _ => exact q.elim
      · exact q.elim
    | ex x e' => rw [hr] at q; exact q.elim
    | bad => rw [hr] at q; exact q.elim
  refine ⟨pe_weak i1 fun σ H Q ⟨F, S, e, rd, q⟩ => ⟨_, _, _, base rd, ?_⟩, pt_weak i2 fun σ H Q q => tt q, fun hb => pw_weak (i3 hb) fun σ H Q q => tt q⟩
  simp only [ev] at q
  cases hr : ev p.C a (fzE e) with
  | ok d e' =>
    rw [hr] at q
    simp only at q
    split at q
    · rename_i hn
      exact fun v H' F' S1 S2 k => q v H' _ S1 S (full hn rd k)
    · exact q.elim
  | ex x e' => rw [hr] at q; exact q.elim
  | bad => rw [hr] at q; exact q.elim
end
end Vm
namespace Vm
open PySem PySem.Spec L2
variable [CN]
theorem zip_look {H : Hp} {F : AS} {f : Str} {d : D} : ∀ {fs : List Str} {vs : List D} {us : List V}, RepL H F vs us nos → (fs.zip vs).lookup f = some d → ∃ v, (fs.zip us).lookup f = some v ∧ Rep H F d v nos
  | [], vs, us, r, h => by simp at h
  | k :: fs, [], us, r, h => by simp at h
  | k :: fs, x :: vs, us, r, h => by
    obtain ⟨u, t, S1, S2, rfl, h1, h2, dj, s1, s2⟩ := r
    rw [List.zip_cons_cons, List.lookup_cons] at h ⊢
    cases hb : f == k with
    | true =>
      rw [hb] at h
      cases h
      exact ⟨u, rfl, h1.mono _ _ _ _ s1⟩
    | false =>
      rw [hb] at h
      exact zip_look (h2.mono _ _ _ _ s2) h
theorem fe_look {H : Hp} {F : AS} {w : Str} {fs : List Str} {vs : List D} {us : List V} (r : RepL H F vs us nos) : ∀ {fe : FE} {d : D}, evFE (fs.zip vs) w fe = some d → ∃ v, evFE (fs.zip us) w fe = some v ∧ Rep H F d v nos
  | .att f, d, h => zip_look r h
  | .ite z a b, d, h => by
    unfold evFE at h ⊢
    by_cases c : w = z
    · rw [if_pos c] at h ⊢
      exact fe_look r h
    · rw [if_neg c] at h ⊢
      exact fe_look r h
theorem fs_look {H : Hp} {F : AS} {w : Str} {fs : List Str} {vs : List D} {us : List V} (r : RepL H F vs us nos) : ∀ {l : List (List Str × FE)} {d : D}, evFS D.non (fs.zip vs) w l = some d → ∃ v, evFS V.non (fs.zip us) w l = some v ∧ Rep H F d v nos
  | [], d, h => by
    cases h
    exact ⟨.non, rfl, rfl⟩
  | (ws, fe) :: l, d, h => by
    unfold evFS at h ⊢
    by_cases c : w ∈ ws
    · rw [if_pos c] at h ⊢
      exact fe_look r h
    · rw [if_neg c] at h ⊢
      exact fs_look r h
theorem AftT.grow {sb : Bool} {σ : Sl} {H H' H2 : Hp} {F F' S S2 : AS} {e1 : Nv} (a : AftT sb σ H F S H' F' e1 S2) (x : Ext H' H2) : AftT sb σ H F S H2 F' e1 S2 := by
  have nn : ∀ b, H' b ≠ none → H2 b ≠ none := fun b h z => by
    cases q : H' b with
    | none => exact h q
    | some o => rw [x b o q] at z; cases z
  exact ⟨⟨fun b o h ns => x b o (a.ch.keep b o h ns), a.ch.new, a.ch.old, fun b h => nn b (a.ch.dom b h), a.ch.fd.hard (fun b o h _ => x b o h) fun b h => nn b (a.ch.fd.d b h)⟩, a.er.step (fun b o h _ => x b o h.1) fun b h => .inl h, a.s2, a.n2, fun z b o h => x b o (a.ext z b o h)⟩
theorem tup2_aft {sb : Bool} {σ : Sl} {H H1 : Hp} {F F1 S S1 S2 : AS} {e1 : Nv} {w : Str} {d : D} {v : V} {q : Addr} (fd : FD H F) (a : AftT sb σ H F S H1 F1 e1 S2) (hq : H1 q = none) (hw : okS w) (r : Rep H1 F1 d v S1) (h1 : Sb S1 F1) (dj : Dj S1 S2) (n1 : Nw S H S1) :
    Aft true sb σ H F S (upd H1 q (.tup [.str w, v])) F1 (.tup [.str w, d]) (.ref q) S1 e1 S2 :=
  AftT.tup fd a hq ⟨.str w, [v], nos, S1, rfl, ⟨rfl, hw⟩, ⟨v, [], S1, nos, rfl, r, rfl, dj_nos.symm, Sb.refl, sb_nos⟩, dj_nos, sb_nos, Sb.refl⟩ (by rw [sizeLine_eq]; simp) h1 dj n1
section
variable {g : Tab} {N : List Str} {X : Cx} {sc : Scope} {C : Orc} {XR : Hp → AS → D → Value → Option Addr → Prop} {Wx : WX}
theorem snd_tryl {a : E} (ia : SE { g with lam := false, rb := false } N C XR a) {A : Expr} (G : Gd g N ⟨C, XR, Wx⟩ X sc) (h : chk g N sc (.tryl a) A = true) :
    PE X A (tE ⟨C, XR, Wx⟩ (.tryl a)) ∧ PT X A (tT ⟨C, XR, Wx⟩ (.tryl a)) ∧ (isBO A = true → PW X A (tT ⟨C, XR, Wx⟩ (.tryl a))) := by
  cases A with
  | Call fn xs kws pos =>
    unfold chk at h
    split at h
    · rename_i heq
      cases heq
      rename_i x p0 ps body scope lpos
      simp only [Bool.and_eq_true, decide_eq_true_eq] at h
      obtain ⟨rfl, h1, hl, h2, hv, h3⟩ := h
      obtain ⟨g1, _⟩ := okGl_ok G h1
      obtain ⟨c, P, DE, MI, NL, hcode, TB, hm, hu, T, fx⟩ := (G.lam hl).ex
      obtain ⟨k, _, hr3, hf⟩ := G.fnk0
      have hr := hr3 hl
      have L : LamC X.env.scope scope ps X.N := by rw [G.sc, G.hN]; exact lamC_by h2
      have hxr : XR = XRv := G.xr
      have body_ok : ∀ (A : Around) (outer : List Env) (s : Shared) (H : Hp) (E : XK) (f c' : Addr), Room (k + 2) (A.deeper (LamX.lamEnv X scope s.heap.objs.size f c')) → PE (LamX.lamCx X A outer s H E scope f c') body (tE ⟨C, XR, fun cls d _ H' => E cls d H'⟩ a) := fun A outer s H E f c' hr' => by
        refine (ia (fun cls d _ H' => E cls d H') (LamX.lamCx X A outer s H E scope f c') scope body ⟨G.hN, G.nd, rfl, rfl, ?_, G.free, G.cons, takes_of rfl rfl rfl rfl, G.xr, ?_, G.exc, (fun z => by cases z), ⟨k, hr'.mono (Nat.le_succ (k + 1)), (fun z => by cases z), hf⟩, G.glo, G.meth, G.mak, G.fld, (fun z => by cases z), G.isi, G.dcs⟩ h3).1
        · have := hr'.un
          show (A.deeper (LamX.lamEnv X scope s.heap.objs.size f c')).units + 200 < cLine
          omega
        · exact hr'.mono (by omega)
      refine se_plain (pe_weak (pe_tryl (k := k + 1) (t := fun E => tE ⟨C, XR, fun cls d _ H' => E cls d H'⟩ a) T g1 TB hcode hm hu hr L body_ok) fun σ H Q ⟨F, S, e, rd, q⟩ => ⟨F, rd.fd, fun H1 gr => ⟨F, S, e, ⟨rd.er.step (fun b o z _ => gr.kt b o z) fun b z => .inl z, rd.sf, gr.fd⟩, ?_⟩⟩) (fun _ => rfl) rfl
      have a0 : AftT true σ H F S H1 F e S := ⟨⟨fun b o z _ => gr.kt b o z, fun b z => .inl z, fun b z _ => z, gr.dom, gr.fd⟩, rd.er.step (fun b o z _ => gr.kt b o z) fun b z => .inl z, rd.sf, fun b z => .inl z, fun _ => gr.kt⟩
      simp only [ev] at q
      cases hr : ev C a e with
      | bad => rw [hr] at q; exact q.elim
      | ok d e1 =>
        rw [hr] at q
        intro v H2 F2 S1 S2 k
        have tt := a0.trans rd.fd k.t
        exact ⟨by rw [sizeLine_eq]; simp, fun T n => q (.ref T) _ F2 S1 S2 (tup2_aft rd.fd tt.weak n ⟨by decide +kernel, by rw [sizeLine_eq]; decide +kernel⟩ k.rep (k.s1 hv) (k.dj hv) (a0.n2.trans a0.ch (k.n1 hv)))⟩
      | ex x e1 =>
        rw [hr] at q
        intro cls dd H2 F2 S2 k xr
        have tt := (a0.trans rd.fd k).weak
        rw [hxr] at xr
        cases x with
        | ins o c fs vs =>
          cases o with
          | true => exact xr.elim
          | false =>
            obtain ⟨hc, rfl, d, us, rfl, hd, hle, rl⟩ := xr
            obtain ⟨xf, m1, m2⟩ := fx c hc
            simp only [tryD] at q
            cases hw : (fs.zip vs).lookup ("word" : Str) with
            | none => rw [hw] at q; exact q.elim
            | some dw =>
              rw [hw] at q
              obtain ⟨vw, lw, rw'⟩ := zip_look rl hw
              cases dw with
              | str w =>
                obtain ⟨rfl, ow⟩ := rw'
                simp only at q
                refine ⟨_, d, _, w, rfl, rfl, xf, hd, lw, ow, ?_⟩
                by_cases hn : c = ("NothingLeft" : Str)
                · rw [if_pos hn] at q
                  refine .inr ⟨by rw [m1, hn]; decide, m2 hn, fun H3 T ex n => q (.ref T) _ F2 nos S2 (tup2_aft rd.fd (tt.grow ex) n ow rfl sb_nos dj_nos fun _ z => z.elim)⟩
                · rw [if_neg hn] at q
                  cases hfs : evFS D.non (fs.zip vs) w theFS with
                  | none => rw [hfs] at q; exact q.elim
                  | some df =>
                    rw [hfs] at q
                    obtain ⟨vf, lf, rf⟩ := fs_look rl hfs
                    refine .inl ⟨by rw [m1]; simp [hn], vf, lf, fun H3 T ex n => q (.ref T) _ F2 nos S2 (tup2_aft rd.fd (tt.grow ex) n ow (Rep.step df vf nos rf (fun b o z _ => ex b o z.1) fun b z => .inl z) sb_nos dj_nos fun _ z => z.elim)⟩
              | _ => exact q.elim
        | _ => exact xr.elim
    · exact absurd h Bool.false_ne_true
  | _ => exact absurd h Bool.false_ne_true
end
end Vm
namespace Vm
open PySem PySem.Spec L2
variable [CN]

section
variable {g : Tab} {N : List Str} {p : Pm} {X : Cx} {sc : Scope}
variable {C : Orc} {XR : Hp → AS → D → Value → Option Addr → Prop}
structure SL (g : Tab) (N : List Str) (C : Orc) (XR : Hp → AS → D → Value → Option Addr → Prop) (l : List E) : Prop where
  fes : ∀ (Wx : WX) (X : Cx) (sc : Scope) (xs : List Expr), Gd g N ⟨C, XR, Wx⟩ X sc → chks g N sc l xs = true → PA X xs (tEs ⟨C, XR, Wx⟩ l)
  fas : ∀ (Wx : WX) (X : Cx) (sc : Scope) (xs : List Expr), Gd g N ⟨C, XR, Wx⟩ X sc → chkA g N sc l xs = true → PA X xs (tA ⟨C, XR, Wx⟩ l)
  fks : ∀ (Wx : WX) (X : Cx) (sc : Scope) (ks : List Str) (xs : List Keyword), Gd g N ⟨C, XR, Wx⟩ X sc → chkK g N sc l ks xs = true → PK X xs (tA ⟨C, XR, Wx⟩ l)
  one : ∀ a, l = [a] → SE g N C XR a
theorem pk_none {a : E} (h : ∀ i, a ≠ .pk i) : pk? a = none := by
  cases a <;> first | rfl | exact absurd rfl (h _)
mutual
theorem sndg : ∀ (x : E) (g : Tab), SE g N C XR x
  | .cst d, g => fun Wx X sc A G h => by
    have hp := snd_cst d G h
    cases A with
    | Constant c k pos => exact se_plain hp (fun _ => rfl) rfl
    | _ => exact absurd h Bool.false_ne_true
  | .nm i, g => fun Wx X sc A G h => by
    have hp := snd_nm i G h
    cases A with
    | Name c pos => exact se_plain hp (fun _ => rfl) rfl
    | _ => exact absurd h Bool.false_ne_true
  | .pk i, g => fun Wx X sc A G h => by
    have hp := snd_pk i G h
    cases A with
    | Name c pos => exact se_plain hp (fun _ => rfl) rfl
    | _ => exact absurd h Bool.false_ne_true
  | .mv i, g => fun Wx X sc A G h => by
    have hp := snd_mv i G h
    cases A with
    | Name c pos => exact se_plain hp (fun _ => rfl) rfl
    | _ => exact absurd h Bool.false_ne_true
  | .gc y d, g => fun Wx X sc A G h => by
    have hp := snd_gc y d G h
    cases A with
    | Name c pos => exact se_plain hp (fun _ => rfl) rfl
    | _ => exact absurd h Bool.false_ne_true
  | .bin o a b, g => fun Wx X sc A G h => snd_bin (p := ⟨C, XR, Wx⟩) (sndg a g) (sndg b g) G h
  | .neg a, g => fun Wx X sc A G h => snd_neg (p := ⟨C, XR, Wx⟩) (sndg a g) G h
  | .cmp o a b, g => fun Wx X sc A G h => snd_cmp (p := ⟨C, XR, Wx⟩) (sndg a g) (sndg b g) G h
  | .chn o1 o2 a b c, g => fun Wx X sc A G h => snd_chn (p := ⟨C, XR, Wx⟩) (sndg a g) (sndg b g) (sndg c g) G h
  | .isn n a, g => fun Wx X sc A G h => snd_isn (p := ⟨C, XR, Wx⟩) (sndg a g) G h
  | .and a b, g => fun Wx X sc A G h => snd_and (p := ⟨C, XR, Wx⟩) (sndg a g) (sndg b g) G h
  | .or a b, g => fun Wx X sc A G h => snd_or (p := ⟨C, XR, Wx⟩) (sndg a g) (sndg b g) G h
  | .not a, g => fun Wx X sc A G h => snd_not (p := ⟨C, XR, Wx⟩) (sndg a g) G h
  | .ite c a b, g => fun Wx X sc A G h => snd_ite (p := ⟨C, XR, Wx⟩) (sndg c g) (sndg a g) (sndg b g) G h
  | .ix a i, g => fun Wx X sc A G h => snd_ix (p := ⟨C, XR, Wx⟩) (sndg a g) (sndg i g) G h
  | .ixp a i, g => fun Wx X sc A G h => snd_ixp (p := ⟨C, XR, Wx⟩) (sndg a g) (sndg i g) G h
  | .slc fl fh a lo hi, g => fun Wx X sc A G h => snd_slc (p := ⟨C, XR, Wx⟩) (sndg a g) (sndg lo g) (sndg hi g) G h
  | .tup es, g => fun Wx X sc A G h => snd_tup (p := ⟨C, XR, Wx⟩) (fun xs hx => (sndLg es g).fes Wx X sc xs G hx) G h
  | .lst es, g => fun Wx X sc A G h => snd_lst (p := ⟨C, XR, Wx⟩) (fun xs hx => (sndLg es g).fes Wx X sc xs G hx) G h
  | .lc elt tg ik is ifs own, g => fun Wx X sc A G h => by
    obtain ⟨x, t, i, cs, scope, pos, wi, rfl, h1, h2, h3, h4, h5, h6, h7⟩ := snd_lc (p := ⟨C, XR, Wx⟩) (sndg elt g) (fun Wx' X' sc' a x ha G' hx => ((sndLg ifs g).one a ha Wx' X' sc' x G' hx).2.1) (fun a x ha hx => ((sndLg is g).one a ha Wx X sc x G hx).1) (fun xs hx => (sndLg is g).fes Wx X sc xs G hx) G h
    exact se_plain (pe_weak (pe_lc G.calm (G.hN ▸ G.nd) h1 h2 h3 h4 h5 h6) h7) (fun _ => rfl) rfl
  | .lc2 elt tg ik is ifs tg1 ik1 is1 ifs1 own w1, g => fun Wx X sc A G h => by
    obtain ⟨x, t, i, cs, t1, i1, cs1, scope, pos, wi, rfl, h1, h2, h2', h3, h4, h8, h9, h10, h5, h6, h6', h7⟩ := snd_lc2 (p := ⟨C, XR, Wx⟩) (sndg elt g) (fun Wx' X' sc' a x ha G' hx => ((sndLg ifs g).one a ha Wx' X' sc' x G' hx).2.1) (fun Wx' X' sc' a x ha G' hx => ((sndLg ifs1 g).one a ha Wx' X' sc' x G' hx).2.1) (fun a x ha hx => ((sndLg is g).one a ha Wx X sc x G hx).1) (fun xs hx => (sndLg is g).fes Wx X sc xs G hx) (fun Wx' X' sc' a x ha G' hx => ((sndLg is1 g).one a ha Wx' X' sc' x G' hx).1) (fun Wx' X' sc' xs G' hx => (sndLg is1 g).fes Wx' X' sc' xs G' hx) G h
    exact se_plain (pe_weak (pe_lc2 G.calm (G.hN ▸ G.nd) h1 h2 h2' h3 h4 h8 h9 h10 h5 h6 h6') h7) (fun _ => rfl) rfl
  | .dco kx vx tg ik is ifs own, g => fun Wx X sc A G h => by
    obtain ⟨x, y, t, i, cs, scope, pos, wi, rfl, h1, h2, h3, h4, h5, h5', h6, h7⟩ := snd_dco (p := ⟨C, XR, Wx⟩) (sndg kx g) (sndg vx g) (fun Wx' X' sc' a x ha G' hx => ((sndLg ifs g).one a ha Wx' X' sc' x G' hx).2.1) (fun a x ha hx => ((sndLg is g).one a ha Wx X sc x G hx).1) (fun xs hx => (sndLg is g).fes Wx X sc xs G hx) G h
    exact se_plain (pe_weak (pe_dc G.calm (G.hN ▸ G.nd) h1 h2 h3 h4 h5 h5' h6) h7) (fun _ => rfl) rfl
  | .lcb elt tg j ifs own, g => fun Wx X sc A G h => by
    obtain ⟨x, t, i, cs, scope, pos, wi, rfl, h1, h2, h3, h4, h5, h6, h7⟩ := snd_lcb (p := ⟨C, XR, Wx⟩) (sndg elt g) (fun Wx' X' sc' a x ha G' hx => ((sndLg ifs g).one a ha Wx' X' sc' x G' hx).2.1) G h
    exact se_plain (pe_weak (pe_lc G.calm (G.hN ▸ G.nd) h1 h2 h3 h4 h5 h6) h7) (fun _ => rfl) rfl
  | .dc kx vx tg ik is ifs own, g => fun Wx X sc A G h => by
    obtain ⟨x, y, t, i, cs, scope, pos, wi, rfl, h1, h2, h3, h4, h5, h5', h6, h7⟩ := snd_dc (p := ⟨C, XR, Wx⟩) (sndg kx g) (sndg vx g) (fun Wx' X' sc' a x ha G' hx => ((sndLg ifs g).one a ha Wx' X' sc' x G' hx).2.1) (fun a x ha hx => ((sndLg is g).one a ha Wx X sc x G hx).1) (fun xs hx => (sndLg is g).fes Wx X sc xs G hx) G h
    exact se_plain (pe_weak (pe_dc G.calm (G.hN ▸ G.nd) h1 h2 h3 h4 h5 h5' h6) h7) (fun _ => rfl) rfl
  | .cal f es, g => fun Wx X sc A G h => snd_cal (p := ⟨C, XR, Wx⟩) (fun xs hx => (sndLg es g).fas Wx X sc xs G hx) G h
  | .cak f es ks zs perm, g => fun Wx X sc A G h => snd_cak (p := ⟨C, XR, Wx⟩) (fun xs hx => (sndLg es g).fas Wx X sc xs G hx) (fun xs hx => (sndLg zs g).fks Wx X sc ks xs G hx) G h
  | .b1 f a, g => fun Wx X sc A G h => snd_b1 (p := ⟨C, XR, Wx⟩) (sndg a g) G h
  | .b2 f a b, g => fun Wx X sc A G h => snd_b2 (p := ⟨C, XR, Wx⟩) (sndg a g) (sndg b g) G h
  | .m1 f a b, g => fun Wx X sc A G h => snd_m1 (p := ⟨C, XR, Wx⟩) (sndg a g) (sndg b g) G h
  | .fz a, g => fun Wx X sc A G h => snd_fz (p := ⟨C, XR, Wx⟩) (sndg a g) G h
  | .pop z i, g => fun Wx X sc A G h => snd_pop (p := ⟨C, XR, Wx⟩) G h
  | .ppop z q, g => fun Wx X sc A G h => snd_ppop (p := ⟨C, XR, Wx⟩) G h
  | .bor a, g => fun Wx X sc A G h => snd_bor (p := ⟨C, XR, Wx⟩) (sndg a g) G h
  | .rev a, g => fun Wx X sc A G h => snd_rev (p := ⟨C, XR, Wx⟩) (sndg a g) G h
  | .eqi ds a b, g => fun Wx X sc A G h => snd_eqi (p := ⟨C, XR, Wx⟩) (sndg a g) (sndg b g) G h
  | .eqd a b, g => fun Wx X sc A G h => snd_eqd (p := ⟨C, XR, Wx⟩) (sndg a g) (sndg b g) G h
  | .ixg x kvs a, g => fun Wx X sc A G h => snd_ixg (p := ⟨C, XR, Wx⟩) (sndg a g) G h
  | .isc c a, g => fun Wx X sc A G h => snd_isc (p := ⟨C, XR, Wx⟩) (sndg a g) G h
  | .tryl a, g => fun Wx X sc A G h => snd_tryl (C := C) (XR := XR) (Wx := Wx) (sndg a { g with lam := false, rb := false }) G h
  | .rpr a, g => fun Wx X sc A G h => snd_rpr (p := ⟨C, XR, Wx⟩) (sndg a g) G h
  | .st1 f a, g => fun Wx X sc A G h => snd_st1 (p := ⟨C, XR, Wx⟩) (sndg a g) G h
  | .dzip es, g => fun Wx X sc A G h => snd_dzip (p := ⟨C, XR, Wx⟩) (fun xs hx => (sndLg es g).fes Wx X sc xs G hx) G h
  | .fld cs f a, g => fun Wx X sc A G h => snd_fld (p := ⟨C, XR, Wx⟩) (sndg a g) G h
  | .met ds m a es, g => fun Wx X sc A G h => snd_met (p := ⟨C, XR, Wx⟩) (sndg a g) (fun xs hx => (sndLg es g).fas Wx X sc xs G hx) G h
  | .mk c k es, g => fun Wx X sc A G h => snd_mk (p := ⟨C, XR, Wx⟩) (fun xs hx => (sndLg es g).fas Wx X sc xs G hx) G h
  | .nev, g => fun Wx X sc A G h => ⟨⟨fun pins s σ H Q I ⟨F, S, e, rd, q⟩ => q.elim⟩, ⟨fun pins s σ H Q I ⟨F, S, e, rd, q⟩ => q.elim⟩, fun _ => ⟨fun whole pins s σ H Q I ⟨F, S, e, rd, q⟩ => q.elim⟩⟩
  | .isi tp ts a, g => fun Wx X sc A G h => snd_isi (p := ⟨C, XR, Wx⟩) (sndg a g) G h
theorem sndLg : ∀ (es : List E) (g : Tab), SL g N C XR es
  | [], g => ⟨fun Wx X sc xs G h => by
      simp only [chks, List.isEmpty_iff] at h
      subst h
      exact pa_es_nil, fun Wx X sc xs G h => by
      simp only [chkA, List.isEmpty_iff] at h
      subst h
      exact pa_a_nil, fun Wx X sc ks xs G h => by
      simp only [chkK, Bool.and_eq_true, List.isEmpty_iff] at h
      obtain ⟨_, rfl⟩ := h
      exact pk_a_nil, fun a h => by cases h⟩
  | a :: es, g => by
    have ia : SE g N C XR a := sndg a g
    have il : SL g N C XR es := sndLg es g
    refine ⟨fun Wx X sc xs G h => ?_, fun Wx X sc xs G h => ?_, fun Wx X sc ks xs G h => ?_, fun b h => ?_⟩
    · cases xs with
      | nil => cases h
      | cons x xs =>
        simp only [chks, Bool.and_eq_true] at h
        obtain ⟨hp, hv, hx, hr⟩ := h
        exact pa_es_cons hp hv (ia Wx X sc x G hx).1 (il.fes Wx X sc xs G hr)
    · cases xs with
      | nil => cases h
      | cons x xs =>
        simp only [chkA, Bool.and_eq_true, Bool.or_eq_true] at h
        obtain ⟨hp, hv, hx, hr⟩ := h
        have ir := il.fas Wx X sc xs G hr
        by_cases hk : ∃ i, a = .pk i
        · obtain ⟨i, rfl⟩ := hk
          cases x with
          | Name y pos => exact pa_a_slot hp (pe_nm G hx) ir
          | _ => exact absurd hx Bool.false_ne_true
        · have hn := pk_none (a := a) fun i z => hk ⟨i, z⟩
          rw [hn] at hv
          exact pa_a_val hp (hv.resolve_left fun z => by cases z) hn (ia Wx X sc x G hx).1 ir
    · cases ks with
      | nil => cases xs <;> cases h
      | cons k kr =>
        cases xs with
        | nil => cases h
        | cons x xs =>
          obtain ⟨w, v, q⟩ := x
          simp only [chkK, Bool.and_eq_true, Bool.or_eq_true, decide_eq_true_eq] at h
          obtain ⟨rfl, hp, hv, hx, hr⟩ := h
          have ir := il.fks Wx X sc kr xs G hr
          by_cases hk : ∃ i, a = .pk i
          · obtain ⟨i, rfl⟩ := hk
            cases v with
            | Name y pos => exact pk_a_slot (pe_nm G hx) ir
            | _ => exact absurd hx Bool.false_ne_true
          · have hn := pk_none (a := a) fun i z => hk ⟨i, z⟩
            rw [hn] at hv
            exact pk_a_val (hv.resolve_left fun z => by cases z) hn (ia Wx X sc v G hx).1 ir
    · have h1 := List.cons.inj h
      rw [← h1.1]
      exact ia
end
theorem snd (x : E) : SE g N C XR x := sndg x g
theorem sndL (es : List E) : SL g N C XR es := sndLg es g
end
end Vm
namespace Vm
open PySem PySem.Spec L2
mutual
/-- the slots that are stored -/
def asgd : S → List Nat
  | .asg t _ => tgSlots t
  | .aug i _ _ => [i]
  | .iff _ a b => asgdL a ++ asgdL b
  | .whl _ b => asgdL b
  | .for_ t _ _ b => tgSlots t ++ asgdL b
  | _ => []
def asgdL : List S → List Nat
  | [] => []
  | s :: r => asgd s ++ asgdL r
end
/-! ### the check -/
/-- does the comprehension take its name's store with it -/
def swL (sc : Scope) (v t : Expr) : Bool := match v with
  | .ListComp _ _ s _ | .SetComp _ _ s _ | .DictComp _ _ _ s _ => (match t with
    | .Name x pos => sc.names.lookup x == some .local && pos.line == v.pos.line && !(s.names.any fun (n, k) => n == x && (k == .local || k == .cell))
    | _ => false)
  | _ => false
theorem swL_ok {v t : Expr} {l : Nat} {env : Env} (hk : env.scope.kind = .function) : swapsWith v (some t) l env = pure (swL env.scope v t) := by
  have hb : env.blockKind = .function := by unfold Env.blockKind; rw [hk]; rfl
  have kk : ∀ x, env.kindOf x = env.scope.names.lookup x := fun _ => rfl
  cases v <;> first
    | rfl
    | (cases t <;> first
      | rfl
      | (unfold swapsWith swL
         simp only [hb, kk]
         rfl))
def isSt : Expr → Bool
  | .Starred .. => true
  | _ => false
def swNames (sc : Scope) (ts : List Expr) : List Str := ts.filterMap fun
  | .Name id pos => if (sc.names.lookup id == some .local && pos.line == (ts.head?.map (·.pos.line)).getD 0) = true then some id else none
  | _ => none
def swK2 (sc : Scope) (ts vs : List Expr) : Option (Option (List Str)) :=
  if (!(ts.length == 2 || ts.length == 3) || vs.length != ts.length) = true then some none
  else if vs.any isSt = true then some none
  else if ((swNames sc ts).length != ts.length || (swNames sc ts).eraseDups.length != (swNames sc ts).length) = true then some none
  else if vs.all (foldedForSure 8) = true then some none
  else if vs.all (constantsAlone 8) = true then none
  else some (some (swNames sc ts))
def swK (sc : Scope) (T V : Expr) : Option (Option (List Str)) := match T, V with
  | .Tuple ts _ _, .Tuple vs _ _ => swK2 sc ts vs
  | .List _ _, _ => none
  | _, _ => some none
theorem swK2_ok {ts vs : List Expr} {k k2 : Nat} {p p2 : Pos} {env : Env} (hk : env.scope.kind = .function) {r : Option (List Str)} (h : swK2 env.scope ts vs = some r) : swappedStores [.Tuple ts k p] (.Tuple vs k2 p2) env = pure r := by
  have hb : env.blockKind = .function := by unfold Env.blockKind; rw [hk]; rfl
  have e : swappedStores [.Tuple ts k p] (.Tuple vs k2 p2) env = (if (!(ts.length == 2 || ts.length == 3) || vs.length != ts.length || env.blockKind != .function) = true then pure none
      else if vs.any isSt = true then pure none
      else if ((swNames env.scope ts).length != ts.length || (swNames env.scope ts).eraseDups.length != (swNames env.scope ts).length) = true then pure none
      else if vs.all (foldedForSure 8) = true then pure none
      else if vs.all (constantsAlone 8) = true then (do let r ← unsupported "assign.tuple-of-constant-expressions:order-of-the-stores"; (fun (_ : PUnit) => pure (some (swNames env.scope ts))) r)
      else pure (some (swNames env.scope ts))) := rfl
  rw [e, hb]
  unfold swK2 at h
  split at h
  · rename_i hc
    cases h
    rw [if_pos (by simpa using hc)]
  · rename_i hc
    rw [if_neg (by simpa using hc)]
    split at h
    · rename_i hc2
      cases h
      rw [if_pos hc2]
    · rename_i hc2
      rw [if_neg hc2]
      split at h
      · rename_i hc3
        cases h
        rw [if_pos hc3]
      · rename_i hc3
        rw [if_neg hc3]
        split at h
        · rename_i hc4
          cases h
          rw [if_pos hc4]
        · rename_i hc4
          rw [if_neg hc4]
          split at h
          · cases h
          · rename_i hc5
            cases h
            rw [if_neg hc5]
theorem swK_ok {T V : Expr} {env : Env} (hk : env.scope.kind = .function) {r : Option (List Str)} (h : swK env.scope T V = some r) : swappedStores [T] V env = pure r := by
  cases T <;> first
    | (cases h; rfl)
    | (cases h; done)
    | skip
  · cases V <;> first
      | exact swK2_ok hk h
      | (cases h; rfl)
def chkIt (g : Tab) (N : List Str) (sc : Scope) (ik : Ik) (is : List E) (i : Expr) : Bool := match ik with
  | .seq => chkOne g N sc is i
  | ik => (match i with
    | .Call (.Name y _) xs [] _ => decide (y = ikname ik) && (okGl sc y && (g.free.contains y && (decide (xs.length = ikn ik) && chks g N sc is xs)))
    | _ => false)
def isCall : Expr → Bool
  | .Call .. => true
  | _ => false
def isTgE : Expr → Bool
  | .Name .. => true
  | .Tuple .. => true
  | _ => false
def m0name : M0 → Str
  | .rev => "reverse"
  | .clr => "clear"
def isBr : Expr → Bool
  | .Attribute .. => true
  | .Subscript .. => true
  | _ => false
mutual
def chkS (g : Tab) (N : List Str) (sc : Scope) (L : List Nat) : S → Stmt → Bool
  | .asg t x, A => match A with
    | .Assign [T] V _ => isTgE T && (tgB N sc (fun _ => true) t T && ((tgSlots t).all (fun k => L.contains k) && (isV x && (chk g N sc x V && (swK sc T V).isSome))))
    | _ => false
  | .six i k v, A => match A with
    | .Assign [.Subscript (.Name o _) K _] V _ => okNm N sc i o && (pl K && (isV v && (chk g N sc v V && chk g N sc k K)))
    | _ => false
  | .aug i o x, A => match A with
    | .AugAssign (.Name y _) p X _ => decide (p = o) && (tgB N sc (fun _ => true) (.nm i) (.Name y ⟨0, 0, 0, 0⟩) && (L.contains i && (okNm N sc i y && chk g N sc x X)))
    | _ => false
  | .app i x, A => match A with
    | .Expr (.Call (.Attribute (.Name o _) m ap) [X] [] cp) _ => decide (m = "append") && (okNm N sc i o && ((ap.endLine == cp.line) && (pl X && (isV x && chk g N sc x X))))
    | _ => false
  | .apx i j l, A => match A with
    | .Expr (.Call (.Attribute (.Subscript (.Name o _) (.Name y _) _) m ap) [.Name z _] [] cp) _ => decide (m = "append") && (okNm N sc i o && (okNm N sc j y && (okNm N sc l z && (ap.endLine == cp.line))))
    | _ => false
  | .pap p x, A => match A with
    | .Expr (.Call (.Attribute B m ap) [X] [] cp) _ => decide (m = "append") && (chkP g N sc p B && (rcvE B && ((ap.endLine == cp.line) && (pl X && (isV x && chk g N sc x X)))))
    | _ => false
  | .pm0 k p, A => match A with
    | .Expr (.Call (.Attribute B m ap) [] [] cp) _ => decide (m = m0name k) && (chkP g N sc p B && (rcvE B && (ap.endLine == cp.line)))
    | _ => false
  | .pst p k v, A => match A with
    | .Assign [.Subscript B K _] V _ => chkP g N sc p B && (isBr B && (smp k && (pl K && (isV v && (chk g N sc v V && chk g N sc k K)))))
    | _ => false
  | .m0 k i, A => match A with
    | .Expr (.Call (.Attribute (.Name o _) m ap) [] [] cp) _ => decide (m = m0name k) && (okNm N sc i o && (ap.endLine == cp.line))
    | _ => false
  | .ext i x, A => match A with
    | .Expr (.Call (.Attribute (.Name o _) m ap) [X] [] cp) _ => decide (m = "extend") && (okNm N sc i o && ((ap.endLine == cp.line) && (pl X && (isV x && chk g N sc x X))))
    | _ => false
  | .rem i x, A => match A with
    | .Expr (.Call (.Attribute (.Name o _) m ap) [X] [] cp) _ => decide (m = "remove") && (okNm N sc i o && ((ap.endLine == cp.line) && (pl X && (isV x && chk g N sc x X))))
    | _ => false
  | .ins i k x, A => match A with
    | .Expr (.Call (.Attribute (.Name o _) m ap) [K, X] [] cp) _ => decide (m = "insert") && (okNm N sc i o && ((ap.endLine == cp.line) && (pl K && (pl X && (isV k && (isV x && (chk g N sc k K && chk g N sc x X)))))))
    | _ => false
  | .fst cs i f x, A => match A with
    | .Assign [.Attribute (.Name o _) n _] V _ => decide (n = f) && (okNm N sc i o && ((cs.all fun c => g.flds.any fun q => decide (q = (c, f))) && (isV x && chk g N sc x V)))
    | _ => false
  | .exp x, A => match A with
    | .Expr X _ => isCall X && chk g N sc x X
    | _ => false
  | .iff c a b, A => match A with
    | .If C X Y _ => chk g N sc c C && (chkSs g N sc L a X && chkSs g N sc L b Y)
    | _ => false
  | .whl c b, A => match A with
    | .While C X [] _ => chk g N sc c C && chkSs g N sc L b X
    | _ => false
  | .for_ t ik is b, A => match A with
    | .For T I X [] _ => pl I && (isTgE T && (ikTg ik t && (tgB N sc (fun _ => true) t T && ((tgSlots t).all (fun k => L.contains k) && (is.all isV && (chkIt g N sc ik is I && chkSs g N sc L b X))))))
    | _ => false
  | .ret x, A => match A with
    | .Return (some X) _ => isV x && chk g N sc x X
    | _ => false
  | .rai c w none, A => match A with
    | .Raise (some (.Call (.Name x _) [] [] _)) none _ => decide (x = c) && (okGl sc x && g.excs.any fun q => decide (q = (c, w, none)))
    | _ => false
  | .rai c w (some (f, a)), A => match A with
    | .Raise (some (.Call (.Name x _) [X] [] _)) none _ => decide (x = c) && (okGl sc x && ((g.excs.any fun q => decide (q = (c, w, some f))) && (pl X && (isV a && chk g N sc a X))))
    | _ => false
  | .retN, A => match A with
    | .Return none _ => true
    | _ => false
  | .brk, A => match A with
    | .Break _ => true
    | _ => false
  | .cnt, A => match A with
    | .Continue _ => true
    | _ => false
  | .pas, A => match A with
    | .Pass _ => true
    | _ => false
  | .nev, _ => true
def chkSs (g : Tab) (N : List Str) (sc : Scope) (L : List Nat) : List S → List Stmt → Bool
  | [], xs => xs.isEmpty
  | s :: r, xs => match xs with
    | x :: xr => chkS g N sc L s x && chkSs g N sc L r xr
    | [] => false
end
variable [CN]
/-! ### what stands behind a statement -/
structure AfS (L : List Nat) (σ σ' : Sl) (H : Hp) (F S : AS) (H' : Hp) (F' : AS) (e' : Nv) (S' : AS) : Prop where
  t : AftT false σ' H F S H' F' e' S'
  same : ∀ j, j ∉ L → σ'[j]? = σ[j]?
  len : σ'.length = σ.length
def Vs (p : Pm) (L : List Nat) (σ : Sl) (H : Hp) (F S : AS) (r : R Fl) (D : Ends) : Prop := match r with
  | .ok .next e' => ∀ σ' H' F' S', AfS L σ σ' H F S H' F' e' S' → D.nx σ' H'
  | .ok .brk e' => ∀ σ' H' F' S', AfS L σ σ' H F S H' F' e' S' → D.bk σ' H'
  | .ok .cnt e' => ∀ σ' H' F' S', AfS L σ σ' H F S H' F' e' S' → D.ct σ' H'
  | .ok (.ret d) e' => ∀ v σ' H' F' S1 S', AfS L σ σ' H F S H' F' e' S' → Rep H' F' d v S1 → Sb S1 F' → Dj S1 S' → Nw S H S1 → D.rt v H'
  | .ex x e' => ∀ cls dd σ' H' F' S', AfS L σ σ' H F S H' F' e' S' → p.XR H' F' x cls dd → p.Wx cls dd σ' H'
  | .bad => False
def tS (p : Pm) (W : Nat) (L : List Nat) (s : S) : TS := fun D σ H => ∃ F S e, Rdy H F S e σ ∧ Vs p L σ H F S (exS p.C W s e) D
def tSs (p : Pm) (W : Nat) (L : List Nat) (s : List S) : TS := fun D σ H => ∃ F S e, Rdy H F S e σ ∧ Vs p L σ H F S (exs p.C W s e) D
structure GdS (g : Tab) (N : List Str) (p : Pm) (X : Cx) (sc : Scope) : Prop where
  G : Gd g N p X sc
  kd : sc.kind = .function
  ps : PassesOwn (model X.prog X.w) X.A X.env X.xe
  fn : ∀ x, X.fn x = true
section
variable {g : Tab} {N : List Str} {p : Pm} {X : Cx} {sc : Scope} {L : List Nat} {W : Nat} {Z : Ends}
variable {σ σ' σ1 : Sl} {H H' H1 : Hp} {F F' F1 S0 S' S1 S2 : AS} {e e' e1 : Nv} {vb sb : Bool}
theorem AfS.refl (r : Rdy H F S0 e σ) : AfS L σ σ H F S0 H F e S0 := ⟨r.refl.weak, fun _ _ => rfl, rfl⟩
theorem AfS.trans (fd : FD H F) (a : AfS L σ σ1 H F S0 H1 F1 e1 S1) (b : AfS L σ1 σ' H1 F1 S1 H' F' e' S') : AfS L σ σ' H F S0 H' F' e' S' :=
  ⟨(a.t.trans fd b.t).weak, fun j hj => (b.same j hj).trans (a.same j hj), b.len.trans a.len⟩
theorem AftT.s (a : AftT sb σ H F S0 H1 F1 e1 S1) : AfS L σ σ H F S0 H1 F1 e1 S1 := ⟨a.weak, fun _ _ => rfl, rfl⟩
theorem Vs.pre {r : R Fl} (fd : FD H F) (a : AfS L σ σ1 H F S0 H1 F1 e1 S1) (h : Vs p L σ H F S0 r Z) : Vs p L σ1 H1 F1 S1 r Z := by
  cases r with
  | ok fl e' =>
    cases fl with
    | next => exact fun σ' H' F' S' b => h σ' H' F' S' (a.trans fd b)
    | brk => exact fun σ' H' F' S' b => h σ' H' F' S' (a.trans fd b)
    | cnt => exact fun σ' H' F' S' b => h σ' H' F' S' (a.trans fd b)
    | ret d => exact fun v σ' H' F' T1 S' b r s dj n => h v σ' H' F' T1 S' (a.trans fd b) r s dj ((a.t.n2).trans a.t.ch n)
  | ex x e' => exact fun cls dd σ' H' F' S' b xr => h cls dd σ' H' F' S' (a.trans fd b) xr
  | bad => exact h
/-- an expression at a statement's head -/
theorem vs_bind {r : R D} {f : D → Nv → R Fl} {Q : VK} (h : Vs p L σ H F S0 (r.bind f) Z) (k : ∀ d e', r = .ok d e' → Vs p L σ H F S0 (f d e') Z → ∀ v H' F' S1 S2, Aft vb sb σ H F S0 H' F' d v S1 e' S2 → Q v H') : Vp p vb sb σ H F S0 r Q := by
  cases r with
  | ok d e' => exact k d e' rfl h
  | ex x e' => exact fun cls dd H' F' S2 a xr => h cls dd σ H' F' S2 ⟨a, fun _ _ => rfl, rfl⟩ xr
  | bad => exact h
theorem vs_bind_t {r : R Bool} {f : Bool → Nv → R Fl} {Q : Bool → Hp → Prop} (h : Vs p L σ H F S0 (r.bind f) Z) (k : ∀ d e', r = .ok d e' → Vs p L σ H F S0 (f d e') Z → ∀ H' F' S2, AftT sb σ H F S0 H' F' e' S2 → Q d H') : Vt p sb σ H F S0 r Q := by
  cases r with
  | ok d e' => exact k d e' rfl h
  | ex x e' => exact fun cls dd H' F' S2 a xr => h cls dd σ H' F' S2 ⟨a, fun _ _ => rfl, rfl⟩ xr
  | bad => exact h
theorem ps_weak {st : Stmt} {t t' : TS} (h : PS X st t) (w : ∀ D σ H, t' D σ H → t D σ H) : PS X st t' := ⟨fun pins s σ H D I q => h.run pins s σ H D I (w D σ H q)⟩
theorem pss_weak {st : List Stmt} {t t' : TS} (h : PSs X st t) (w : ∀ D σ H, t' D σ H → t D σ H) : PSs X st t' := ⟨fun pins s σ H D I q => h.run pins s σ H D I (w D σ H q)⟩
/-! ### small statements -/
theorem sd_ret {x : E} {st : Stmt} (G : GdS g N p X sc) (h : chkS g N sc L (.ret x) st = true) : PS X st (tS p W L (.ret x)) := by
  cases st with
  | Return o pos =>
    cases o with
    | none => exact absurd h Bool.false_ne_true
    | some A =>
      simp only [chkS, Bool.and_eq_true] at h
      refine ps_weak (ps_ret (snd x p.Wx X sc A G.G h.2).1) fun D σ H ⟨F, S, e, rd, q⟩ => ⟨F, S, e, rd, ?_⟩
      simp only [exS] at q
      exact vs_bind q fun d e' _ q v H' F' S1 S2 a => q v σ H' F' S1 S2 a.t.s a.rep (a.s1 h.1) (a.dj h.1) (a.n1 h.1)
  | _ => exact absurd h Bool.false_ne_true
theorem sd_retN {st : Stmt} (h : chkS g N sc L .retN st = true) : PS X st (tS p W L .retN) := by
  cases st with
  | Return o pos =>
    cases o with
    | none => exact ps_weak ps_retN fun D σ H ⟨F, S, e, rd, q⟩ => q .non σ H F nos S (AfS.refl rd) rfl sb_nos dj_nos fun _ z => z.elim
    | some A => exact absurd h Bool.false_ne_true
  | _ => exact absurd h Bool.false_ne_true
theorem sd_brk {st : Stmt} (h : chkS g N sc L .brk st = true) : PS X st (tS p W L .brk) := by
  cases st with
  | Break pos => exact ps_weak ps_break fun D σ H ⟨F, S, e, rd, q⟩ => q σ H F S (AfS.refl rd)
  | _ => exact absurd h Bool.false_ne_true
theorem sd_cnt {st : Stmt} (h : chkS g N sc L .cnt st = true) : PS X st (tS p W L .cnt) := by
  cases st with
  | Continue pos => exact ps_weak ps_continue fun D σ H ⟨F, S, e, rd, q⟩ => q σ H F S (AfS.refl rd)
  | _ => exact absurd h Bool.false_ne_true
theorem sd_pas {st : Stmt} (h : chkS g N sc L .pas st = true) : PS X st (tS p W L .pas) := by
  cases st with
  | Pass pos => exact ps_weak ps_pass fun D σ H ⟨F, S, e, rd, q⟩ => q σ H F S (AfS.refl rd)
  | _ => exact absurd h Bool.false_ne_true
theorem sd_exp {x : E} {st : Stmt} (G : GdS g N p X sc) (h : chkS g N sc L (.exp x) st = true) : PS X st (tS p W L (.exp x)) := by
  cases st with
  | Expr A pos =>
    simp only [chkS, Bool.and_eq_true] at h
    have hs : swapsWith A none pos.line X.env = pure false := by
      have h1 := h.1
      cases A <;> first | rfl | (cases h1)
    refine ps_weak (ps_expr (snd x p.Wx X sc A G.G h.2).1 hs) fun D σ H ⟨F, S, e, rd, q⟩ => ⟨F, S, e, rd, ?_⟩
    simp only [exS] at q
    exact vs_bind q fun d e' _ q v H' F' S1 S2 a => q σ H' F' S2 a.t.s
  | _ => exact absurd h Bool.false_ne_true
end
end Vm
namespace Vm
open PySem PySem.Spec L2
variable [CN]

section
variable {g : Tab} {N : List Str} {p : Pm} {X : Cx} {sc : Scope} {L : List Nat} {W : Nat} {Z : Ends}
theorem sub_L {t : Tg} (h : (tgSlots t).all (fun k => L.contains k) = true) {j : Nat} (hj : j ∉ L) : j ∉ tgSlots t := fun z => hj (List.contains_iff_mem.mp (List.all_eq_true.mp h j z))
/-! ### name = value, (a, b) = value -/
theorem asg_rd {t : Tg} {x : E} (hv : isV x = true) (hL : (tgSlots t).all (fun k => L.contains k) = true) : ∀ D σ H, tS p W L (.asg t x) D σ H → tAsg (tE p x) (tTg t) D σ H := fun D σ H ⟨F, S, e, rd, q⟩ => by
  refine ⟨F, S, e, rd, ?_⟩
  simp only [exS] at q
  refine vs_bind q fun d e' _ q v H' F' S1 S2 a => ?_
  cases ha : asgT t d e' with
  | none => rw [ha] at q; exact q.elim
  | some e2 =>
    rw [ha] at q
    refine ⟨F', S1, S2, d, e', e2, a.rep, a.er, a.dj hv, ha, fun σ' hs hl er => ?_⟩
    exact q σ' H' F' _ ⟨⟨a.ch, er, fun x z => z.elim (a.s1 hv x) (a.s2 x), fun x z => z.elim (a.n1 hv x) (a.n2 x), fun z => by cases z⟩, fun j hj => hs j (sub_L hL hj), hl⟩
theorem isTg_pl {T : Expr} (h : isTgE T = true) : pl T = true := by
  cases T <;> first | rfl | cases h
theorem nodup_of_erase {α : Type} [BEq α] [LawfulBEq α] : ∀ {l : List α}, l.eraseDups.length = l.length → l.Nodup := by
  intro l
  induction l with
  | nil => intro _; exact List.nodup_nil
  | cons a r ih =>
    intro h
    rw [List.eraseDups_cons, List.length_cons, List.length_cons] at h
    have h1 : (r.filter fun b => !b == a).eraseDups.length ≤ (r.filter fun b => !b == a).length := by
      have : ∀ (n : Nat) (l : List α), l.length ≤ n → l.eraseDups.length ≤ l.length := by
        intro n
        induction n with
        | zero =>
          intro l hl
          cases l with
          | nil => simp
          | cons x r => simp at hl
        | succ n ihn =>
          intro l hl
          cases l with
          | nil => simp
          | cons x r =>
            rw [List.eraseDups_cons, List.length_cons, List.length_cons]
            have h2 := List.length_filter_le (fun b => !b == x) r
            have h3 := ihn (r.filter fun b => !b == x) (by simp at hl; omega)
            omega
      exact this _ _ (Nat.le_refl _)
    have h2 := List.length_filter_le (fun b => !b == a) r
    have h3 : (r.filter fun b => !b == a).length = r.length := by omega
    have h4 : r.filter (fun b => !b == a) = r := by
      have := List.length_filter_eq_length_iff.mp h3
      exact List.filter_eq_self.mpr this
    rw [h4] at h
    refine List.nodup_cons.mpr ⟨fun hm => ?_, ih (by omega)⟩
    have := List.filter_eq_self.mp h4 a hm
    simp at this
/-- a name of a target list -/
theorem name_of {sc : Scope} {ts : List Expr} {t : Expr} {x : Str} (h : (match t with
    | .Name id pos => if (sc.names.lookup id == some .local && pos.line == (ts.head?.map (·.pos.line)).getD 0) = true then some id else none
    | _ => none) = some x) : ∃ pos, t = .Name x pos ∧ sc.names.lookup x = some .local := by
  cases t <;> (first | (cases h; done) | skip)
  rename_i id pos
  simp only at h
  split at h
  · rename_i hc
    cases h
    simp only [Bool.and_eq_true, beq_iff_eq] at hc
    exact ⟨pos, rfl, hc.1⟩
  · cases h
theorem names_all {sc : Scope} {ts : List Expr} : ∀ {l : List Expr} {ns : List Str}, (l.filterMap fun t => (match t with
    | .Name id pos => if (sc.names.lookup id == some .local && pos.line == (ts.head?.map (·.pos.line)).getD 0) = true then some id else none
    | _ => none)) = ns → ns.length = l.length → ∀ (k : Nat) (x : Str), ns[k]? = some x → ∃ pos : Pos, l[k]? = some (Expr.Name x pos) ∧ sc.names.lookup x = some .local
  | [], ns, h, _, k, x, hk => by subst h; simp at hk
  | t :: l, ns, h, hl, k, x, hk => by
    rw [List.filterMap_cons] at h
    split at h
    · rename_i hn
      exfalso
      have h2 := List.length_filterMap_le (fun t => (match t with
        | .Name id pos => if (sc.names.lookup id == some .local && pos.line == (ts.head?.map (·.pos.line)).getD 0) = true then some id else none
        | _ => none)) l
      rw [h, hl] at h2
      simp at h2
      omega
    · rename_i y hy
      subst h
      cases k with
      | zero =>
        have : y = x := by simpa using hk
        subst this
        obtain ⟨pos, e, hx⟩ := name_of hy
        exact ⟨pos, by rw [e]; rfl, hx⟩
      | succ k =>
        obtain ⟨pos, e, hx⟩ := names_all (l := l) rfl (by simpa using hl) k x (by simpa using hk)
        exact ⟨pos, by simpa using e, hx⟩
theorem swK2_some {sc : Scope} {ts vs : List Expr} {names : List Str} (h : swK2 sc ts vs = some (some names)) : (ts.length = 2 ∨ ts.length = 3) ∧ names.length = ts.length ∧ names.Nodup ∧ ∀ (k : Nat) (x : Str), names[k]? = some x → ∃ pos : Pos, ts[k]? = some (Expr.Name x pos) ∧ sc.names.lookup x = some .local := by
  unfold swK2 at h
  split at h
  · cases h
  · rename_i h1
    split at h
    · cases h
    · split at h
      · cases h
      · rename_i h3
        split at h
        · cases h
        · split at h
          · cases h
          · cases h
            have h1 : (ts.length = 2 ∨ ts.length = 3) := by
              simp only [Bool.or_eq_true, Bool.not_eq_true', Bool.or_eq_false_iff, beq_eq_false_iff_ne, bne_iff_ne, not_or, not_and] at h1
              have := h1.1
              by_cases h2 : ts.length = 2
              · exact .inl h2
              · exact .inr (Classical.byContradiction fun h4 => this h2 h4)
            have h3 : (swNames sc ts).length = ts.length ∧ (swNames sc ts).eraseDups.length = (swNames sc ts).length := by
              simp only [Bool.or_eq_true, bne_iff_ne, not_or, Decidable.not_not] at h3
              exact h3
            exact ⟨h1, h3.1, nodup_of_erase h3.2, names_all rfl h3.1⟩
/-- names stored one behind another -/
def setσ : List Nat → List V → Sl → Sl
  | i :: is, v :: vs, σ => setσ is vs (σ.set i (some v))
  | _, _, σ => σ
theorem stores_ok (hN : X.N.Nodup) {H : Hp} {pins : List (Addr × Obj)} : ∀ {ns : List Str} {is : List Nat} {vs : List V} {us : List Value} {σ : Sl} {s : Shared}, ns.length = is.length → ns.length = vs.length → (∀ (k : Nat) (x : Str) (i : Nat), ns[k]? = some x → is[k]? = some i → X.N[i]? = some x ∧ X.env.scope.names.lookup x = some .local) → Vals vs us → L2.Inv X pins σ H s →
    wpAny (model X.prog X.w) X.A (assignInOrder (ns.map fun n => bindName X.env n) us) (fun _ s' => L2.Inv X pins (setσ is vs σ) H s') X.xe s
  | [], is, vs, us, σ, s, h1, h2, _, r, I => by
    cases is with
    | nil => cases vs with
      | nil => exact PyProof.Rows.assignInOrder_nil I
      | cons v vs => cases h2
    | cons i is => cases h1
  | x :: ns, is, vs, us, σ, s, h1, h2, h3, r, I => by
    cases is with
    | nil => cases h1
    | cons i is =>
      cases vs with
      | nil => cases h2
      | cons v vs =>
        cases r with
        | cons r1 r2 =>
          obtain ⟨a, b⟩ := h3 0 x i rfl rfl
          refine PyProof.Rows.assignInOrder_cons (wpAny_bindName (store_ok I hN a (.inl b) r1 (fun s1 I1 => ?_) (.inr b)))
          exact stores_ok (is := is) (vs := vs) hN (by simpa using h1) (by simpa using h2) (fun k y j hk hj => h3 (k + 1) y j (by simpa using hk) (by simpa using hj)) r2 I1
theorem tgs_names {fn : Str → Bool} : ∀ {ts : List Tg} {es : List Expr}, tgsB N sc fn ts es = true → (∀ (k : Nat) (e : Expr), es[k]? = some e → ∃ (x : Str) (pos : Pos), e = Expr.Name x pos) → ∃ is : List Nat, ts = is.map Tg.nm ∧ is.length = es.length ∧ ∀ (k : Nat) (x : Str) (pos : Pos) (i : Nat), es[k]? = some (Expr.Name x pos) → is[k]? = some i → N[i]? = some x
  | [], [], _, _ => ⟨[], rfl, rfl, fun k x pos i h => by simp at h⟩
  | [], _ :: _, h, _ => by cases h
  | _ :: _, [], h, _ => by cases h
  | t :: ts, e :: es, h, hn => by
    simp only [tgsB, Bool.and_eq_true] at h
    obtain ⟨is, h1, h2, h3⟩ := tgs_names h.2.2 fun k e he => hn (k + 1) e (by simpa using he)
    obtain ⟨x, pos, rfl⟩ := hn 0 e rfl
    have h4 := h.2.1
    cases t with
    | tup ts => exact absurd h4 Bool.false_ne_true
    | nm i =>
      simp only [tgB, Bool.and_eq_true, decide_eq_true_eq] at h4
      refine ⟨i :: is, by rw [h1]; rfl, by rw [List.length_cons, List.length_cons, h2], fun k y q j hk hj => ?_⟩
      cases k with
      | zero =>
        have e1 : x = y := by
          have hk' : some (Expr.Name x pos) = some (Expr.Name y q) := hk
          injection hk' with hk'
          injection hk'
        have e2 : i = j := by simpa using hj
        rw [← e1, ← e2]; exact h4.1
      | succ k => exact h3 k y q j (by simpa using hk) (by simpa using hj)
def setE : List Nat → List D → Nv → Nv
  | i :: is, d :: ds, e => setE is ds (e.set i (some d))
  | _, _, e => e
theorem asgL_nm : ∀ {is : List Nat} {ds : List D} {e e' : Nv}, asgL (is.map Tg.nm) ds e = some e' → ds.length = is.length ∧ e' = setE is ds e ∧ ∀ i ∈ is, i < e.length
  | [], [], e, e', h => by cases h; exact ⟨rfl, rfl, fun i hi => by simp at hi⟩
  | [], _ :: _, e, e', h => by cases h
  | _ :: _, [], e, e', h => by cases h
  | i :: is, d :: ds, e, e', h => by
    simp only [List.map_cons, asgL, asgT] at h
    split at h
    · rename_i hi
      obtain ⟨a, b, c⟩ := asgL_nm (show asgL (is.map Tg.nm) ds (e.set i (some d)) = some e' from h)
      refine ⟨by rw [List.length_cons, List.length_cons, a], b, fun j hj => ?_⟩
      rcases List.mem_cons.mp hj with rfl | hj
      · exact hi
      · simpa using c j hj
    · cases h
theorem setE_set : ∀ (is : List Nat) (ds : List D) (e : Nv) (i : Nat) (d : D), i ∉ is → setE is ds (e.set i (some d)) = (setE is ds e).set i (some d)
  | [], _, _, _, _, _ => rfl
  | _ :: _, [], _, _, _, _ => rfl
  | j :: is, x :: ds, e, i, d, h => by
    show setE is ds ((e.set i (some d)).set j (some x)) = (setE is ds (e.set j (some x))).set i (some d)
    rw [List.set_comm _ _ (fun z : i = j => h (by simp [z])), setE_set is ds _ i d fun z => h (by simp [z])]
theorem setσ_set : ∀ (is : List Nat) (vs : List V) (σ : Sl) (i : Nat) (v : V), i ∉ is → setσ is vs (σ.set i (some v)) = (setσ is vs σ).set i (some v)
  | [], _, _, _, _, _ => rfl
  | _ :: _, [], _, _, _, _ => rfl
  | j :: is, x :: ds, e, i, d, h => by
    show setσ is ds ((e.set i (some d)).set j (some x)) = (setσ is ds (e.set j (some x))).set i (some d)
    rw [List.set_comm _ _ (fun z : i = j => h (by simp [z])), setσ_set is ds _ i d fun z => h (by simp [z])]
/-- from the right is from the left -/
theorem setσ_rev : ∀ (is : List Nat) (vs : List V) (σ : Sl), is.Nodup → is.length = vs.length → setσ is.reverse vs.reverse σ = setσ is vs σ := by
  intro is
  induction is with
  | nil => intro vs σ _ h; cases vs <;> rfl
  | cons i is ih =>
    intro vs σ nd h
    cases vs with
    | nil => cases h
    | cons v vs =>
      have app : ∀ (as : List Nat) (xs : List V) (σ : Sl) (i : Nat) (v : V), as.length = xs.length → setσ (as ++ [i]) (xs ++ [v]) σ = (setσ as xs σ).set i (some v) := by
        intro as
        induction as with
        | nil => intro xs σ i v h; cases xs with
          | nil => rfl
          | cons _ _ => cases h
        | cons a as ih2 => intro xs σ i v h; cases xs with
          | nil => cases h
          | cons x xs => exact ih2 xs _ i v (by simpa using h)
      rw [List.reverse_cons, List.reverse_cons, app _ _ _ _ _ (by simpa using h), ih vs σ (List.nodup_cons.mp nd).2 (by simpa using h)]
      exact (setσ_set is vs σ i v (List.nodup_cons.mp nd).1).symm
theorem setσ_len : ∀ (is : List Nat) (vs : List V) (σ : Sl), (setσ is vs σ).length = σ.length
  | [], _, _ => rfl
  | _ :: _, [], _ => rfl
  | i :: is, v :: vs, σ => by
    show (setσ is vs (σ.set i (some v))).length = _
    rw [setσ_len, List.length_set]
theorem setσ_out : ∀ (is : List Nat) (vs : List V) (σ : Sl) (j : Nat), j ∉ is → (setσ is vs σ)[j]? = σ[j]?
  | [], _, _, _, _ => rfl
  | _ :: _, [], _, _, _ => rfl
  | i :: is, v :: vs, σ, j, h => by
    show (setσ is vs (σ.set i (some v)))[j]? = _
    rw [setσ_out is vs _ j fun z => h (by simp [z]), List.getElem?_set_ne fun z : i = j => h (by simp [z])]
theorem ERs.setAll {H : Hp} {F : AS} : ∀ {is : List Nat} {ds : List D} {vs : List V} {e : Nv} {σ : Sl} {S1 S : AS}, ERs H F e σ S → RepL H F ds vs S1 → Dj S1 S → (∀ i ∈ is, i < e.length) → ERs H F (setE is ds e) (setσ is vs σ) (fun a => S1 a ∨ S a)
  | [], ds, vs, e, σ, S1, S, h, r, dj, hi => h.mono fun _ z => .inr z
  | i :: is, [], vs, e, σ, S1, S, h, r, dj, hi => by
    rw [show vs = [] from r]
    exact h.mono fun _ z => .inr z
  | i :: is, d :: ds, vs, e, σ, S1, S, h, r, dj, hi => by
    obtain ⟨v, t, T1, T2, rfl, r1, r2, d12, t1, t2⟩ := r
    have h2 := h.put (hi i (by simp)) r1 (dj.mono t1 Sb.refl)
    refine (ERs.setAll (is := is) h2 r2 (fun a x y => y.elim (fun y => d12 a y x) (dj a (t2 a x))) fun j hj => by simpa using hi j (by simp [hj])).mono fun a z => ?_
    rcases z with z | z | z
    · exact .inl (t2 a z)
    · exact .inl (t1 a z)
    · exact .inr z
theorem slots_nm : ∀ is : List Nat, tgSlots.tgsSlots (is.map Tg.nm) = is
  | [] => rfl
  | i :: is => by
    show [i] ++ tgSlots.tgsSlots (is.map Tg.nm) = i :: is
    rw [slots_nm is]; rfl
/-- y = {..}: the dict goes to its name within the comprehension's own block -/
theorem ps_setDc {i : Nat} {y : Str} {py : Pos} {kx vx tg iter : Expr} {ifs : List Expr} {scope : Scope} {own : List (Str × Nat)} {pos spos : Pos} {wi : TI} {g : TG} {tt : TT} {tk tv : TE} (calm : X.calm = true) (nd : X.N.Nodup) (hy : X.N[i]? = some y)
    (loc : X.env.scope.names.lookup y = some .local) (sw : swapsWith (.DictComp kx vx [⟨tg, iter, ifs, 0⟩] scope pos) (some (.Name y py)) spos.line X.env = pure true) (pi : PI X tg iter wi) (bo : BlkOk X.N X.env.scope scope own)
    (pg : ∀ (s : Shared) (H : Hp) (C : Addr) (cl : List (Str × Addr)) (fp : List Addr), PG (X.blk s H scope (compEnvC scope cl C X.env) fp) tg g)
    (pt : ∀ (s : Shared) (H : Hp) (C : Addr) (cl : List (Str × Addr)) (fp : List Addr), PTs (X.blk s H scope (compEnvC scope cl C X.env) fp) ifs tt)
    (pk : ∀ (s : Shared) (H : Hp) (C : Addr) (cl : List (Str × Addr)) (fp : List Addr), PE (X.blk s H scope (compEnvC scope cl C X.env) fp) kx tk)
    (pv : ∀ (s : Shared) (H : Hp) (C : Addr) (cl : List (Str × Addr)) (fp : List Addr), PE (X.blk s H scope (compEnvC scope cl C X.env) fp) vx tv) (fi : ∀ x, foldedSetIterable iter X.env x = pure x) :
    PS X (.Assign [.Name y py] (.DictComp kx vx [⟨tg, iter, ifs, 0⟩] scope pos) spos) (tAsg (tDc wi g tt tk tv (own.map (·.2))) (gName i)) := by
  constructor
  intro pins s σ H Z I hq
  rw [exec_Assign_Name_used _ _ _ _ sw]
  refine wpAny_bind (wpAny_standAt (wpAny_bind ?_))
  show wpAny _ X.A (do let _ ← comprehension (.DictComp kx vx [⟨tg, iter, ifs, 0⟩] scope pos) scope X.env (firstIterPos [⟨tg, iter, ifs, 0⟩] pos) newDict false (eval iter X.env) (some (assign (.Name y py) X.env))) _ _ s
  have hq : tDc wi g tt tk tv (own.map (·.2)) σ H (fun x H1 => gName i x σ H1 Z.nx) := hq
  refine wpAny_bind (thn (dc_core (Qf := fun _ s1 => SP X pins Z .next s1) calm nd I pi bo pg pt pk pv fi hq fun Dd C s1 m H1 I1 q1 ns fp => ?_) fun _ s1 z => wpAny_pure (wpAny_pure z))
  show wpAny _ _ (assign (.Name y py) X.env (.ref Dd)) _ _ _
  refine wpAny_assign_Name (store_ok2 (v := V.ref Dd) I1 nd hy (.inl loc) rfl (fun s2 I2 ⟨a, same, w⟩ => ?_) (.inr loc))
  obtain ⟨g0, g1, g2, g3, g4, g5⟩ := fp
  have apart : C ≠ a := w.elim (fun z => z ▸ g1) fun z e => g4 y a z e.symm
  exact ⟨m, ns.sameBut same apart, fun h3 same3 => ⟨_, H1, I2.turned (t' := s2.toks) (fun b o hb e => (same3.2 b hb).trans e) g0 g1 g3 g4 g5, q1⟩⟩
/-- the slots of two or three names, stored from the right -/
theorem sd_asg {t : Tg} {x : E} {st : Stmt} (G : GdS g N p X sc) (h : chkS g N sc L (.asg t x) st = true) : PS X st (tS p W L (.asg t x)) := by
  cases st with
  | Assign ts V pos =>
    unfold chkS at h
    split at h
    · rename_i heq
      cases heq
      rename_i T
      simp only [Bool.and_eq_true] at h
      obtain ⟨hT, ht, hL, hv, hx, hw⟩ := h
      have hk : X.env.scope.kind = .function := by rw [G.G.sc]; exact G.kd
      have he := (snd x p.Wx X sc V G.G hx).1
      have hg := tg_ok (X := X) (fn := fun _ => true) G.G.hN G.G.nd G.G.calm G.G.sc (fun x _ => G.fn x) t T ht
      have hsw := swL_ok (v := V) (t := T) (l := pos.line) hk
      rw [G.G.sc] at hsw
      cases hb : swL sc V T with
      | true =>
        -- a comprehension with its name's store
        rw [hb] at hsw
        cases T with
        | Name y py =>
          cases t with
          | tup ts => exact absurd ht Bool.false_ne_true
          | nm i =>
            simp only [tgB, Bool.and_eq_true, decide_eq_true_eq] at ht
            cases V with
            | ListComp elt gs scope vp =>
              cases x with
              | lc elt' tg ik is ifs own =>
                obtain ⟨x', t', i', cs, scope', pos', wi, e', h1, h2, h3, h4, h5, h6, h7⟩ := snd_lc (p := p) (snd elt') (fun Wx' X' sc' a x ha G' hx => ((sndL ifs).one a ha Wx' X' sc' x G' hx).2.1) (fun a x ha hx => ((sndL is).one a ha p.Wx X sc x G.G hx).1) (fun xs hx => (sndL is).fes p.Wx X sc xs G.G hx) G.G hx
                cases e'
                have hyl : X.env.scope.names.lookup y = some .local := by
                  rw [G.G.sc]
                  simp only [swL, Bool.and_eq_true, beq_iff_eq] at hb
                  exact hb.1.1
                refine ps_weak (ps_setLc G.G.calm (G.G.hN ▸ G.G.nd) (by rw [G.G.hN]; exact ht.1) hyl hsw h1 h2 h3 h4 h5 h6) fun D σ H q => ?_
                obtain ⟨F, S, e, rd, q⟩ := asg_rd hv hL D σ H q
                refine h7 σ H _ ⟨F, S, e, rd, ?_⟩
                -- the name's store by its slot
                have hi : i < X.N.length := by rw [G.G.hN]; exact (List.getElem?_eq_some_iff.mp ht.1).1
                have conv : ∀ v H', tTg (.nm i) v σ H' D.nx → gName i v σ H' D.nx := fun v H' ⟨F, S1, S, d, e, e', r, er, dj, ha, q⟩ => by
                  simp only [asgT] at ha
                  split at ha
                  · rename_i hi
                    cases ha
                    exact q _ (fun j hj => List.getElem?_set_ne (by simpa [tgSlots] using fun z : i = j => hj (by simp [tgSlots, z]))) (List.length_set ..) (er.put hi r dj)
                  · cases ha
                cases hr : ev p.C (.lc elt' tg ik is ifs own) e with
                | ok d e1 => rw [hr] at q; exact fun v H' F' S1 S2 a => conv v H' (q v H' F' S1 S2 a)
                | ex y e1 => rw [hr] at q; exact q
                | bad => rw [hr] at q; exact q
              | lcb elt' tg jb ifs own =>
                obtain ⟨x', t', i', cs, scope', pos', wi, e', h1, h2, h3, h4, h5, h6, h7⟩ := snd_lcb (p := p) (snd elt') (fun Wx' X' sc' a x ha G' hx => ((sndL ifs).one a ha Wx' X' sc' x G' hx).2.1) G.G hx
                cases e'
                have hyl : X.env.scope.names.lookup y = some .local := by
                  rw [G.G.sc]
                  simp only [swL, Bool.and_eq_true, beq_iff_eq] at hb
                  exact hb.1.1
                refine ps_weak (ps_setLc G.G.calm (G.G.hN ▸ G.G.nd) (by rw [G.G.hN]; exact ht.1) hyl hsw h1 h2 h3 h4 h5 h6) fun D σ H q => ?_
                obtain ⟨F, S, e, rd, q⟩ := asg_rd hv hL D σ H q
                refine h7 σ H _ ⟨F, S, e, rd, ?_⟩
                -- the name's store by its slot
                have hi : i < X.N.length := by rw [G.G.hN]; exact (List.getElem?_eq_some_iff.mp ht.1).1
                have conv : ∀ v H', tTg (.nm i) v σ H' D.nx → gName i v σ H' D.nx := fun v H' ⟨F, S1, S, d, e, e', r, er, dj, ha, q⟩ => by
                  simp only [asgT] at ha
                  split at ha
                  · rename_i hi
                    cases ha
                    exact q _ (fun j hj => List.getElem?_set_ne (by simpa [tgSlots] using fun z : i = j => hj (by simp [tgSlots, z]))) (List.length_set ..) (er.put hi r dj)
                  · cases ha
                cases hr : ev p.C (.lcb elt' tg jb ifs own) e with
                | ok d e1 => rw [hr] at q; exact fun v H' F' S1 S2 a => conv v H' (q v H' F' S1 S2 a)
                | ex y e1 => rw [hr] at q; exact q
                | bad => rw [hr] at q; exact q
              | lc2 elt' tg ik is ifs tg1 ik1 is1 ifs1 own w1 =>
                obtain ⟨x', t', i', cs, t1, i1', cs1, scope', pos', wi, e', h1, h2, h2', h3, h4, h8, h9, h10, h5, h6, h6', h7⟩ := snd_lc2 (p := p) (snd elt') (fun Wx' X' sc' a x ha G' hx => ((sndL ifs).one a ha Wx' X' sc' x G' hx).2.1) (fun Wx' X' sc' a x ha G' hx => ((sndL ifs1).one a ha Wx' X' sc' x G' hx).2.1) (fun a x ha hx => ((sndL is).one a ha p.Wx X sc x G.G hx).1) (fun xs hx => (sndL is).fes p.Wx X sc xs G.G hx) (fun Wx' X' sc' a x ha G' hx => ((sndL is1).one a ha Wx' X' sc' x G' hx).1) (fun Wx' X' sc' xs G' hx => (sndL is1).fes Wx' X' sc' xs G' hx) G.G hx
                cases e'
                have hyl : X.env.scope.names.lookup y = some .local := by
                  rw [G.G.sc]
                  simp only [swL, Bool.and_eq_true, beq_iff_eq] at hb
                  exact hb.1.1
                refine ps_weak (ps_setLc2 G.G.calm (G.G.hN ▸ G.G.nd) (by rw [G.G.hN]; exact ht.1) hyl hsw h1 h2 h2' h3 h4 h8 h9 h10 h5 h6 h6') fun D σ H q => ?_
                obtain ⟨F, S, e, rd, q⟩ := asg_rd hv hL D σ H q
                refine h7 σ H _ ⟨F, S, e, rd, ?_⟩
                -- the name's store by its slot
                have hi : i < X.N.length := by rw [G.G.hN]; exact (List.getElem?_eq_some_iff.mp ht.1).1
                have conv : ∀ v H', tTg (.nm i) v σ H' D.nx → gName i v σ H' D.nx := fun v H' ⟨F, S1, S, d, e, e', r, er, dj, ha, q⟩ => by
                  simp only [asgT] at ha
                  split at ha
                  · rename_i hi
                    cases ha
                    exact q _ (fun j hj => List.getElem?_set_ne (by simpa [tgSlots] using fun z : i = j => hj (by simp [tgSlots, z]))) (List.length_set ..) (er.put hi r dj)
                  · cases ha
                cases hr : ev p.C (.lc2 elt' tg ik is ifs tg1 ik1 is1 ifs1 own w1) e with
                | ok d e1 => rw [hr] at q; exact fun v H' F' S1 S2 a => conv v H' (q v H' F' S1 S2 a)
                | ex y e1 => rw [hr] at q; exact q
                | bad => rw [hr] at q; exact q
              | nev => exact ⟨fun pins s σ H D I ⟨F, S, e, rd, q⟩ => q.elim⟩
              | fz _ => simp [chk] at hx
              | bor _ => simp [chk] at hx
              | _ => exact absurd hx Bool.false_ne_true
            | DictComp kx0 vx0 gs scope vp =>
              cases x with
              | dc kx vx tg ik is ifs own =>
                obtain ⟨x', y', t', i', cs, scope', pos', wi, e', h1, h2, h3, h4, h5, h5', h6, h7⟩ := snd_dc (p := p) (snd kx) (snd vx) (fun Wx' X' sc' a x ha G' hx => ((sndL ifs).one a ha Wx' X' sc' x G' hx).2.1) (fun a x ha hx => ((sndL is).one a ha p.Wx X sc x G.G hx).1) (fun xs hx => (sndL is).fes p.Wx X sc xs G.G hx) G.G hx
                cases e'
                have hyl : X.env.scope.names.lookup y = some .local := by
                  rw [G.G.sc]
                  simp only [swL, Bool.and_eq_true, beq_iff_eq] at hb
                  exact hb.1.1
                refine ps_weak (ps_setDc G.G.calm (G.G.hN ▸ G.G.nd) (by rw [G.G.hN]; exact ht.1) hyl hsw h1 h2 h3 h4 h5 h5' h6) fun D σ H q => ?_
                obtain ⟨F, S, e, rd, q⟩ := asg_rd hv hL D σ H q
                refine h7 σ H _ ⟨F, S, e, rd, ?_⟩
                -- the name's store by its slot
                have hi : i < X.N.length := by rw [G.G.hN]; exact (List.getElem?_eq_some_iff.mp ht.1).1
                have conv : ∀ v H', tTg (.nm i) v σ H' D.nx → gName i v σ H' D.nx := fun v H' ⟨F, S1, S, d, e, e', r, er, dj, ha, q⟩ => by
                  simp only [asgT] at ha
                  split at ha
                  · rename_i hi
                    cases ha
                    exact q _ (fun j hj => List.getElem?_set_ne (by simpa [tgSlots] using fun z : i = j => hj (by simp [tgSlots, z]))) (List.length_set ..) (er.put hi r dj)
                  · cases ha
                cases hr : ev p.C (.dc kx vx tg ik is ifs own) e with
                | ok d e1 => rw [hr] at q; exact fun v H' F' S1 S2 a => conv v H' (q v H' F' S1 S2 a)
                | ex y e1 => rw [hr] at q; exact q
                | bad => rw [hr] at q; exact q
              | dco kx vx tg ik is ifs own =>
                obtain ⟨x', y', t', i', cs, scope', pos', wi, e', h1, h2, h3, h4, h5, h5', h6, h7⟩ := snd_dco (p := p) (snd kx) (snd vx) (fun Wx' X' sc' a x ha G' hx => ((sndL ifs).one a ha Wx' X' sc' x G' hx).2.1) (fun a x ha hx => ((sndL is).one a ha p.Wx X sc x G.G hx).1) (fun xs hx => (sndL is).fes p.Wx X sc xs G.G hx) G.G hx
                cases e'
                have hyl : X.env.scope.names.lookup y = some .local := by
                  rw [G.G.sc]
                  simp only [swL, Bool.and_eq_true, beq_iff_eq] at hb
                  exact hb.1.1
                refine ps_weak (ps_setDc G.G.calm (G.G.hN ▸ G.G.nd) (by rw [G.G.hN]; exact ht.1) hyl hsw h1 h2 h3 h4 h5 h5' h6) fun D σ H q => ?_
                obtain ⟨F, S, e, rd, q⟩ := asg_rd hv hL D σ H q
                refine h7 σ H _ ⟨F, S, e, rd, ?_⟩
                -- the name's store by its slot
                have hi : i < X.N.length := by rw [G.G.hN]; exact (List.getElem?_eq_some_iff.mp ht.1).1
                have conv : ∀ v H', tTg (.nm i) v σ H' D.nx → gName i v σ H' D.nx := fun v H' ⟨F, S1, S, d, e, e', r, er, dj, ha, q⟩ => by
                  simp only [asgT] at ha
                  split at ha
                  · rename_i hi
                    cases ha
                    exact q _ (fun j hj => List.getElem?_set_ne (by simpa [tgSlots] using fun z : i = j => hj (by simp [tgSlots, z]))) (List.length_set ..) (er.put hi r dj)
                  · cases ha
                cases hr : ev p.C (.dco kx vx tg ik is ifs own) e with
                | ok d e1 => rw [hr] at q; exact fun v H' F' S1 S2 a => conv v H' (q v H' F' S1 S2 a)
                | ex y e1 => rw [hr] at q; exact q
                | bad => rw [hr] at q; exact q
              | nev => exact ⟨fun pins s σ H D I ⟨F, S, e, rd, q⟩ => q.elim⟩
              | fz _ => simp [chk] at hx
              | bor _ => simp [chk] at hx
              | _ => exact absurd hx Bool.false_ne_true
            | _ => first | (cases hb; done) | (cases x <;> first | exact absurd hx Bool.false_ne_true | (simp [chk] at hx; done) | exact ⟨fun pins s σ H D I ⟨F, S, e, rd, q⟩ => q.elim⟩)
        | _ =>
          exfalso
          cases V <;> cases hb
      | false =>
        rw [hb] at hsw
        obtain ⟨r, hr⟩ := Option.isSome_iff_exists.mp hw
        have hr' := swK_ok (T := T) (V := V) (env := X.env) hk (by rw [G.G.sc]; exact hr)
        cases r with
        | none =>
          refine ps_weak (ps_asg he hg hsw hr' ?_) (asg_rd hv hL)
          exact asgE_pl (isTg_pl hT) [] X.env
        | some names =>
          -- two or three names
          cases T <;> (first | (cases hT; done) | skip)
          · cases V <;> cases hr
          rename_i ts k p0
          cases V <;> (first | (cases hr; done) | skip)
          rename_i vs k2 p2
          obtain ⟨h1, h2, h3, h4⟩ := swK2_some hr
          cases t with
          | nm i => exact absurd ht Bool.false_ne_true
          | tup tgs =>
            have hnm : ∀ (k : Nat) (e : Expr), ts[k]? = some e → ∃ (x : Str) (pos : Pos), e = Expr.Name x pos := fun k e he => by
              have hk : k < names.length := by rw [h2]; exact (List.getElem?_eq_some_iff.mp he).1
              obtain ⟨pos, h5, _⟩ := h4 k _ (List.getElem?_eq_getElem hk)
              rw [he] at h5
              cases h5
              exact ⟨_, pos, rfl⟩
            obtain ⟨is, rfl, h6, h7⟩ := tgs_names (fn := fun _ => true) (show tgsB N sc (fun _ => true) tgs ts = true from ht) hnm
            have hnd : is.Nodup := by
              rw [List.nodup_iff_pairwise_ne, List.pairwise_iff_getElem]
              intro a b ha hb hab hz
              have hna : a < names.length := by rw [h2, ← h6]; exact ha
              have hnb : b < names.length := by rw [h2, ← h6]; exact hb
              obtain ⟨pa, ea, _⟩ := h4 a _ (List.getElem?_eq_getElem hna)
              obtain ⟨pb, eb, _⟩ := h4 b _ (List.getElem?_eq_getElem hnb)
              have e1 := h7 a _ pa _ ea (List.getElem?_eq_getElem ha)
              have e2 := h7 b _ pb _ eb (List.getElem?_eq_getElem hb)
              rw [hz, e2] at e1
              have := (List.getElem_inj h3).mp (Option.some.inj e1)
              omega
            refine ⟨fun pins s σ H D I q => ?_⟩
            obtain ⟨F, S, e, rd, q⟩ := q
            rw [exec_Assign_arm]
            refine wpAny_bind (wpAny_standAt ?_)
            rw [show swapsWithSole [.Tuple ts k p0] (.Tuple vs k2 p2) pos.line X.env = pure false from hsw]
            refine wpAny_bind (wpAny_pure ?_)
            rw [if_neg (by decide)]
            simp only [exS] at q
            refine wpAny_bind (thn (he.run pins s σ H _ I ⟨F, S, e, rd, vs_bind (Q := fun v H' => ∀ u s1, L2.Inv X pins σ H' s1 → RelV v u → wpAny (model X.prog X.w) X.A (do assignStores X.env u (← swappedStores [.Tuple ts k p0] (.Tuple vs k2 p2) X.env) ((assignEach [.Tuple ts k p0] X.env).map (·.2))) (SP X pins D) X.xe s1) q fun d e' hev q v H' F' S1 S2 a u s1 I1 ru => ?_⟩) fun u s1 ⟨v, H', I1, ru, k⟩ => k u s1 I1 ru)
            rw [hr']
            refine wpAny_bind (wpAny_pure ?_)
            cases d <;> (first | exact q.elim | skip)
            rename_i ds
            cases ha : asgT (.tup (is.map Tg.nm)) (.tup ds) e' with
            | none => rw [ha] at q; exact q.elim
            | some e2 =>
              rw [ha] at q
              simp only at q
              obtain ⟨hl, rfl, hi⟩ := asgL_nm (show asgL (is.map Tg.nm) ds e' = some e2 from ha)
              obtain ⟨a', ws, rfl, z, l, r⟩ := a.rep.tup_inv
              cases ru
              obtain ⟨its, rv, hT', _⟩ := I1.tuple (.inl r)
              have hsz : names.length = its.toArray.size := by
                rw [List.size_toArray, ← rv.length, l.len, hl, h6, h2]
              show wpAny _ _ (do rule "assign.swapped-stores"; let items ← unpackItems (.ref a') names.length none; assignInOrder (names.reverse.map fun n => bindName X.env n) items.reverse; pure Flow.next) _ _ _
              rw [hsz]
              refine wpAny_bind (wpAny_rule (wpAny_bind (PyProof.Rows.unpackItems_tuple (I1.ok.hd G.G.calm) hT' fun h' hx' => ?_)))
              have I3 := I1.kept (h' := h') (t' := s1.toks) fun b o e => hx' b o (Nat.ne_of_lt (Heap.lt_size e)) e
              have hlw : is.length = ws.length := by rw [l.len, hl]
              refine wpAny_bind (thn (stores_ok (is := is.reverse) (vs := ws.reverse) (G.G.hN ▸ G.G.nd) (by simp [h2, h6]) (by simp [h2, ← hlw, h6]) (fun k x i hk hj => ?_) (by simpa using rv.reverse) I3) fun _ s4 I4 => wpAny_pure ?_)
              · have hkl : k < names.length := by
                  have := (List.getElem?_eq_some_iff.mp hk).1
                  simpa using this
                rw [List.getElem?_reverse hkl] at hk
                rw [List.getElem?_reverse (by rw [h6, ← h2]; exact hkl)] at hj
                have e0 : is.length - 1 - k = names.length - 1 - k := by rw [h6, h2]
                rw [e0] at hj
                obtain ⟨pa, ea, hloc⟩ := h4 _ _ hk
                refine ⟨by rw [G.G.hN]; exact h7 _ _ pa _ ea hj, by rw [G.G.sc]; exact hloc⟩
              · rw [setσ_rev is ws σ hnd hlw] at I4
                refine ⟨_, H', I4, q _ H' F' _ ⟨⟨a.ch, ERs.setAll a.er l (a.dj hv) hi, fun x z => z.elim (a.s1 hv x) (a.s2 x), fun x z => z.elim (a.n1 hv x) (a.n2 x), fun z => by cases z⟩, fun j hj => setσ_out is ws σ j fun z => sub_L hL hj ?_, setσ_len is ws σ⟩⟩
                show j ∈ tgSlots.tgsSlots (is.map Tg.nm)
                rw [slots_nm]; exact z
    · exact absurd h Bool.false_ne_true
  | _ => exact absurd h Bool.false_ne_true
/-! ### slot[k] = value, slot.append(value), slot.insert(k, value) -/
/-- .. of any kind; what is stored may own something -/
theorem own_gen {sb : Bool} {σ : Sl} {H H1 : Hp} {F F1 S S1 Sv : AS} {e1 : Nv} {i : Nat} {d d' : D} {u : HO} {a : Addr} (fd : FD H F) (k : AftT sb σ H F S H1 F1 e1 S1) (he : e1[i]? = some (some d)) (hv : σ[i]? = some (some (.ref a)))
    (v1 : Sb Sv F1) (vj : Dj Sv S1) (vn : Nw S H Sv) (hown : ∀ T, Rep H1 F1 d (.ref a) T → T a ∧ ∃ o, H1 a = some o ∧ ¬ Hard o) (hnew : ∀ T, Rep H1 F1 d (.ref a) T → Dj Sv T → Rep (upd H1 a u) F1 d' (.ref a) (fun x => T x ∨ Sv x)) :
    AftT false σ H F S (upd H1 a u) F1 (e1.set i (some d')) (fun x => S1 x ∨ Sv x) := by
  obtain ⟨v, T1, T2, hv', rp, er, dj, t1, t2⟩ := k.er.out he
  rw [hv] at hv'; cases hv'
  obtain ⟨hT, oo, hH, nho⟩ := hown T1 rp
  have fa : F1 a := k.s2 a (t1 a hT)
  have kp : ∀ x o, H1 x = some o → x ≠ a → upd H1 a u x = some o := fun x o h n => by rw [upd_ne n]; exact h
  have dm : ∀ x, H1 x ≠ none → upd H1 a u x ≠ none := fun x h => by
    by_cases hx : x = a
    · rw [hx, upd_same]; simp
    · rw [upd_ne hx]; exact h
  have na : ∀ x, ¬ F1 x ∨ T2 x → x ≠ a := fun x h e => by
    rcases h with h | h
    · exact h (e ▸ fa)
    · exact dj x (e ▸ hT) h
  have er2 : ERs (upd H1 a u) F1 (e1.set i none) σ T2 := er.step (fun x o h n => kp x o h.1 (na x n)) fun x h => .inl h
  have hi : i < (e1.set i none).length := by rw [List.length_set]; exact (List.getElem?_eq_some_iff.mp he).1
  have er3 := ERs.back (d := d') er2 hi hv (hnew T1 rp fun x p q => vj x p (t1 x q)) fun x p q => p.elim (fun p => dj x p q) fun p => vj x p (t2 x q)
  rw [List.set_set] at er3
  refine ⟨⟨fun x o h ns => ?_, k.ch.new, k.ch.old, fun x h => dm x (k.ch.dom x h), k.ch.fd.upd hH nho⟩, er3.mono fun x h => h.elim (fun h => h.imp_left (t1 x)) fun h => .inl (t2 x h), fun x h => h.elim (k.s2 x) (v1 x), fun x h => h.elim (k.n2 x) (vn x), fun z => by cases z⟩
  exact kp x o (k.ch.keep x o h ns) fun e => (k.n2 a (t1 a hT)).elim (fun z => ns (e ▸ z)) fun z => by rw [e] at h; have h := h.1; rw [z] at h; cases h
theorem putFd_rep {H : Hp} {F T Sv : AS} {f : Str} {d : D} {v : V} (rv : Rep H F d v Sv) (dj : Dj Sv T) : ∀ {fs : List Str} {vs : List D} {us : List V}, fs.length = us.length → RepL H F vs us T →
    ∃ us', putF f v (fs.zip us) = (putFd f d fs vs).1.zip us' ∧ (putFd f d fs vs).1.length = us'.length ∧ RepL H F (putFd f d fs vs).2 us' (fun x => T x ∨ Sv x)
  | [], [], us, hl, r => by
    have : us = [] := List.length_eq_zero_iff.mp hl.symm
    subst this
    exact ⟨[v], rfl, rfl, v, [], Sv, nos, rfl, rv, rfl, fun _ _ h => h, fun _ h => .inr h, sb_nos⟩
  | [], d' :: vs, us, hl, r => by
    have : us = [] := List.length_eq_zero_iff.mp hl.symm
    subst this
    obtain ⟨u, t, S1, S2, e, _⟩ := r
    cases e
  | g :: fs, [], us, hl, r => by
    rw [show us = [] from r] at hl
    cases hl
  | g :: fs, d' :: vs, us, hl, r => by
    obtain ⟨u, t, S1, S2, rfl, h1, h2, d12, s1, s2⟩ := r
    simp only [putFd, List.zip_cons_cons, putF]
    by_cases e : g = f
    · rw [if_pos e, if_pos e]
      exact ⟨v :: t, rfl, hl, v, t, Sv, S2, rfl, rv, h2, dj.mono Sb.refl s2, fun _ h => .inr h, fun x h => .inl (s2 x h)⟩
    · rw [if_neg e, if_neg e]
      obtain ⟨us', e1, e2, e3⟩ := putFd_rep rv (dj.mono Sb.refl s2) (by simpa using hl) h2
      refine ⟨u :: us', by rw [e1]; rfl, by simp [e2], u, us', S1, _, rfl, h1, e3, fun x p q => q.elim (d12 x p) fun q => dj x q (s1 x p), fun x h => .inl (s1 x h), fun x h => h.imp_left (s2 x)⟩
theorem sd_fst {cs : List Str} {i : Nat} {f : Str} {x : E} {st : Stmt} (G : GdS g N p X sc) (h : chkS g N sc L (.fst cs i f x) st = true) : PS X st (tS p W L (.fst cs i f x)) := by
  cases st with
  | Assign ts V pos =>
    unfold chkS at h
    split at h
    · rename_i heq
      cases heq
      rename_i o po n pa
      simp only [Bool.and_eq_true, decide_eq_true_eq, List.all_eq_true, List.any_eq_true] at h
      obtain ⟨rfl, ho, hcs, hv, hV⟩ := h
      have hk : X.env.scope.kind = .function := by rw [G.G.sc]; exact G.kd
      have i1 := (snd x p.Wx X sc V G.G hV).1
      have hsw := swL_ok (v := V) (t := .Attribute (.Name o po) n pa) (l := pos.line) hk
      have hsf : swL X.env.scope V (.Attribute (.Name o po) n pa) = false := by cases V <;> rfl
      rw [hsf] at hsw
      refine ps_weak (ps_fld (pe_nm G.G ho) i1 hsw) fun D σ H ⟨F, S, e, rd, q⟩ => ⟨F, S, e, rd, ?_⟩
      simp only [exS] at q
      refine vs_bind q fun d e1 _ q v H1 F1 S1 S2 a => ?_
      have q1 := q
      unfold updE at q1
      split at q1
      · rename_i d0 hd0
        cases hs : setFd cs n d d0 with
        | none => simp only [hs] at q1; exact q1.elim
        | some z =>
          simp only [hs] at q1
          cases d0 with
          | ins ow c fs vs =>
            cases ow with
            | false => cases hs
            | true =>
              simp only [setFd] at hs
              split at hs
              · rename_i hc
                cases hs
                rw [Bool.and_eq_true, decide_eq_true_eq] at hc
                obtain ⟨w, hw, r⟩ := a.er.get hd0
                obtain ⟨b, us, dx, rfl, hl, rl, hi⟩ := r.ins_inv
                obtain ⟨z0, hz, rfl⟩ := hcs c (List.contains_iff_mem.mp hc.1)
                obtain ⟨g1, g2⟩ := G.G.fld _ _ hz
                refine ⟨_, hw, b, _, dx, _, rfl, hi, g1, g2, ?_, ?_⟩
                · rw [List.length_zip]; have := hc.2; omega
                · refine q1 σ _ _ _ ⟨own_gen (d := .ins true c fs vs) (u := .ins (CN.cn c) dx (putF n v (fs.zip us))) rd.fd a.t hd0 hw (a.s1 hv) (a.dj hv) (a.n1 hv) (fun T r => ?_) fun T r jT => ?_, fun _ _ => rfl, rfl⟩
                  · obtain ⟨b', us', T', dx', e', _, _, hb, c'⟩ := r
                    cases e'
                    rcases c' with ⟨c', _⟩ | ⟨_, c', _⟩
                    · cases c'
                    · exact ⟨c', _, hb, not_hard_ins⟩
                  · obtain ⟨b', us', T', dx', e', hl', rl', hb, c'⟩ := r
                    cases e'
                    rw [hi] at hb
                    rcases c' with ⟨c', _⟩ | ⟨_, tb, ntb, sbt⟩
                    · cases c'
                    · injection hb with hb
                      injection hb with _ edx ez
                      have eu : us = us' := by
                        have := congrArg (List.map Prod.snd) ez
                        rwa [List.map_snd_zip (by omega), List.map_snd_zip (by omega)] at this
                      subst eu
                      have nb : ¬ S1 b := fun h => jT b h tb
                      have fb : F1 b := by
                        obtain ⟨v9, T1, T2, hv9, rp9, er9, dj9, t19, t29⟩ := a.er.out hd0
                        rw [hw] at hv9
                        cases hv9
                        obtain ⟨b9, us9, T9, dx9, e9, _, _, _, c9⟩ := rp9
                        cases e9
                        rcases c9 with ⟨c9, _⟩ | ⟨_, c9, _⟩
                        · cases c9
                        · exact a.s2 _ (t19 _ c9)
                      have kp : ∀ y o, H1 y = some o → y ≠ b → upd H1 b (.ins (CN.cn c) dx (putF n v (fs.zip us))) y = some o := fun y o h n => by rw [upd_ne n]; exact h
                      have rl2 := RepL.step vs us T' rl' (H' := upd H1 b (.ins (CN.cn c) dx (putF n v (fs.zip us)))) (F' := F1) (fun y o h hn => kp y o h.1 fun z => hn.elim (fun hn => hn (z ▸ fb)) fun hn => ntb (z ▸ hn)) fun y h => .inl h
                      have rv2 := Rep.step d v S1 a.rep (H' := upd H1 b (.ins (CN.cn c) dx (putF n v (fs.zip us)))) (F' := F1) (fun y o h hn => kp y o h.1 fun z => hn.elim (fun hn => hn (z ▸ fb)) fun hn => nb (z ▸ hn)) fun y h => .inl h
                      obtain ⟨us2, e1, e2, e3⟩ := putFd_rep (f := n) rv2 (jT.mono Sb.refl sbt) hl rl2
                      exact ⟨b, us2, _, dx, rfl, e2, e3, by rw [upd_same, e1], .inr ⟨rfl, .inl tb, fun h => h.elim ntb nb, fun y h => h.imp_left (sbt y)⟩⟩
              · cases hs
          | _ => cases hs
      · exact q1.elim
    · exact absurd h Bool.false_ne_true
  | _ => exact absurd h Bool.false_ne_true
theorem ixN_ge {n : Nat} {i : Int} {j : Nat} (h : ixN n i = some j) : j < n := (ixN_seq h).2.1
theorem set_or {t u : TSet} (h : PSet X t) (h2 : PSet X u) : PSet X (fun o i v H Q => t o i v H Q ∨ u o i v H Q) := by
  intro pins s σ H o i v ov iv w Q I ro ri rv q
  rcases q with q | q
  · exact h pins s σ H o i v ov iv w Q I ro ri rv q
  · exact h2 pins s σ H o i v ov iv w Q I ro ri rv q
theorem sd_six {i : Nat} {k v : E} {st : Stmt} (G : GdS g N p X sc) (h : chkS g N sc L (.six i k v) st = true) : PS X st (tS p W L (.six i k v)) := by
  cases st with
  | Assign ts V pos =>
    unfold chkS at h
    split at h
    · rename_i heq
      cases heq
      rename_i o po K sp
      simp only [Bool.and_eq_true] at h
      obtain ⟨ho, hp, hv, hV, hK⟩ := h
      have hk : X.env.scope.kind = .function := by rw [G.G.sc]; exact G.kd
      have i1 := (snd v p.Wx X sc V G.G hV).1
      have i2 := (snd k p.Wx X sc K G.G hK).1
      have hsw := swL_ok (v := V) (t := .Subscript (.Name o po) K sp) (l := pos.line) hk
      have hsf : swL X.env.scope V (.Subscript (.Name o po) K sp) = false := by cases V <;> rfl
      rw [hsf] at hsw
      have hst := swK_ok (T := .Subscript (.Name o po) K sp) (V := V) (env := X.env) hk (r := none) (by cases V <;> rfl)
      have ha : ∀ v, assign (.Subscript (.Name o po) K sp) X.env v = (do
          let ov ← holding [v] (eval (.Name o po) X.env)
          let iv ← holding [v, ov] (eval K X.env)
          standAt sp
          holding [v, ov, iv] (setItem ov iv v)
          release [v, ov, iv] []) := by
        cases K <;> first | (intro _; rfl) | (cases hp)
      refine ps_weak (ps_asg i1 (pg_sub (pe_nm G.G ho) i2 (set_or set_list (set_dict (by have := G.G.un; omega))) ha) hsw hst rfl) fun D σ H ⟨F, S, e, rd, q⟩ => ⟨F, S, e, rd, ?_⟩
      simp only [exS] at q
      refine vs_bind q fun d e1 _ q v' H1 F1 S1 S2 a => ?_
      unfold onS at q
      split at q
      · rename_i d0 hd0
        obtain ⟨w, hw, _⟩ := a.er.get hd0
        refine ⟨w, hw, ?_⟩
        have q1 := Vs.pre rd.fd a.t.s q
        refine ⟨F1, S2, e1, .of_aft a, vs_bind q1 fun y e2 hev q2 y' H2 F2 T1 T2 b => ?_⟩
        have q3 : Vs p L σ H F S (updE i (fun d0 => setO d0 y d) e2) D := by rw [hev] at q; exact q
        unfold updE at q3
        split at q3
        · rename_i dd hdd
          cases hs : setO dd y d with
          | none => simp only [hs] at q3; exact q3.elim
          | some z =>
            simp only [hs] at q3
            by_cases hdc : ∃ ks vs, dd = .dct true ks vs
            · obtain ⟨ks, ds, rfl⟩ := hdc
              have hs2 : (if isK y && decide (ks.length < lim) then some (Vm.D.dct true (putD y d.fz ks ds).1 (putD y d.fz ks ds).2) else none) = some z := by
                cases y <;> exact hs
              split at hs2
              · rename_i hc
                rw [Bool.and_eq_true, decide_eq_true_eq] at hc
                obtain ⟨ky, rfl⟩ := isK_ok hc.1
                cases hs2
                obtain ⟨b1, b2, b3⟩ := a.keepS b.t hv
                have tt := a.t.trans rd.fd b.t
                have a2 : Aft true false σ H F S H2 F2 d v' S1 e2 T2 := ⟨tt.ch, a.keep b.t (.inl hv), tt.er, fun _ => b1, tt.s2, tt.n2, fun _ => b2, fun _ => b3, fun z => by cases z⟩
                obtain ⟨k1, k2⟩ := a2.give rd.fd rfl
                obtain ⟨w2, hw2, r⟩ := k1.er.get hdd
                rw [hw] at hw2; cases hw2
                obtain ⟨ad, kvs, rfl, hz, rl, rdd, rfl, ok⟩ := r.dct_inv
                have hown : ∀ T, Rep H2 (fun x => F2 x ∧ ¬ S1 x) (.dct true (kvs.map fun p => kD p.1) ds) (.ref ad) T → T ad ∧ H2 ad = some (.dK kvs) := fun T r => by
                  obtain ⟨b', us', T', u', e', z', ⟨kvs', rfl, ek, rfl, ok'⟩, l', c'⟩ := r
                  cases e'
                  rcases c' with ⟨c', _⟩ | ⟨_, hb, tb, _⟩
                  · cases c'
                  · exact ⟨tb, rdd⟩
                obtain ⟨v9, T1, T29, hv9, rp9, er9, dj9, t19, t29⟩ := k1.er.out hdd
                rw [hw] at hv9; cases hv9
                obtain ⟨tb9, hb9⟩ := hown T1 rp9
                obtain ⟨rfl, hky⟩ := b.rep.key
                have h9 : kvs.length < 1000000 := by have := hc.2; rw [List.length_map] at this; exact this
                have hl : kvs.length < sizeLine := lim_lt h9
                refine .inr ⟨ad, _, rfl, .inl ⟨kvs, ky, hb9, rfl, hl, rfl⟩, ?_⟩
                refine q3 σ _ _ _ ⟨own_gen (d := .dct true (kvs.map fun p => kD p.1) ds) (Sv := nos) rd.fd k1 hdd hw sb_nos dj_nos (fun _ z => z.elim) (fun T r => ⟨(hown T r).1, _, hb9, not_hard_dK⟩) fun T r jT => ?_, fun _ _ => rfl, rfl⟩
                obtain ⟨b', us', T', u', e', z', ⟨kvs', rfl, ek, rfl, ok'⟩, l', c'⟩ := r
                cases e'
                rcases c' with ⟨c', _⟩ | ⟨_, hb, tb, ntb, sbt⟩
                · cases c'
                · rw [hb9] at hb
                  injection hb with hb
                  injection hb with hb
                  subst hb
                  have fb := k1.s2 _ (t19 _ tb9)
                  have kp : ∀ y o, H2 y = some o → y ≠ ad → upd H2 ad (.dK (putK kvs ky v')) y = some o := fun y o h n => by rw [upd_ne n]; exact h
                  have l2 := RepL.step ds _ T' l' (H' := upd H2 ad (.dK (putK kvs ky v'))) (F' := fun x => F2 x ∧ ¬ S1 x) (fun y o h hn => kp y o h.1 fun z => hn.elim (fun hn => hn (z ▸ fb)) fun hn => ntb (z ▸ hn)) fun y h => .inl h
                  have rv2 := Rep.step d.fz v' nos k2 (H' := upd H2 ad (.dK (putK kvs ky v'))) (F' := fun x => F2 x ∧ ¬ S1 x) (fun y o h hn => kp y o h.1 fun z => hn.elim (fun hn => hn (z ▸ fb)) fun hn => hn.elim) fun y h => .inl h
                  obtain ⟨p1, p2⟩ := putD_rep rv2 hky l2 ok
                  refine ⟨ad, _, T', _, rfl, ?_, p1, p2, .inr ⟨rfl, upd_same, .inl tb, ntb, fun y h => .inl (sbt y h)⟩⟩
                  rw [List.length_map]
                  have := L2.length_putK kvs ky v'
                  have h3 := lim_ok (n := kvs.length + 1) (by omega)
                  omega
              · cases hs2
            have hnd : ∀ ks vs, dd ≠ .dct true ks vs := fun ks vs z => hdc ⟨ks, vs, z⟩
            cases dd with
            | lst o' xs => ?_
            | dct o' ks vs =>
              exfalso
              cases o' with
              | true => exact hnd _ _ rfl
              | false => cases y <;> cases hs
            | _ => cases hs
            cases o' <;> (first | (cases hs; done) | skip)
            cases y <;> (first | (cases hs; done) | skip)
            rename_i j
            simp only [setO] at hs
            obtain ⟨n, hn, rfl⟩ := Option.map_eq_some_iff.mp hs
            cases b.rep
            obtain ⟨b1, b2, b3⟩ := a.keepS b.t hv
            have tt := a.t.trans rd.fd b.t
            have a2 : Aft true false σ H F S H2 F2 d v' S1 e2 T2 := ⟨tt.ch, a.keep b.t (.inl hv), tt.er, fun _ => b1, tt.s2, tt.n2, fun _ => b2, fun _ => b3, fun z => by cases z⟩
            obtain ⟨k1, k2⟩ := a2.give rd.fd rfl
            obtain ⟨ad, vs, hσ, hH, l, hz⟩ := slot_ref k1.er hdd
            rw [hw] at hσ; cases hσ
            refine .inl ⟨ad, vs, j, n, rfl, rfl, hH, by rw [l.len]; exact hn, ?_⟩
            exact q3 σ _ _ _ ⟨own_upd rd.fd k1 hdd hw hH (l.set n k2) (by rw [List.length_set]; exact hz), fun _ _ => rfl, rfl⟩
        · exact q3.elim
      · exact q.elim
    · exact absurd h Bool.false_ne_true
  | _ => exact absurd h Bool.false_ne_true
theorem updE_some {f : D → Option D} {i : Nat} {e : Nv} {P : R Fl → Prop} (h : P (updE i f e)) (hb : ¬ P .bad) : ∃ d d1, e[i]? = some (some d) ∧ f d = some d1 ∧ P (.ok .next (e.set i (some d1))) := by
  unfold updE at h
  split at h
  · rename_i d hd
    cases hf : f d with
    | none => simp only [hf] at h; exact (hb h).elim
    | some d1 => simp only [hf] at h; exact ⟨d, d1, hd, hf, h⟩
  · exact (hb h).elim
theorem onS_some {r : R Fl} {i : Nat} {e : Nv} {P : R Fl → Prop} (h : P (onS i e r)) (hb : ¬ P .bad) : (∃ d, e[i]? = some (some d)) ∧ P r := by
  unfold onS at h
  split at h
  · rename_i d hd; exact ⟨⟨d, hd⟩, h⟩
  · exact (hb h).elim
theorem onL_some {r : R Fl} {i : Nat} {e : Nv} {P : R Fl → Prop} (h : P (onL i e r)) (hb : ¬ P .bad) : (∃ o xs, e[i]? = some (some (.lst o xs))) ∧ P r := by
  unfold onL at h
  split at h
  · rename_i o xs hd; exact ⟨⟨o, xs, hd⟩, h⟩
  · exact (hb h).elim
theorem few1 {cpos : Pos} {e : Expr} {env : Env} (hp : pl e = true) : ((backTo cpos (starEach [e] env)).all (fun x => !x.1) && (backToKw cpos (keywordEach [] env)).all (fun x => x.1.isSome) && decide ([e].length + ([] : List Keyword).length + (if ([] : List Keyword).isEmpty then 0 else 1) < 30)) = true := by
  rw [star_pl hp]; rfl
theorem few2 {cpos : Pos} {e e2 : Expr} {env : Env} (hp : pl e = true) (hp2 : pl e2 = true) : ((backTo cpos (starEach [e, e2] env)).all (fun x => !x.1) && (backToKw cpos (keywordEach [] env)).all (fun x => x.1.isSome) && decide ([e, e2].length + ([] : List Keyword).length + (if ([] : List Keyword).isEmpty then 0 else 1) < 30)) = true := by
  rw [star_pl hp, star_pl hp2]; rfl
theorem sd_app {i : Nat} {x : E} {st : Stmt} (G : GdS g N p X sc) (h : chkS g N sc L (.app i x) st = true) : PS X st (tS p W L (.app i x)) := by
  cases st with
  | Expr A pos =>
    unfold chkS at h
    split at h
    · rename_i heq
      cases heq
      rename_i o po m ap Y cp
      simp only [Bool.and_eq_true, decide_eq_true_eq] at h
      obtain ⟨rfl, ho, hl, hp, hv, hx⟩ := h
      have i1 := (snd x p.Wx X sc Y G.G hx).1
      refine ps_weak (ps_expr (pe_bm F.plainAttrs_list F.slot_list_append F.type_list_append mt_append (pe_nm G.G ho) (pa_cons i1 pa_nil (star_pl hp [] _)) (by rfl) (few1 hp) hl (star_pl hp [] _) (by rfl)) (by rfl)) fun D σ H ⟨F, S, e, rd, q⟩ => ?_
      simp only [exS] at q
      obtain ⟨⟨o1, xs1, he⟩, q⟩ := onL_some (P := fun r => Vs p L σ H F S r D) q id
      obtain ⟨w, hw, rw⟩ := rd.er.get he
      obtain ⟨ad, rfl, ty⟩ := lst_ty (K := X.K) rw
      refine ⟨.ref ad, hw, ty, F, S, e, rd, vs_bind q fun d e1 _ q v' H1 F1 S1 S2 a => ?_⟩
      obtain ⟨dd, z, hdd, hs, q3⟩ := updE_some (P := fun r => Vs p L σ H F S r D) q id
      cases dd <;> (first | (cases hs; done) | skip)
      rename_i o' xs
      cases o' <;> (first | (cases hs; done) | skip)
      simp only [appO] at hs
      split at hs
      · rename_i hlen
        cases hs
        obtain ⟨k1, k2⟩ := Aft.give rd.fd a hv
        obtain ⟨ad', vs, hσ, hH, l, hz⟩ := slot_ref k1.er hdd
        rw [hw] at hσ; cases hσ
        refine ⟨ad, vs, v', rfl, rfl, hH, ?_, ?_⟩
        · rw [l.len]; exact Nat.lt_of_lt_of_le hlen (by decide : lim ≤ sizeLine)
        · exact q3 σ _ _ _ ⟨own_upd rd.fd k1 hdd hw hH (l.app (.cons k2 rfl)) (by rw [List.length_append, l.len]; exact Nat.le_trans (show xs.length + 1 ≤ lim from hlen) (by decide : lim ≤ sizeLine)), fun _ _ => rfl, rfl⟩
      · cases hs
    · exact absurd h Bool.false_ne_true
  | _ => exact absurd h Bool.false_ne_true
theorem insIdx_eq {α : Type} : ∀ (xs : List α) (n : Nat) (y : α), n ≤ xs.length → xs.take n ++ [y] ++ xs.drop n = xs.insertIdx n y
  | xs, 0, y, _ => by simp
  | [], n + 1, y, h => by simp at h
  | x :: xs, n + 1, y, h => by
    have := insIdx_eq xs n y (by simpa using h)
    simp only [List.take_succ_cons, List.drop_succ_cons, List.cons_append, List.insertIdx_succ_cons, ← this]
theorem sd_ins {i : Nat} {k x : E} {st : Stmt} (G : GdS g N p X sc) (h : chkS g N sc L (.ins i k x) st = true) : PS X st (tS p W L (.ins i k x)) := by
  cases st with
  | Expr A pos =>
    unfold chkS at h
    split at h
    · rename_i heq
      cases heq
      rename_i o po m ap K Y cp
      simp only [Bool.and_eq_true, decide_eq_true_eq] at h
      obtain ⟨rfl, ho, hl, hp, hp2, hvk, hv, hk, hx⟩ := h
      have i1 := (snd x p.Wx X sc Y G.G hx).1
      have i0 := (snd k p.Wx X sc K G.G hk).1
      refine ps_weak (ps_expr (pe_bm F.plainAttrs_list F.slot_list_insert F.type_list_insert mt_insert (pe_nm G.G ho) (pa_cons i0 (pa_cons i1 pa_nil (star_pl hp2 [] _)) (star_pl hp [_] _)) (by rfl) (few2 hp hp2) hl (star_pl hp [_] _) (by rw [star_pl hp2]; rfl)) (by rfl)) fun D σ H ⟨F, S, e, rd, q⟩ => ?_
      simp only [exS] at q
      obtain ⟨⟨o1, xs1, he⟩, q⟩ := onL_some (P := fun r => Vs p L σ H F S r D) q id
      obtain ⟨w, hw, rw⟩ := rd.er.get he
      obtain ⟨ad, rfl, ty⟩ := lst_ty (K := X.K) rw
      refine ⟨.ref ad, hw, ty, F, S, e, rd, vs_bind q fun y e0 _ q y' H0 F0 S0 S00 a0 => ?_⟩
      have q0 := Vs.pre rd.fd a0.t.s q
      refine ⟨F0, S00, e0, .of_aft a0, vs_bind q0 fun d e1 hev q1 v' H1 F1 S1 S2 a => ?_⟩
      have q : Vs p L σ H0 F0 S00 (updE i (fun d0 => insO d0 y d) e1) D := q1
      obtain ⟨dd, z, hdd, hs, q3⟩ := updE_some (P := fun r => Vs p L σ H0 F0 S00 r D) q id
      cases dd <;> (first | (cases hs; done) | skip)
      rename_i o' xs
      cases o' <;> (first | (cases hs; done) | skip)
      obtain ⟨j, rfl⟩ : ∃ j, y = .int j := by cases y <;> first | (cases hs; done) | exact ⟨_, rfl⟩
      simp only [insO] at hs
      split at hs
      · rename_i hlen
        cases hs
        obtain ⟨k1, k2⟩ := Aft.give a0.ch.fd a hv
        obtain ⟨ad', vs, hσ, hH, l, hz⟩ := slot_ref k1.er hdd
        rw [hw] at hσ; cases hσ
        cases a0.rep
        have hj : j.toNat ≤ vs.length := by rw [l.len]; omega
        refine ⟨ad, vs, j, v', rfl, rfl, hH, ?_, hlen.2.1, ?_, ?_⟩
        · rw [l.len]; exact Nat.lt_of_lt_of_le hlen.1 (by decide : lim ≤ sizeLine)
        · have := hlen.1; simp only [lim] at this; omega
        · rw [insIdx_eq _ _ _ hj]
          exact q3 σ _ _ _ ⟨own_upd a0.ch.fd k1 hdd hw hH (l.insertIdx j.toNat k2) (by rw [List.length_insertIdx_of_le_length hj, l.len]; exact Nat.le_trans hlen.1 (by decide : lim ≤ sizeLine)), fun _ _ => rfl, rfl⟩
      · cases hs
    · exact absurd h Bool.false_ne_true
  | _ => exact absurd h Bool.false_ne_true
/-! ### slot += value -/
def tIpD (o : Operator) : TIp := fun x y H Q => ∃ F S T d1 d2 z, Rep H F d1 x S ∧ Rep H F d2 y T ∧ augD o d1 d2 = some z ∧ ∀ v, Rep H F z v nos → Q v H
theorem ip_aug (o : Operator) : PIp X o (tIpD o) := by
  intro pins s σ H x y v u Q I r1 r2 ⟨F, S, T, d1, d2, z, p1, p2, ha, q⟩
  cases o <;> (first | (cases d1 <;> cases d2 <;> cases ha; done) | skip)
  · cases d1 <;> cases d2 <;> (first | (cases ha; done) | skip)
    · cases ha
      cases p1; cases p2
      exact iop_add pins s σ H _ _ v u Q I r1 r2 ⟨_, _, rfl, rfl, q _ rfl⟩
    · simp only [augD] at ha
      split at ha
      · rename_i hl
        cases ha
        obtain ⟨rfl, o1⟩ := p1
        obtain ⟨rfl, o2⟩ := p2
        exact iop_add_str pins s σ H _ _ v u Q I r1 r2 ⟨_, _, rfl, rfl, Nat.le_trans hl (by decide : lim ≤ sizeLine), q _ ⟨rfl, okS_app o1 o2 hl⟩⟩
      · cases ha
  · cases d1 <;> cases d2 <;> (first | (cases ha; done) | skip)
    · cases ha
      cases p1; cases p2
      exact iop_sub pins s σ H _ _ v u Q I r1 r2 ⟨_, _, rfl, rfl, q _ rfl⟩
theorem aug_rep {o : Operator} {a b z : Vm.D} (h : augD o a b = some z) {H H1 : Hp} {F F1 S : AS} {v : L2.V} (r : Rep H F a v S) : Rep H1 F1 a v nos := by
  cases a <;> first | exact r | (cases o <;> cases b <;> cases h)
theorem sd_aug {i : Nat} {o : Operator} {x : E} {st : Stmt} (G : GdS g N p X sc) (h : chkS g N sc L (.aug i o x) st = true) : PS X st (tS p W L (.aug i o x)) := by
  cases st with
  | AugAssign T o2 Y pos =>
    unfold chkS at h
    split at h
    · rename_i heq
      cases heq
      rename_i y py
      simp only [Bool.and_eq_true, decide_eq_true_eq] at h
      obtain ⟨rfl, ht, hL, hn, hx⟩ := h
      have i1 := (snd x p.Wx X sc Y G.G hx).1
      simp only [tgB, Bool.and_eq_true, Bool.or_eq_true, decide_eq_true_eq] at ht
      obtain ⟨h1, h2⟩ := ht
      have hlx : Loc X.env.scope y := by
        rw [G.G.sc]
        rcases h2 with h2 | h2
        · exact .inl h2
        · exact .inr h2.1
      have hmem : i ∈ L := List.contains_iff_mem.mp hL
      · refine ps_weak (ps_aug (G.G.hN ▸ G.G.nd) (by rw [G.G.hN]; exact h1) hlx i1 (ip_aug o2) (.inl (G.fn y))) fun D σ H ⟨F, S, e, rd, q⟩ => ?_
        simp only [exS] at q
        split at q
        · rename_i d hd
          obtain ⟨w, hw, rw⟩ := rd.er.get hd
          refine ⟨w, hw, F, S, e, rd, vs_bind q fun b e1 _ q v' H1 F1 S1 S2 a => ?_⟩
          cases ha : augD o2 d b with
          | none => simp only [ha] at q; exact q.elim
          | some z =>
            simp only [ha] at q
            have hil : i < e1.length := by
              have h3 := (List.getElem?_eq_some_iff.mp hd).1
              have h4 := rd.er.len
              have h5 := a.er.len
              omega
            have rw1 : Rep H1 F1 d w nos := aug_rep ha rw
            refine ⟨F1, nos, S1, d, b, z, rw1, a.rep, ha, fun v rv => ?_⟩
            exact q (σ.set i (some v)) H1 F1 _ ⟨⟨a.ch, a.er.put hil rv dj_nos, fun x z => z.elim (fun z => z.elim) (a.s2 x), fun x z => z.elim (fun z => z.elim) (a.n2 x), fun z => by cases z⟩, fun j hj => List.getElem?_set_ne fun z : i = j => hj (z ▸ hmem), List.length_set ..⟩
        · exact q.elim
    · exact absurd h Bool.false_ne_true
  | _ => exact absurd h Bool.false_ne_true
end
end Vm
namespace Vm
open PySem PySem.Spec PyProof.Rows L2
variable [CN]
section
variable {g : Tab} {N : List Str} {p : Pm} {X : Cx} {sc : Scope} {L : List Nat} {W : Nat}
def eqs (k : Str) (v : Value) : Bool := match v with
  | .str n _ => n == k
  | _ => false
theorem strs_vals : ∀ {us : List Value} {ns : List Str}, Vals (ns.map V.str) us → ∀ j : Nat, (us[j]?).map (fun u => ∃ t, u = Value.str (ns.getD j "") t) = (ns[j]?).map fun _ => True := fun {us ns} h j => by
  cases hj : ns[j]? with
  | none =>
    have hl := h.length
    rw [List.length_map] at hl
    rw [List.getElem?_eq_none (by rw [List.getElem?_eq_none_iff] at hj; omega)]
    rfl
  | some n =>
    obtain ⟨u, hu, ru⟩ := h.get (i := j) (x := V.str n) (by rw [List.getElem?_map, hj]; rfl)
    obtain ⟨t, rfl⟩ := ru
    rw [hu]
    simp only [Option.map_some, Option.some.injEq, eq_iff_iff, iff_true]
    exact ⟨t, by rw [List.getD_eq_getElem?_getD, hj]; rfl⟩
theorem strs_at {us : List Value} {ns : List Str} (h : Vals (ns.map V.str) us) {j : Nat} {n : Str} (hj : ns[j]? = some n) : ∃ t, us[j]? = some (.str n t) := by
  obtain ⟨u, hu, ru⟩ := h.get (i := j) (x := V.str n) (by rw [List.getElem?_map, hj]; rfl)
  obtain ⟨t, rfl⟩ := ru
  exact ⟨t, hu⟩
theorem erase_mapS : ∀ (l : List Str) (j : Nat), (l.map V.str).eraseIdx j = (l.eraseIdx j).map V.str
  | [], j => by simp
  | a :: r, 0 => by simp
  | a :: r, j + 1 => by
    have ih := erase_mapS r j
    simp [ih]
def rRemS : V → List V → Hp → VK → Prop := fun x xs H Q => ∃ (l : Addr) (ns : List Str) (k : Str) (j : Nat), x = .ref l ∧ xs = [.str k] ∧ H l = some (.lst (ns.map V.str)) ∧ ns[j]? = some k ∧ (∀ m : Nat, m < j → ns[m]? ≠ some k) ∧ Q .non (upd H l (.lst ((ns.eraseIdx j).map V.str)))
theorem mt_removeS : MtM X "list.remove" rRemS := by
  intro pins s σ H x xs v us Q I rx rxs h
  obtain ⟨l, ns, k, j, rfl, rfl, hH, hj, hno, q⟩ := h
  cases rx
  obtain ⟨u, rfl, ru⟩ := rxs.one
  obtain ⟨t, rfl⟩ := ru
  obtain ⟨z, its, n, r, hl, e⟩ := I.lstM hH
  rw [List.length_map] at hl z
  have hjn : j < ns.length := (List.getElem?_eq_some_iff.mp hj).1
  have hjl : j < its.toArray.size := by rw [List.size_toArray]; omega
  refine call_meets PySem.F.slot_list_remove ⟨_, e, rfl⟩ PySem.F.entry_list_remove (PySem.F.args_list_remove_2 _ _)
    (MeetsSeq.list_remove l its.toArray n (.str k t) (eqs k) (fun y hy => ?_) j hjl ?_ ?_ (by rw [List.size_toArray]; omega)) ⟨e, ?_⟩
  · obtain ⟨m, hm⟩ := List.getElem?_of_mem (show y ∈ its by simpa using hy)
    have hmn : m < ns.length := by have := (List.getElem?_eq_some_iff.mp hm).1; omega
    obtain ⟨tm, hmt⟩ := strs_at r (List.getElem?_eq_getElem hmn)
    rw [hm] at hmt
    cases hmt
    exact PyProof.Rows.eqGives_str _ _ _ _
  · obtain ⟨tj, hjt⟩ := strs_at r hj
    obtain ⟨h1, h2⟩ := List.getElem?_eq_some_iff.mp hjt
    have e1 : its.toArray[j] = .str k tj := by simpa using h2
    rw [e1]
    exact beq_self_eq_true k
  · intro m hm hmj
    have hmn : m < ns.length := by omega
    obtain ⟨tm, hmt⟩ := strs_at r (List.getElem?_eq_getElem hmn)
    obtain ⟨h1, h2⟩ := List.getElem?_eq_some_iff.mp hmt
    have e1 : its.toArray[m] = .str ns[m] tm := by simpa using h2
    rw [e1]
    refine beq_eq_false_iff_ne.mpr fun e2 => hno m hmj ?_
    rw [List.getElem?_eq_getElem hmn, e2]
  · have rr := r.eraseIdx j
    have em : (ns.map V.str).eraseIdx j = (ns.eraseIdx j).map V.str := erase_mapS ns j
    rw [em] at rr
    refine ⟨.non, _, I.lset (its' := its.eraseIdx j) (t' := s.toks) hH e ?_ rr ?_, rfl, q⟩
    · show its.toArray.eraseIdxIfInBounds j = (its.eraseIdx j).toArray
      rw [List.eraseIdxIfInBounds_toArray]
    · rw [List.length_map]
      have := List.length_eraseIdx_le ns j
      omega
theorem strsOf_ok : ∀ {xs : List D} {ns : List Str}, strsOf xs = some ns → xs = ns.map D.str
  | [], ns, h => by cases h; rfl
  | .str s :: r, ns, h => by
    simp only [strsOf, Option.map_eq_some_iff] at h
    obtain ⟨m, hm, rfl⟩ := h
    rw [strsOf_ok hm]
    rfl
theorem rep_strs2 {H : Hp} {F : AS} : ∀ {ns : List Str} {vs : List V}, RepL H F (ns.map D.str) vs nos → vs = ns.map V.str ∧ ∀ s ∈ ns, okS s
  | [], vs, h => by rw [show vs = [] from h]; exact ⟨rfl, fun s h => by cases h⟩
  | n :: ns, vs, h => by
    obtain ⟨v, r, S1, S2, rfl, h1, h2, dj, s1, s2⟩ := h
    obtain ⟨rfl, ok⟩ := h1
    obtain ⟨rfl, k⟩ := rep_strs2 (RepL.mono _ _ _ _ h2 s2)
    exact ⟨rfl, fun s hs => by
      rcases List.mem_cons.mp hs with rfl | hs
      · exact ok
      · exact k s hs⟩
theorem strs_rep {H : Hp} {F : AS} : ∀ {ns : List Str}, (∀ s ∈ ns, okS s) → RepL H F (ns.map D.str) (ns.map V.str) nos
  | [], _ => RepL.nil
  | n :: ns, h => RepL.cons ⟨rfl, h n (by simp)⟩ (strs_rep fun s hs => h s (List.mem_cons_of_mem _ hs))
theorem sd_rem {i : Nat} {x : E} {st : Stmt} (G : GdS g N p X sc) (h : chkS g N sc L (.rem i x) st = true) : PS X st (tS p W L (.rem i x)) := by
  cases st with
  | Expr A pos =>
    unfold chkS at h
    split at h
    · rename_i heq
      cases heq
      rename_i o po m ap Y cp
      simp only [Bool.and_eq_true, decide_eq_true_eq] at h
      obtain ⟨rfl, ho, hl, hp, hv, hx⟩ := h
      have i1 := (snd x p.Wx X sc Y G.G hx).1
      refine ps_weak (ps_expr (pe_bm F.plainAttrs_list F.slot_list_remove F.type_list_remove mt_removeS (pe_nm G.G ho) (pa_cons i1 pa_nil (star_pl hp [] _)) (by rfl) (few1 hp) hl (star_pl hp [] _) (by rfl)) (by rfl)) fun D σ H ⟨F, S, e, rd, q⟩ => ?_
      simp only [exS] at q
      obtain ⟨⟨o1, xs1, he⟩, q⟩ := onL_some (P := fun r => Vs p L σ H F S r D) q id
      obtain ⟨w, hw, rw⟩ := rd.er.get he
      obtain ⟨ad, rfl, ty⟩ := lst_ty (K := X.K) rw
      refine ⟨.ref ad, hw, ty, F, S, e, rd, vs_bind q fun d e1 _ q v' H1 F1 S1 S2 a => ?_⟩
      obtain ⟨dd, z, hdd, hs, q3⟩ := updE_some (P := fun r => Vs p L σ H F S r D) q id
      cases dd <;> (first | (cases hs; done) | skip)
      rename_i o' xs
      cases o' <;> (first | (cases hs; done) | skip)
      cases d <;> (first | (cases hs; done) | skip)
      rename_i k _
      simp only [remO, Option.bind_eq_some_iff] at hs
      obtain ⟨ns, hns, hs⟩ := hs
      have := strsOf_ok hns
      subst this
      split at hs
      · rename_i hk
        cases hs
        obtain ⟨k1, k2⟩ := Aft.give rd.fd a hv
        obtain ⟨rfl, _⟩ := k2
        obtain ⟨ad', vs, hσ, hH, l, hz⟩ := slot_ref k1.er hdd
        rw [hw] at hσ; cases hσ
        obtain ⟨rfl, oks⟩ := rep_strs2 l
        have hj : ns[ns.idxOf k]? = some k := by
          rw [List.getElem?_eq_getElem (List.idxOf_lt_length_iff.mpr hk), List.getElem_idxOf]
        refine ⟨ad, ns, k, ns.idxOf k, rfl, rfl, hH, hj, fun m hm e => ?_, q3 σ _ _ _ ⟨own_upd rd.fd k1 hdd hw hH (strs_rep fun s hs => oks s (List.mem_of_mem_eraseIdx hs)) ?_, fun _ _ => rfl, rfl⟩⟩
        · obtain ⟨hml, he⟩ := List.getElem?_eq_some_iff.mp e
          have := List.not_of_lt_findIdx (p := fun x => x == k) (xs := ns) hm
          rw [he] at this
          simp at this
        · rw [List.length_map] at hz ⊢
          have := List.length_eraseIdx_le ns (ns.idxOf k)
          omega
      · cases hs
    · exact absurd h Bool.false_ne_true
  | _ => exact absurd h Bool.false_ne_true
theorem sd_ext {i : Nat} {x : E} {st : Stmt} (G : GdS g N p X sc) (h : chkS g N sc L (.ext i x) st = true) : PS X st (tS p W L (.ext i x)) := by
  cases st with
  | Expr A pos =>
    unfold chkS at h
    split at h
    · rename_i heq
      cases heq
      rename_i o po m ap Y cp
      simp only [Bool.and_eq_true, decide_eq_true_eq] at h
      obtain ⟨rfl, ho, hl, hp, hv, hx⟩ := h
      have i1 := (snd x p.Wx X sc Y G.G hx).1
      refine ps_weak (ps_expr (pe_bm F.plainAttrs_list F.slot_list_extend F.type_list_extend mt_extend (pe_nm G.G ho) (pa_cons i1 pa_nil (star_pl hp [] _)) (by rfl) (few1 hp) hl (star_pl hp [] _) (by rfl)) (by rfl)) fun D σ H ⟨F, S, e, rd, q⟩ => ?_
      simp only [exS] at q
      obtain ⟨⟨o1, xs1, he⟩, q⟩ := onL_some (P := fun r => Vs p L σ H F S r D) q id
      obtain ⟨w, hw, rw⟩ := rd.er.get he
      obtain ⟨ad, rfl, ty⟩ := lst_ty (K := X.K) rw
      refine ⟨.ref ad, hw, ty, F, S, e, rd, vs_bind q fun d e1 _ q v' H1 F1 S1 S2 a => ?_⟩
      obtain ⟨dd, z, hdd, hs, q3⟩ := updE_some (P := fun r => Vs p L σ H F S r D) q id
      cases dd <;> (first | (cases hs; done) | skip)
      rename_i o' xs
      cases o' <;> (first | (cases hs; done) | skip)
      cases d <;> (first | (cases hs; done) | skip)
      rename_i o2 ys _
      cases o2 <;> (first | (cases hs; done) | skip)
      simp only [extO] at hs
      split at hs
      · rename_i hlen
        cases hs
        obtain ⟨b, us, rfl, hzu, lu, cu⟩ := a.rep
        have hb : H1 b = some (.lst us) := by
          rcases cu with ⟨c, _⟩ | ⟨_, c, _⟩
          · cases c
          · exact c
        obtain ⟨ad', vs, hσ, hH, l, hz⟩ := slot_ref a.er hdd
        rw [hw] at hσ; cases hσ
        have hle : vs.length + us.length ≤ sizeLine := by rw [l.len, lu.len]; exact Nat.le_trans hlen (by decide : lim ≤ sizeLine)
        exact ⟨ad, b, vs, us, rfl, rfl, hH, hb, hle, q3 σ _ _ _ ⟨own_upd rd.fd a.t hdd hw hH (l.app lu) (by rw [List.length_append]; exact hle), fun _ _ => rfl, rfl⟩⟩
      · cases hs
    · exact absurd h Bool.false_ne_true
  | _ => exact absurd h Bool.false_ne_true
theorem sd_m0 {k : M0} {i : Nat} {st : Stmt} (G : GdS g N p X sc) (h : chkS g N sc L (.m0 k i) st = true) : PS X st (tS p W L (.m0 k i)) := by
  cases st with
  | Expr A pos =>
    unfold chkS at h
    split at h
    · rename_i heq
      cases heq
      rename_i o po m ap cp
      simp only [Bool.and_eq_true, decide_eq_true_eq] at h
      obtain ⟨rfl, ho, hl⟩ := h
      have key : ∀ {D : Ends} {σ : Sl} {H : Hp}, tS p W L (.m0 k i) D σ H → ∃ (a : Addr) (vs : List V), σ[i]? = some (some (.ref a)) ∧ tyV X.K "list" (.ref a) H ∧ H a = some (.lst vs) ∧ D.nx σ (upd H a (.lst (match k with | .rev => vs.reverse | .clr => []))) := fun {D σ H} ⟨F, S, e, rd, q⟩ => by
        simp only [exS] at q
        obtain ⟨⟨o1, xs1, he⟩, q⟩ := onL_some (P := fun r => Vs p L σ H F S r D) q id
        obtain ⟨w, hw, rw⟩ := rd.er.get he
        obtain ⟨ad, rfl, ty⟩ := lst_ty (K := X.K) rw
        obtain ⟨dd, z, hdd, hs, q3⟩ := updE_some (P := fun r => Vs p L σ H F S r D) q id
        cases dd <;> (first | (cases k <;> cases hs; done) | skip)
        rename_i o' xs
        cases o' <;> (first | (cases k <;> cases hs; done) | skip)
        obtain ⟨ad', vs, hσ, hH, l, hz⟩ := slot_ref rd.er hdd
        rw [hw] at hσ; cases hσ
        refine ⟨ad, vs, hw, ty, hH, ?_⟩
        cases k with
        | rev =>
          cases hs
          exact q3 σ _ _ _ ⟨own_upd rd.fd rd.refl hdd hw hH (RepL.rev l) (by rw [List.length_reverse]; exact hz), fun _ _ => rfl, rfl⟩
        | clr =>
          cases hs
          exact q3 σ _ _ _ ⟨own_upd rd.fd rd.refl hdd hw hH RepL.nil (Nat.zero_le _), fun _ _ => rfl, rfl⟩
      cases k with
      | rev =>
        refine ps_weak (ps_expr (pe_bm0 F.plainAttrs_list F.slot_list_reverse F.type_list_reverse mt_reverse (pe_nm G.G ho) (by rfl) hl) (by rfl)) fun D σ H q => ?_
        obtain ⟨a, vs, h1, h2, h3, h4⟩ := key q
        exact ⟨.ref a, h1, h2, a, vs, rfl, rfl, h3, h4⟩
      | clr =>
        refine ps_weak (ps_expr (pe_bm0 F.plainAttrs_list F.slot_list_clear F.type_list_clear mt_clear (pe_nm G.G ho) (by rfl) hl) (by rfl)) fun D σ H q => ?_
        obtain ⟨a, vs, h1, h2, h3, h4⟩ := key q
        exact ⟨.ref a, h1, h2, a, vs, rfl, rfl, h3, h4⟩
    · exact absurd h Bool.false_ne_true
  | _ => exact absurd h Bool.false_ne_true
theorem sd_apx {i j l : Nat} {st : Stmt} (G : GdS g N p X sc) (h : chkS g N sc L (.apx i j l) st = true) : PS X st (tS p W L (.apx i j l)) := by
  cases st with
  | Expr A pos =>
    unfold chkS at h
    split at h
    · rename_i heq
      cases heq
      rename_i o po y py p2 m ap z pz cp
      simp only [Bool.and_eq_true, decide_eq_true_eq] at h
      obtain ⟨rfl, ho, hy, hz, hl⟩ := h
      have hu : X.A.units + 65 < cLine := by have := G.G.un; omega
      refine ps_weak (ps_expr (pe_bm F.plainAttrs_list F.slot_list_append F.type_list_append mt_append (pe_ix (dg_ok hu) (pe_nm G.G ho) (pe_nm G.G hy) (plainIx_pl rfl)) (pa_cons (pe_nm G.G hz) pa_nil (by rfl)) (by rfl) (by rfl) hl (by rfl) (by rfl)) (by rfl)) fun D σ H ⟨F, S, e, rd, q⟩ => ?_
      simp only [exS] at q
      split at q
      · rename_i ks ds y' z' he1 he2 he3
        split at q
        · rename_i hc
          simp only [Bool.and_eq_true] at hc
          split at q
          · rename_i xs hlk
            split at q
            · rename_i hlen
              obtain ⟨k, rfl⟩ := isK_ok hc.1
              obtain ⟨va, hva, ra⟩ := rd.er.get he1
              obtain ⟨vy, hvy, ry⟩ := rd.er.get he2
              obtain ⟨vz, hvz, rz⟩ := rd.er.get he3
              obtain ⟨a, kvs, rfl, zl, rl, hH, rfl, ok⟩ := ra.dct_inv
              obtain ⟨rfl, _⟩ := ry.key
              have lk := look_rep k rl
              rw [hlk] at lk
              obtain ⟨w, hw, rw'⟩ := lk
              obtain ⟨c, vs, rfl, zc, lc, cc⟩ := rw'
              have hcc : H c = some (.lst vs) := by
                rcases cc with ⟨cc, _⟩ | ⟨_, cc, _⟩
                · cases cc
                · exact cc
              have hv1 : vs.length + 1 ≤ sizeLine := by rw [lc.len]; exact Nat.le_trans (show xs.length + 1 ≤ lim from hlen) (by decide : lim ≤ sizeLine)
              refine ⟨_, hva, _, hvy, a, kvs, k, _, rfl, rfl, hH, hw, .inl ⟨rfl, vs, .inl (.inl hcc)⟩, _, hvz, c, vs, _, rfl, rfl, hcc, by omega, ?_⟩
              exact q σ _ _ _ ⟨own_child rd he1 hva hH hlk hw hcc lc (Rep.isF _ _ _ hc.2 rz) hv1, fun _ _ => rfl, rfl⟩
            · exact q.elim
          · exact q.elim
        · exact q.elim
      · exact q.elim
    · exact absurd h Bool.false_ne_true
  | _ => exact absurd h Bool.false_ne_true
end
end Vm
namespace Vm
open PySem PySem.Spec PyProof.Rows L2
variable [CN]
section
variable {g : Tab} {N : List Str} {p : Pm} {X : Cx} {sc : Scope} {L : List Nat} {W : Nat}
theorem updP_some {f : D → Option D} {q : Pth} {e : Nv} {P : R Fl → Prop} (h : P (updP q f e)) (hb : ¬ P .bad) : ∃ e' y, onPt e q (fun d => (f d).map fun d' => (d', .non)) = some (e', y) ∧ P (.ok .next e') := by
  unfold updP at h
  split at h
  · rename_i e' y ho
    exact ⟨e', y, ho, h⟩
  · exact (hb h).elim
theorem appO_some {x d d' : D} (h : appO d x = some d') : ∃ xs, d = .lst true xs ∧ xs.length < lim ∧ d' = .lst true (xs ++ [x.fz]) := by
  cases d with
  | lst o xs => ?_
  | _ => cases h
  cases o with
  | false => cases h
  | true =>
    simp only [appO] at h
    split at h
    · rename_i hl
      cases h
      exact ⟨xs, rfl, hl, rfl⟩
    · cases h
/-- the slot's thing is put by while the value is computed -/
theorem aft_by {vb sb : Bool} {σ : Sl} {H H1 : Hp} {F F1 S T1 T2 S2 S1 : AS} {e e1 : Nv} {i : Nat} {d0 d : D} {v0 v : V} (rd : Rdy H F S e σ) (he : e[i]? = some (some d0)) (hv0 : σ[i]? = some (some v0)) (rp : Rep H F d0 v0 T1) (dj : Dj T1 T2) (t1 : Sb T1 S) (t2 : Sb T2 S)
    (a : Aft vb sb σ H F T2 H1 F1 d v S1 e1 S2) (hv : vb = true) : Aft vb false σ H F S H1 F1 d v S1 (e1.set i (e.getD i none)) (fun x => T1 x ∨ S2 x) ∧ Kp H F T1 H1 := by
  have kp : Kp H F T1 H1 := fun x o hx n => a.ch.keep x o hx fun z => n.elim (fun n => n (rd.sf x (t2 x z))) fun n => dj x n z
  have r1 := Rep.step d0 v0 T1 rp kp a.ch.new
  have dj2 : Dj T1 S2 := fun x y z => (a.n2 x z).elim (dj x y) fun w => rd.fd x (rd.sf x (t1 x y)) w
  have hi : i < e1.length := by
    rw [← a.er.len, rd.er.len]
    exact (List.getElem?_eq_some_iff.mp he).1
  have eg : e.getD i none = some d0 := by rw [List.getD_eq_getElem?_getD, he]; rfl
  have er := ERs.back a.er hi hv0 r1 dj2
  refine ⟨⟨⟨fun x o hx ns => a.ch.keep x o hx fun z => ns (t2 x z), a.ch.new, fun x h ns => a.ch.old x h fun z => ns (t2 x z), a.ch.dom, a.ch.fd⟩, a.rep, by rw [eg]; exact er, a.s1, fun x z => z.elim (fun z => ?_) (a.s2 x), fun x z => z.elim (fun z => .inl (t1 x z)) fun z => (a.n2 x z).imp_left (t2 x), fun h x y z => z.elim (fun z => ?_) (a.dj h x y), fun h x y => (a.n1 h x y).imp_left (t2 x), fun z => by cases z⟩, kp⟩
  · exact a.ch.old x (rd.sf x (t1 x z)) fun w => dj x z w
  · exact (a.n1 hv x y).elim (fun w => dj x z w) fun w => rd.fd x (rd.sf x (t1 x z)) w
theorem app_end {Z : Ends} {σ : Sl} {H H1 : Hp} {F F1 S S1 S2 : AS} {e1 : Nv} {q : Pth} {d : D} {v : V} {w : V} {sb : Bool} (fd : FD H F) (a : Aft true sb σ H F S H1 F1 d v S1 e1 S2) (wk : WkP σ H1 q w)
    (h : Vs p L σ H F S (updP q (fun z => appO z d) e1) Z) : ∃ (c : Addr) (vs : List V), w = .ref c ∧ H1 c = some (.lst vs) ∧ vs.length < sizeLine ∧ Z.nx σ (upd H1 c (.lst (vs ++ [v]))) := by
  obtain ⟨k1, k2⟩ := a.give fd rfl
  obtain ⟨e', y, ho, q3⟩ := updP_some (P := fun r => Vs p L σ H F S r Z) h id
  obtain ⟨w', d1, d1', S3, wk', r, s3, hg⟩ := pt_ex k1.er ho
  cases wk.det wk'
  obtain ⟨d2, hd2, hq⟩ := Option.map_eq_some_iff.mp hg
  obtain ⟨xs, rfl, hl, rfl⟩ := appO_some hd2
  obtain ⟨c, vs, rfl, hz, l, cc⟩ := r
  obtain ⟨_, hH, sc⟩ : true = true ∧ H1 c = some (.lst vs) ∧ S3 c := by
    rcases cc with ⟨cc, _⟩ | cc
    · cases cc
    · exact cc
  have hle : vs.length + 1 ≤ sizeLine := by rw [l.len]; exact Nat.le_trans (show xs.length + 1 ≤ lim from hl) (by decide : lim ≤ sizeLine)
  refine ⟨c, vs, rfl, hH, hle, q3 σ _ _ _ ⟨own_path ⟨_, hH, not_hard_lst⟩ fd k1 ho wk (fits_lst hH (by rw [List.length_append]; exact hle) fun z z' y hz => ?_), fun _ _ => rfl, rfl⟩⟩
  obtain ⟨z2, hz2, hq⟩ := Option.map_eq_some_iff.mp hz
  cases hq
  obtain ⟨ys, rfl, _, rfl⟩ := appO_some hz2
  exact ⟨ys, _, rfl, rfl, fun l => l.app (.cons k2 rfl)⟩
theorem sd_pap {q : Pth} {x : E} {st : Stmt} (G : GdS g N p X sc) (h : chkS g N sc L (.pap q x) st = true) : PS X st (tS p W L (.pap q x)) := by
  cases st with
  | Expr A pos =>
    unfold chkS at h
    split at h
    · rename_i heq
      cases heq
      rename_i B m ap Y cp
      simp only [Bool.and_eq_true, decide_eq_true_eq] at h
      obtain ⟨rfl, ho, hrb, hl, hp, hv, hx⟩ := h
      have i1 := (snd x p.Wx X sc Y G.G hx).1
      refine ps_weak (ps_expr (pe_bm F.plainAttrs_list F.slot_list_append F.type_list_append mt_append (pe_pth G.G ho) (pa_cons i1 pa_nil (star_pl hp [] _)) (rcv_base hrb _ _) (few1 hp) hl (star_pl hp [] _) (by rfl)) (by rfl)) fun D σ H ⟨F, S, e, rd, q0⟩ => ?_
      simp only [exS] at q0
      split at q0
      · exact q0.elim
      rename_i r0 hon
      obtain ⟨e0, y0⟩ := r0
      obtain ⟨f, d, d', hf, hd, hh, _⟩ := onPt_some hon
      obtain ⟨v0, T1, T2, hv0, rp, er2, dj, t1, t2⟩ := rd.er.out hd
      obtain ⟨w, d1, d1', S1, wk, stay, r, s1, hg⟩ := wk_ex (KyOk.of rd.er) hv0 rp rfl hf hh
      obtain ⟨d2, hd2, hq⟩ := Option.map_eq_some_iff.mp hg
      obtain ⟨xs, rfl, _, _⟩ := appO_some hd2
      obtain ⟨c, vs0, rfl, hz, l, cc⟩ := r
      have hH : H c = some (.lst vs0) := by
        rcases cc with ⟨cc, _⟩ | ⟨_, cc, _⟩
        · cases cc
        · exact cc
      refine ⟨.ref c, wk, .inl ⟨rfl, vs0, .inl (.inl hH)⟩, ?_⟩
      by_cases hs : smp x = true
      · rw [if_pos hs] at q0
        refine ⟨F, S, e, rd, vs_bind q0 fun d e1 _ q1 v' H1 F1 S1 S2 a => ?_⟩
        have a : Aft true true σ H F S H1 F1 d v' S1 e1 S2 := by rw [hv, hs] at a; exact a
        have wk1 := stay H1 fun b o hb n => a.ext rfl b o hb
        obtain ⟨c', vs, ec, h1, h2, h3⟩ := app_end rd.fd a wk1 q1
        cases ec
        exact ⟨c, vs, v', rfl, rfl, h1, h2, h3⟩
      · rw [if_neg hs] at q0
        refine ⟨F, T2, e.set q.root none, ⟨er2, t2.trans rd.sf, rd.fd⟩, ?_⟩
        cases hr : ev p.C x (e.set q.root none) with
        | ok d e1 =>
          rw [hr, R.bind_ok] at q0
          intro v' H1 F1 S1 S2 a
          have a : Aft true (smp x) σ H F T2 H1 F1 d v' S1 e1 S2 := by rw [hv] at a; exact a
          obtain ⟨b, kp⟩ := aft_by rd hd hv0 rp dj t1 t2 a rfl
          have q1 : Vs p L σ H F S (updP q (fun z => appO z d) (e1.set q.root (e.getD q.root none))) D := q0
          obtain ⟨c', vs, ec, h1, h2, h3⟩ := app_end rd.fd b (stay H1 kp) q1
          cases ec
          exact ⟨c, vs, v', rfl, rfl, h1, h2, h3⟩
        | ex y e1 =>
          rw [hr, R.bind_ex] at q0
          intro cls dd H1 F1 S2 a xr
          refine q0 cls dd σ H1 F1 S2 ⟨⟨⟨fun x o hx ns => a.ch.keep x o hx fun z => ns (t2 x z), a.ch.new, fun x h ns => a.ch.old x h fun z => ns (t2 x z), a.ch.dom, a.ch.fd⟩, a.er, a.s2, fun x z => (a.n2 x z).imp_left (t2 x), fun z => by cases z⟩, fun _ _ => rfl, rfl⟩ xr
        | bad => rw [hr] at q0; exact q0.elim
    · exact absurd h Bool.false_ne_true
  | _ => exact absurd h Bool.false_ne_true
theorem m0D_some {k : M0} {d d' : D} (h : m0D k d = some d') : ∃ xs, d = .lst true xs ∧ d' = .lst true (match k with | .rev => xs.reverse | .clr => []) := by
  cases d with
  | lst o xs => ?_
  | _ => cases k <;> cases h
  cases o <;> cases k <;> cases h <;> exact ⟨xs, rfl, rfl⟩
theorem sd_pm0 {k : M0} {q : Pth} {st : Stmt} (G : GdS g N p X sc) (h : chkS g N sc L (.pm0 k q) st = true) : PS X st (tS p W L (.pm0 k q)) := by
  cases st with
  | Expr A pos =>
    unfold chkS at h
    split at h
    · rename_i heq
      cases heq
      rename_i B m ap cp
      simp only [Bool.and_eq_true, decide_eq_true_eq] at h
      obtain ⟨rfl, ho, hrb, hl⟩ := h
      have key : ∀ {D : Ends} {σ : Sl} {H : Hp}, tS p W L (.pm0 k q) D σ H → ∃ (a : Addr) (vs : List V), WkP σ H q (.ref a) ∧ tyV X.K "list" (.ref a) H ∧ H a = some (.lst vs) ∧ D.nx σ (upd H a (.lst (match k with | .rev => vs.reverse | .clr => []))) := fun {D σ H} ⟨F, S, e, rd, q0⟩ => by
        simp only [exS] at q0
        obtain ⟨e', y, ho, q3⟩ := updP_some (P := fun r => Vs p L σ H F S r D) q0 id
        obtain ⟨w, d1, d1', S3, wk, r, s3, hg⟩ := pt_ex rd.er ho
        obtain ⟨d2, hd2, hq⟩ := Option.map_eq_some_iff.mp hg
        obtain ⟨xs, rfl, _⟩ := m0D_some hd2
        obtain ⟨c, vs, rfl, hz, l, cc⟩ := r
        have hH : H c = some (.lst vs) := by
          rcases cc with ⟨cc, _⟩ | ⟨_, cc, _⟩
          · cases cc
          · exact cc
        refine ⟨c, vs, wk, .inl ⟨rfl, vs, .inl (.inl hH)⟩, hH, q3 σ _ _ _ ⟨own_path ⟨_, hH, not_hard_lst⟩ rd.fd rd.refl ho wk (fits_lst hH ?_ fun z z' y hz => ?_), fun _ _ => rfl, rfl⟩⟩
        · cases k with
          | rev => simp only [List.length_reverse]; exact hz
          | clr => exact Nat.zero_le _
        · obtain ⟨z2, hz2, hq⟩ := Option.map_eq_some_iff.mp hz
          cases hq
          obtain ⟨ys, rfl, e9⟩ := m0D_some hz2
          refine ⟨ys, _, rfl, e9, fun l => ?_⟩
          cases k with
          | rev => exact RepL.rev l
          | clr => exact RepL.nil
      cases k with
      | rev =>
        refine ps_weak (ps_expr (pe_bm0 F.plainAttrs_list F.slot_list_reverse F.type_list_reverse mt_reverse (pe_pth G.G ho) (rcv_base hrb _ _) hl) (by rfl)) fun D σ H q => ?_
        obtain ⟨a, vs, h1, h2, h3, h4⟩ := key q
        exact ⟨.ref a, h1, h2, a, vs, rfl, rfl, h3, h4⟩
      | clr =>
        refine ps_weak (ps_expr (pe_bm0 F.plainAttrs_list F.slot_list_clear F.type_list_clear mt_clear (pe_pth G.G ho) (rcv_base hrb _ _) hl) (by rfl)) fun D σ H q => ?_
        obtain ⟨a, vs, h1, h2, h3, h4⟩ := key q
        exact ⟨.ref a, h1, h2, a, vs, rfl, rfl, h3, h4⟩
    · exact absurd h Bool.false_ne_true
  | _ => exact absurd h Bool.false_ne_true
theorem setK_some {k x d d' : D} (h : setK k x d = some d') : ∃ ks vs, d = .dct true ks vs ∧ isK k = true ∧ ks.length < lim ∧ d' = .dct true (putD k x.fz ks vs).1 (putD k x.fz ks vs).2 := by
  cases d with
  | dct o ks vs => ?_
  | _ => cases h
  cases o with
  | false => cases h
  | true =>
    simp only [setK] at h
    split at h
    · rename_i hc
      rw [Bool.and_eq_true, decide_eq_true_eq] at hc
      cases h
      exact ⟨ks, vs, rfl, hc.1, hc.2, rfl⟩
    · cases h
theorem sd_pst {q : Pth} {k v : E} {st : Stmt} (G : GdS g N p X sc) (h : chkS g N sc L (.pst q k v) st = true) : PS X st (tS p W L (.pst q k v)) := by
  cases st with
  | Assign ts V pos =>
    unfold chkS at h
    split at h
    · rename_i heq
      cases heq
      rename_i B K sp
      simp only [Bool.and_eq_true] at h
      obtain ⟨ho, hbr, hsk, hp, hv, hV, hK⟩ := h
      have hk : X.env.scope.kind = .function := by rw [G.G.sc]; exact G.kd
      have i1 := (snd v p.Wx X sc V G.G hV).1
      have i2 := (snd k p.Wx X sc K G.G hK).1
      have hsw := swL_ok (v := V) (t := .Subscript B K sp) (l := pos.line) hk
      have hsf : swL X.env.scope V (.Subscript B K sp) = false := by cases V <;> rfl
      rw [hsf] at hsw
      have hst := swK_ok (T := .Subscript B K sp) (V := V) (env := X.env) hk (r := none) (by cases V <;> rfl)
      have ha : ∀ v, assign (.Subscript B K sp) X.env v = (do
          let ov ← holding [v] (eval B X.env)
          let iv ← holding [v, ov] (eval K X.env)
          standAt sp
          holding [v, ov, iv] (setItem ov iv v)
          release [v, ov, iv] []) := by
        cases K <;> first | (intro _; rfl) | (cases hp)
      refine ps_weak (ps_asg i1 (pg_sub (pe_pth G.G ho) i2 (set_dict (by have := G.G.un; omega)) ha) hsw hst rfl) fun D σ H ⟨F, S, e, rd, q0⟩ => ⟨F, S, e, rd, ?_⟩
      simp only [exS] at q0
      refine vs_bind q0 fun d e1 _ q0 v' H1 F1 S1 S2 a => ?_
      split at q0
      · exact q0.elim
      rename_i r0 hon
      obtain ⟨e0, y0⟩ := r0
      obtain ⟨w, d1, d1', S3, wk, r, s3, hg⟩ := pt_ex a.er hon
      refine ⟨w, wk, ?_⟩
      have q1 := Vs.pre rd.fd a.t.s q0
      refine ⟨F1, S2, e1, .of_aft a, vs_bind q1 fun y e2 hev q2 y' H2 F2 T1 T2 b => ?_⟩
      have q3 : Vs p L σ H F S (updP q (setK y d) e2) D := by rw [hev] at q0; exact q0
      have b : Aft (isV k) true σ H1 F1 S2 H2 F2 y y' T1 e2 T2 := by rw [hsk] at b; exact b
      obtain ⟨b1, b2, b3⟩ := a.keepS b.t hv
      have tt := a.t.trans rd.fd b.t
      have a2 : Aft true false σ H F S H2 F2 d v' S1 e2 T2 := ⟨tt.ch, a.keep b.t (.inl hv), tt.er, fun _ => b1, tt.s2, tt.n2, fun _ => b2, fun _ => b3, fun z => by cases z⟩
      obtain ⟨k1, k2⟩ := a2.give rd.fd rfl
      obtain ⟨e3, y3, ho3, q4⟩ := updP_some (P := fun r => Vs p L σ H F S r D) q3 id
      obtain ⟨w2, d2, d2', S4, wk2, r2, s4, hg2⟩ := pt_ex k1.er ho3
      have wkk : w = w2 := by
        obtain ⟨f, dd, dd', hf, hd, hh, _⟩ := onPt_some hon
        obtain ⟨v0, hv0, rp⟩ := a.er.get hd
        obtain ⟨w3, _, _, _, wk3, stay, _, _, _⟩ := wk_ex (KyOk.of a.er) hv0 rp rfl hf hh
        cases wk.det wk3
        exact (stay H2 fun b' o hb _ => b.ext rfl b' o hb).det wk2
      subst wkk
      obtain ⟨d3, hd3, hq⟩ := Option.map_eq_some_iff.mp hg2
      obtain ⟨ks, ds, rfl, hik, hlk, rfl⟩ := setK_some hd3
      obtain ⟨ky, rfl⟩ := isK_ok hik
      obtain ⟨rfl, hky⟩ := b.rep.key
      obtain ⟨c, us, T, u, rfl, hz, ⟨kvs, rfl, rfl, rfl, ok⟩, rl, cc⟩ := r2
      have hH : H2 c = some (.dK kvs) := by
        rcases cc with ⟨cc, _⟩ | ⟨_, cc, _⟩
        · cases cc
        · exact cc
      have h9 : kvs.length < 1000000 := by rw [List.length_map] at hlk; exact hlk
      have hl : kvs.length < sizeLine := lim_lt h9
      refine ⟨c, _, rfl, .inl ⟨kvs, ky, hH, rfl, hl, rfl⟩, ?_⟩
      refine q4 σ _ _ _ ⟨own_path ⟨_, hH, not_hard_dK⟩ rd.fd k1 ho3 wk2 (fits_dct hH ?_ fun z z' y hz => ?_), fun _ _ => rfl, rfl⟩
      · have := L2.length_putK kvs ky v'
        have h3 := lim_ok (n := kvs.length + 1) (by omega)
        omega
      · obtain ⟨z2, hz2, hq⟩ := Option.map_eq_some_iff.mp hz
        cases hq
        obtain ⟨ks', ds', rfl, _, _, rfl⟩ := setK_some hz2
        refine ⟨ks', ds', _, _, rfl, rfl, fun e1 ok T rl => ?_⟩
        subst e1
        obtain ⟨⟨kvs', e4, e5, e6, e7⟩, p2⟩ := putD_rep k2 hky rl ok
        injection e4 with e4
        subst e4
        exact ⟨e5, e7, p2⟩
    · exact absurd h Bool.false_ne_true
  | _ => exact absurd h Bool.false_ne_true
end
end Vm
namespace Vm
open PySem PySem.Spec L2
variable [CN]
def one1 (P : V → Hp → Prop) : List V → Hp → Prop
  | [v], H => P v H
  | _, _ => False
theorem one1_ok {P : V → Hp → Prop} {vs : List V} {H : Hp} (h : one1 P vs H) : ∃ v, vs = [v] ∧ P v H := by
  match vs, h with
  | [v], h => exact ⟨v, rfl, h⟩
section
variable {g : Tab} {N : List Str} {p : Pm} {X : Cx} {sc : Scope} {L : List Nat} {W : Nat}
theorem pmk_rai0 {q : XcE} {c : Str} {fI : Addr} {fd : FuncData} {p0 pos : Pos} (rm : Room 2 X.A) (hg : Gl X c) (hd : (c == ("__debug__" : Str)) = false) (hm : X.mg c = some (.ref (CN.cn c))) (T : OxC X.K (CN.cn c))
    (iC : PySem.W.findIn X.K (.ref (CN.cn c)) "__init__" = some (some (.ref fI))) (tI : PySem.W.typeIn X.K (.ref fI) = some (.type "function")) (F : FnOk X.prog X.w X.K X.mg X.base (L2.CX X.prog X.w) 1 fI fd q.ps (spX q (CN.cn c))) (hb : Binds X.K fd q.ps []) (hq : nX q = 0) :
    PMk X (.Call (.Name c p0) [] [] pos) (fun σ H Q => ∀ d, H d = none → Q (.ref (CN.cn c)) (some d) (L2.upd H d (.xd (fldsX q [])))) := fun pins s σ H Q I h =>
  wpAny_Call_Name_kw (ld_glob I hg hm (PySem.W.callWith_K0 I.kIn T.kC (run_ox T iC tI F rm hb I .nil hq.symm h)) hd)
theorem pmk_rai1 {q : XcE} {c : Str} {fI : Addr} {fd : FuncData} {y : Expr} {t : TE} {p0 pos : Pos} (rm : Room 2 X.A) (hg : Gl X c) (hd : (c == ("__debug__" : Str)) = false) (hm : X.mg c = some (.ref (CN.cn c))) (T : OxC X.K (CN.cn c))
    (iC : PySem.W.findIn X.K (.ref (CN.cn c)) "__init__" = some (some (.ref fI))) (tI : PySem.W.typeIn X.K (.ref fI) = some (.type "function")) (F : FnOk X.prog X.w X.K X.mg X.base (L2.CX X.prog X.w) 1 fI fd q.ps (spX q (CN.cn c))) (hb : Binds X.K fd q.ps []) (hq : nX q = 1)
    (hpl : pl y = true) (he : PE X y t) : PMk X (.Call (.Name c p0) [y] [] pos) (fun σ H Q => t σ H fun v H1 => ∀ d, H1 d = none → Q (.ref (CN.cn c)) (some d) (L2.upd H1 d (.xd (fldsX q [v])))) := fun pins s σ H Q I h =>
  wpAny_Call_Name_kw (ld_glob I hg hm (PySem.W.callWith_K (h₀ := X.base) I.ok.mod.kin T.kC (thn ((pa_cons he pa_nil (star_pl hpl [] X.env)).run pos pins s σ H (one1 fun v H1 => ∀ d, H1 d = none → Q (.ref (CN.cn c)) (some d) (L2.upd H1 d (.xd (fldsX q [v])))) I h) fun us s1 ⟨vs, H1, I1, r, q1⟩ => ⟨I1.kIn, by
    obtain ⟨v, rfl, q1⟩ := one1_ok q1
    exact run_ox T iC tI F rm hb I1 r hq.symm q1⟩) (star_pl hpl [] X.env) rfl) hd)
theorem aft_xd {sb : Bool} {σ : Sl} {H H1 : Hp} {F F1 S S2 : AS} {e1 : Nv} {d : Addr} {l : List (Str × V)} (a : AftT sb σ H F S H1 F1 e1 S2) (hd : H1 d = none) : AftT sb σ H F S (upd H1 d (.xd l)) F1 e1 S2 := a.grow ((Ext.refl H1).new hd)
theorem sd_rai {c w : Str} {fa : Option (Str × E)} {st : Stmt} (G : GdS g N p X sc) (h : chkS g N sc L (.rai c w fa) st = true) : PS X st (tS p W L (.rai c w fa)) := by
  cases fa with
  | none =>
    unfold chkS at h
    split at h
    case h_2 => cases h
    simp only [Bool.and_eq_true, decide_eq_true_eq, List.any_eq_true] at h
    obtain ⟨rfl, h1, r, hr, rfl⟩ := h
    obtain ⟨g1, g2, _⟩ := okGl_ok G.G h1
    obtain ⟨k1, k2, q, fI, fd, e1, e2, ow, T, iC, tI, F, hb⟩ := G.G.exc _ _ _ hr
    refine ps_weak (ps_raise G.G.calm G.G.tk (pmk_rai0 G.G.rm g1 g2 k2 T iC tI F hb (by unfold nX; rw [e2]))) fun D σ H ⟨F0, S, e, rd, z⟩ => fun d hd => ?_
    simp only [exS] at z
    refine z _ _ σ _ F0 S ⟨aft_xd rd.refl.weak hd, fun _ _ => rfl, rfl⟩ ?_
    rw [G.G.xr]
    refine ⟨k1, rfl, d, [.str q.w], rfl, ?_, rfl, RepL.cons ⟨by rw [e1], ow⟩ RepL.nil⟩
    rw [upd_same]
    unfold fldsX
    rw [e2]
    rfl
  | some fa =>
    obtain ⟨f, a⟩ := fa
    unfold chkS at h
    split at h
    case h_2 => cases h
    simp only [Bool.and_eq_true, decide_eq_true_eq, List.any_eq_true] at h
    obtain ⟨rfl, h1, ⟨r, hr, rfl⟩, hp, hv, hx⟩ := h
    obtain ⟨g1, g2, _⟩ := okGl_ok G.G h1
    obtain ⟨k1, k2, q, fI, fd, e1, e2, ow, T, iC, tI, F, hb⟩ := G.G.exc _ _ _ hr
    have ia := (snd a p.Wx X sc _ G.G hx).1
    refine ps_weak (ps_raise G.G.calm G.G.tk (pmk_rai1 G.G.rm g1 g2 k2 T iC tI F hb (by unfold nX; rw [e2]) hp ia)) fun D σ H ⟨F0, S, e, rd, z⟩ => ⟨F0, S, e, rd, ?_⟩
    simp only [exS] at z
    refine vs_bind z fun d e' _ z v H1 F1 S1 S2 k => fun x hd => ?_
    obtain ⟨a1, r1⟩ := k.give rd.fd hv
    refine z _ _ σ _ _ S2 ⟨aft_xd a1.weak hd, fun _ _ => rfl, rfl⟩ ?_
    rw [G.G.xr]
    refine ⟨k1, rfl, x, [v, .str q.w], rfl, ?_, rfl, RepL.cons (Rep.step _ v nos r1 (fun b o y _ => (Ext.refl H1).new hd b o y.1) fun b y => .inl y) (RepL.cons ⟨by rw [e1], ow⟩ RepL.nil)⟩
    rw [upd_same]
    unfold fldsX
    rw [e2]
    rfl
end
end Vm
namespace Vm
open PySem PySem.Spec L2
variable [CN]

section
variable {g : Tab} {N : List Str} {p : Pm} {X : Cx} {sc : Scope} {L : List Nat} {W : Nat}
theorem sd_iff {c : E} {a b : List S} {st : Stmt} (G : GdS g N p X sc) (ia : ∀ xs, chkSs g N sc L a xs = true → PSs X xs (tSs p W L a)) (ib : ∀ xs, chkSs g N sc L b xs = true → PSs X xs (tSs p W L b))
    (h : chkS g N sc L (.iff c a b) st = true) : PS X st (tS p W L (.iff c a b)) := by
  cases st with
  | If C A B pos =>
    simp only [chkS, Bool.and_eq_true] at h
    obtain ⟨hc, ha, hb⟩ := h
    refine ps_weak (ps_if (snd c p.Wx X sc C G.G hc).2.1 (ia A ha) (ib B hb)) fun D σ H ⟨F, S, e, rd, q⟩ => ⟨F, S, e, rd, ?_⟩
    simp only [exS] at q
    refine vs_bind_t q fun t e1 _ q H1 F1 S1 k => ?_
    have q1 := Vs.pre rd.fd k.s q
    cases t with
    | true => rw [if_pos rfl] at q1 ⊢; exact ⟨F1, S1, e1, .of_aftT k, q1⟩
    | false => rw [if_neg Bool.false_ne_true] at q1 ⊢; exact ⟨F1, S1, e1, .of_aftT k, q1⟩
  | _ => exact absurd h Bool.false_ne_true
/-- one turn of a loop -/
theorem vs_loop {σ : Sl} {H : Hp} {F S : AS} {D : Ends} {r : R Fl} {gg : Nv → R Fl} {Nx : Sl → Hp → Prop} (h : Vs p L σ H F S (r.bind fun fl e2 => match fl with | .next => gg e2 | .cnt => gg e2 | .brk => .ok .next e2 | .ret d => .ok (.ret d) e2) D)
    (hN : ∀ e' σ' H' F' S', AfS L σ σ' H F S H' F' e' S' → Vs p L σ H F S (gg e') D → Nx σ' H') : Vs p L σ H F S r { D with nx := Nx, ct := Nx, bk := D.nx } := by
  cases r with
  | ok fl e' =>
    cases fl with
    | next => exact fun σ' H' F' S' a => hN e' σ' H' F' S' a h
    | cnt => exact fun σ' H' F' S' a => hN e' σ' H' F' S' a h
    | brk => exact h
    | ret d => exact h
  | ex x e' => exact h
  | bad => exact h
theorem sd_whl {c : E} {b : List S} {st : Stmt} (G : GdS g N p X sc) (ib : ∀ xs, chkSs g N sc L b xs = true → PSs X xs (tSs p W L b))
    (h : chkS g N sc L (.whl c b) st = true) : PS X st (tS p W L (.whl c b)) := by
  cases st with
  | While C B O pos =>
    cases O with
    | cons o r => exact absurd h Bool.false_ne_true
    | nil =>
      simp only [chkS, Bool.and_eq_true] at h
      obtain ⟨hc, hb⟩ := h
      refine ps_weak (ps_while G.ps (snd c p.Wx X sc C G.G hc).2.1 (ib B hb)) fun D σ H ⟨F, S, e, rd, q⟩ => ?_
      simp only [exS] at q
      refine ⟨fun n σ1 H1 => ∃ F1 S1 e1, AfS L σ σ1 H F S H1 F1 e1 S1 ∧ Vs p L σ1 H1 F1 S1 (whlGo (fun e => asB (ev p.C c e)) (fun e => exs p.C W b e) n e1) D, ⟨W, F, S, e, AfS.refl rd, q⟩, fun m σ1 H1 ⟨F1, S1, e1, a1, q1⟩ => ?_⟩
      cases m with
      | zero => exact q1.elim
      | succ m =>
        rw [whlGo] at q1
        have rd1 : Rdy H1 F1 S1 e1 σ1 := .of_aftT a1.t
        refine ⟨F1, S1, e1, rd1, vs_bind_t q1 fun t e2 _ q2 H2 F2 S2 k => ?_⟩
        have q3 := Vs.pre rd1.fd k.s q2
        have a2 := a1.trans rd.fd (k.s (L := L))
        have rd2 : Rdy H2 F2 S2 e2 σ1 := .of_aftT k
        cases t with
        | true =>
          rw [if_pos rfl] at q3 ⊢
          refine ⟨fun σ3 H3 => ∃ F3 S3 e3, AfS L σ σ3 H F S H3 F3 e3 S3 ∧ Vs p L σ3 H3 F3 S3 (whlGo (fun e => asB (ev p.C c e)) (fun e => exs p.C W b e) m e3) D, fun σ3 H3 z => ⟨m, Nat.lt_succ_self m, z⟩, F2, S2, e2, rd2, ?_⟩
          exact vs_loop q3 fun e3 σ3 H3 F3 S3 a3 q4 => ⟨F3, S3, e3, a2.trans rd.fd a3, Vs.pre rd2.fd a3 q4⟩
        | false =>
          rw [if_neg Bool.false_ne_true] at q3 ⊢
          exact q3 σ1 H2 F2 S2 (.refl rd2)
  | _ => exact absurd h Bool.false_ne_true
/-- the iterator has given a thing -/
theorem aft_yld {σ : Sl} {H H' : Hp} {F S : AS} {e : Nv} (rd : Rdy H F S e σ) (hy : H' = H ∨ ∃ T t, H T = none ∧ H' = upd H T (.tup t)) : AftT false σ H F S H' F e S ∧ ∀ a o, H a = some o → H' a = some o := by
  have kp : ∀ a o, H a = some o → H' a = some o := fun a o h => by
    rcases hy with rfl | ⟨T, t, hT, rfl⟩
    · exact h
    · exact upd_keep hT h
  have kn : ∀ a, H a ≠ none → H' a ≠ none := fun a h z => h (by
    cases q : H a with
    | none => rfl
    | some o => rw [kp a o q] at z; cases z)
  exact ⟨⟨⟨fun a o h ns => kp a o h.1, fun a h => .inl h, fun a h ns => h, kn, rd.fd.hard (fun a o h _ => kp a o h) fun a h => kn a (rd.fd a h)⟩, rd.er.step (fun a o h _ => kp a o h.1) fun a h => .inl h, rd.sf, fun a h => .inl h, fun z => by cases z⟩, kp⟩
theorem sd_for {t : Tg} {ik : Ik} {is : List E} {b : List S} {st : Stmt} (G : GdS g N p X sc) (ib : ∀ xs, chkSs g N sc L b xs = true → PSs X xs (tSs p W L b))
    (h : chkS g N sc L (.for_ t ik is b) st = true) : PS X st (tS p W L (.for_ t ik is b)) := by
  cases st with
  | For T I B O pos =>
    cases O with
    | cons o r => exact absurd h Bool.false_ne_true
    | nil =>
      simp only [chkS, Bool.and_eq_true, List.all_eq_true] at h
      obtain ⟨hp, hT, hk, ht, hL, hv, hi, hb⟩ := h
      have hL : (tgSlots t).all (fun k => L.contains k) = true := List.all_eq_true.mpr hL
      have hpi : PI X T I (tI p ik is true) := by
        cases ik with
        | seq =>
          cases is with
          | nil => cases hi
          | cons a r =>
            simp only [chkIt, chkOne, Bool.and_eq_true, List.isEmpty_iff] at hi
            obtain ⟨rfl, hi⟩ := hi
            exact pi_seq (snd a p.Wx X sc I G.G hi).1 fun _ => hv a (by simp)
        | _ =>
          simp only [chkIt] at hi
          split at hi
          · simp only [Bool.and_eq_true, decide_eq_true_eq] at hi
            obtain ⟨h1, h2, h3, h4, h5⟩ := hi
            refine pi_call G.G (by decide) (fun z => ?_) h1 h2 h3 h4 h5 ((sndL is).fes p.Wx X sc _ G.G h5)
            first
              | (rcases z with z | z <;> cases z; done)
              | (cases t with
                | tup ts =>
                  cases T with
                  | Tuple es k q => exact ⟨es, k, q, rfl⟩
                  | _ => exact absurd ht Bool.false_ne_true
                | nm j => exact absurd hk Bool.false_ne_true)
          · cases hi
      have hg := tg_ok (X := X) (fn := fun _ => true) G.G.hN G.G.nd G.G.calm G.G.sc (fun x _ => G.fn x) t T ht
      refine ps_weak (ps_for G.ps G.G.calm hpi hg (ib B hb) (fun x => sole_pl hp X.env x)) fun D σ H ⟨F, S, e, rd, q⟩ => ⟨F, S, e, rd, ?_⟩
      simp only [exS] at q
      cases hr : evs p.C is e with
      | bad => rw [hr] at q; exact q.elim
      | ex x e1 => rw [hr] at q; exact fun cls dd H' F' S2 a xr => q cls dd σ H' F' S2 ⟨a, fun _ _ => rfl, rfl⟩ xr
      | ok xs e1 =>
        rw [hr, R.bind_ok] at q
        cases hds : itemsD ik xs with
        | none => rw [hds] at q; exact q.elim
        | some ds =>
          rw [hds] at q
          simp only at q
          refine ⟨ds, hds, fun vs H1 F1 S1 S2 J k jok => ?_⟩
          have q1 := Vs.pre rd.fd (k.t.s (L := L)) q
          have rd1 : Rdy H1 F1 S2 e1 σ := .of_aftT k.t
          refine ⟨fun i m σ' H' => ∃ F' S' e', AfS L σ σ' H1 F1 S2 H' F' e' S' ∧ RepL H' F' xs vs S1 ∧ Sb S1 F' ∧ Dj S1 S' ∧ m = ds.length - i ∧ Vs p L σ' H' F' S' (forGo (asgT t) (fun e => exs p.C W b e) (ds.drop i) e') D,
            ⟨ds.length, F1, S2, e1, AfS.refl rd1, k.rep, k.s1 rfl, k.dj rfl, by simp, q1⟩, fun i m σ' H' ⟨F', S', e', a', rp, sf, dj, hm, q'⟩ => ?_⟩
          obtain ⟨j1, j2⟩ := jok H' F' i rp
          have rd' : Rdy H' F' S' e' σ' := .of_aftT a'.t
          cases hd : ds[i]? with
          | none =>
            have hl : ds.length ≤ i := List.getElem?_eq_none_iff.mp hd
            rw [List.drop_eq_nil_of_le hl, forGo] at q'
            exact .inl ⟨j2 hl, q' σ' H' F' S' (.refl rd')⟩
          | some d =>
            obtain ⟨go, j3⟩ := j1 d hd
            obtain ⟨hl, hd'⟩ := List.getElem?_eq_some_iff.mp hd
            rw [List.drop_eq_getElem_cons hl, hd', forGo] at q'
            cases ha : asgT t d e' with
            | none => rw [ha] at q'; exact q'.elim
            | some e2 =>
              rw [ha] at q'
              simp only at q'
              refine .inr ⟨go, fun σ3 H3 => ∃ F3 S3 e3, AfS L σ σ3 H1 F1 S2 H3 F3 e3 S3 ∧ RepL H3 F3 xs vs S1 ∧ Sb S1 F3 ∧ Dj S1 S3 ∧ Vs p L σ3 H3 F3 S3 (forGo (asgT t) (fun e => exs p.C W b e) (ds.drop (i + 1)) e3) D,
                fun σ3 H3 ⟨F3, S3, e3, z1, z2, z3, z4, z5⟩ => ⟨ds.length - (i + 1), by omega, F3, S3, e3, z1, z2, z3, z4, rfl, z5⟩, fun x Hy hy => ?_⟩
              obtain ⟨hy1, hy2⟩ := j3 x Hy hy
              obtain ⟨ay, ky⟩ := aft_yld rd' hy1
              refine ⟨F', nos, S', d, e', e2, hy2 rd'.fd, ay.er, dj_nos, ha, fun σ2 hs2 hl2 er2 => ?_⟩
              have er2 := er2.mono (T := S') fun a z => z.elim (fun z => z.elim) id
              have a2 : AfS L σ' σ2 H' F' S' Hy F' e2 S' := ⟨⟨ay.ch, er2, ay.s2, ay.n2, fun z => by cases z⟩, fun j hj => hs2 j (sub_L hL hj), hl2⟩
              have rd2 : Rdy Hy F' S' e2 σ2 := .of_aftT a2.t
              have q2 := Vs.pre rd'.fd a2 q'
              refine ⟨F', S', e2, rd2, vs_loop q2 fun e3 σ3 H3 F3 S3 a3 q4 => ?_⟩
              refine ⟨F3, S3, e3, (a'.trans rd1.fd a2).trans rd1.fd a3, ?_, fun a z => a3.t.ch.old a (sf a z) (dj a z), fun a z w => (a3.t.n2 a w).elim (dj a z) fun n => ?_, Vs.pre rd2.fd a3 q4⟩
              · exact RepL.step xs vs S1 (RepL.step xs vs S1 rp (fun a o h _ => ky a o h.1) fun a h => .inl h) (fun a o h z => a3.t.ch.keep a o h fun w => z.elim (fun z => z (rd2.sf a w)) fun z => dj a z w) a3.t.ch.new
              · exact rd2.fd a (sf a z) n
  | _ => exact absurd h Bool.false_ne_true
mutual
theorem sdS : ∀ (s : S) (st : Stmt), GdS g N p X sc → chkS g N sc L s st = true → PS X st (tS p W L s)
  | .asg t x, st, G, h => sd_asg G h
  | .six i k v, st, G, h => sd_six G h
  | .aug i o x, st, G, h => sd_aug G h
  | .app i x, st, G, h => sd_app G h
  | .ins i k x, st, G, h => sd_ins G h
  | .m0 k i, st, G, h => sd_m0 G h
  | .pap p x, st, G, h => sd_pap G h
  | .pm0 k p, st, G, h => sd_pm0 G h
  | .pst p k v, st, G, h => sd_pst G h
  | .apx i j l, st, G, h => sd_apx G h
  | .ext i x, st, G, h => sd_ext G h
  | .rem i x, st, G, h => sd_rem G h
  | .fst cs i f x, st, G, h => sd_fst G h
  | .exp x, st, G, h => sd_exp G h
  | .iff c a b, st, G, h => sd_iff G (fun xs => sdSs a xs G) (fun xs => sdSs b xs G) h
  | .whl c b, st, G, h => sd_whl G (fun xs => sdSs b xs G) h
  | .for_ t ik is b, st, G, h => sd_for G (fun xs => sdSs b xs G) h
  | .rai c w fa, st, G, h => sd_rai G h
  | .ret x, st, G, h => sd_ret G h
  | .retN, st, G, h => sd_retN h
  | .brk, st, G, h => sd_brk h
  | .cnt, st, G, h => sd_cnt h
  | .pas, st, G, h => sd_pas h
  | .nev, st, G, h => ⟨fun pins s σ H D I ⟨F, S, e, rd, q⟩ => q.elim⟩
theorem sdSs : ∀ (s : List S) (sts : List Stmt), GdS g N p X sc → chkSs g N sc L s sts = true → PSs X sts (tSs p W L s)
  | [], sts, G, h => by
    simp only [chkSs, List.isEmpty_iff] at h
    subst h
    refine pss_weak pss_nil fun D σ H ⟨F, S, e, rd, q⟩ => ?_
    simp only [exs] at q
    exact q σ H F S (.refl rd)
  | s :: r, sts, G, h => by
    cases sts with
    | nil => cases h
    | cons st sts =>
      simp only [chkSs, Bool.and_eq_true] at h
      refine pss_weak (pss_cons (sdS s st G h.1) (sdSs r sts G h.2)) fun D σ H ⟨F, S, e, rd, q⟩ => ⟨F, S, e, rd, ?_⟩
      simp only [exs] at q
      cases hr : exS p.C W s e with
      | ok fl e1 =>
        rw [hr, R.bind_ok] at q
        cases fl with
        | next => exact fun σ' H' F' S' a => ⟨F', S', e1, .of_aftT a.t, Vs.pre rd.fd a q⟩
        | _ => exact q
      | ex x e1 => rw [hr] at q; exact q
      | bad => rw [hr] at q; exact q
end
end
end Vm
namespace Vm
open PySem PySem.Spec L2
section
variable [CN]
theorem ERs.pad {H : Hp} {F : AS} : ∀ {e : Nv} {σ : Sl} {S : AS} (k : Nat), ERs H F e σ S → ERs H F (e ++ List.replicate k none) (σ ++ List.replicate k none) S
  | [], σ, S, k, h => by
    rw [show σ = [] from h]
    show ERs H F (List.replicate k none) (List.replicate k none) S
    induction k with
    | zero => rfl
    | succ k ih => exact ⟨none, _, nos, S, rfl, fun d hd => (by cases hd), ih, dj_nos, sb_nos, Sb.refl⟩
  | o :: e, σ, S, k, h => by
    obtain ⟨u, r, S1, S2, rfl, h1, h2, dj, s1, s2⟩ := h
    exact ⟨u, _, S1, S2, rfl, h1, ERs.pad k h2, dj, s1, s2⟩
theorem lastP_ers {H : Hp} {F : AS} : ∀ {ks : List Bool} {e : Nv} {σ τ : Sl} {S : AS}, ERs H F e σ S → ks.length = τ.length → τ.length ≤ σ.length → (∀ j : Nat, ks[j]? = some true → σ[j]? = τ[j]?) → ERs H F (lastP ks e) τ S
  | [], e, σ, τ, S, h, hl, hs, hk => by
    have : τ = [] := List.length_eq_zero_iff.mp hl.symm
    subst this
    cases e <;> rfl
  | k :: ks, [], σ, τ, S, h, hl, hs, hk => by
    rw [show σ = [] from h] at hs
    cases τ with
    | nil => cases hl
    | cons t τ => simp at hs
  | k :: ks, o :: e, σ, τ, S, h, hl, hs, hk => by
    obtain ⟨u, r, S1, S2, rfl, h1, h2, dj, s1, s2⟩ := h
    cases τ with
    | nil => cases hl
    | cons t τ =>
      refine ⟨t, τ, S1, S2, rfl, fun d hd => ?_, lastP_ers h2 (by simpa using hl) (by simpa using hs) fun j hj => by simpa using hk (j + 1) (by simpa using hj), dj, s1, s2⟩
      cases k with
      | false => cases hd
      | true =>
        have e0 : u = t := by simpa using hk 0 rfl
        rw [← e0]
        exact h1 d hd
end
/-! ### a def of the text -/
structure FnE where
  x : Str
  /-- where it stands: a global, a method of a class -/
  at_ : Str × Option Str
  name : Str
  qual : Str
  args : Arguments
  body : List Stmt
  scope : Scope
  fn : Fn
  L : List Nat
def nodupB : List Str → Bool
  | [] => true
  | x :: r => !r.contains x && nodupB r
theorem nodupB_ok : ∀ {l : List Str}, nodupB l = true → l.Nodup
  | [], _ => List.nodup_nil
  | x :: r, h => by
    simp only [nodupB, Bool.and_eq_true, Bool.not_eq_true'] at h
    exact List.nodup_cons.mpr ⟨fun z => (by have h1 := h.1; rw [List.contains_iff_mem.mpr z] at h1; exact Bool.noConfusion h1), nodupB_ok h.2⟩
def chkFn (g : Tab) (q : FnE) : Bool :=
  decide (q.scope.kind = .function) && (!q.scope.isCoroutine && (!q.scope.isGenerator && (nodupB q.fn.N && (decide (q.fn.N.take q.fn.ps.length = q.fn.ps) &&
  (q.fn.ps.all (fun x => decide (q.scope.names.lookup x = some .local) || decide (q.scope.names.lookup x = some .cell)) && (q.scope.names.all (fun y => !decide (y.2 = .free)) &&
  (decide (q.fn.keep.length = q.fn.ps.length) && ((List.range q.fn.keep.length).all (fun j => !(q.fn.keep.getD j false) || !q.L.contains j) && chkSs { g with rb := decide (q.x = ("law" : Str)), lam := g.lams.contains q.x } q.fn.N q.scope q.L q.fn.body q.body))))))))
structure ChkFn (g : Tab) (q : FnE) : Prop where
  sc : FnScope q.fn.N q.fn.ps q.scope
  kl : q.fn.keep.length = q.fn.ps.length
  kp : ∀ j : Nat, q.fn.keep[j]? = some true → j ∉ q.L
  ch : chkSs { g with rb := decide (q.x = ("law" : Str)), lam := g.lams.contains q.x } q.fn.N q.scope q.L q.fn.body q.body = true
theorem chkFn_ok {g : Tab} {q : FnE} (h : chkFn g q = true) : ChkFn g q := by
  simp only [chkFn, Bool.and_eq_true, decide_eq_true_eq, Bool.not_eq_true', List.all_eq_true, Bool.or_eq_true, decide_eq_false_iff_not] at h
  obtain ⟨h1, h2, h3, h4, h5, h6, h7, h8, h9, h10⟩ := h
  refine ⟨⟨h1, h2, h3, nodupB_ok h4, h5, h6, h7⟩, h8, fun j hj hm => ?_, h10⟩
  have hl : j < q.fn.keep.length := (List.getElem?_eq_some_iff.mp hj).1
  have := h9 j (List.mem_range.mpr hl)
  rw [List.getD_eq_getElem?_getD, hj] at this
  rcases this with z | z
  · cases z
  · rw [List.contains_iff_mem.mpr hm] at z; cases z
/-- the text's defs as they stand -/
def codeOf (K : PySem.W.Frag) (a : Addr) : Option Value := match K.lookup a with
  | some ⟨_, _, .func fd, _⟩ => some fd.code
  | _ => none
def lamQ (q : FnE) : Str := (PyProof.Rows.envOfC q.qual q.scope 0 0 .none).qual ++ "<lambda>"
structure PgOk [CN] (g : Tab) (es : List FnE) (cs : List (Addr × Addr)) (K : PySem.W.Frag) (w : World) (mg : Str → Option Value) : Prop where
  free : ∀ x, x ∈ g.free → mg x = none
  cons : ∀ q, q ∈ g.cons → ∃ u v, mg q.1 = some u ∧ RelV v u ∧ ∀ H F, Rep H F q.2 v nos
  fns : g.fns = es.map fun q => (q.x, q.fn)
  chk : es.all (chkFn g) = true
  defs : ∀ q, q ∈ es → ∃ fd, FunD K q.name q.qual q.args q.body q.scope [] [] (CN.ad q.x) fd ∧ (∀ (s : Shared) (us : List Value), us.length = q.fn.ps.length → BindsTo s fd ⟨us, []⟩ (q.fn.ps.zip us)) ∧
    (∀ n ks perm, (q.x, n, ks, perm) ∈ g.kws → ∀ (s : Shared) (us ws : List Value), us.length = n → ws.length = ks.length → BindsTo s fd ⟨us, ks.zip ws⟩ (q.fn.ps.zip (permL perm (us ++ ws))))
  glo : ∀ f, f ∈ g.globs → mg f = some (.ref (CN.ad f)) ∧ PySem.W.keepIn K (.ref (CN.ad f)) = true
  meth : ∀ c m k, (c, m, k) ∈ g.mets → Cls K (CN.cn c) ∧ Meth K (CN.cn c) m (CN.ad k)
  mak : ∀ c k, (c, k) ∈ g.mks → mg c = some (.ref (CN.cn c)) ∧ Mk K (CN.cn c) (CN.ad k)
  fld : ∀ c f, (c, f) ∈ g.flds → Cls K (CN.cn c) ∧ NoAttr K (CN.cn c) f
  isi : ∀ c, c ∈ g.iscs → mg c = some (.ref (CN.cn c)) ∧ Cls K (CN.cn c) ∧ IsiK K (CN.cn c)
  exc : ∀ c w' f, (c, w', f) ∈ g.excs → c ∈ CN.ex ∧ mg c = some (.ref (CN.cn c)) ∧ ∃ (q : XcE) (fI : Addr) (fd : FuncData), q.w = w' ∧ q.f = f ∧ okS w' ∧ OxC K (CN.cn c) ∧ PySem.W.findIn K (.ref (CN.cn c)) "__init__" = some (some (.ref fI)) ∧ PySem.W.typeIn K (.ref fI) = some (.type "function") ∧
    FunD K q.name q.qual q.args q.body q.scope [] [] fI fd ∧ chkX q = true ∧ PySem.W.findIn K (.ref (CN.cn c)) "word" = some none ∧ (∀ f, q.f = some f → PySem.W.findIn K (.ref (CN.cn c)) f = some none) ∧ ∀ (s : Shared) (us : List Value), us.length = q.ps.length → BindsTo s fd ⟨us, []⟩ (q.ps.zip us)
  lams : ∀ q, q ∈ es → g.lams.contains q.x = true → ∃ c P, (c, P) ∈ cs ∧ codeOf K (CN.ad q.x) = some (.ref c) ∧ (P, lamQ q) ∈ CN.tb ∧ ∀ p ∈ CN.tb, p.1 = P → p.2 = lamQ q
  tryd : (∃ x, g.lams.contains x = true) → ∃ DE MI NL, TryD K mg DE MI NL ∧ ∀ c ∈ CN.ex, XcF K (CN.cn c) ∧ PySem.W.exmAny K (.ref (CN.cn c)) [.ref DE, .ref MI] = some (!decide (c = ("NothingLeft" : Str))) ∧ (c = ("NothingLeft" : Str) → PySem.W.exmAny K (.ref (CN.cn c)) [.ref NL] = some true)
  dcs : ∀ x kvs, (x, kvs) ∈ g.dcts → ∃ p, mg x = some (.ref p) ∧ ∀ k v, kvs.lookup k = some v → KDct K w p k (.str v) ∧ okS v
theorem lookup_map {es : List FnE} {f : Str} {fn : Fn} (h : (es.map fun q => (q.x, q.fn)).lookup f = some fn) : ∃ q ∈ es, q.x = f ∧ q.fn = fn := by
  induction es with
  | nil => cases h
  | cons q es ih =>
    rw [List.map_cons, List.lookup_cons] at h
    split at h
    · rename_i hb
      cases h
      exact ⟨q, by simp, (beq_iff_eq.mp hb).symm, rfl⟩
    · obtain ⟨q', h1, h2⟩ := ih h
      exact ⟨q', by simp [h1], h2⟩
section
variable [CN] {g : Tab} {es : List FnE} {cs : List (Addr × Addr)} {P : Program} {w : World} {K : PySem.W.Frag} {mg : Str → Option Value} {base : Heap}
theorem body_ok (O : PgOk g es cs K w mg) (hTB : ∀ p ∈ cs, LamX.TabB base mg p.1 p.2) {k : Nat} (ih : ∀ q : FnE, q ∈ es → q.x ≠ ("law" : Str) → g.fn q.x = some q.fn → ∀ a, a = CN.ad q.x → ∀ fd, FunD K q.name q.qual q.args q.body q.scope [] [] a fd → ∀ W, FnOk P w K mg base (L2.CX P w) (5 * k) a fd q.fn.ps (spC (callN g.fn W k) XRv q.x q.fn.ps.length))
    {q : FnE} (hq : q ∈ es) (hf : g.fn q.x = some q.fn) {a : Addr} (ha : a = CN.ad q.x) (W : Nat) (cdv : Value) (hcode : codeOf K a = some cdv) (A : Around) (outer : List Env) (s : Shared) (H : Hp) (vs : List V) (Q : VK) (E : XK) (hr : Room (5 * k + 4) (A.deeper (PyProof.Rows.envOfC q.qual q.scope s.heap.objs.size a cdv)))
    (hgd : q.x = ("law" : Str) → (A.deeper (PyProof.Rows.envOfC q.qual q.scope s.heap.objs.size a cdv)).guards = some []) (hs : spC (callN g.fn W (k + 1)) XRv q.x q.fn.ps.length vs H Q E) :
    ∃ t, PSs (cxOf (L2.CX P w) P w K mg base q.fn.N q.qual q.scope a cdv A outer s H E) q.body t ∧ t { nx := fun _ H' => Q .non H', rt := Q } (L2.start q.fn.N vs) H := by
  have ck := chkFn_ok (List.all_eq_true.mp O.chk q hq)
  obtain ⟨hn, F, S, ds, rd, h⟩ := hs
  refine ⟨tSs ⟨callN g.fn W k, XRv, fun cls d _ H' => E cls d H'⟩ W q.L q.fn.body, sdSs q.fn.body q.body ?_ ck.ch, ?_⟩
  · refine ⟨⟨rfl, ck.sc.nd, rfl, rfl, ?_, O.free, O.cons, takes_of rfl rfl rfl rfl, rfl, hr.mono (by omega), fun c w' f hm => ?_, fun z => ?_, ⟨5 * k, hr.mono (by omega), fun _ => hr, fun f fn hf => ?_⟩, O.glo, O.meth, O.mak, O.fld, fun z => hgd (of_decide_eq_true z), O.isi, O.dcs⟩, ck.sc.kind, passes_of rfl, fun _ => rfl⟩
    · have := hr.un; show (A.deeper (PyProof.Rows.envOfC q.qual q.scope s.heap.objs.size a cdv)).units + 200 < cLine; omega
    · obtain ⟨x1, x2, q', fI, fd, y1, y2, y3, y4, y5, y6, y7, y8, y9, y10, y11⟩ := O.exc _ _ _ hm
      exact ⟨x1, x2, q', fI, fd, y1, y2, y3, y4, y5, y6, initX_ok y7 y8 y4 y9 y10, fun s us _ hl => (by rw [List.append_nil] at hl ⊢; exact y11 s us hl)⟩
    · obtain ⟨c, P', m1, m2, m3, m4⟩ := O.lams q hq z
      obtain ⟨DE, MI, NL, T, m5⟩ := O.tryd ⟨_, z⟩
      rw [← ha, hcode] at m2
      injection m2 with m2
      exact ⟨c, P', DE, MI, NL, m2, hTB _ m1, m3, m4, T, m5⟩
    · have hfl : f ≠ ("law" : Str) ∧ g.fn f = some fn := by
        have z : (if f = ("law" : Str) then none else g.fn f) = some fn := hf
        by_cases c : f = ("law" : Str)
        · rw [if_pos c] at z; cases z
        · rw [if_neg c] at z; exact ⟨c, z⟩
      obtain ⟨hne, hf⟩ := hfl
      obtain ⟨q', hq', rfl, rfl⟩ := lookup_map (es := es) (f := f) (fn := fn) (by rw [← O.fns]; exact hf)
      obtain ⟨fd, i2, i3, i5⟩ := O.defs q' hq'
      exact ⟨fd, fun s us _ hl => (by rw [List.append_nil] at hl ⊢; exact i3 s us hl), ih q' hq' hne hf _ rfl fd i2 W, fun n ks perm hq s us ws _ => i5 n ks perm hq s us ws⟩
  · have hl : ds.length = vs.length := by simpa using rd.er.len.symm
    have rd' : Rdy H F S (ds.map some ++ List.replicate (q.fn.N.length - ds.length) none) (L2.start q.fn.N vs) := by
      rw [hl]
      exact ⟨rd.er.pad _, rd.sf, rd.fd⟩
    refine ⟨F, S, _, rd', ?_⟩
    rw [callN, hf] at h
    simp only at h
    rw [if_pos (hl.trans hn)] at h
    have hlen : (vs.map some).length = q.fn.ps.length := by rw [List.length_map]; exact hn
    have pre : ∀ (j : Nat), j < q.fn.ps.length → (L2.start q.fn.N vs)[j]? = (vs.map some)[j]? := fun j hj => by
      unfold L2.start
      rw [List.getElem?_append_left (by rw [hlen]; exact hj)]
    have lst : ∀ {σ' H' F' e' S'}, AfS q.L (L2.start q.fn.N vs) σ' H F S H' F' e' S' → AftT false (vs.map some) H F S H' F' (lastP q.fn.keep e') S' := fun {σ' H' F' e' S'} a => by
      refine ⟨a.t.ch, lastP_ers a.t.er (ck.kl.trans hlen.symm) ?_ (fun j hj => ?_), a.t.s2, a.t.n2, fun z => by cases z⟩
      · rw [a.len]
        unfold L2.start
        rw [List.length_append]
        exact Nat.le_add_right _ _
      · have hjl : j < q.fn.ps.length := by rw [← ck.kl]; exact (List.getElem?_eq_some_iff.mp hj).1
        rw [a.same j (ck.kp j hj), pre j hjl]
    cases hr : exs (callN g.fn W k) W q.fn.body (ds.map some ++ List.replicate (q.fn.N.length - ds.length) none) with
    | ok fl e' =>
      rw [hr] at h
      cases fl with
      | next =>
        intro σ' H' F' S' af
        have t := lst af
        exact h .non H' F' nos S' ⟨t.ch, rfl, t.er, fun _ => sb_nos, t.s2, t.n2, fun _ => dj_nos, fun _ _ z => z.elim, fun z => by cases z⟩
      | ret d =>
        intro v σ' H' F' S1 S' af rp s1 dj n1
        have t := lst af
        exact h v H' F' S1 S' ⟨t.ch, rp, t.er, fun _ => s1, t.s2, t.n2, fun _ => dj, fun _ => n1, fun z => by cases z⟩
      | brk => exact h.elim
      | cnt => exact h.elim
    | ex x e' =>
      rw [hr] at h
      intro cls dd σ' H' F' S' af xr
      exact h cls dd H' F' S' (lst af) xr
    | bad => rw [hr] at h; exact h.elim
theorem fns_ok (O : PgOk g es cs K w mg) (hTB : ∀ p ∈ cs, LamX.TabB base mg p.1 p.2) (hK : K.In base) (hmg : base.Ns mainGlobals mg) : ∀ (k : Nat) (q : FnE), q ∈ es → q.x ≠ ("law" : Str) → g.fn q.x = some q.fn → ∀ a, a = CN.ad q.x → ∀ fd, FunD K q.name q.qual q.args q.body q.scope [] [] a fd →
    ∀ W, FnOk P w K mg base (L2.CX P w) (5 * k) a fd q.fn.ps (spC (callN g.fn W k) XRv q.x q.fn.ps.length) := by
  intro k
  induction k with
  | zero =>
    intro q hq hne hf a ha fd h2 W
    refine ⟨fun vs H Q E h => h.1, fun A outer s H args us vs Q E hr he hb hv ⟨_, F, S, ds, _, h⟩ => ?_⟩
    exact h.elim
  | succ k ih =>
    intro q hq hne hf a ha fd h2 W
    have ck := chkFn_ok (List.all_eq_true.mp O.chk q hq)
    show FnOk P w K mg base (L2.CX P w) (5 * k + 4 + 1) a fd q.fn.ps _
    obtain ⟨oc, od, dV, kV, doc, pm, an, cdv, ct, osl, rfl, lk, hcd, _, _⟩ := h2.ex
    exact fn_of lk hcd ck.sc (fun vs H Q E h => h.1) fun A outer s H vs Q E hr hs => body_ok O hTB ih hq hf ha W cdv (by unfold codeOf; rw [lk]) A outer s H vs Q E hr (fun z => absurd z hne) hs
/-- the law's own call, where no repr is under way -/
theorem law_at (O : PgOk g es cs K w mg) (hTB : ∀ p ∈ cs, LamX.TabB base mg p.1 p.2) (hK : K.In base) (hmg : base.Ns mainGlobals mg) {k : Nat} {q : FnE} (hq : q ∈ es) (hf : g.fn q.x = some q.fn) {a : Addr} (ha : a = CN.ad q.x) {fd : FuncData} (F : FunD K q.name q.qual q.args q.body q.scope [] [] a fd) (W : Nat)
    {A : Around} (ag : A.guards = some []) (hr : Room (5 * (k + 1)) A) {outer : List Env} {s : Shared} {H : Hp} (e0 : Env0 P w K mg base A outer s H) {args : Args} {us : List Value} (hb : BindsTo s fd args (q.fn.ps.zip us)) {vs : List V} (rv : Vals vs us)
    {Q : VK} {E : XK} (hs : spC (callN g.fn W (k + 1)) XRv q.x q.fn.ps.length vs H Q E) : codeAny (model P w) A (.call (.ref a) args) (CR (L2.CX P w) outer P w H s Q E) s := by
  have ck := chkFn_ok (List.all_eq_true.mp O.chk q hq)
  have S := ck.sc
  have hl : vs.length = q.fn.ps.length := hs.1
  obtain ⟨oc, od, dV, kV, doc, pm, an, cdv, ct, osl, rfl, lk, hcd, _, _⟩ := F.ex
  have there : K.In s.heap := e0.mod.kin.keeps fun b o z => (e0.bs b o z).1
  have free : s.heap.NoLimit := e0.mod.nolimit.keeps fun b o z => (e0.bs b o z).1
  refine codeAny_call_function hr.depth (there _ _ lk) rfl S.co S.gen rfl (PySem.W.codeRec_of there hcd) (hb _ _ _ _ (wpAny_newFunctionEnv_cells S.kind (fun y hy => ?_) fun env he s1 ic => ?_))
  · obtain ⟨n, v⟩ := y
    exact (S.par n (List.of_mem_zip hy).1).imp id fun z => ⟨z, PySem.W.cellsFrom_some _ _ _ (.inl z)⟩
  · subst he
    refine ⟨free.keeps ic.toInCall.keep, codeAny_func ?_⟩
    have hr2 : Room (5 * k + 4) (A.deeper (PyProof.Rows.envOfC q.qual q.scope s.heap.objs.size a cdv)) := Room.deeper (show Room (5 * k + 4 + 1) A from hr) _
    obtain ⟨t, ht, hq2⟩ := body_ok (P := P) (w := w) (base := base) O hTB (fns_ok O hTB hK hmg k) hq hf ha W cdv (by unfold codeOf; rw [lk]) A outer s H vs Q E hr2 (fun _ => ag) hs
    have I : L2.Inv (cxOf (L2.CX P w) P w K mg base q.fn.N q.qual q.scope a cdv A outer s H E) [] (L2.start q.fn.N vs) H s1 := inv_start S hr.hd e0 hl rv ic
    have done : ∀ {σ' : L2.St} {H' : Hp} {v : V} {u : Value} {s' : Shared}, L2.Inv (cxOf (L2.CX P w) P w K mg base q.fn.N q.qual q.scope a cdv A outer s H E) [] σ' H' s' → RelV v u → Q v H' → CE outer P w H s Q u s' := fun {σ' H' v u s'} J r z => ⟨v, H', J.os, J.bare, J.base, J.hok, r, z⟩
    refine wpAny_mono (ht.run [] s1 (L2.start q.fn.N vs) H _ I hq2) (fun fl s' z => ?_) fun e s' z => z
    cases fl with
    | ret u =>
      obtain ⟨v, σ', H', J, r, z⟩ := z
      exact done J r z
    | next =>
      obtain ⟨σ', H', J, z⟩ := z
      exact done (v := V.non) (u := Value.none) J rfl z
    | brk =>
      obtain ⟨_, _, _, z⟩ := z
      exact z.elim
    | cont =>
      obtain ⟨_, _, _, z⟩ := z
      exact z.elim
end
/-! ### a law -/
/-- the facts know of no list -/
def noLst (K : PySem.W.Frag) : Bool := K.all fun q => !decide (q.2.cls = .type "list")
theorem noLst_ok {K : PySem.W.Frag} (h : noLst K = true) {a : Addr} {o : Obj} (e : K.lookup a = some o) : o.cls ≠ .type "list" := by
  induction K with
  | nil => cases e
  | cons q K ih =>
    obtain ⟨b, u⟩ := q
    unfold noLst at h ih
    rw [List.all_cons, Bool.and_eq_true] at h
    rw [List.lookup_cons] at e
    split at e
    · cases e
      simpa using h.1
    · exact ih h.2 e
section
variable [CN]
theorem rep_ints {H : Hp} {F : AS} : ∀ ns : List Int, RepL H F (ns.map D.int) (ns.map V.int) nos
  | [] => rfl
  | n :: ns => RepL.cons rfl (rep_ints ns)
end
/-- the top: the script is tracked, and the tables of code objects -/
theorem law_top {P : Program} {w : World} {K : PySem.W.Frag} {mg mb : Str → Option Value} {CX : CXT} {fa a : Addr} {s₁ : Shared} {vs : List Value} {ns : List Int} {cs : List (Addr × Addr)}
    (kin : K.In s₁.heap) (gns : s₁.heap.Ns mainGlobals mg) (bns : s₁.heap.Ns builtinsNs mb) (bok : ∀ x : Str, x ≠ "__name__" → mb x = bootBuiltins x) (free : s₁.heap.NoLimit) (still : s₁.gens = #[])
    (hT : ∀ p ∈ cs, s₁.heap.get? p.2 = some { cls := .none, data := .fields #[] }) (nT : ∀ p ∈ cs, K.lookup p.2 = none) (hC : ∀ p ∈ cs, PySem.W.CodeHd s₁.heap p.1 p.2)
    (bmn : ∃ (bm : Addr) (ob : Obj), mg "__builtins__" = some (.ref bm) ∧ bm ≠ builtinsNs ∧ s₁.heap.get? bm = some ob ∧ ob.cls = .type "module" ∧ ob.dict = some builtinsNs ∧ ob.data = .plain)
    (obj : s₁.heap.get? a = some { cls := .type "list", data := .seq vs.toArray }) (are : PyProof.Rows.IntsAre vs ns) (room : ns.length ≤ sizeLine)
    (run : ∀ (base : Heap) (H : Hp), K.In base → base.Ns mainGlobals mg → Env0 P w K mg base callerA [] s₁ H → (∀ p ∈ cs, H p.2 = some (.tbl #[])) → (∀ p ∈ cs, LamX.TabB base mg p.1 p.2) → SqL K H a (ns.map V.int) →
      codeAny (model P w) callerA (.call (.ref fa) ⟨[.ref a], []⟩) (CR CX [] P w H s₁ (fun v _ => v = .bl true) fun _ _ _ => False) s₁)
    (calm : ∀ H e s', CX [] H s₁ (fun _ _ _ => False) e s' → False) :
    codeAny (model P w) callerA (.call (.ref fa) ⟨[.ref a], []⟩) (fun r s' => r = .ok (.ret (.bool true)) ∧ OldK s₁.heap s'.heap ∧ s'.os = s₁.os ∧ PyProof.Rows.AllBare s'.gens) s₁ := by
  have rv := vals_ints are
  obtain ⟨L, hL⟩ : ∃ L : List Addr, L = cs.map (·.2) := ⟨_, rfl⟩
  have inL : ∀ p ∈ cs, p.2 ∈ L := fun p hp => hL ▸ List.mem_map.mpr ⟨p, hp, rfl⟩
  have ofL : ∀ {b}, b ∈ L → ∃ p ∈ cs, p.2 = b := fun {b} h => by rw [hL] at h; obtain ⟨p, hp, e⟩ := List.mem_map.mp h; exact ⟨p, hp, e⟩
  have atL : ∀ {b}, b ∈ L → s₁.heap.get? b = some { cls := .none, data := .fields #[] } := fun {b} h => by obtain ⟨p, hp, rfl⟩ := ofL h; exact hT p hp
  have naL : a ∉ L := fun z => by
    have q := atL z
    rw [obj] at q
    have q2 := congrArg Obj.data (Option.some.inj q)
    cases q2
  have main : ∀ H : Hp, (∀ p ∈ cs, H p.2 = some (.tbl #[])) → (∀ b u, H b = some u → b ∈ L ∨ (b = a ∧ ∃ o xs, u = .frz o (.lst xs))) → SqL K H a (ns.map V.int) → HOk P w H s₁.heap → (H a ≠ none → K.lookup a = none) →
      codeAny (model P w) callerA (.call (.ref fa) ⟨[.ref a], []⟩) (fun r s' => r = .ok (.ret (.bool true)) ∧ OldK s₁.heap s'.heap ∧ s'.os = s₁.os ∧ PyProof.Rows.AllBare s'.gens) s₁ := by
    intro H tabs only seq ok out
    have unH : ∀ {b : Addr} {o : Obj}, s₁.heap.get? b = some o → (∀ vs n, o.data ≠ .seq vs n) → o.data ≠ .fields #[] → H b = none := fun {b o} e h1 h2 => by
      cases q : H b with
      | none => rfl
      | some u =>
        exfalso
        rcases only b u q with z | ⟨z, _⟩
        · rw [atL z] at e; cases e; exact h2 rfl
        · rw [z, obj] at e; cases e; exact h1 _ _ rfl
    have put : ∀ {b : Addr} {o : Obj}, s₁.heap.get? b = some o → H b = none → (hidT s₁.heap H).get? b = some o := fun e n => hidT_get e n
    have unD : ∀ {b : Addr} {o : Obj} {es : Array DictEntry} {ep : Nat}, s₁.heap.get? b = some o → o.data = .dict es ep → H b = none := fun {b o es ep} e d => unH e (fun vs n z => by rw [d] at z; cases z) fun z => by rw [d] at z; cases z
    have names : ∀ {b : Addr} {m : Str → Option Value}, s₁.heap.Ns b m → (hidT s₁.heap H).Ns b m := fun {b m} ⟨o, es, ep, e, d, r⟩ => ⟨o, es, ep, put e (unD e d), d, r⟩
    have kin2 : K.In (hidT s₁.heap H) := fun b o e => put (kin b o e) (by
      cases q : H b with
      | none => rfl
      | some u =>
        exfalso
        rcases only b u q with z | ⟨z, _⟩
        · obtain ⟨p, hp, rfl⟩ := ofL z
          rw [nT p hp] at e; cases e
        · subst z
          rw [out (by rw [q]; simp)] at e; cases e)
    have md : Mod K mg (hidT s₁.heap H) := ⟨kin2, names gns, ⟨mb, names bns, bok⟩, let ⟨mc, h1, h2⟩ := free; ⟨mc, names h1, h2⟩⟩
    have tb : ∀ p ∈ cs, LamX.TabB (hidT s₁.heap H) mg p.1 p.2 := fun p hp => by
      obtain ⟨o0, es0, ep0, g1, g2, _⟩ := id gns
      refine ⟨?_, ?_, fun z => ?_⟩
      · obtain ⟨o, us, file, tf, flags, tg, inF, text, tt, e1, r1, r2, r3, r⟩ := hC p hp
        refine ⟨o, us, file, tf, flags, tg, inF, text, tt, put e1 (unH e1 (fun vs n z => by rw [r2] at z; cases z) fun z => ?_), r1, r2, r3, r⟩
        rw [r2] at z
        cases z
        simp at r3
      · obtain ⟨bm, ob, b1, b2, b3, b4, b5, b6⟩ := bmn
        refine ⟨bm, ob, b1, b2, fun q => ?_, fun q => ?_, put b3 (unH b3 (fun vs n z => by rw [b6] at z; cases z) fun z => by rw [b6] at z; cases z), b4, b5, b6⟩
        · rw [q, g1] at b3; cases b3
          rw [g2] at b6; cases b6
        · rw [q, hT p hp] at b3; cases b3
          cases b6
      · rw [z, hT p hp] at g1; cases g1
        cases g2
    have e0 : Env0 P w K mg (hidT s₁.heap H) callerA [] s₁ H := ⟨rfl, md, fun b o e => of_hidT e, Nat.le_of_eq (hidT_size _ _), trivial, fun b z => (List.not_mem_nil z).elim, ok, .of_eq still⟩
    refine codeAny_mono (run _ H kin2 (names gns) e0 tabs tb seq) fun r s' z => ?_
    cases r with
    | error e => exact (calm H e s' z).elim
    | ok fl =>
      cases fl with
      | ret u =>
        obtain ⟨v, H', os, bare, un, ok', rv', q⟩ := z
        obtain rfl : v = .bl true := q
        obtain rfl : u = Value.bool true := rv'
        have more : ∀ b, b ∈ L → ∃ m : Array Value, s'.heap.get? b = some { cls := .none, data := .fields m } := fun b hb => by
          obtain ⟨p, hp, rfl⟩ := ofL hb
          obtain ⟨m, z⟩ := un.tbls p.2 #[] (tabs p hp)
          exact ⟨_, ok' p.2 _ z⟩
        have kept : ∀ b o, b ∉ L → s₁.heap.get? b = some o → s'.heap.get? b = some o := fun b o nb e => by
          cases q : H b with
          | none => exact un.keep b o e q (fun z => List.not_mem_nil z) (fun z => List.not_mem_nil z)
          | some u =>
            rcases only b u q with z | ⟨_, ob, xs, rfl⟩
            · exact absurd z nb
            · obtain ⟨e1, _⟩ := ok b _ q
              obtain ⟨e2, _⟩ := ok' b _ (un.frzs b ob _ q)
              rw [e] at e1
              cases e1
              exact e2
        refine ⟨rfl, ⟨fun b o e => ?_, fun b o e => ?_⟩, os, bare⟩
        · by_cases hb : b ∈ L
          · obtain ⟨m, hm⟩ := more b hb
            rw [atL hb] at e
            cases e
            obtain ⟨p, hp, rfl⟩ := ofL hb
            exact .inr (.inl ⟨((hC p hp).tab (hT p hp)).isCodeTable, rfl, #[], m, rfl, by rw [Array.empty_append]; exact hm⟩)
          · exact .inl (kept b o hb e)
        · by_cases hb : b ∈ L
          · obtain ⟨m, hm⟩ := more b hb
            exact ⟨_, hm⟩
          · exact ⟨o, kept b o hb e⟩
      | next => exact False.elim z
      | brk => exact False.elim z
      | cont => exact False.elim z
  cases hk : K.lookup a with
  | none =>
    obtain ⟨H, hH⟩ : ∃ H : Hp, H = fun b => if b ∈ L then some (HO.tbl #[]) else if b = a then some (HO.frz { cls := .type "list", data := .seq vs.toArray } (.lst (ns.map V.int))) else none := ⟨_, rfl⟩
    have h1 : ∀ b, b ∈ L → H b = some (.tbl #[]) := fun b hb => by rw [hH]; exact if_pos hb
    have h2 : H a = some (HO.frz { cls := .type "list", data := .seq vs.toArray } (.lst (ns.map V.int))) := by rw [hH]; exact (if_neg naL).trans (if_pos rfl)
    have h3 : ∀ b, b ∉ L → b ≠ a → H b = none := fun b hb hn => by rw [hH]; exact (if_neg hb).trans (if_neg hn)
    refine main H (fun p hp => h1 _ (inL p hp)) (fun b u z => ?_) (.inl (.inr ⟨_, h2⟩)) (fun b u z => ?_) fun _ => hk
    · by_cases hb : b ∈ L
      · exact .inl hb
      · by_cases c : b = a
        · rw [c, h2] at z
          cases z
          exact .inr ⟨c, _, _, rfl⟩
        · rw [h3 b hb c] at z; cases z
    · by_cases hb : b ∈ L
      · rw [h1 b hb] at z
        cases z
        exact atL hb
      · by_cases c : b = a
        · rw [c, h2] at z
          cases z
          rw [c]
          exact ⟨obj, by rw [List.length_map]; exact room, vs, _, rv, obj⟩
        · rw [h3 b hb c] at z; cases z
  | some o =>
    have e := kin a o hk
    rw [obj] at e
    cases e
    obtain ⟨H, hH⟩ : ∃ H : Hp, H = fun b => if b ∈ L then some (HO.tbl #[]) else none := ⟨_, rfl⟩
    have h1 : ∀ b, b ∈ L → H b = some (.tbl #[]) := fun b hb => by rw [hH]; exact if_pos hb
    have h3 : ∀ b, b ∉ L → H b = none := fun b hb => by rw [hH]; exact if_neg hb
    refine main H (fun p hp => h1 _ (inL p hp)) (fun b u z => ?_) (.inr ⟨_, vs.toArray, _, hk, rfl, rfl, rfl, by rw [List.size_toArray, are.length]; exact room, by simpa using rv⟩) (fun b u z => ?_) fun z => absurd (h3 a naL) z
    · by_cases hb : b ∈ L
      · exact .inl hb
      · rw [h3 b hb] at z; cases z
    · by_cases hb : b ∈ L
      · rw [h1 b hb] at z
        cases z
        exact atL hb
      · rw [h3 b hb] at z; cases z
/-- what the head must say of the tables -/
structure TabsAt [CN] (K : PySem.W.Frag) (cs : List (Addr × Addr)) (h : Heap) : Prop where
  at_ : ∀ p ∈ cs, h.get? p.2 = some { cls := .none, data := .fields #[] }
  no : ∀ p ∈ cs, K.lookup p.2 = none
  code : ∀ p ∈ cs, PySem.W.CodeHd h p.1 p.2
  tb : ∀ q ∈ CN.tb, ∃ p ∈ cs, q.1 = p.2
/-- the law's end -/
theorem walk_vm {l : PySem.W.OpenLaw} {n k : Nat} {q : Program} {loose : List Str} {XP : (Str → Option Value) → Heap → Prop} {YP : World → Heap → Prop} {d : DefRec} {x : Str} {g : Tab} {es : List FnE} {fn : Fn}
    (hn : l.most = some n) (hn2 : n ≤ sizeLine) (hdf : d.params.defaults = []) (hr : Room (5 * k) callerA) (hfn : g.fn d.name = some fn) (hps : fn.ps = [x])
    (F : ∀ (w : World) (mg : Str → Option Value) (fa : Addr) (h : Heap), YP w h → h.Ns mainGlobals mg → mg d.name = some (.ref fa) → ∃ (K : PySem.W.Frag) (cn : CN) (cs : List (Addr × Addr)), K.In h ∧ PgOk g es cs K w mg ∧ noLst K = true ∧ d.name ∈ g.globs ∧ TabsAt K cs h)
    (hlaw : ∀ ns : List Int, ns.length ≤ n → ∃ W e', callN g.fn W k d.name [.lst false (ns.map .int)] = .ok (.bl true) e') :
    PySem.W.WalkO q loose XP YP l.row.toRowW d [] (fun f vs => PySem.call f vs) := by
  refine Att.attach_call hn hdf fun w s₀ s₁ mg mb fa o pm cd doc a vs ns G Y ho hd hcd hmg hobj hints hlen hg => ?_
  obtain ⟨K, cn, cs, KX, O, nl, hgl, T⟩ := F w mg fa _ Y G.T.g hmg
  have dead : ∀ (H : Hp) e s', L2.CX l.prog w [] H s₁ (fun _ _ _ => False) e s' → False := fun H e s' ⟨_, _, _, _, _, _, _, _, _, _, _, _, z⟩ => z
  obtain ⟨q', hq', hx, rfl⟩ := lookup_map (es := es) (f := d.name) (fn := fn) (by rw [← O.fns]; exact hfn)
  obtain ⟨fd, h2, h3, h4⟩ := O.defs q' hq'
  obtain ⟨h1, _⟩ := O.glo _ hgl
  rw [hmg] at h1
  have h1 : fa = CN.ad d.name := by injection h1 with h1; injection h1
  rw [hx, ← h1] at h2
  refine law_top (CX := L2.CX l.prog w) KX G.T.g G.T.b G.T.builtins G.T.nolimit hg T.at_ T.no T.code G.T.bmain hobj hints (Nat.le_trans hlen hn2) (fun base H hb hm e0 tabs tbb hS => ?_) (dead ·)
  have bind : BindsTo s₁ fd ⟨[.ref a], []⟩ (q'.fn.ps.zip [.ref a]) := h3 s₁ [.ref a] (by rw [hps]; rfl)
  cases k with
  | zero =>
    obtain ⟨W, e', hl⟩ := hlaw ns hlen
    cases hl
  | succ k =>
    obtain ⟨W, e', hl⟩ := hlaw ns hlen
    have hrd : Rd H a (.lst (ns.map V.int)) := by
      rcases hS with hS | ⟨o, its, m, hk, hc, _⟩
      · exact hS
      · exact absurd hc (noLst_ok nl hk)
    have tabs' : LamX.Tabs CN.tb H := fun z hz => by
      obtain ⟨p, hp, e⟩ := T.tb z hz
      rw [e]
      exact LamX.TabS.nil (tabs p hp)
    refine law_at (P := l.prog) (w := w) O tbb hb hm hq' (hx ▸ hfn) (h1.trans (by rw [hx])) h2 W rfl hr e0 bind (vs := [V.ref a]) (.cons rfl .nil) ⟨by rw [hps]; rfl, nos, nos, [.lst false (ns.map .int)], ⟨?_, sb_nos, ⟨fun _ z => z.elim, tabs'⟩⟩, ?_⟩
    · exact ⟨_, [], nos, nos, rfl, fun d hd => (by
        cases hd
        exact ⟨.ref a, rfl, a, ns.map V.int, rfl, by rw [List.length_map]; exact Nat.le_trans hlen hn2, rep_ints ns, .inl ⟨rfl, hrd, id⟩⟩), rfl, dj_nos, sb_nos, sb_nos⟩
    · rw [hx, hl]
      exact fun v H' F' S1 S2 a => a.rep
end Vm
namespace Vm
open PySem PySem.Spec L2
def faC : Str × D → He.Fa
  | (x, .int i) => .int x i
  | (x, .str s) => .str x s
  | (x, _) => .free x
def faOf (g : Tab) (es : List FnE) : List He.Fa := g.globs.map .glo ++ (g.free.map .free ++ (g.cons.map faC ++ (g.mets.flatMap (fun r => [.cls r.1, .meth r.1 r.2.1]) ++ (g.mks.flatMap (fun r => [.glo r.1, .mkr r.1]) ++ (g.flds.flatMap (fun r => [.cls r.1, .noat r.1 r.2]) ++ (g.iscs.flatMap (fun c => [.glo c, .cls c]) ++ g.dcts.map (fun q => .glo q.1)))))))
def ddOf (es : List FnE) : List He.DefD := es.map fun q => ⟨q.at_, q.name, q.qual, q.args, q.body, q.scope, [], []⟩
def xdOf (xs : List XcE) : List He.DefD := xs.map fun q => ⟨(q.c, some "__init__"), q.name, q.qual, q.args, q.body, q.scope, [], []⟩
def fxOf (xs : List XcE) (tr : List He.DefD) : List He.Fa := xs.map (fun q => .glo q.c) ++ (if tr.isEmpty then [] else [.glo "_law_try", .glo "_law_field", .glo "DeskError", .glo "Missing", .glo "NothingLeft"])
abbrev Lms : Type := List ((Str × Option Str) × Str)
/-- the defs with lambdas -/
def lmOf (g : Tab) (es : List FnE) : Lms := (es.filter fun q => g.lams.contains q.x).map fun q => (q.at_, lamQ q)
/-- the addresses, read off the facts -/
@[reducible] def cnK (es : List FnE) (K : PySem.W.Frag) (tb : List (Addr × Str)) (ex : List Str) : CN where
  cn := He.ga K
  ad := fun x => match es.find? (fun q => decide (q.x = x)) with
    | some q => He.fAd K q.at_
    | none => 0
  tb := tb
  ex := ex
theorem ad_of {es : List FnE} {K : PySem.W.Frag} {tb : List (Addr × Str)} {ex : List Str} (nd : nodupB (es.map fun q => q.x) = true) {q : FnE} (hq : q ∈ es) : (cnK es K tb ex).ad q.x = He.fAd K q.at_ := by
  have hn := nodupB_ok nd
  show (match es.find? (fun r => decide (r.x = q.x)) with
    | some q => He.fAd K q.at_
    | none => 0) = _
  cases hf : es.find? (fun r => decide (r.x = q.x)) with
  | none =>
    have := List.find?_eq_none.mp hf q hq
    simp at this
  | some r =>
    have h1 : r.x = q.x := by simpa using List.find?_some hf
    have h2 := List.mem_of_find?_eq_some hf
    obtain ⟨i, hi, ei⟩ := List.getElem_of_mem h2
    obtain ⟨j, hj, ej⟩ := List.getElem_of_mem hq
    have : i = j := (List.getElem_inj (h₀ := by simpa using hi) (h₁ := by simpa using hj) hn).mp (by simp [ei, ej, h1])
    subst this
    show He.fAd K r.at_ = He.fAd K q.at_
    rw [← ei, ← ej]
/-- a method's row: the def of that name of that class; a global's -/
def rowsB (g : Tab) (es : List FnE) : Bool := (g.globs.all fun x => es.any fun q => decide (q.x = x ∧ q.at_ = (x, none))) && ((g.mets.all fun r => es.any fun q => decide (q.x = r.2.2 ∧ q.at_ = (r.1, some r.2.1))) && (g.mks.all fun r => es.any fun q => decide (q.x = r.2 ∧ q.at_ = (r.1, some ("__init__" : Str)))))
/-! ### the head's facts, and that they know of no list -/
def isiB (K : PySem.W.Frag) (cs : List Str) : Bool := cs.all fun c => He.eqO (PySem.W.findIn K (.ref (He.ga K c)) "__class__") (some (some (.builtin "object.__class__"))) && (He.eqO (PySem.W.specialIn K (.builtin "object.__class__") "__get__") (some (some (.builtin "getset_descriptor.__get__"))) &&
  (decide (PySem.W.takesIn K (.builtin "object.__class__") = some true) && decide (PySem.W.mroIn K (He.ga K c) (.type "object") = some true)))
theorem isiB_ok {K : PySem.W.Frag} {cs : List Str} (h : isiB K cs = true) {c : Str} (hc : c ∈ cs) : IsiK K (He.ga K c) := by
  have h1 := List.all_eq_true.mp h c hc
  simp only [Bool.and_eq_true, decide_eq_true_eq] at h1
  exact ⟨He.eqO_ok h1.1, He.eqO_ok h1.2.1, h1.2.2.1, h1.2.2.2⟩
/-- the dicts of the text -/
def tsOf (tt : List (Str × List (Str × Str))) : List He.Tab := tt.map fun q => (fun K => He.ga K q.1, q.2.map (·.1))
def tabB (K : PySem.W.Frag) (tt : List (Str × List (Str × Str))) : Bool := tt.all fun q => He.valsB K (He.ga K q.1) (q.2.map fun kv => (kv.1, He.Dv.str kv.2)) && (q.2.all fun kv => PyData.strOk kv.2 && decide (kv.2.length ≤ sizeLine))
theorem tab_ok {fa : List He.Fa} {fn : List He.DefD} {tt : List (Str × List (Str × Str))} {w : World} {K : PySem.W.Frag} (c : He.SaysT fa fn (tsOf tt) w K) (h : tabB K tt = true) {x : Str} {kvs : List (Str × Str)} (hx : (x, kvs) ∈ tt) {k v : Str} (hl : kvs.lookup k = some v) : KDct K w (He.ga K x) k (.str v) ∧ okS v := by
  have hm : (k, v) ∈ kvs := by
    clear hx h c
    induction kvs with
    | nil => cases hl
    | cons q kvs ih =>
      obtain ⟨k', v'⟩ := q
      rw [List.lookup_cons] at hl
      split at hl
      · rename_i hb
        cases hl
        rw [beq_iff_eq.mp hb]
        exact List.mem_cons_self
      · exact List.mem_cons_of_mem _ (ih hl)
  have h1 := List.all_eq_true.mp h _ hx
  simp only [Bool.and_eq_true, List.all_eq_true, decide_eq_true_eq] at h1
  obtain ⟨i, hi⟩ := List.getElem?_of_mem hx
  obtain ⟨es, n, D⟩ := c.tab i (t := (fun K => He.ga K x, kvs.map (·.1))) (by unfold tsOf; rw [List.getElem?_map, hi]; rfl)
  obtain ⟨u, hu, ru⟩ := He.valsB_ok h1.1 (q := (k, He.Dv.str v)) (List.mem_map.mpr ⟨(k, v), hm, rfl⟩)
  exact ⟨⟨es, n, u, D.at_, D.lit, hu, ru⟩, h1.2 _ hm⟩
/-! ### exceptions, tables of code objects -/
def overB (K : PySem.W.Frag) (C : Addr) : Bool :=
  (PySem.W.excInitIn K C [.type "ValueError", .type "Exception", .type "BaseException", .type "object"] "ValueError.__new__" && PySem.W.excOver K C [.type "ValueError", .type "Exception", .type "BaseException", .type "object"]) ||
  ((PySem.W.excInitIn K C [.type "LookupError", .type "Exception", .type "BaseException", .type "object"] "LookupError.__new__" && PySem.W.excOver K C [.type "LookupError", .type "Exception", .type "BaseException", .type "object"]) ||
  (PySem.W.excInitIn K C [.type "IndexError", .type "LookupError", .type "Exception", .type "BaseException", .type "object"] "IndexError.__new__" && PySem.W.excOver K C [.type "IndexError", .type "LookupError", .type "Exception", .type "BaseException", .type "object"]))
def oxB (K : PySem.W.Frag) (q : XcE) : Bool :=
  overB K (He.ga K q.c) && (PySem.W.hasDictIn K (He.ga K q.c) && (decide (PySem.W.findIn K (.ref (He.ga K q.c)) "__setattr__" = some (some (.builtin "object.__setattr__"))) && (decide (PySem.W.subIn K (.ref (He.ga K q.c)) (.type "BaseException") = some true) &&
  (decide (PySem.W.typeIn K (.ref (He.ga K q.c)) = some (.type "type")) && (PySem.W.keepIn K (.ref (He.ga K q.c)) && (decide (PySem.W.findIn K (.ref (He.ga K q.c)) "__init__" = some (some (.ref (He.fAd K (q.c, some "__init__"))))) &&
  (decide (PySem.W.typeIn K (.ref (He.fAd K (q.c, some "__init__"))) = some (.type "function")) && (xfB K (He.ga K q.c) && xNames.all fun n => decide (PySem.W.findIn K (.ref (He.ga K q.c)) n = some none)))))))))
def exB (K : PySem.W.Frag) (q : XcE) : Bool :=
  decide (PySem.W.exmAny K (.ref (He.ga K q.c)) [.ref (He.ga K "DeskError"), .ref (He.ga K "Missing")] = some (!decide (q.c = ("NothingLeft" : Str)))) && (!decide (q.c = ("NothingLeft" : Str)) || decide (PySem.W.exmAny K (.ref (He.ga K q.c)) [.ref (He.ga K "NothingLeft")] = some true))
def xsB (K : PySem.W.Frag) (xs : List XcE) (tr : Bool) : Bool := xs.all (oxB K) && (!tr || xs.all (exB K))
theorem overB_ok {K : PySem.W.Frag} {C : Addr} (h : overB K C = true) : ∃ (B newId initId : String) (bs : List Value), ExcBaseFacts B newId initId bs ∧ StoreFacts B bs "object.__setattr__" "object" ∧ PySem.W.excInitIn K C bs newId = true ∧ PySem.W.excOver K C bs = true := by
  simp only [overB, Bool.or_eq_true, Bool.and_eq_true] at h
  rcases h with h | h | h
  · exact ⟨_, _, _, _, F.excBase_ValueError, F.store_ValueError, h.1, h.2⟩
  · exact ⟨_, _, _, _, F.excBase_LookupError, F.store_LookupError, h.1, h.2⟩
  · exact ⟨_, _, _, _, F.excBase_IndexError, F.store_IndexError, h.1, h.2⟩
/-- a code object, its table -/
def codeP (K : PySem.W.Frag) (a : Addr) : Option (Addr × Addr) := match codeOf K a with
  | some (.ref c) => (match K.lookup c with
    | some ⟨_, _, .fields vs, _⟩ => (match (vs[11]? : Option Value) with
      | some (.ref P) => some (c, P)
      | _ => none)
    | _ => none)
  | _ => none
def csOf (K : PySem.W.Frag) (lm : Lms) : List (Addr × Addr) := lm.filterMap fun l => codeP K (He.fAd K l.1)
def cutK (K : PySem.W.Frag) (pr : List (Addr × Addr)) : PySem.W.Frag := K.filter fun q => !(pr.any fun p => p.2 == q.1)
theorem cutK_in {K : PySem.W.Frag} {pr : List (Addr × Addr)} {h : Heap} (X : K.In h) : (cutK K pr).In h := by
  have key : ∀ (K : PySem.W.Frag) (a : Addr) (o : Obj), (cutK K pr).lookup a = some o → K.lookup a = some o := by
    intro K
    induction K with
    | nil => intro a o e; cases e
    | cons q K ih =>
      intro a o e
      unfold cutK at e ih
      rw [List.filter_cons] at e
      rw [List.lookup_cons]
      split at e
      · rw [List.lookup_cons] at e
        split at e
        · exact e
        · exact ih a o e
      · rename_i hq
        cases hb : a == q.1 with
        | false => exact ih a o e
        | true =>
          exfalso
          have e1 : a = q.1 := beq_iff_eq.mp hb
          simp only [Bool.not_eq_true', Bool.not_eq_false] at hq
          have none' : ∀ (K : PySem.W.Frag), (K.filter fun q => !(pr.any fun p => p.2 == q.1)).lookup a = none := by
            intro K
            induction K with
            | nil => rfl
            | cons r K ih2 =>
              rw [List.filter_cons]
              split
              · rename_i hr
                rw [List.lookup_cons]
                cases hc : a == r.1 with
                | false => exact ih2
                | true =>
                  exfalso
                  rw [← beq_iff_eq.mp hc, e1, hq] at hr
                  cases hr
              · exact ih2
          rw [none' K] at e
          cases e
  exact fun a o e => X a o (key K a o e)
def isT0 : Option Obj → Bool
  | some ⟨.none, none, .fields vs, sl⟩ => vs.isEmpty && sl.isEmpty
  | _ => false
theorem isT0_ok {o : Option Obj} (h : isT0 o = true) : o = some { cls := .none, data := .fields #[] } := by
  unfold isT0 at h
  split at h
  · rename_i vs sl
    simp only [Bool.and_eq_true, Array.isEmpty_iff] at h
    rw [h.1, h.2]
  · cases h
def lamK (K : PySem.W.Frag) (lm : Lms) (pr : List (Addr × Addr)) : Bool := decide (pr.length = lm.length) && (decide (pr.map (·.2)).Nodup && ((lm.zip pr).all fun z => decide (codeOf K (He.fAd K z.1.1) = some (.ref z.2.1)) && (PySem.W.codeHdIn K z.2.1 z.2.2 && (K.lookup z.2.2).isNone)))
/-- what the head is asked -/
structure HdC where
  n : Nat
  fa : List He.Fa
  fn : List He.DefD
  cs : List Str
  tt : List (Str × List (Str × Str))
  xs : List XcE
  tr : Bool
  lm : Lms
def factB (c : HdC) (K : PySem.W.Frag) (pr : List (Addr × Addr)) : Bool := noLst K && (isiB K c.cs && (tabB K c.tt && (xsB K c.xs c.tr && lamK K c.lm pr)))
abbrev AlL : Type := He.AlT × Bool
def obsL (c : HdC) (g : Addr → Option Obj) : AlL := (fun K0 => (fun pr => (fun K => (He.obsT c.fa c.fn (tsOf c.tt) K, factB c K pr && pr.all fun p => isT0 (K0.lookup p.2))) (cutK K0 pr)) (csOf K0 c.lm)) (He.frG g (He.asD g c.n))
def hookL (c : HdC) : PySem.W.Hook where
  α := AlL
  obs := fun s => obsL c s.heap.get?
  val := fun w => (He.valT c.fn (tsOf c.tt) w, true)
  says := fun w h => ∃ (K : PySem.W.Frag) (pr : List (Addr × Addr)), K.In h ∧ He.SaysT c.fa c.fn (tsOf c.tt) w K ∧ factB c K pr = true ∧ ∀ p ∈ pr, h.get? p.2 = some { cls := .none, data := .fields #[] }
  of := fun w s e => by
    have e1 := congrArg (fun z : AlL => z.1) e
    have e2 := congrArg (fun z : AlL => z.2) e
    have e2 : (factB c (cutK (He.frG s.heap.get? (He.asD s.heap.get? c.n)) (csOf (He.frG s.heap.get? (He.asD s.heap.get? c.n)) c.lm)) (csOf (He.frG s.heap.get? (He.asD s.heap.get? c.n)) c.lm) && (csOf (He.frG s.heap.get? (He.asD s.heap.get? c.n)) c.lm).all fun p => isT0 ((He.frG s.heap.get? (He.asD s.heap.get? c.n)).lookup p.2)) = true := e2
    rw [Bool.and_eq_true, List.all_eq_true] at e2
    exact ⟨_, _, cutK_in He.frG_in, e1, e2.1, fun p hp => He.frG_in _ _ (isT0_ok (e2.2 p hp))⟩
  keeps := fun _ _ _ ⟨K, pr, hK, c, b, t⟩ k => ⟨K, pr, PySem.W.Frag.In.keeps hK k, c, b, fun p hp => k _ _ (t p hp)⟩
theorem obsL_eq {c : HdC} {g : Addr → Option Obj} {s : Shared} (h : ∀ a, g a = s.heap.get? a) : obsL c g = (hookL c).obs s := by
  have e : g = s.heap.get? := funext h
  rw [e] <;> rfl
def BndX (q : XcE) : Prop := ∀ (kV doc pm : Value) (an : Option Addr) (cdv ct : Value) (us : List Value), us.length = q.ps.length → bindArgs (PySem.W.fnOf q.name q.qual q.args q.body q.scope .none kV doc pm an cdv ct) ⟨us, []⟩ = pure (q.ps.zip us)
def BndD (d : He.DefD) (ps : List Str) : Prop := ∀ (kV doc pm : Value) (an : Option Addr) (cdv ct : Value) (us : List Value), us.length = ps.length → bindArgs (PySem.W.fnOf d.name d.qual d.params d.body d.scope .none kV doc pm an cdv ct) ⟨us, []⟩ = pure (ps.zip us)
def scopeB (N ps : List Str) (sc : Scope) : Bool :=
  decide (sc.kind = .function) && (!sc.isCoroutine && (!sc.isGenerator && (nodupB N && (decide (N.take ps.length = ps) && (ps.all (fun x => decide (sc.names.lookup x = some .local) || decide (sc.names.lookup x = some .cell)) && sc.names.all fun y => !decide (y.2 = .free))))))
theorem scopeB_ok {N ps : List Str} {sc : Scope} (h : scopeB N ps sc = true) : FnScope N ps sc := by
  simp only [scopeB, Bool.and_eq_true, decide_eq_true_eq, Bool.not_eq_true', List.all_eq_true, Bool.or_eq_true, decide_eq_false_iff_not] at h
  obtain ⟨h1, h2, h3, h4, h5, h6, h7⟩ := h
  exact ⟨h1, h2, h3, nodupB_ok h4, h5, h6, h7⟩
/-- the two defs, as they are written -/
def trOk : List He.DefD → Bool
  | [] => true
  | [t, f] => decide (t.at_ = (("_law_try" : Str), none)) && (decide (f.at_ = (("_law_field" : Str), none)) && (decide (t.dfl.isEmpty && (t.kwd.isEmpty && (f.dfl.isEmpty && f.kwd.isEmpty))) && (scopeB tryNs ["_law_ask"] t.scope && (chkTry t.body && (decide (t.scope.names.lookup ("_law_e" : Str) = some .local) &&
    ((([("DeskError" : Str), "Missing", "NothingLeft", "_law_field"] : List Str).all fun x => decide (t.scope.names.lookup x = some .globalImplicit)) && (scopeB ["_law_e"] ["_law_e"] f.scope && chkFS "_law_e" theFS f.body)))))))
  | _ => false
def BndOk (q : FnE) : Prop := ∀ (kV doc pm : Value) (an : Option Addr) (cdv ct : Value) (us : List Value), us.length = q.fn.ps.length → bindArgs (PySem.W.fnOf q.name q.qual q.args q.body q.scope .none kV doc pm an cdv ct) ⟨us, []⟩ = pure (q.fn.ps.zip us)
def KwOk (q : FnE) (n : Nat) (ks : List Str) (perm : List Nat) : Prop := ∀ (kV doc pm : Value) (an : Option Addr) (cdv ct : Value) (us ws : List Value), us.length = n → ws.length = ks.length →
  bindArgs (PySem.W.fnOf q.name q.qual q.args q.body q.scope .none kV doc pm an cdv ct) ⟨us, ks.zip ws⟩ = pure (q.fn.ps.zip (permL perm (us ++ ws)))
def consB (g : Tab) : Bool := g.cons.all fun q => match q.2 with
  | .int _ => true
  | .str s => PyData.strOk s && decide (s.length ≤ sizeLine)
  | _ => false
theorem fact_mem {fa : List He.Fa} {fn : List He.DefD} {K : PySem.W.Frag} (c : He.SaysD fa fn K) {f : He.Fa} (h : f ∈ fa) : f.ok K = true := by
  obtain ⟨i, hi⟩ := List.getElem?_of_mem h
  exact c.fact i hi
theorem def_mem {fa : List He.Fa} {fn : List He.DefD} {K : PySem.W.Frag} (c : He.SaysD fa fn K) {at_ : Str × Option Str} {name qual : Str} {args : Arguments} {body : List Stmt} {scope : Scope} (h : (⟨at_, name, qual, args, body, scope, [], []⟩ : He.DefD) ∈ fn) : ∃ fd, FunD K name qual args body scope [] [] (He.fAd K at_) fd := by
  obtain ⟨i, hi⟩ := List.getElem?_of_mem h
  obtain ⟨fd, F⟩ := c.def_ i hi
  exact ⟨fd, F⟩
theorem bind_of {K : PySem.W.Frag} {name qual : Str} {args : Arguments} {body : List Stmt} {scope : Scope} {a : Addr} {fd : FuncData} {ps : List Str} (F : FunD K name qual args body scope [] [] a fd)
    (hb : ∀ (kV doc pm : Value) (an : Option Addr) (cdv ct : Value) (us : List Value), us.length = ps.length → bindArgs (PySem.W.fnOf name qual args body scope .none kV doc pm an cdv ct) ⟨us, []⟩ = pure (ps.zip us)) (s : Shared) (us : List Value) (hl : us.length = ps.length) : BindsTo s fd ⟨us, []⟩ (ps.zip us) := by
  obtain ⟨oc, od, dV, kV, doc, pm, an, cdv, ct, osl, rfl, lk, hcd, hD, hK⟩ := F.ex
  rcases hD with ⟨_, rfl⟩ | ⟨e, _⟩
  · exact .of_eq (hb kV doc pm an cdv ct us hl)
  · exact absurd rfl e
/-- the program's table for the head -/
def hdOf (n : Nat) (g : Tab) (es : List FnE) (xs : List XcE) (tr : List He.DefD) : HdC := ⟨n, faOf g es ++ fxOf xs tr, ddOf es ++ (xdOf xs ++ tr), g.iscs, g.dcts, xs, !tr.isEmpty, lmOf g es⟩
def tbOf (lm : Lms) (pr : List (Addr × Addr)) : List (Addr × Str) := (pr.zip lm).map fun z => (z.1.2, z.2.2)
structure Txt (g : Tab) (es : List FnE) (xs : List XcE) (tr : List He.DefD) : Prop where
  nd : nodupB (es.map fun q => q.x) = true
  row : rowsB g es = true
  fns : g.fns = es.map fun q => (q.x, q.fn)
  chk : es.all (chkFn g) = true
  cons : consB g = true
  bnd : ∀ q ∈ es, BndOk q
  kws : ∀ q ∈ es, ∀ n ks perm, (q.x, n, ks, perm) ∈ g.kws → KwOk q n ks perm
  exs : g.excs = xs.map fun q => (q.c, q.w, q.f)
  xok : (xs.all fun q => chkX q && (okB q.w && match q.f with
    | some f => xNames.contains f
    | none => true)) = true
  xbn : ∀ q ∈ xs, BndX q
  try_ : trOk tr = true
  tbn : ∀ t f, tr = [t, f] → BndD t [("_law_ask" : Str)] ∧ BndD f [("_law_e" : Str)]
  trl : tr = [] → g.lams = []
theorem pg_of {n : Nat} {g : Tab} {es : List FnE} {xs : List XcE} {tr : List He.DefD} {K : PySem.W.Frag} {w : World} {h : Heap} {mg : Str → Option Value} {pr : List (Addr × Addr)} (T : Txt g es xs tr) (X : K.In h) (G : h.Ns mainGlobals mg)
    (c0 : He.SaysT (hdOf n g es xs tr).fa (hdOf n g es xs tr).fn (tsOf (hdOf n g es xs tr).tt) w K) (fb : factB (hdOf n g es xs tr) K pr = true) : @PgOk (cnK es K (tbOf (lmOf g es) pr) (xs.map fun q => q.c)) g es pr K w mg := by
  obtain ⟨hn, hrow, hf, hk, hc, hb, hkw, hexs, hxok, hxbn, htry, htbn, htrl⟩ := T
  simp only [factB, Bool.and_eq_true] at fb
  obtain ⟨_, hisi, htab, hxs, hlm⟩ := fb
  have hisi : isiB K g.iscs = true := hisi
  have htab : tabB K g.dcts = true := htab
  obtain ⟨tb, etb⟩ : ∃ tb, tb = tbOf (lmOf g es) pr := ⟨_, rfl⟩
  obtain ⟨ex, eex⟩ : ∃ ex, ex = xs.map fun q => q.c := ⟨_, rfl⟩
  rw [← etb, ← eex]
  letI : CN := cnK es K tb ex
  have c := c0.d
  have fm : ∀ {f : He.Fa}, f ∈ faOf g es → f.ok K = true := fun h => fact_mem c (List.mem_append_left _ h)
  have fx : ∀ {f : He.Fa}, f ∈ fxOf xs tr → f.ok K = true := fun h => fact_mem c (List.mem_append_right _ h)
  simp only [rowsB, Bool.and_eq_true, List.all_eq_true, List.any_eq_true, decide_eq_true_eq] at hrow
  obtain ⟨r1, r2, r3⟩ := hrow
  refine ⟨fun x hx => ?_, fun q hq => ?_, hf, hk, fun q hq => ?_, fun f hf => ?_, fun cl m k hm => ?_, fun cl k hm => ?_, fun cl f hm => ?_, fun cl hm => ?_, fun cl w' f hm => ?_, fun q hq hl => ?_, fun ⟨x, hx⟩ => ?_, fun x kvs hm => ?_⟩
  · exact He.free_ok X G (fm (by unfold faOf; simp [hx]))
  · have hq2 := List.all_eq_true.mp hc q hq
    obtain ⟨x, d⟩ := q
    have hm : faC (x, d) ∈ faOf g es := by
      unfold faOf
      exact List.mem_append_right _ (List.mem_append_right _ (List.mem_append_left _ (List.mem_map.mpr ⟨_, hq, rfl⟩)))
    cases d <;> (first | (cases hq2; done) | skip)
    · rename_i i
      obtain ⟨t, ht⟩ := He.int_ok X G (x := x) (i := i) (fm hm)
      exact ⟨_, .int i, ht, ⟨t, rfl⟩, fun _ _ => rfl⟩
    · rename_i s
      simp only [Bool.and_eq_true, decide_eq_true_eq] at hq2
      obtain ⟨t, ht⟩ := He.str_ok X G (x := x) (z := s) (fm hm)
      exact ⟨_, .str s, ht, ⟨t, rfl⟩, fun _ _ => ⟨rfl, hq2⟩⟩
  · obtain ⟨fd, F⟩ := def_mem c (List.mem_append_left _ (List.mem_map.mpr ⟨q, hq, rfl⟩))
    have F' : FunD K q.name q.qual q.args q.body q.scope [] [] (He.fAd K q.at_) fd := F
    refine ⟨fd, ?_, ?_, fun n ks perm hm => ?_⟩
    · show FunD K q.name q.qual q.args q.body q.scope [] [] ((cnK es K tb ex).ad q.x) fd
      rw [ad_of hn hq]; exact F'
    · obtain ⟨oc, od, dV, kV, doc, pm, an, cdv, ct, osl, rfl, lk, hcd, hD, hK⟩ := F'.ex
      rcases hD with ⟨_, rfl⟩ | ⟨e, _⟩
      · exact fun s us hl => .of_eq (hb q hq kV doc pm an cdv ct us hl)
      · exact absurd rfl e
    · obtain ⟨oc, od, dV, kV, doc, pm, an, cdv, ct, osl, rfl, lk, hcd, hD, hK⟩ := F'.ex
      rcases hD with ⟨_, rfl⟩ | ⟨e, _⟩
      · exact fun s us ws h1 h2 => .of_eq (hkw q hq n ks perm hm kV doc pm an cdv ct us ws h1 h2)
      · exact absurd rfl e
  · obtain ⟨q, hq, rfl, hat⟩ := r1 f hf
    have e1 : (cnK es K tb ex).ad q.x = He.ga K q.x := by rw [ad_of hn hq, hat]; rfl
    obtain ⟨fd, F⟩ := def_mem c (List.mem_append_left _ (List.mem_map.mpr ⟨q, hq, rfl⟩))
    have hg := He.glo_ok X G (x := q.x) (fm (by unfold faOf; exact List.mem_append_left _ (List.mem_map.mpr ⟨q.x, hf, rfl⟩)))
    refine ⟨by rw [hg]; show _ = some (Value.ref ((cnK es K tb ex).ad q.x)); rw [e1], ?_⟩
    show PySem.W.keepIn K (.ref ((cnK es K tb ex).ad q.x)) = true
    rw [ad_of hn hq]
    exact F.kp
  · obtain ⟨q, hq, rfl, hat⟩ := r2 _ hm
    have mem : ∀ f : He.Fa, f ∈ [He.Fa.cls cl, He.Fa.meth cl m] → f ∈ faOf g es := fun f hf => by
      unfold faOf
      exact List.mem_append_right _ (List.mem_append_right _ (List.mem_append_right _ (List.mem_append_left _ (List.mem_flatMap.mpr ⟨_, hm, hf⟩))))
    refine ⟨He.cls_ok (fm (mem _ (by simp))), ?_⟩
    have := He.meth_ok (fm (mem (.meth cl m) (by simp)))
    show Meth K (He.ga K cl) m ((cnK es K tb ex).ad q.x)
    rw [ad_of hn hq, hat]
    exact this
  · obtain ⟨q, hq, rfl, hat⟩ := r3 _ hm
    have mem : ∀ f : He.Fa, f ∈ [He.Fa.glo cl, He.Fa.mkr cl] → f ∈ faOf g es := fun f hf => by
      unfold faOf
      exact List.mem_append_right _ (List.mem_append_right _ (List.mem_append_right _ (List.mem_append_right _ (List.mem_append_left _ (List.mem_flatMap.mpr ⟨_, hm, hf⟩)))))
    refine ⟨He.glo_ok X G (fm (mem _ (by simp))), ?_⟩
    have := He.mkr_ok (fm (mem (.mkr cl) (by simp)))
    show Mk K (He.ga K cl) ((cnK es K tb ex).ad q.x)
    rw [ad_of hn hq, hat]
    exact this
  · have mem : ∀ f' : He.Fa, f' ∈ [He.Fa.cls cl, He.Fa.noat cl f] → f' ∈ faOf g es := fun f' hf => by
      unfold faOf
      exact List.mem_append_right _ (List.mem_append_right _ (List.mem_append_right _ (List.mem_append_right _ (List.mem_append_right _ (List.mem_append_left _ (List.mem_flatMap.mpr ⟨_, hm, hf⟩))))))
    exact ⟨He.cls_ok (fm (mem _ (by simp))), He.noat_ok (fm (mem _ (by simp)))⟩
  · have mem : ∀ f' : He.Fa, f' ∈ [He.Fa.glo cl, He.Fa.cls cl] → f' ∈ faOf g es := fun f' hf => by
      unfold faOf
      exact List.mem_append_right _ (List.mem_append_right _ (List.mem_append_right _ (List.mem_append_right _ (List.mem_append_right _ (List.mem_append_right _ (List.mem_append_left _ (List.mem_flatMap.mpr ⟨_, hm, hf⟩)))))))
    exact ⟨He.glo_ok X G (fm (mem _ (by simp))), He.cls_ok (fm (mem _ (by simp))), isiB_ok hisi hm⟩
  · rw [hexs] at hm
    obtain ⟨q, hq, e⟩ := List.mem_map.mp hm
    injection e with e1 e
    injection e with e2 e3
    subst e1 e2 e3
    have xq := List.all_eq_true.mp hxok q hq
    simp only [Bool.and_eq_true] at xq
    obtain ⟨x1, x2, x3⟩ := xq
    simp only [xsB, Bool.and_eq_true] at hxs
    have ob := List.all_eq_true.mp hxs.1 q hq
    simp only [oxB, Bool.and_eq_true, decide_eq_true_eq, List.all_eq_true] at ob
    obtain ⟨b1, b2, b3, b4, b5, b6, b7, b8, b9, b10⟩ := ob
    obtain ⟨fd, F⟩ := def_mem c (at_ := (q.c, some "__init__")) (name := q.name) (qual := q.qual) (args := q.args) (body := q.body) (scope := q.scope) (List.mem_append_right _ (List.mem_append_left _ (List.mem_map.mpr ⟨q, hq, rfl⟩)))
    refine ⟨(by show q.c ∈ ex; rw [eex]; exact List.mem_map.mpr ⟨q, hq, rfl⟩), He.glo_ok X G (fx (by unfold fxOf; exact List.mem_append_left _ (List.mem_map.mpr ⟨q, hq, rfl⟩))), q, _, fd, rfl, rfl, okB_ok x2, ⟨overB_ok b1, b2, b3, b4, b5, b6⟩, b7, b8, F, x1, b10 "word" (by decide), fun f hf => ?_, bind_of F (hxbn q hq)⟩
    rw [hf] at x3
    exact b10 f (List.contains_iff_mem.mp x3)
  · simp only [lamK, Bool.and_eq_true, decide_eq_true_eq, List.all_eq_true] at hlm
    obtain ⟨l1, l2, l3⟩ := hlm
    have hin : (q.at_, lamQ q) ∈ lmOf g es := List.mem_map.mpr ⟨q, List.mem_filter.mpr ⟨hq, hl⟩, rfl⟩
    obtain ⟨i, hi, ei⟩ := List.getElem_of_mem hin
    have hi2 : i < pr.length := by rw [l1]; exact hi
    have hz : ((lmOf g es).zip pr)[i]? = some ((q.at_, lamQ q), pr[i]) := by
      rw [List.getElem?_zip_eq_some]
      exact ⟨by rw [List.getElem?_eq_getElem hi, ei], List.getElem?_eq_getElem hi2⟩
    obtain ⟨m1, m2, m3⟩ := l3 _ (List.mem_of_getElem? hz)
    have hz2 : (pr.zip (lmOf g es))[i]? = some (pr[i], (q.at_, lamQ q)) := by
      rw [List.getElem?_zip_eq_some]
      exact ⟨List.getElem?_eq_getElem hi2, by rw [List.getElem?_eq_getElem hi, ei]⟩
    refine ⟨pr[i].1, pr[i].2, List.getElem_mem hi2, ?_, ?_, fun p hp e => ?_⟩
    · show codeOf K ((cnK es K tb ex).ad q.x) = _
      rw [ad_of hn hq]
      exact m1
    · show (pr[i].2, lamQ q) ∈ tb
      rw [etb]
      exact List.mem_map.mpr ⟨_, List.mem_of_getElem? hz2, rfl⟩
    · have hp : p ∈ tb := hp
      rw [etb] at hp
      obtain ⟨z, hzm, rfl⟩ := List.mem_map.mp hp
      obtain ⟨j, hj, ej⟩ := List.getElem_of_mem hzm
      have hz3 : (pr.zip (lmOf g es))[j]? = some z := by rw [List.getElem?_eq_getElem hj, ej]
      obtain ⟨z1, z2⟩ := z
      rw [List.getElem?_zip_eq_some] at hz3
      have hj2 : j < pr.length := (List.getElem?_eq_some_iff.mp hz3.1).1
      have ej2 : pr[j] = z1 := (List.getElem?_eq_some_iff.mp hz3.1).2
      have e : z1.2 = pr[i].2 := e
      have : j = i := (List.getElem_inj (h₀ := by simpa using hj2) (h₁ := by simpa using hi2) l2).mp (by simp [ej2, e])
      subst this
      have e5 := hz3.2
      rw [List.getElem?_eq_getElem hi, ei] at e5
      cases e5
      rfl
  · cases tr with
    | nil => rw [htrl rfl] at hx; cases hx
    | cons t r =>
      cases r with
      | nil => cases htry
      | cons f r =>
        cases r with
        | cons _ _ => cases htry
        | nil =>
          obtain ⟨bt, bf⟩ := htbn t f rfl
          obtain ⟨t1, t2, t3, t4, t5, t6, t7, t8⟩ := t
          obtain ⟨f1, f2, f3, f4, f5, f6, f7, f8⟩ := f
          simp only [trOk, Bool.and_eq_true, decide_eq_true_eq, List.isEmpty_iff, List.all_eq_true] at htry
          obtain ⟨rfl, rfl, ⟨rfl, rfl, rfl, rfl⟩, y1, y2, y3, y4, y5, y6⟩ := htry
          obtain ⟨fd1, F1⟩ := def_mem c (List.mem_append_right _ (List.mem_append_right _ List.mem_cons_self))
          obtain ⟨fd2, F2⟩ := def_mem c (List.mem_append_right _ (List.mem_append_right _ (List.mem_cons_of_mem _ List.mem_cons_self)))
          have glo : ∀ x ∈ ([("_law_try" : Str), "_law_field", "DeskError", "Missing", "NothingLeft"] : List Str), mg x = some (.ref (He.ga K x)) := fun x hx => He.glo_ok X G (fx (by
            unfold fxOf
            refine List.mem_append_right _ ?_
            show He.Fa.glo x ∈ ([.glo "_law_try", .glo "_law_field", .glo "DeskError", .glo "Missing", .glo "NothingLeft"] : List He.Fa)
            simp only [List.mem_cons, List.not_mem_nil, or_false] at hx
            rcases hx with rfl | rfl | rfl | rfl | rfl <;> simp))
          refine ⟨He.ga K "DeskError", He.ga K "Missing", He.ga K "NothingLeft", ⟨⟨_, fd1, t2, t3, t4, t5, t6, glo _ (by simp), F1.kp, F1, scopeB_ok y1, y2, bind_of F1 bt, y3, y4⟩, glo _ (by simp), glo _ (by simp), glo _ (by simp), ⟨⟨_, fd2, f2, f3, f4, f5, f6, glo _ (by simp), F2.kp, F2, scopeB_ok y5, y6, bind_of F2 bf⟩, by decide, by decide, by decide⟩⟩, fun cl hcl => ?_⟩
          have hcl : cl ∈ ex := hcl
          rw [eex] at hcl
          obtain ⟨q, hq, rfl⟩ := List.mem_map.mp hcl
          simp only [xsB, Bool.and_eq_true, Bool.or_eq_true, Bool.not_eq_true'] at hxs
          have ob := List.all_eq_true.mp hxs.1 q hq
          simp only [oxB, Bool.and_eq_true, decide_eq_true_eq, List.all_eq_true] at ob
          obtain ⟨b1, b2, b3, b4, b5, b6, b7, b8, b9, b10⟩ := ob
          have eb := List.all_eq_true.mp (hxs.2.resolve_left fun z => by cases z) q hq
          simp only [exB, Bool.and_eq_true, Bool.or_eq_true, decide_eq_true_eq, Bool.not_eq_true', decide_eq_false_iff_not] at eb
          exact ⟨⟨xfB_ok b9, b10⟩, eb.1, fun z => eb.2.resolve_left fun n => n z⟩
  · have mem : He.Fa.glo x ∈ faOf g es := by
      unfold faOf
      exact List.mem_append_right _ (List.mem_append_right _ (List.mem_append_right _ (List.mem_append_right _ (List.mem_append_right _ (List.mem_append_right _ (List.mem_append_right _ (List.mem_map.mpr ⟨_, hm, rfl⟩)))))))
    exact ⟨_, He.glo_ok X G (fm mem), fun k v hl => tab_ok c0 htab hm hl⟩
theorem tabs_of {n : Nat} {g : Tab} {es : List FnE} {xs : List XcE} {tr : List He.DefD} {K : PySem.W.Frag} {h : Heap} {pr : List (Addr × Addr)} (X : K.In h) (fb : factB (hdOf n g es xs tr) K pr = true) (ht : ∀ p ∈ pr, h.get? p.2 = some { cls := .none, data := .fields #[] }) : @TabsAt (cnK es K (tbOf (lmOf g es) pr) (xs.map fun q => q.c)) K pr h := by
  simp only [factB, lamK, Bool.and_eq_true, decide_eq_true_eq, List.all_eq_true] at fb
  obtain ⟨_, _, _, _, l1, l2, l3⟩ := fb
  have l1 : pr.length = (lmOf g es).length := l1
  have l3 : ∀ z ∈ (lmOf g es).zip pr, codeOf K (He.fAd K z.1.1) = some (.ref z.2.1) ∧ PySem.W.codeHdIn K z.2.1 z.2.2 = true ∧ (K.lookup z.2.2).isNone = true := l3
  have at' : ∀ p ∈ pr, PySem.W.codeHdIn K p.1 p.2 = true ∧ K.lookup p.2 = none := fun p hp => by
    obtain ⟨i, hi, ei⟩ := List.getElem_of_mem hp
    have hi2 : i < (lmOf g es).length := by rw [← l1]; exact hi
    have hz : ((lmOf g es).zip pr)[i]? = some ((lmOf g es)[i], p) := by
      rw [List.getElem?_zip_eq_some]
      exact ⟨List.getElem?_eq_getElem hi2, by rw [List.getElem?_eq_getElem hi, ei]⟩
    obtain ⟨_, m2, m3⟩ := l3 _ (List.mem_of_getElem? hz)
    exact ⟨m2, Option.isNone_iff_eq_none.mp m3⟩
  letI : CN := cnK es K (tbOf (lmOf g es) pr) (xs.map fun q => q.c)
  refine ⟨ht, fun p hp => (at' p hp).2, fun p hp => PySem.W.codeHd_of_K X (at' p hp).1, fun q hq => ?_⟩
  have hq : q ∈ tbOf (lmOf g es) pr := hq
  obtain ⟨z, hz, rfl⟩ := List.mem_map.mp hq
  exact ⟨z.1, (List.of_mem_zip hz).1, rfl⟩
theorem nl_of {n : Nat} {g : Tab} {es : List FnE} {xs : List XcE} {tr : List He.DefD} {K : PySem.W.Frag} {pr : List (Addr × Addr)} (fb : factB (hdOf n g es xs tr) K pr = true) : noLst K = true := by
  unfold factB at fb
  rw [Bool.and_eq_true] at fb
  exact fb.1
theorem kw_of {g : Tab} {es : List FnE} (hn : nodupB (es.map fun q => q.x) = true) (kl : List (FnE × Nat × List Str × List Nat)) (hk : g.kws = kl.map fun r => (r.1.x, r.2)) (hin : ∀ r ∈ kl, r.1 ∈ es ∧ KwOk r.1 r.2.1 r.2.2.1 r.2.2.2) :
    ∀ q ∈ es, ∀ n ks perm, (q.x, n, ks, perm) ∈ g.kws → KwOk q n ks perm := by
  intro q hq n ks perm hm
  rw [hk] at hm
  obtain ⟨⟨q', r⟩, h1, h2⟩ := List.mem_map.mp hm
  obtain ⟨h3, h4⟩ : q' ∈ es ∧ KwOk q' r.1 r.2.1 r.2.2 := hin _ h1
  have e1 : q'.x = q.x := congrArg (fun z => z.1) h2
  have e2 : r = (n, ks, perm) := congrArg (fun z => z.2) h2
  have nd := nodupB_ok hn
  have : q' = q := by
    obtain ⟨i, hi, ei⟩ := List.getElem_of_mem h3
    obtain ⟨j, hj, ej⟩ := List.getElem_of_mem hq
    have : i = j := (List.getElem_inj (h₀ := by simpa using hi) (h₁ := by simpa using hj) nd).mp (by simp [ei, ej, e1])
    subst this
    rw [← ei, ← ej]
  subst this
  rw [e2] at h4
  exact h4
end Vm

namespace Vm.Lib
open PySem PySem.Spec L2 Vm
def bag_1 : List S := [(.asg (.nm 1) (.bin .Mod (.bin .Add (.bin .Add (.bin .Mult (.pk 1) (.cst (.int 39373))) (.bin .Mod (.pk 2) (.cst (.int 2147483587)))) (.cst (.int 17))) (.cst (.int 2147483647))))]
def bag_body : List S := [
    (.asg (.nm 1) (.cst (.int 9489))),
    (.for_ (.nm 2) .seq [(.slc false true (.pk 0) (.cst .non) (.cst (.int 63)))] bag_1),
    (.ret (.lst [(.b1 .lst (.slc false true (.pk 0) (.cst .non) (.cst (.int 63)))), (.cst (.int 0)), (.cst (.int 0)), (.nm 1)]))]
def pull_body : List S := [
    (.iff (.and (.cmp .Eq (.ix (.pk 0) (.cst (.int 2))) (.cst (.int 0))) (.cmp .Lt (.ix (.pk 0) (.cst (.int 1))) (.b1 .len (.ix (.pk 0) (.cst (.int 0)))))) [(.asg (.nm 3) (.ix (.ix (.pk 0) (.cst (.int 0))) (.ix (.pk 0) (.cst (.int 1))))), (.six 0 (.cst (.int 1)) (.bin .Add (.ix (.pk 0) (.cst (.int 1))) (.cst (.int 1)))), (.iff (.cmp .GtE (.pk 3) (.bin .Pow (.cst (.int 10)) (.cst (.int 18)))) [(.six 0 (.cst (.int 2)) (.nm 3))] [(.six 0 (.cst (.int 3)) (.bin .Mod (.bin .Add (.bin .Add (.bin .Mult (.ix (.pk 0) (.cst (.int 3))) (.cst (.int 40692))) (.bin .Mult (.bin .Mod (.pk 3) (.cst (.int 2147483587))) (.cst (.int 48271)))) (.cst (.int 7))) (.cst (.int 2147483647))))])] []),
    (.iff (.cmp .Gt (.ix (.pk 0) (.cst (.int 2))) (.cst (.int 0))) [(.asg (.nm 4) (.bin .Mod (.ix (.pk 0) (.cst (.int 2))) (.pk 1))), (.six 0 (.cst (.int 2)) (.bin .FloorDiv (.ix (.pk 0) (.cst (.int 2))) (.pk 1))), (.ret (.mv 4))] []),
    (.asg (.nm 2) (.ix (.pk 0) (.cst (.int 3)))),
    (.six 0 (.cst (.int 3)) (.bin .Mod (.bin .Add (.bin .Add (.bin .Mult (.pk 2) (.pk 2)) (.bin .Mult (.pk 2) (.cst (.int 69621)))) (.cst (.int 1013904223))) (.cst (.int 2147483647)))),
    (.ret (.bin .Mod (.bin .Add (.bin .FloorDiv (.ix (.pk 0) (.cst (.int 3))) (.cst (.int 89))) (.bin .Mult (.bin .Mod (.ix (.pk 0) (.cst (.int 3))) (.cst (.int 8191))) (.cst (.int 61)))) (.pk 1)))]
def of_body : List S := [
    (.ret (.ix (.nm 1) (.cal "_law_pull" [(.pk 0), (.b1 .len (.pk 1))])))]
structure Is (T : Str → Option Fn) (f : Str) (n N : Nat) (keep : List Bool) (body : List S) : Prop where
  ex : ∃ fn, T f = some fn ∧ fn.ps.length = n ∧ fn.N.length = N ∧ fn.keep = keep ∧ fn.body = body
def fin (keep : List Bool) (r : R Fl) : R D := match r with
  | .ok (.ret d) e => .ok d (lastP keep e)
  | .ok .next e => .ok .non (lastP keep e)
  | .ok _ _ => .bad
  | .ex x e => .ex x (lastP keep e)
  | .bad => .bad
theorem Is.eq {T : Str → Option Fn} {f : Str} {n N W k : Nat} {keep : List Bool} {body : List S} {ds : List D} (h : Is T f n N keep body) (hl : ds.length = n) :
    callN T W (k + 1) f ds = fin keep (exs (callN T W k) W body (ds.map some ++ List.replicate (N - n) none)) := by
  obtain ⟨fn, h1, h2, h3, h4, h5⟩ := h.ex
  rw [callN, h1]
  simp only
  rw [if_pos (hl.trans h2.symm), h3, h4, h5, hl]
  generalize exs (callN T W k) W body (ds.map some ++ List.replicate (N - n) none) = r
  cases r with
  | ok fl e => cases fl <;> rfl
  | _ => rfl
def Bag (b : D) : Prop := ∃ (cs : List Int) (i h s : Int), b = .lst true [.lst false (cs.map D.int), .int i, .int h, .int s] ∧ 0 ≤ i ∧ 0 ≤ h ∧ 0 ≤ s ∧ s < 2147483647
theorem atI_nat {α : Type} (xs : List α) (k : Nat) : atI xs (k : Int) = xs[k]? := by
  unfold atI ixN
  rw [if_pos (Int.natCast_nonneg k)]
  by_cases h : k < xs.length
  · rw [if_pos (by omega)]
    simp
  · rw [if_neg (by omega)]
    simp [List.getElem?_eq_none (Nat.le_of_not_lt h)]
theorem ixN_nat (n k : Nat) : ixN n (k : Int) = if k < n then some k else none := by
  unfold ixN
  rw [if_pos (Int.natCast_nonneg k)]
  by_cases h : k < n
  · rw [if_pos (by omega), if_pos h]; simp
  · rw [if_neg (by omega), if_neg h]
theorem atI_ints {cs : List Int} {i : Int} (h0 : 0 ≤ i) (h1 : i < cs.length) : ∃ c : Int, atI (cs.map D.int) i = some (.int c) := by
  obtain ⟨k, rfl⟩ := Int.eq_ofNat_of_zero_le h0
  refine ⟨cs[k]'(by omega), ?_⟩
  rw [atI_nat, List.getElem?_map, List.getElem?_eq_getElem (by omega)]
  rfl
theorem a0 {x : D} {r : List D} : atI (x :: r) 0 = some x := atI_nat (x :: r) 0
theorem a1 {x y : D} {r : List D} : atI (x :: y :: r) 1 = some y := atI_nat (x :: y :: r) 1
theorem a2 {x y z : D} {r : List D} : atI (x :: y :: z :: r) 2 = some z := atI_nat (x :: y :: z :: r) 2
theorem a3 {x y z w : D} {r : List D} : atI (x :: y :: z :: w :: r) 3 = some w := atI_nat (x :: y :: z :: w :: r) 3
theorem s1 {x y d : D} {r : List D} : setO (.lst true (x :: y :: r)) (.int 1) d = some (.lst true (x :: d.fz :: r)) := by
  show (ixN (r.length + 2) ((1 : Nat) : Int)).map _ = _
  rw [ixN_nat, if_pos (by omega)]
  rfl
theorem s2 {x y z d : D} {r : List D} : setO (.lst true (x :: y :: z :: r)) (.int 2) d = some (.lst true (x :: y :: d.fz :: r)) := by
  show (ixN (r.length + 3) ((2 : Nat) : Int)).map _ = _
  rw [ixN_nat, if_pos (by omega)]
  rfl
theorem s3 {x y z w d : D} {r : List D} : setO (.lst true (x :: y :: z :: w :: r)) (.int 3) d = some (.lst true (x :: y :: z :: d.fz :: r)) := by
  show (ixN (r.length + 4) ((3 : Nat) : Int)).map _ = _
  rw [ixN_nat, if_pos (by omega)]
  rfl
theorem asg_nm {i : Nat} {d : D} {e : Nv} : asgT (.nm i) d e = if i < e.length then some (e.set i (some d)) else none := rfl
theorem asg_tup {ts : List Tg} {xs : List D} {e : Nv} : asgT (.tup ts) (.tup xs) e = asgL ts xs e := rfl
theorem asgl_nil {e : Nv} : asgL [] [] e = some e := rfl
theorem asgl_cons {t : Tg} {ts : List Tg} {x : D} {xs : List D} {e : Nv} : asgL (t :: ts) (x :: xs) e = (asgT t x e).bind fun e1 => asgL ts xs e1 := rfl
theorem eq_ii {i j : Int} : eqD (.int i) (.int j) = (i == j) := rfl
theorem eq_bb {i j : Bool} : eqD (.bl i) (.bl j) = (i == j) := rfl
theorem eq_ss {i j : Str} : eqD (.str i) (.str j) = (i == j) := rfl
theorem eq_nn : eqD .non .non = true := rfl
theorem eq_ll {o p : Bool} {xs ys : List D} : eqD (.lst o xs) (.lst p ys) = eqL xs ys := rfl
theorem eq_tt {xs ys : List D} : eqD (.tup xs) (.tup ys) = eqL xs ys := rfl
theorem eql_nil : eqL [] [] = true := rfl
theorem eql_cons {x y : D} {xs ys : List D} : eqL (x :: xs) (y :: ys) = (eqD x y && eqL xs ys) := rfl
theorem asb_ok {b : Bool} {e : Nv} : asB (.ok (.bl b) e) = .ok b e := rfl
theorem ev_lc {C : Orc} {elt : E} {tg : Tg} {ik : Ik} {is ifs : List E} {own : List (Str × Nat)} {e e1 e2 : Nv} {xs ds r : List D} (h1 : evs C is e = .ok xs e1) (h2 : itemsD ik xs = some ds)
    (h3 : lcGo (fun e => wipeE e (own.map (·.2))) (asgT tg) (fun e => evTs C ifs e) (fun e => (ev C elt e).still) ds (wipeE e1 (own.map (·.2))) = .ok r e2) : ev C (.lc elt tg ik is ifs own) e = .ok (.lst true r) e2 := by
  rw [ev, h1, R.bind_ok]
  simp only [h2, h3]
  rfl
theorem nat_small {n : Nat} (h : n < 2 ^ 200) : n < 2 ^ 9000 := Nat.lt_of_lt_of_le h (Nat.pow_le_pow_right (by decide) (by decide))
theorem pull_ok {T : Str → Option Fn} {W k : Nat} (hT : Is T "_law_pull" 2 5 [true, true] pull_body) {b : D} (B : Bag b) {m : Int} (hm : 0 < m) (hm2 : m < 2 ^ 200) :
    ∃ r b', callN T W (k + 1) "_law_pull" [b, .int m] = .ok (.int r) [some b', some (.int m)] ∧ Bag b' ∧ 0 ≤ r ∧ r < m := by
  obtain ⟨cs, i, h, s, rfl, h0, h1, h2, h3⟩ := B
  rw [hT.eq rfl]
  have hm3 : m.natAbs < 2 ^ 9000 := nat_small (by omega)
  have hs : s.natAbs < 2 ^ 64 := by omega
  have h89 : 89 < 2 ^ 9000 := nat_small (by decide)
  by_cases c1 : h = 0
  · subst c1
    by_cases c2 : i < cs.length
    · obtain ⟨c, hc⟩ := atI_ints h0 c2
      by_cases c3 : 1000000000000000000 ≤ c
      · have hcm : 0 < c := by omega
        refine ⟨c % m, .lst true [.lst false (cs.map D.int), .int (i + 1), .int (c / m), .int s], ?_, ⟨cs, i + 1, c / m, s, rfl, by omega, Int.ediv_nonneg (by omega) (by omega), h2, h3⟩, Int.emod_nonneg _ (by omega), Int.emod_lt_of_pos _ hm⟩
        simp [pull_body, exs, exS, ev, asb_ok, asBD, R.of_some, ixD, cmpD, eq_ii, eq_bb, eq_ss, eq_nn, eq_ll, eq_tt, eql_nil, eql_cons, shal, a0, a1, a2, a3, s1, s2, s3, b1D, asg_nm, asg_tup, asgl_nil, asgl_cons, onS, updE, binD, D.fz, fzL, fin, lastP, c2, hc, c3, hcm, hm, hm3]
      · let s1' := (s * 40692 + c % 2147483587 * 48271 + 7) % 2147483647
        have e1 : 0 ≤ s1' ∧ s1' < 2147483647 := ⟨Int.emod_nonneg _ (by decide), Int.emod_lt_of_pos _ (by decide)⟩
        let s2' := (s1' * s1' + s1' * 69621 + 1013904223) % 2147483647
        have e2 : 0 ≤ s2' ∧ s2' < 2147483647 := ⟨Int.emod_nonneg _ (by decide), Int.emod_lt_of_pos _ (by decide)⟩
        have e3 : ((s * 40692 + c % 2147483587 * 48271 + 7) % 2147483647).natAbs < 18446744073709551616 := by omega
        refine ⟨(s2' / 89 + s2' % 8191 * 61) % m, .lst true [.lst false (cs.map D.int), .int (i + 1), .int 0, .int s2'], ?_, ⟨cs, i + 1, 0, s2', rfl, by omega, by omega, e2.1, e2.2⟩, Int.emod_nonneg _ (by omega), Int.emod_lt_of_pos _ hm⟩
        simp [pull_body, exs, exS, ev, asb_ok, asBD, R.of_some, ixD, cmpD, eq_ii, eq_bb, eq_ss, eq_nn, eq_ll, eq_tt, eql_nil, eql_cons, shal, a0, a1, a2, a3, s1, s2, s3, b1D, asg_nm, asg_tup, asgl_nil, asgl_cons, onS, updE, binD, D.fz, fzL, fin, lastP, c2, hc, c3, hm, hm3, e3, h89]
        exact ⟨rfl, rfl⟩
    · let s2' := (s * s + s * 69621 + 1013904223) % 2147483647
      have e2 : 0 ≤ s2' ∧ s2' < 2147483647 := ⟨Int.emod_nonneg _ (by decide), Int.emod_lt_of_pos _ (by decide)⟩
      have e3 : s.natAbs < 18446744073709551616 := by omega
      refine ⟨(s2' / 89 + s2' % 8191 * 61) % m, .lst true [.lst false (cs.map D.int), .int i, .int 0, .int s2'], ?_, ⟨cs, i, 0, s2', rfl, by omega, by omega, e2.1, e2.2⟩, Int.emod_nonneg _ (by omega), Int.emod_lt_of_pos _ hm⟩
      simp [pull_body, exs, exS, ev, asb_ok, asBD, R.of_some, ixD, cmpD, eq_ii, eq_bb, eq_ss, eq_nn, eq_ll, eq_tt, eql_nil, eql_cons, shal, a0, a1, a2, a3, s1, s2, s3, b1D, asg_nm, asg_tup, asgl_nil, asgl_cons, onS, updE, binD, D.fz, fzL, fin, lastP, c2, hm, hm3, e3, h89]
      exact ⟨rfl, rfl⟩
  · have hp : 0 < h := by omega
    refine ⟨h % m, .lst true [.lst false (cs.map D.int), .int i, .int (h / m), .int s], ?_, ⟨cs, i, h / m, s, rfl, by omega, Int.ediv_nonneg (by omega) (by omega), h2, h3⟩, Int.emod_nonneg _ (by omega), Int.emod_lt_of_pos _ hm⟩
    simp [pull_body, exs, exS, ev, asb_ok, asBD, R.of_some, ixD, cmpD, eq_ii, eq_bb, eq_ss, eq_nn, eq_ll, eq_tt, eql_nil, eql_cons, shal, a0, a1, a2, a3, s1, s2, s3, b1D, asg_nm, asg_tup, asgl_nil, asgl_cons, onS, updE, binD, D.fz, fzL, fin, lastP, c1, hp, hm, hm3]
theorem for_ok {tg : D → Nv → Option Nv} {b : Nv → R Fl} (I : Nat → Nv → Prop) : ∀ (ds : List D) (i : Nat) (e : Nv), I i e →
    (∀ j x e, ds[j]? = some x → I (i + j) e → ∃ e1 fl e2, tg x e = some e1 ∧ b e1 = .ok fl e2 ∧ (fl = .next ∨ fl = .cnt) ∧ I (i + j + 1) e2) → ∃ e', forGo tg b ds e = .ok .next e' ∧ I (i + ds.length) e'
  | [], i, e, h, _ => ⟨e, rfl, h⟩
  | x :: ds, i, e, h, st => by
    obtain ⟨e1, fl, e2, h1, h2, h3, h4⟩ := st 0 x e rfl h
    obtain ⟨e', h5, h6⟩ := for_ok I ds (i + 1) e2 h4 fun j y e hj hI => by
      have := st (j + 1) y e (by simpa using hj) (by rw [show i + (j + 1) = i + 1 + j by omega]; exact hI)
      rw [show i + (j + 1) = i + 1 + j by omega] at this
      exact this
    refine ⟨e', ?_, by rw [List.length_cons, show i + (ds.length + 1) = i + 1 + ds.length by omega]; exact h6⟩
    unfold forGo
    rw [h1]
    simp only [h2, R.bind_ok]
    rcases h3 with rfl | rfl <;> exact h5
theorem lc_ok {w : Nv → Nv} {tg : D → Nv → Option Nv} {tt : Nv → R Bool} {f : Nv → R D} (I : Nv → Prop) (P : Nat → D → Prop) : ∀ (ds : List D) (i : Nat) (e : Nv), I e →
    (∀ j x e, ds[j]? = some x → I e → ∃ e1 e2 d e3, tg x e = some e1 ∧ tt e1 = .ok true e2 ∧ f e2 = .ok d e3 ∧ I (w e3) ∧ P (i + j) d) → ∃ r e', lcGo w tg tt f ds e = .ok r e' ∧ I e' ∧ r.length = ds.length ∧ ∀ j d, r[j]? = some d → ∃ d0, d = d0.fz ∧ P (i + j) d0
  | [], i, e, h, _ => ⟨[], e, rfl, h, rfl, fun j d hj => by simp at hj⟩
  | x :: ds, i, e, h, st => by
    obtain ⟨e1, e2, d, e3, h1, h2, h3, h4, h5⟩ := st 0 x e rfl h
    obtain ⟨r, e', h6, h7, h8, h9⟩ := lc_ok I P ds (i + 1) (w e3) h4 fun j y e hj hI => by
      have := st (j + 1) y e (by simpa using hj) hI
      rw [show i + (j + 1) = i + 1 + j by omega] at this
      exact this
    refine ⟨d.fz :: r, e', ?_, h7, by simp [h8], fun j d' hj => ?_⟩
    · unfold lcGo
      rw [h1]
      simp only [h2, R.bind_ok, if_pos, h3, h6]
    · cases j with
      | zero => exact ⟨d, by simpa using hj.symm, h5⟩
      | succ j =>
        have := h9 j d' (by simpa using hj)
        rw [show i + (j + 1) = i + 1 + j by omega]
        exact this
theorem fzL_ints : ∀ cs : List Int, fzL (cs.map D.int) = cs.map D.int
  | [] => rfl
  | c :: cs => by rw [List.map_cons, fzL, fzL_ints cs]; rfl
theorem slc_ints {o : Bool} {ns : List Int} {k : Nat} : slcD (.lst o (ns.map D.int)) none (some (k : Int)) = some (.lst true ((ns.take k).map D.int)) := by
  unfold slcD
  simp only [HT.sIx_none, HT.sIx_nat, List.length_map, List.drop_zero, Nat.sub_zero, List.map_take]
  congr 2
  by_cases h : k ≤ ns.length
  · rw [Nat.min_eq_left h]
  · rw [Nat.min_eq_right (by omega), List.take_of_length_le (by simp), List.take_of_length_le (by simp; omega)]
theorem bag_ok {T : Str → Option Fn} {W k : Nat} (hT : Is T "_law_bag" 1 3 [true] bag_body) (o : Bool) (ns : List Int) :
    ∃ b, callN T W (k + 1) "_law_bag" [.lst o (ns.map .int)] = .ok b [some (.lst o (ns.map .int))] ∧ Bag b := by
  rw [hT.eq rfl]
  have key : ∃ e', forGo (asgT (.nm 2)) (fun e => exs (callN T W k) W bag_1 e) ((ns.take 63).map D.int) [some (.lst o (ns.map .int)), some (.int 9489), none] = .ok .next e' ∧ ∃ (s : Int) (x : Option D), e' = [some (.lst o (ns.map .int)), some (.int s), x] ∧ 0 ≤ s ∧ s < 2147483647 := by
    refine for_ok (I := fun _ e' => ∃ (s : Int) (x : Option D), e' = [some (.lst o (ns.map .int)), some (.int s), x] ∧ 0 ≤ s ∧ s < 2147483647) _ 0 _ ⟨9489, none, rfl, by decide, by decide⟩ ?_
    rintro j d e hd ⟨s, x, rfl, h1, h2⟩
    rw [List.getElem?_map] at hd
    obtain ⟨c, _, rfl⟩ := Option.map_eq_some_iff.mp hd
    have hs : s.natAbs < 18446744073709551616 := by omega
    refine ⟨[some (.lst o (ns.map .int)), some (.int s), some (.int c)], .next, [some (.lst o (ns.map .int)), some (.int ((s * 39373 + c % 2147483587 + 17) % 2147483647)), some (.int c)], rfl, by simp [bag_1, exs, exS, ev, evs, evA, asb_ok, asBD, R.of_some, ixD, cmpD, eq_ii, eq_bb, eq_ss, eq_nn, eq_ll, eq_tt, eql_nil, eql_cons, shal, a0, a1, a2, a3, s1, s2, s3, b1D, asg_nm, asg_tup, asgl_nil, asgl_cons, onS, updE, binD, D.fz, fzL, fin, lastP, partD, itemsD, callA, takeA, putA, isTy, hs], .inl rfl, _, _, rfl, Int.emod_nonneg _ (by decide), Int.emod_lt_of_pos _ (by decide)⟩
  obtain ⟨e', h1, s, x, rfl, h2, h3⟩ := key
  have hsl : slcD (.lst o (ns.map D.int)) none (some 63) = some (.lst true ((ns.take 63).map D.int)) := slc_ints (o := o) (ns := ns) (k := 63)
  refine ⟨.lst true [.lst false ((ns.take 63).map D.int), .int 0, .int 0, .int s], ?_, _, 0, 0, s, rfl, by decide, by decide, h2, h3⟩
  simp [bag_body, exs, exS, ev, evs, evA, asb_ok, asBD, R.of_some, ixD, cmpD, eq_ii, eq_bb, eq_ss, eq_nn, eq_ll, eq_tt, eql_nil, eql_cons, shal, a0, a1, a2, a3, s1, s2, s3, b1D, asg_nm, asg_tup, asgl_nil, asgl_cons, onS, updE, binD, D.fz, fzL, fin, lastP, partD, itemsD, callA, takeA, putA, isTy, hsl, h1, -List.map_take]
  exact fzL_ints _
theorem fzL_isF : ∀ {xs : List D}, isFL xs = true → fzL xs = xs := by
  have h : ∀ n : Nat, (∀ d : D, sizeOf d < n → d.isF = true → d.fz = d) := by
    intro n
    induction n with
    | zero => intro d h; omega
    | succ n ih =>
      have hl : ∀ xs : List D, sizeOf xs < n + 1 → isFL xs = true → fzL xs = xs := by
        intro xs
        induction xs with
        | nil => intros; rfl
        | cons x r ihr =>
          intro hs hf
          simp only [isFL, Bool.and_eq_true] at hf
          simp at hs
          rw [fzL, ihr (by omega) hf.2, ih x (by omega) hf.1]
      intro d hs hf
      cases d with
      | tup xs => simp only [D.isF] at hf; simp at hs; rw [D.fz, hl xs (by omega) hf]
      | lst o xs => simp only [D.isF, Bool.and_eq_true, Bool.not_eq_true'] at hf; simp at hs; rw [D.fz, hl xs (by omega) hf.2, hf.1]
      | dct o ks xs => simp only [D.isF, Bool.and_eq_true, Bool.not_eq_true'] at hf; simp at hs; rw [D.fz, hl xs (by omega) hf.2, hf.1]
      | ins o c fs xs => simp only [D.isF, Bool.and_eq_true, Bool.not_eq_true'] at hf; simp at hs; rw [D.fz, hl xs (by omega) hf.2, hf.1]
      | _ => rfl
  intro xs
  induction xs with
  | nil => intros; rfl
  | cons x r ih =>
    intro hf
    simp only [isFL, Bool.and_eq_true] at hf
    rw [fzL, ih hf.2, h (sizeOf x + 1) x (by omega) hf.1]
theorem of_ok {T : Str → Option Fn} {W k : Nat} (hT : Is T "_law_of" 2 2 [true, true] of_body) (hP : Is T "_law_pull" 2 5 [true, true] pull_body) {b : D} (B : Bag b) {o : Bool} {xs : List D} (hx : isFL xs = true) (h0 : xs ≠ []) (hl : xs.length < 1000000000) :
    ∃ x b', callN T W (k + 2) "_law_of" [b, .lst o xs] = .ok x [some b', some (.lst false xs)] ∧ Bag b' ∧ x ∈ xs := by
  rw [hT.eq rfl]
  have hpos : 0 < xs.length := List.length_pos_iff.mpr h0
  obtain ⟨r, b', h1, h2, h3, h4⟩ := pull_ok (W := W) (k := k) hP B (m := (xs.length : Int)) (by omega) (by omega)
  obtain ⟨j, rfl⟩ := Int.eq_ofNat_of_zero_le h3
  have hj : j < xs.length := by omega
  refine ⟨xs[j], b', ?_, h2, List.getElem_mem hj⟩
  have hat : atI xs (j : Int) = some xs[j] := by rw [atI_nat, List.getElem?_eq_getElem hj]
  simp [of_body, exs, exS, ev, evs, evA, asb_ok, asBD, R.of_some, ixD, cmpD, eq_ii, eq_bb, eq_ss, eq_nn, eq_ll, eq_tt, eql_nil, eql_cons, shal, a0, a1, a2, a3, s1, s2, s3, b1D, asg_nm, asg_tup, asgl_nil, asgl_cons, onS, updE, binD, D.fz, fzL, fin, lastP, partD, itemsD, callA, takeA, putA, isTy, h1, fzL_isF hx, hat]
theorem rng_nat {n : Nat} (h : n < 1000000) : rngD 0 (n : Int) = some ((List.range n).map fun (k : Nat) => .int (k : Int)) := by
  unfold rngD
  rw [if_pos (by omega)]
  simp
theorem atI_isF {xs : List D} {d : D} {j : Nat} (h : isFL xs = true) (hj : xs[j]? = some d) : d.isF = true := by
  induction xs generalizing j with
  | nil => simp at hj
  | cons x r ih =>
    simp only [isFL, Bool.and_eq_true] at h
    cases j with
    | zero => have : x = d := by simpa using hj
              exact this ▸ h.1
    | succ j => exact ih h.2 (by simpa using hj)
end Vm.Lib
namespace Vm.Lib
open PySem PySem.Spec L2 Vm
def mixed_1 : List S := [(.ins 2 (.cal "_law_pull" [(.pk 0), (.bin .Add (.b1 .len (.pk 2)) (.cst (.int 1)))]) (.nm 3))]
def mixed_body : List S := [
    (.asg (.nm 2) (.lst [])),
    (.for_ (.nm 3) .seq [(.nm 1)] mixed_1),
    (.ret (.mv 2))]
theorem fz_isF {d : D} (h : d.isF = true) : d.fz = d := by
  have := fzL_isF (xs := [d]) (by simp [isFL, h])
  simpa [fzL] using this
theorem mixed_ok {T : Str → Option Fn} {W k : Nat} (hT : Is T "_law_mixed" 2 4 [true, true] mixed_body) (hP : Is T "_law_pull" 2 5 [true, true] pull_body) {b : D} (B : Bag b) {o : Bool} {xs : List D} (hx : isFL xs = true) (hl : xs.length < 100000) :
    ∃ b' ys, callN T W (k + 2) "_law_mixed" [b, .lst o xs] = .ok (.lst true ys) [some b', some (.lst false xs)] ∧ Bag b' ∧ ys.Perm xs := by
  rw [hT.eq rfl]
  obtain ⟨e', h1, b', ys, x3, rfl, B', hp⟩ := for_ok (tg := asgT (.nm 3)) (b := fun e => exs (callN T W (k + 1)) W mixed_1 e) (fun j e => ∃ b ys x3, e = [some b, some (.lst false xs), some (.lst true ys), x3] ∧ Bag b ∧ ys.Perm (xs.take j))
    xs 0 [some b, some (.lst false xs), some (.lst true []), none] ⟨b, [], none, rfl, B, by simp⟩ (by
    rintro j x e hj ⟨b, ys, x3, rfl, B, hp⟩
    simp only [Nat.zero_add] at hp
    obtain ⟨hjl, hxj⟩ := List.getElem?_eq_some_iff.mp hj
    have hyl : ys.length = j := by rw [hp.length_eq, List.length_take]; omega
    obtain ⟨r, b1, p1, B1, q1, q2⟩ := pull_ok (W := W) (k := k) hP B (m := (ys.length : Int) + 1) (by omega) (by omega)
    obtain ⟨n, rfl⟩ := Int.eq_ofNat_of_zero_le q1
    have hn : n ≤ ys.length := by omega
    have hxF : x.isF = true := atI_isF hx hj
    have hfz := fz_isF hxF
    have hc : ys.length < lim ∧ (0 : Int) ≤ (n : Int) ∧ (n : Int) ≤ ys.length := ⟨by simp only [lim]; omega, by omega, by omega⟩
    refine ⟨[some b, some (.lst false xs), some (.lst true ys), some x], .next, [some b1, some (.lst false xs), some (.lst true (ys.insertIdx n x)), some x], rfl, ?_, .inl rfl, b1, _, _, rfl, B1, ?_⟩
    · simp [mixed_1, exs, exS, ev, evs, evA, onL, callA, takeA, putA, b1D, binD, R.of_some, p1, updE, insO, hfz, hc]
    · rw [Nat.zero_add, List.take_succ, hj]
      exact (List.perm_insertIdx x ys hn).trans ((List.Perm.cons x hp).trans (by simpa using (List.perm_append_singleton x (xs.take j)).symm)))
  refine ⟨b', ys, ?_, B', by simpa using hp⟩
  have hz := fzL_isF hx
  simp [mixed_body, exs, exS, ev, evs, itemsD, asg_nm, D.fz, fzL, hz, h1, fin, lastP]
theorem of_str {T : Str → Option Fn} {W k : Nat} (hT : Is T "_law_of" 2 2 [true, true] of_body) (hP : Is T "_law_pull" 2 5 [true, true] pull_body) {b : D} (B : Bag b) {z : Str} (h0 : 0 < z.cps.toList.length) (hl : z.length < 1000000) :
    ∃ (b' : D) (c : Nat), callN T W (k + 2) "_law_of" [b, .str z] = .ok (.str ⟨#[c]⟩) [some b', some (.str z)] ∧ Bag b' ∧ c ∈ z.cps.toList := by
  rw [hT.eq rfl]
  have hz : z.cps.toList.length = z.length := Array.length_toList
  obtain ⟨r, b', h1, h2, h3, h4⟩ := pull_ok (W := W) (k := k) hP B (m := (z.length : Int)) (by omega) (by omega)
  obtain ⟨j, rfl⟩ := Int.eq_ofNat_of_zero_le h3
  have hj : j < z.cps.toList.length := by omega
  refine ⟨b', z.cps.toList[j], ?_, h2, List.getElem_mem hj⟩
  have hat : atI z.cps.toList (j : Int) = some z.cps.toList[j] := by rw [atI_nat, List.getElem?_eq_getElem hj]
  simp only [of_body, exs, exS, ev, evs, evA, List.map, List.replicate, List.append_nil, List.getElem?_cons_zero, List.getElem?_cons_succ, R.bind_ok, D.fz, b1D, R.of_some, callA, takeA, Option.bind_some, List.set_cons_zero, List.set_cons_succ, h1, putA, ixD, hat, Option.map_some, fin, lastP, List.cons_append, List.nil_append]
  rfl
end Vm.Lib
namespace Vm.Lib
open PySem PySem.Spec L2 Vm
def names_1 : List S := [(.asg (.nm 3) (.bin .Add (.nm 3) (.cal "_law_of" [(.pk 0), (.pk 2)])))]
def names_2 : E := (.bin .Mult (.ix (.pk 2) (.bin .Mod (.bin .Add (.b1 .len (.pk 3)) (.bin .Mult (.cst (.int 7)) (.pk 4))) (.cst (.int 26)))) (.bin .Add (.cst (.int 1)) (.bin .Mod (.bin .Add (.b1 .len (.pk 3)) (.bin .Mult (.cst (.int 5)) (.pk 4))) (.cst (.int 4)))))
def names_3 : E := (.lc names_2 (.nm 4) .rng1 [(.nm 1)] [] [("_law_k", 4)])
def names_4 : E := (.bin .Add (.bin .Add (.slc false true (.nm 3) (.cst .non) (.nm 5)) (.ix (.pk 2) (.bin .Mod (.bin .Add (.pk 6) (.bin .Mult (.pk 7) (.pk 4))) (.cst (.int 26))))) (.slc true false (.nm 3) (.nm 5) (.cst .non)))
def names_5 : E := (.lc names_4 (.nm 4) .rng1 [(.nm 1)] [] [("_law_k", 4)])
def names_body : List S := [
    (.asg (.tup [(.nm 2), (.nm 3)]) (.tup [(.cst (.str "abcdefghijklmnopqrstuvwxyz")), (.cst (.str ""))])),
    (.for_ (.nm 4) .rng1 [(.cal "_law_pull" [(.pk 0), (.cst (.int 6))])] names_1),
    (.iff (.cmp .Eq (.cal "_law_pull" [(.pk 0), (.cst (.int 4))]) (.cst (.int 0))) [(.ret names_3)] []),
    (.asg (.tup [(.nm 5), (.nm 6), (.nm 7)]) (.tup [(.cal "_law_pull" [(.pk 0), (.bin .Add (.b1 .len (.pk 3)) (.cst (.int 1)))]), (.cal "_law_pull" [(.pk 0), (.cst (.int 26))]), (.cal "_law_of" [(.pk 0), (.lst [(.cst (.int 1)), (.cst (.int 3)), (.cst (.int 5)), (.cst (.int 7)), (.cst (.int 9))])])])),
    (.ret names_5)]
def LT : Str := "abcdefghijklmnopqrstuvwxyz"
theorem lt_list : LT.cps.toList = (List.range 26).map (· + 97) := by decide +kernel
theorem lt_at {i : Nat} (h : i < 26) : ixD (.str LT) (.int (i : Int)) = some (.str ⟨#[i + 97]⟩) := by
  show (atI LT.cps.toList (i : Int)).map _ = _
  rw [lt_list, atI_nat, List.getElem?_map, List.getElem?_range h]
  rfl
def rpt (m : Nat) (x : Str) : Str := ⟨(List.replicate m x.cps.toList).flatten.toArray⟩
def n1 (L j : Nat) : Str := rpt (1 + (L + 5 * j) % 4) ⟨#[(L + 7 * j) % 26 + 97]⟩
theorem n1_inj {L i j : Nat} (hi : i < 26) (hj : j < 26) (h : n1 L i = n1 L j) : i = j := by
  have hd : ∀ m c : Nat, (rpt (1 + m) ⟨#[c]⟩).cps.toList.head? = some c := fun m c => by
    rw [Nat.add_comm]
    simp [rpt, List.replicate_succ]
  have := congrArg (fun s : Str => s.cps.toList.head?) h
  simp only [n1, hd] at this
  have := Option.some.inj this
  omega
def n2 (B : Str) (p f s j : Nat) : Str := cutS B none (some (p : Int)) ++ ⟨#[(f + s * j) % 26 + 97]⟩ ++ cutS B (some (p : Int)) none
theorem n2_inj {B : Str} {p f s i j : Nat} (hs : s = 1 ∨ s = 3 ∨ s = 5 ∨ s = 7 ∨ s = 9) (hi : i < 26) (hj : j < 26) (h : n2 B p f s i = n2 B p f s j) : i = j := by
  have e : ∀ (x y z : Str), (x ++ y ++ z).cps.toList = x.cps.toList ++ y.cps.toList ++ z.cps.toList := fun x y z => by
    show ((x.cps ++ y.cps) ++ z.cps).toList = _
    simp
  have := congrArg (fun s : Str => s.cps.toList) h
  simp only [n2, e, List.append_assoc, List.append_cancel_left_eq, List.append_cancel_right_eq] at this
  have : (f + s * i) % 26 + 97 = (f + s * j) % 26 + 97 := by simpa using this
  rcases hs with rfl | rfl | rfl | rfl | rfl <;> omega
/-- one to six small letters -/
def NameS (s : Str) : Prop := 1 ≤ s.length ∧ s.length ≤ 6 ∧ ∀ c ∈ s.cps.toList, 97 ≤ c ∧ c < 123
theorem n1_name {L j : Nat} : NameS (n1 L j) := by
  have e : (n1 L j).cps.toList = List.replicate (1 + (L + 5 * j) % 4) ((L + 7 * j) % 26 + 97) := by
    show ((List.replicate _ [_]).flatten.toArray).toList = _
    simp
  have hl : (n1 L j).length = 1 + (L + 5 * j) % 4 := by
    show (n1 L j).cps.size = _
    rw [← Array.length_toList, e, List.length_replicate]
  refine ⟨by omega, by omega, fun c hc => ?_⟩
  rw [e] at hc
  have := (List.mem_replicate.mp hc).2
  omega
theorem n2_name {B : Str} {p f s j : Nat} (hB : B.length ≤ 5) (hp : p ≤ B.length) (hc : ∀ c ∈ B.cps.toList, 97 ≤ c ∧ c < 123) : NameS (n2 B p f s j) := by
  have hn : B.cps.toList.length = B.length := Array.length_toList
  have e : (n2 B p f s j).cps.toList = B.cps.toList.take p ++ [(f + s * j) % 26 + 97] ++ B.cps.toList.drop p := by
    show ((_ ++ _ : Array Nat) ++ _).toList = _
    simp only [cutS, HT.sIx_none, HT.sIx_nat, Array.toList_append, List.drop_zero, Nat.sub_zero]
    rw [Nat.min_eq_left hp]
    congr 1
    exact List.take_of_length_le (by rw [List.length_drop]; omega)
  have hl : (n2 B p f s j).length = B.length + 1 := by
    show (n2 B p f s j).cps.size = _
    rw [← Array.length_toList, e]
    simp only [List.length_append, List.length_take, List.length_drop, List.length_cons, List.length_nil]
    omega
  refine ⟨by omega, by omega, fun c h => ?_⟩
  rw [e] at h
  simp only [List.mem_append, List.mem_singleton] at h
  rcases h with (h | rfl) | h
  · exact hc c (List.mem_of_mem_take h)
  · omega
  · exact hc c (List.mem_of_mem_drop h)
theorem bi_add {i j : Int} : binD .Add (.int i) (.int j) = some (.int (i + j)) := rfl
theorem bi_mod {i j : Int} (h : 0 < j) : binD .Mod (.int i) (.int j) = some (.int (i % j)) := if_pos h
theorem bi_mul {i j : Int} (h : i.natAbs < 1000) : binD .Mult (.int i) (.int j) = some (.int (i * j)) := if_pos (.inl (Nat.lt_of_lt_of_le h (by decide)))
theorem b1len {z : Str} : b1D .len (.str z) = some (.int (z.length : Int)) := rfl
theorem names_el1 {C : Orc} {b : D} {n : Int} {base : Str} {j : Nat} {x5 x6 x7 : Option D} (hL : base.length ≤ 1000) : ev C names_2 [some b, some (.int n), some (.str LT), some (.str base), some (.int j), x5, x6, x7] = .ok (.str (n1 base.length j)) [some b, some (.int n), some (.str LT), some (.str base), some (.int j), x5, x6, x7] := by
  have hA : ixD (.str LT) (.int (((base.length : Int) + 7 * (j : Int)) % 26)) = some (.str ⟨#[(base.length + 7 * j) % 26 + 97]⟩) := by
    rw [show ((base.length : Int) + 7 * (j : Int)) % 26 = (((base.length + 7 * j) % 26 : Nat) : Int) by omega]
    exact lt_at (Nat.mod_lt _ (by decide))
  have hB : binD .Mult (.str ⟨#[(base.length + 7 * j) % 26 + 97]⟩) (.int (1 + ((base.length : Int) + 5 * (j : Int)) % 4)) = some (.str (n1 base.length j)) := by
    rw [show 1 + ((base.length : Int) + 5 * (j : Int)) % 4 = ((1 + (base.length + 5 * j) % 4 : Nat) : Int) by omega]
    exact if_pos ⟨by omega, by omega, (by decide : (1 : Nat) ≤ 1000)⟩
  have m7 := fun j : Int => bi_mul (i := 7) (j := j) (by decide)
  have m5 := fun j : Int => bi_mul (i := 5) (j := j) (by decide)
  have d26 := fun i : Int => bi_mod (i := i) (j := 26) (by decide)
  have d4 := fun i : Int => bi_mod (i := i) (j := 4) (by decide)
  simp only [names_2, ev, List.getElem?_cons_zero, List.getElem?_cons_succ, R.bind_ok, b1len, R.of_some, m7, m5, d26, d4, bi_add, hA, hB]
theorem names_el2 {C : Orc} {b : D} {n : Int} {base : Str} {j p f s : Nat} (hL : base.length ≤ 1000) (hs : s < 1000) : ev C names_4 [some b, some (.int n), some (.str LT), some (.str base), some (.int j), some (.int p), some (.int f), some (.int s)] = .ok (.str (n2 base p f s j)) [some b, some (.int n), some (.str LT), some (.str base), some (.int j), some (.int p), some (.int f), some (.int s)] := by
  have hA : ixD (.str LT) (.int (((f : Int) + (s : Int) * (j : Int)) % 26)) = some (.str ⟨#[(f + s * j) % 26 + 97]⟩) := by
    rw [show ((f : Int) + (s : Int) * (j : Int)) % 26 = (((f + s * j) % 26 : Nat) : Int) by push_cast; rfl]
    exact lt_at (Nat.mod_lt _ (by decide))
  have mm := bi_mul (i := (s : Int)) (j := (j : Int)) (by omega)
  have d26 := fun i : Int => bi_mod (i := i) (j := 26) (by decide)
  have l1 := cutS_length base none (some (p : Int))
  have l2 := cutS_length base (some (p : Int)) none
  have a1 : binD .Add (.str (cutS base none (some (p : Int)))) (.str ⟨#[(f + s * j) % 26 + 97]⟩) = some (.str (cutS base none (some (p : Int)) ++ ⟨#[(f + s * j) % 26 + 97]⟩)) := if_pos (by
    show (cutS base none (some (p : Int))).length + 1 ≤ 1000000
    omega)
  have a2 : binD .Add (.str (cutS base none (some (p : Int)) ++ ⟨#[(f + s * j) % 26 + 97]⟩)) (.str (cutS base (some (p : Int)) none)) = some (.str (n2 base p f s j)) := if_pos (by
    have : (cutS base none (some (p : Int)) ++ (⟨#[(f + s * j) % 26 + 97]⟩ : Str)).length = (cutS base none (some (p : Int))).length + 1 := by
      show (_ ++ _ : Array Nat).size = _
      rw [Array.size_append]
      rfl
    rw [this]
    show _ ≤ 1000000
    omega)
  have s1 : slcD (.str base) none (some (p : Int)) = some (.str (cutS base none (some (p : Int)))) := rfl
  have s2 : slcD (.str base) (some (p : Int)) none = some (.str (cutS base (some (p : Int)) none)) := rfl
  simp only [names_4, ev, List.getElem?_cons_zero, List.getElem?_cons_succ, R.bind_ok, D.fz, List.set_cons_zero, List.set_cons_succ, partD, Option.bind_some, R.of_some, s1, s2, mm, d26, bi_add, hA, a1, a2]
theorem strs_of {r : List D} {n : Nat} {f : Nat → Str} (hl : r.length = n) (h : ∀ (j : Nat) (d : D), r[j]? = some d → d = .str (f j)) : r = ((List.range n).map f).map D.str := by
  apply List.ext_getElem?
  intro j
  rw [List.map_map, List.getElem?_map]
  cases hj : r[j]? with
  | none =>
    rw [List.getElem?_eq_none_iff] at hj
    rw [List.getElem?_eq_none (by simp; omega)]
    rfl
  | some d =>
    have hjl := (List.getElem?_eq_some_iff.mp hj).1
    rw [List.getElem?_range (by omega), h j d hj]
    rfl
theorem names_lc {C : Orc} {tm : E} {g : Nat → Str} {E0 : Option D → Nv} {n : Nat} (hn : n < 1000) (hs : ∀ x y, (E0 x).set 4 y = E0 y) (h4 : ∀ x, 4 < (E0 x).length)
    (he : ∀ j : Nat, ev C tm (E0 (some (.int j))) = .ok (.str (g j)) (E0 (some (.int j)))) (x4 : Option D) (h1 : ∀ x, (E0 x)[1]? = some (some (.int n))) (hs1 : ∀ x, (E0 x).set 1 (some (.int n)) = E0 x) :
    ev C (.lc tm (.nm 4) .rng1 [(.nm 1)] [] [("_law_k", 4)]) (E0 x4) = .ok (.lst true (((List.range n).map g).map D.str)) (E0 none) := by
  obtain ⟨r, e', g1, rfl, g3, g4⟩ := lc_ok (w := fun e => wipeE e [4]) (tg := asgT (.nm 4)) (tt := fun e => evTs C [] e) (f := fun e => (ev C tm e).still) (fun e => e = E0 none) (fun j d => d = .str (g j)) ((List.range n).map fun (k : Nat) => .int (k : Int)) 0 (E0 none) rfl (by
    rintro j x e hx rfl
    rw [List.getElem?_map] at hx
    obtain ⟨j', hj', rfl⟩ := Option.map_eq_some_iff.mp hx
    obtain ⟨hjl, rfl⟩ := List.getElem?_eq_some_iff.mp hj'
    rw [List.getElem_range]
    refine ⟨E0 (some (.int j)), E0 (some (.int j)), .str (g j), E0 (some (.int j)), ?_, rfl, by rw [he]; rfl, ?_, by rw [Nat.zero_add]⟩
    · rw [asg_nm, if_pos (h4 none), hs]
    · show (E0 (some (.int j))).set 4 none = _
      rw [hs])
  have hr : r = ((List.range n).map g).map D.str := strs_of (by simpa using g3) fun j d hj => by
    obtain ⟨d0, rfl, rfl⟩ := g4 j d hj
    rw [Nat.zero_add]
    rfl
  subst hr
  refine ev_lc (xs := [.int n]) (e1 := E0 x4) ?_ (rng_nat (n := n) (by omega)) ?_
  · simp only [evs, ev, h1, R.bind_ok, D.fz, hs1]
  · show lcGo _ _ _ _ _ ((E0 x4).set 4 none) = _
    rw [hs]
    exact g1
theorem app_len {x : Str} {c : Nat} : (x ++ (⟨#[c]⟩ : Str)).length = x.length + 1 := by
  show (_ ++ _ : Array Nat).size = _
  rw [Array.size_append]
  rfl
theorem names_ok {T : Str → Option Fn} {W k : Nat} (hT : Is T "_law_names" 2 8 [true, true] names_body) (hO : Is T "_law_of" 2 2 [true, true] of_body) (hP : Is T "_law_pull" 2 5 [true, true] pull_body) {b : D} (B : Bag b) {n : Nat} (hn : n ≤ 26) :
    ∃ (b' : D) (ss : List Str), callN T W (k + 3) "_law_names" [b, .int n] = .ok (.lst true (ss.map .str)) [some b', some (.int n)] ∧ Bag b' ∧ ss.length = n ∧ ss.Nodup ∧ ∀ s ∈ ss, NameS s := by
  rw [hT.eq rfl]
  obtain ⟨r0, b1, p1, B1, q1, q2⟩ := pull_ok (W := W) (k := k + 1) hP B (m := 6) (by decide) (by decide)
  obtain ⟨n0, rfl⟩ := Int.eq_ofNat_of_zero_le q1
  have hr := rng_nat (n := n0) (by omega)
  obtain ⟨e', h1, b2, base, x4, rfl, B2, hL, hC⟩ := for_ok (tg := asgT (.nm 4)) (b := fun e => exs (callN T W (k + 2)) W names_1 e) (fun j e => ∃ (b : D) (base : Str) (x4 : Option D), e = [some b, some (.int n), some (.str LT), some (.str base), x4, none, none, none] ∧ Bag b ∧ base.length ≤ j ∧ ∀ c ∈ base.cps.toList, 97 ≤ c ∧ c < 123)
    ((List.range n0).map fun (k : Nat) => .int (k : Int)) 0 [some b1, some (.int n), some (.str LT), some (.str ""), none, none, none, none] ⟨b1, "", none, rfl, B1, by decide, fun c hc => (List.not_mem_nil (hc : c ∈ ([] : List Nat))).elim⟩ (by
    rintro j x e hx ⟨b, base, x4, rfl, B, hb, hbc⟩
    have hj : j < n0 := by
      have := (List.getElem?_eq_some_iff.mp hx).1
      simpa using this
    obtain ⟨b', c, g1, g2, g3⟩ := of_str (W := W) (k := k) hO hP B (z := LT) (by rw [lt_list]; decide) (by decide)
    have ha : binD .Add (.str base) (.str ⟨#[c]⟩) = some (.str (base ++ ⟨#[c]⟩)) := if_pos (by
      show base.length + 1 ≤ 1000000
      omega)
    refine ⟨[some b, some (.int n), some (.str LT), some (.str base), some x, none, none, none], .next, [some b', some (.int n), some (.str LT), some (.str (base ++ ⟨#[c]⟩)), some x, none, none, none], rfl, ?_, .inl rfl, b', base ++ ⟨#[c]⟩, some x, rfl, g2, by rw [app_len]; omega, fun c' h' => by
      have h' : c' ∈ (base.cps ++ #[c]).toList := h'
      rw [Array.toList_append, List.mem_append] at h'
      rcases h' with h' | h'
      · exact hbc c' h'
      · have : c' = c := by simpa using h'
        subst this
        rw [lt_list] at g3
        obtain ⟨i, hi, rfl⟩ := List.mem_map.mp g3
        have := List.mem_range.mp hi
        omega⟩
    simp [names_1, exs, exS, ev, evA, callA, takeA, putA, D.fz, g1, ha, asg_nm])
  simp only [List.length_map, List.length_range, Nat.zero_add] at hL
  obtain ⟨r3, b3, p3, B3, q3, q4⟩ := pull_ok (W := W) (k := k + 1) hP B2 (m := 4) (by decide) (by decide)
  by_cases hz : r3 = 0
  · subst hz
    refine ⟨b3, (List.range n).map (n1 base.length), ?_, B3, by simp, ?_, fun s hs => by
      obtain ⟨j, _, rfl⟩ := List.mem_map.mp hs
      exact n1_name⟩
    · have hlc := names_lc (C := callN T W (k + 2)) (tm := names_2) (g := n1 base.length) (E0 := fun x => [some b3, some (.int n), some (.str LT), some (.str base), x, none, none, none]) (n := n) (by omega) (fun _ _ => rfl) (fun _ => by simp) (fun j => names_el1 (by omega)) x4 (fun _ => rfl) (fun _ => rfl)
      have hlc' : ev (callN T W (k + 2)) names_3 [some b3, some (.int n), some (.str LT), some (.str base), x4, none, none, none] = _ := hlc
      have hLT : (Str.ofString "abcdefghijklmnopqrstuvwxyz") = LT := rfl
      simp [names_body, exs, exS, ev, evs, evA, callA, takeA, putA, D.fz, asg_nm, asg_tup, asgl_nil, asgl_cons, itemsD, hLT, p1, hr, h1, p3, cmpD, eq_ii, shal, asb_ok, R.of_some, hlc', fin, lastP]
    · rw [List.nodup_iff_pairwise_ne, List.pairwise_map]
      refine List.Pairwise.imp_of_mem ?_ List.pairwise_lt_range
      intro i j hi hj hij he
      have := n1_inj (by have := List.mem_range.mp hi; omega) (by have := List.mem_range.mp hj; omega) he
      omega
  · obtain ⟨r5, b5, p5, B5, q5, q6⟩ := pull_ok (W := W) (k := k + 1) hP B3 (m := (base.length : Int) + 1) (by omega) (by omega)
    obtain ⟨r6, b6, p6, B6, q7, q8⟩ := pull_ok (W := W) (k := k + 1) hP B5 (m := 26) (by decide) (by decide)
    obtain ⟨x, b7, p7, B7, hx⟩ := of_ok (W := W) (k := k) hO hP B6 (o := true) (xs := [.int 1, .int 3, .int 5, .int 7, .int 9]) rfl (by simp) (by simp)
    obtain ⟨p, rfl⟩ := Int.eq_ofNat_of_zero_le q5
    obtain ⟨f, rfl⟩ := Int.eq_ofNat_of_zero_le q7
    obtain ⟨s, rfl, hs⟩ : ∃ s : Nat, x = .int s ∧ (s = 1 ∨ s = 3 ∨ s = 5 ∨ s = 7 ∨ s = 9) := by
      simp only [List.mem_cons, List.not_mem_nil, or_false] at hx
      rcases hx with rfl | rfl | rfl | rfl | rfl
      · exact ⟨1, rfl, by simp⟩
      · exact ⟨3, rfl, by simp⟩
      · exact ⟨5, rfl, by simp⟩
      · exact ⟨7, rfl, by simp⟩
      · exact ⟨9, rfl, by simp⟩
    refine ⟨b7, (List.range n).map (n2 base p f s), ?_, B7, by simp, ?_, fun z hz => by
      obtain ⟨j, _, rfl⟩ := List.mem_map.mp hz
      exact n2_name (by omega) (by omega) hC⟩
    · have hlc := names_lc (C := callN T W (k + 2)) (tm := names_4) (g := n2 base p f s) (E0 := fun x => [some b7, some (.int n), some (.str LT), some (.str base), x, some (.int p), some (.int f), some (.int s)]) (n := n) (by omega) (fun _ _ => rfl) (fun _ => by simp) (fun j => names_el2 (by omega) (by omega)) x4 (fun _ => rfl) (fun _ => rfl)
      have hlc' : ev (callN T W (k + 2)) names_5 [some b7, some (.int n), some (.str LT), some (.str base), x4, some (.int p), some (.int f), some (.int s)] = _ := hlc
      have hLT : (Str.ofString "abcdefghijklmnopqrstuvwxyz") = LT := rfl
      simp [names_body, exs, exS, ev, evs, evA, callA, takeA, putA, D.fz, fzL, asg_nm, asg_tup, asgl_nil, asgl_cons, itemsD, hLT, p1, hr, h1, p3, cmpD, eq_ii, shal, asb_ok, R.of_some, hz, b1len, bi_add, p5, p6, p7, hlc', fin, lastP]
    · rw [List.nodup_iff_pairwise_ne, List.pairwise_map]
      refine List.Pairwise.imp_of_mem ?_ List.pairwise_lt_range
      intro i j hi hj hij he
      have := n2_inj hs (by have := List.mem_range.mp hi; omega) (by have := List.mem_range.mp hj; omega) he
      omega
end Vm.Lib
namespace Vm.Lib
open PySem PySem.Spec L2 Vm
theorem isFL_str : ∀ M : List Str, isFL (M.map D.str) = true
  | [] => rfl
  | s :: M => by rw [List.map_cons, isFL, isFL_str M]; rfl
theorem fzL_str (M : List Str) : fzL (M.map D.str) = M.map D.str := fzL_isF (isFL_str M)
theorem shal_str (n : Nat) : ∀ M : List Str, (M.map D.str).all (shal n) = true
  | [] => rfl
  | s :: M => by
    rw [List.map_cons, List.all_cons, shal_str n M]
    cases n <;> rfl
theorem shal_s {n : Nat} {s : Str} : shal n (.str s) = true := by cases n <;> rfl
theorem eqD_ss {x y : Str} : eqD (.str x) (.str y) = (x == y) := by unfold eqD; rfl
theorem memD_str (n : Str) : ∀ M : List Str, memD (.str n) (M.map D.str) = decide (n ∈ M)
  | [] => by simp [memD]
  | s :: M => by
    have ih := memD_str n M
    unfold memD at ih ⊢
    rw [List.map_cons, List.any_cons, ih, eqD_ss]
    by_cases h : s = n
    · subst h; simp
    · have h' : ¬ n = s := fun e => h e.symm
      simp [h, h']
theorem eqL_str : ∀ M N : List Str, eqL (M.map D.str) (N.map D.str) = decide (M = N)
  | [], [] => by simp [eqL]
  | [], _ :: _ => by simp [eqL]
  | _ :: _, [] => by simp [eqL]
  | x :: M, y :: N => by
    rw [List.map_cons, List.map_cons, eqL, eqL_str M N, eqD_ss]
    by_cases h : x = y <;> by_cases h2 : M = N <;> simp [h, h2]
theorem srtB_str (M : List Str) : srtB (M.map D.str) = true := by
  unfold srtB
  rw [shal_str]
  have h1 : ((M.map D.str).all fun d => (M.map D.str).all fun e => PySem.W.alike (toPy d) (toPy e)) = true := by
    rw [List.all_map, List.all_eq_true]
    intro x _
    show (M.map D.str).all _ = true
    rw [List.all_map, List.all_eq_true]
    intro y _
    show PySem.W.alike (.str x) (.str y) = true
    simp [PySem.W.alike]
  have h2 : (M.map D.str).all nonT = true := by
    rw [List.all_map, List.all_eq_true]
    intro x _
    rfl
  rw [h1, h2]
  simp
/-- the order of texts -/
def leS (a b : Str) : Bool := decide (a.cps.toList ≤ b.cps.toList)
def sS (M : List Str) : List Str := M.mergeSort leS
theorem srt_str (M : List Str) : srt (M.map D.str) = (sS M).map D.str := by
  unfold srt sS
  exact (PySem.W.sort_maps (r := leS) (s := PySem.W.dataLe false toPy) D.str fun a _ b _ => (congrFun (congrFun (PySem.W.dataLe_str (fun s : Str => s)) a) b).symm).symm
theorem sS_perm (M : List Str) : (sS M).Perm M := List.mergeSort_perm M leS
theorem str_ext {a b : Str} (h : a.cps.toList = b.cps.toList) : a = b := by
  cases a; cases b
  simp only [Str.mk.injEq]
  exact Array.toList_inj.mp h
theorem leS_total (a b : Str) : (leS a b || leS b a) = true := by
  unfold leS
  rcases List.le_total a.cps.toList b.cps.toList with h | h <;> simp [h]
theorem leS_trans (a b c : Str) (h1 : leS a b = true) (h2 : leS b c = true) : leS a c = true := by
  unfold leS at *
  simp only [decide_eq_true_eq] at *
  exact List.le_trans h1 h2
theorem leS_anti {a b : Str} (h1 : leS a b = true) (h2 : leS b a = true) : a = b := by
  unfold leS at *
  simp only [decide_eq_true_eq] at *
  exact str_ext (List.le_antisymm h1 h2)
theorem sS_sorted (M : List Str) : (sS M).Pairwise fun a b => leS a b = true := List.pairwise_mergeSort leS_trans leS_total M
theorem sS_eq {M N : List Str} (h : M.Perm N) : sS M = sS N :=
  List.Perm.eq_of_pairwise (le := fun a b => leS a b = true) (fun a b _ _ h1 h2 => leS_anti h1 h2) (sS_sorted M) (sS_sorted N) ((sS_perm M).trans (h.trans (sS_perm N).symm))
theorem sS_nodup {M : List Str} (h : M.Nodup) : (sS M).Nodup := (sS_perm M).nodup_iff.mpr h
theorem sS_mem {M : List Str} {n : Str} : n ∈ sS M ↔ n ∈ M := (sS_perm M).mem_iff
theorem sS_len (M : List Str) : (sS M).length = M.length := (sS_perm M).length_eq
/-- a permutation of texts is texts -/
theorem perm_str {ys : List D} {M : List Str} (h : ys.Perm (M.map D.str)) : ∃ N : List Str, ys = N.map D.str ∧ N.Perm M := by
  let un : D → Str := fun d => match d with
    | .str s => s
    | _ => ""
  have h1 : ∀ d ∈ ys, d = .str (un d) := fun d hd => by
    obtain ⟨s, _, rfl⟩ := List.mem_map.mp (h.mem_iff.mp hd)
    rfl
  refine ⟨ys.map un, ?_, ?_⟩
  · rw [List.map_map]
    conv => lhs; rw [← List.map_id ys]
    exact List.map_congr_left fun d hd => by simpa using h1 d hd
  · have := h.map un
    rw [List.map_map] at this
    have e : M.map (un ∘ D.str) = M := by
      conv => rhs; rw [← List.map_id M]
      exact List.map_congr_left fun s _ => rfl
    rwa [e] at this
theorem still_k {α : Type} {a : α} {e : Nv} : (R.ok a e).still = .ok a e := rfl
theorem lc_flt {α : Type} {w : Nv → Nv} {tg : D → Nv → Option Nv} {tt : Nv → R Bool} {f : Nv → R D} (g : α → D) (p : α → Bool) (h : α → D) (I : Nv → Prop) : ∀ (M : List α) (e : Nv), I e →
    (∀ a ∈ M, ∀ e, I e → ∃ e1 e2, tg (g a) e = some e1 ∧ tt e1 = .ok (p a) e2 ∧ (p a = true → ∃ e3, f e2 = .ok (h a) e3 ∧ I (w e3)) ∧ (p a = false → I (w e2))) →
    ∃ e', lcGo w tg tt f (M.map g) e = .ok ((M.filter p).map fun a => (h a).fz) e' ∧ I e'
  | [], e, hi, _ => ⟨e, rfl, hi⟩
  | a :: M, e, hi, st => by
    obtain ⟨e1, e2, h1, h2, h3, h4⟩ := st a (by simp) e hi
    have st' := fun a' ha' => st a' (List.mem_cons_of_mem _ ha')
    rw [List.map_cons]
    unfold lcGo
    rw [h1]
    cases hp : p a with
    | true =>
      obtain ⟨e3, h5, h6⟩ := h3 hp
      obtain ⟨e', h7, h8⟩ := lc_flt g p h I M (w e3) h6 st'
      refine ⟨e', ?_, h8⟩
      simp only [h2, hp, R.bind_ok, if_true, h5, h7, List.filter_cons_of_pos (p := p) hp, List.map_cons]
    | false =>
      obtain ⟨e', h7, h8⟩ := lc_flt g p h I M (w e2) (h4 hp) st'
      refine ⟨e', ?_, h8⟩
      have hn : ¬ p a = true := by simp [hp]
      simp only [h2, hp, R.bind_ok, Bool.false_eq_true, if_false, h7, List.filter_cons_of_neg (p := p) hn]
theorem look_map {f : Str → D} {n : Str} : ∀ {M : List Str}, n ∈ M → look (.str n) (M.map D.str) (M.map f) = some (f n)
  | s :: M, h => by
    rw [List.map_cons, List.map_cons, look, eqD_ss]
    by_cases e : s = n
    · subst e; simp
    · have : n ∈ M := by
        rcases List.mem_cons.mp h with h | h
        · exact absurd h.symm e
        · exact h
      simp [e, look_map this]
theorem ev_dc {C : Orc} {kx vx : E} {tg : Tg} {ik : Ik} {is ifs : List E} {own : List (Str × Nat)} {e e1 e2 : Nv} {xs ds : List D} {r : List D × List D} (h1 : evs C is e = .ok xs e1) (h2 : itemsD ik xs = some ds)
    (h3 : dcGo (fun e => wipeE e (own.map (·.2))) (asgT tg) (fun e => evTs C ifs e) (fun e => (ev C kx e).still) (fun e => (ev C vx e).still) ds [] [] (wipeE e1 (own.map (·.2))) = .ok r e2) : ev C (.dc kx vx tg ik is ifs own) e = .ok (.dct true r.1 r.2) e2 := by
  rw [ev, h1, R.bind_ok]
  simp only [h2, h3]
  rfl

end Vm.Lib
namespace Vm.Lib
open PySem PySem.Spec L2 Vm
def mx (i j : Int) : Int := if j > i then j else i
def mn (i j : Int) : Int := if j < i then j else i
def ab (i : Int) : Int := if i < 0 then -i else i
theorem b1all {o : Bool} {xs : List D} : b1D .all (.lst o xs) = (boolsOf xs).map fun bs => .bl (bs.all id) := rfl
theorem isf_str {i : Str} : (D.str i).isF = true := rfl
theorem isf_lst {o : Bool} {xs : List D} : (D.lst o xs).isF = (!o && isFL xs) := rfl
theorem isfl_cons {x : D} {xs : List D} : isFL (x :: xs) = (x.isF && isFL xs) := rfl
/-- four numbers -/
structure Q where
  l : Int
  t : Int
  r : Int
  b : Int
  deriving DecidableEq, Inhabited
def Q.d (q : Q) : D := .tup [.int q.l, .int q.t, .int q.r, .int q.b]
def Q.ok (q : Q) : Bool := decide (q.l < q.r) && (decide (q.t < q.b) && (decide (ab q.l ≤ 1000000000) && (decide (ab q.t ≤ 1000000000) && (decide (ab q.r ≤ 1000000000) && decide (ab q.b ≤ 1000000000)))))
def com (p q : Q) : Option Q := if mx p.l q.l < mn p.r q.r ∧ mx p.t q.t < mn p.b q.b then some ⟨mx p.l q.l, mx p.t q.t, mn p.r q.r, mn p.b q.b⟩ else none
def oD {α : Type} (f : α → D) : Option α → D
  | some a => f a
  | none => .non
theorem srt_ls {o : Bool} {M : List Str} : b1D .sorted (.lst o (M.map .str)) = some (.lst true ((sS M).map .str)) := by
  show (if srtB (M.map .str) then some (D.lst true (srt (M.map .str))) else none) = _
  rw [srtB_str, srt_str]
  rfl
theorem srt_tp {M : List Str} : b1D .sorted (.tup (M.map .str)) = some (.lst true ((sS M).map .str)) := by
  show (if isFL (M.map .str) && srtB (M.map .str) then some (D.lst true (srt (M.map .str))) else none) = _
  rw [srtB_str, srt_str, isFL_str]
  rfl
theorem in_ls {o : Bool} {M : List Str} {n : Str} : cmpD .In (.str n) (.lst o (M.map .str)) = some (decide (n ∈ M)) := by
  show (if shal 7 (.str n) && (M.map D.str).all (shal 7) then some (memD (.str n) (M.map .str)) else none) = _
  rw [memD_str, shal_str, shal_s]
  rfl
theorem shal_ls {n : Nat} {o : Bool} {M : List Str} : shal (n + 1) (.lst o (M.map .str)) = true := shal_str n M
theorem ne_ls {o p : Bool} {M N : List Str} : cmpD .NotEq (.lst o (M.map .str)) (.lst p (N.map .str)) = some (!decide (M = N)) := by
  show (if shal 8 _ && shal 8 _ then some (!eqD _ _) else none) = _
  rw [shal_ls, shal_ls, eq_ll, eqL_str]
  rfl
end Vm.Lib
namespace Vm.Lib
open PySem PySem.Spec L2 Vm
theorem atI_last {xs : List D} {x : D} (h : xs.getLast? = some x) : atI xs (-1) = some x := by
  have h0 : xs ≠ [] := fun e => by subst e; cases h
  have hl := List.length_pos_iff.mpr h0
  unfold atI ixN
  rw [if_neg (by decide), if_pos (by omega)]
  rw [List.getLast?_eq_getElem?] at h
  simp only [Option.bind_some]
  rw [show ((-1 : Int) + (xs.length : Int)).toNat = xs.length - 1 by omega]
  exact h
end Vm.Lib
namespace Vm.Lib
open PySem PySem.Spec L2 Vm
def pD (p : Str × Str) : D := .tup [.str p.1, .str p.2]
theorem fz_p {p : Str × Str} : (pD p).fz = pD p := rfl
theorem isFL_p : ∀ L : List (Str × Str), isFL (L.map pD) = true
  | [] => rfl
  | s :: M => by rw [List.map_cons, isFL, isFL_p M]; rfl
theorem fzL_p (L : List (Str × Str)) : fzL (L.map pD) = L.map pD := fzL_isF (isFL_p L)
theorem shal_p (n : Nat) (L : List (Str × Str)) : (L.map pD).all (shal (n + 1)) = true := by
  rw [List.all_map, List.all_eq_true]
  intro p _
  show [D.str p.1, D.str p.2].all (shal n) = true
  simp [shal_s]
theorem eqD_p {p q : Str × Str} : eqD (pD p) (pD q) = decide (p = q) := by
  show eqL [.str p.1, .str p.2] [.str q.1, .str q.2] = _
  obtain ⟨a, b⟩ := p
  obtain ⟨c, d⟩ := q
  simp only [eqL, eqD_ss, Prod.mk.injEq]
  by_cases h1 : a = c <;> by_cases h2 : b = d <;> simp [h1, h2]
def sP (L : List (Str × Str)) : List (Str × Str) := L.mergeSort fun a b => PySem.W.dataLe false toPy (pD a) (pD b)
def mt (p q : Q) : Bool := (com p q).isSome
def prow (M : List Str) (Z : Str → Q) (a : Str) : List (Str × Str) := (M.filter fun b => strLt a b && mt (Z a) (Z b)).map fun b => (a, b)
def prs (M : List Str) (Z : Str → Q) : List (Str × Str) := M.flatMap (prow M Z)
end Vm.Lib
namespace Vm.Lib
open PySem PySem.Spec L2 Vm
theorem dc_gen {α : Type} {w : Nv → Nv} {tg : D → Nv → Option Nv} {tt : Nv → R Bool} {fk fv : Nv → R D} (g : α → D) (key : α → Str) (val : α → D) (hf : ∀ a, (val a).fz = val a) (I : Nv → Prop) : ∀ (A pre : List α) (e : Nv), ((pre ++ A).map key).Nodup → I e →
    (∀ a ∈ A, ∀ e, I e → ∃ e1 e2 e3 e4, tg (g a) e = some e1 ∧ tt e1 = .ok true e2 ∧ fk e2 = .ok (.str (key a)) e3 ∧ fv e3 = .ok (val a) e4 ∧ I (w e4)) →
    ∃ e', dcGo w tg tt fk fv (A.map g) (pre.map fun a => .str (key a)) (pre.map val) e = .ok ((pre ++ A).map fun a => .str (key a), (pre ++ A).map val) e' ∧ I e'
  | [], pre, e, _, hi, _ => ⟨e, by simp [dcGo], hi⟩
  | a :: A, pre, e, hn, hi, st => by
    obtain ⟨e1, e2, e3, e4, h1, h2, h3, h4, h5⟩ := st a (by simp) e hi
    have hna : key a ∉ pre.map key := fun h => by
      rw [List.map_append] at hn
      exact (List.nodup_append.mp hn).2.2 _ h _ (by simp) rfl
    obtain ⟨e', h6, h7⟩ := dc_gen g key val hf I A (pre ++ [a]) (w e4) (by simpa using hn) h5 fun a' h' => st a' (List.mem_cons_of_mem _ h')
    refine ⟨e', ?_, h7⟩
    have hk : isK (.str (key a)) = true := rfl
    have hp : putD (.str (key a)) (val a) (pre.map fun a => .str (key a)) (pre.map val) = ((pre ++ [a]).map fun a => .str (key a), (pre ++ [a]).map val) := by
      have e : (pre.map fun a => D.str (key a)) = (pre.map key).map .str := by rw [List.map_map]; rfl
      unfold putD
      rw [e, memD_str, if_neg (by simpa using hna)]
      simp
    rw [List.map_cons]
    unfold dcGo
    rw [h1]
    simp only [h2, R.bind_ok, if_true, h3, hk, h4, hf, hp, h6]
    simp
def enG (p : Str × Nat) : D := .tup [.int (p.2 : Int), .str p.1]
theorem enum_items : ∀ (N : List Str) (k : Nat), List.zipWith (fun (i : Nat) x => D.tup [.int (i : Int), x]) (List.range' k N.length) (N.map D.str) = (N.zipIdx k).map enG
  | [], _ => rfl
  | n :: N, k => by
    rw [List.length_cons, List.range'_succ, List.map_cons, List.zipWith_cons_cons, List.zipIdx_cons, List.map_cons, enum_items N (k + 1)]
    rfl
theorem zipIdx_key : ∀ (N : List Str) (k : Nat), (N.zipIdx k).map (·.1) = N
  | [], _ => rfl
  | n :: N, k => by rw [List.zipIdx_cons, List.map_cons, zipIdx_key N (k + 1)]
theorem look_pos {n : Str} : ∀ {N : List Str} {k : Nat}, n ∈ N → look (.str n) ((N.zipIdx k).map fun p => .str p.1) ((N.zipIdx k).map fun p => .int (p.2 : Int)) = some (.int ((k + N.idxOf n : Nat) : Int))
  | m :: N, k, h => by
    rw [List.zipIdx_cons, List.map_cons, List.map_cons, look, eqD_ss, List.idxOf_cons]
    by_cases e : m = n
    · subst e; simp
    · have h' : n ∈ N := by
        rcases List.mem_cons.mp h with h | h
        · exact absurd h.symm e
        · exact h
      have e' : (m == n) = false := by simpa using e
      rw [e']
      simp only [Bool.false_eq_true, if_false]
      rw [look_pos (k := k + 1) h']
      congr 3
      simp only [cond_false]
      omega
/-- where each stands -/
def plD (N : List Str) : D := .dct true ((N.zipIdx 0).map fun p => .str p.1) ((N.zipIdx 0).map fun p => .int (p.2 : Int))
theorem ix_pl {N : List Str} {n : Str} (h : n ∈ N) : ixD (plD N) (.str n) = some (.int (N.idxOf n : Int)) := by
  show (look (.str n) _ _).bind onlyF = _
  rw [look_pos h, Nat.zero_add]
  rfl
theorem index_str {N : List Str} {n : Str} (h : n ∈ N) : ∀ {o : Bool}, m1D .index (.lst o (N.map .str)) (.str n) = some (.int (N.idxOf n : Int)) := by
  intro o
  show (if shal 7 (.str n) && (N.map D.str).all (shal 7) then ((N.map D.str).findIdx? fun x => eqD x (.str n)).map fun (n : Nat) => D.int (n : Int) else none) = _
  rw [shal_str, shal_s]
  simp only [Bool.and_self, if_true]
  have : (N.map D.str).findIdx? (fun x => eqD x (.str n)) = some (N.idxOf n) := by
    rw [List.findIdx?_map]
    have e : ((fun x => eqD x (D.str n)) ∘ D.str) = fun s => s == n := by
      funext s
      exact eqD_ss
    rw [e]
    have h1 : N.findIdx? (fun s => s == n) = some (N.findIdx (fun s => s == n)) := List.findIdx?_eq_some_of_exists ⟨n, h, by simp⟩
    rw [h1]
    rfl
  rw [this]
  rfl
def stOne (N : List Str) (p : Str × Str) : Str × Str := if N.idxOf p.1 < N.idxOf p.2 then p else (p.2, p.1)
def stand (N : List Str) (L : List (Str × Str)) : List (Str × Str) := sP (L.map (stOne N))
theorem for_p {α : Type} {tg : D → Nv → Option Nv} {b : Nv → R Fl} (g : α → D) (I : List α → Nv → Prop) {M0 : List α} : ∀ (M pre : List α) (e : Nv), pre ++ M = M0 → I pre e →
    (∀ pre a post e, pre ++ a :: post = M0 → I pre e → ∃ e1 fl e2, tg (g a) e = some e1 ∧ b e1 = .ok fl e2 ∧ (fl = .next ∨ fl = .cnt) ∧ I (pre ++ [a]) e2) → ∃ e', forGo tg b (M.map g) e = .ok .next e' ∧ I M0 e'
  | [], pre, e, hm, h, _ => ⟨e, rfl, by rw [List.append_nil] at hm; exact hm ▸ h⟩
  | a :: M, pre, e, hm, h, st => by
    obtain ⟨e1, fl, e2, h1, h2, h3, h4⟩ := st pre a M e hm h
    obtain ⟨e', h5, h6⟩ := for_p g I M (pre ++ [a]) e2 (by rw [← hm]; simp) h4 st
    refine ⟨e', ?_, h6⟩
    rw [List.map_cons]
    unfold forGo
    rw [h1]
    simp only [h2, R.bind_ok]
    rcases h3 with rfl | rfl <;> exact h5
end Vm.Lib
namespace Vm.Lib
open PySem PySem.Spec L2 Vm
def p_check_wish_1 : List S := [(.asg (.tup [(.nm 4), (.nm 5)]) (.nm 3)), (.iff (.or (.cmp .Eq (.pk 4) (.pk 5)) (.or (.cmp .NotIn (.pk 4) (.pk 0)) (.cmp .NotIn (.pk 5) (.pk 0)))) [(.rai "BadWish" "BadWish" (some ("at", .nm 2)))] [])]
def p_check_wish_body : List S := [
    (.for_ (.tup [(.nm 2), (.nm 3)]) .enum [(.nm 1)] p_check_wish_1)]
def p_lower_table_1 : E := (.lst [])
def p_lower_table_2 : E := (.dco (.nm 5) p_lower_table_1 (.nm 5) .seq [(.nm 0)] [] [("name", 5)])
def p_lower_table_3 : List S := [(.iff (.cmp .NotIn (.pk 3) (.ixp (.pk 2) (.pk 4))) [(.apx 2 4 3)] [])]
def p_lower_table_body : List S := [
    (.asg (.nm 2) p_lower_table_2),
    (.for_ (.tup [(.nm 3), (.nm 4)]) .seq [(.nm 1)] p_lower_table_3),
    (.ret (.mv 2))]
def p_sorted_names_1 : E := (.cmp .NotEq (.pk 4) (.lst []))
def p_sorted_names_2 : E := (.cmp .In (.pk 7) (.pk 3))
def p_sorted_names_3 : E := (.lc p_sorted_names_2 (.nm 7) .seq [(.ix (.pk 2) (.pk 6))] [] [("low", 7)])
def p_sorted_names_4 : E := (.b1 .all p_sorted_names_3)
def p_sorted_names_5 : E := (.lcb (.nm 6) (.nm 6) 4 [p_sorted_names_4] [("name", 6)])
def p_sorted_names_6 : List S := [(.asg (.nm 5) p_sorted_names_5), (.iff (.cmp .Eq (.pk 5) (.lst [])) [(.ret (.mv 3))] []), (.app 3 (.ix (.pk 5) (.cst (.int 0)))), (.rem 4 (.ix (.pk 5) (.cst (.int 0))))]
def p_sorted_names_body : List S := [
    (.asg (.nm 2) (.fz (.cal "lower_table" [(.pk 0), (.pk 1)]))),
    (.asg (.tup [(.nm 3), (.nm 4)]) (.tup [(.lst []), (.b1 .sorted (.pk 0))])),
    (.whl p_sorted_names_1 p_sorted_names_6),
    (.ret (.mv 3))]
def p_least_keeping_body : List S := [
    (.exp (.cal "check_wish" [(.pk 0), (.pk 1)])),
    (.asg (.nm 2) (.cal "sorted_names" [(.pk 0), (.pk 1)])),
    (.iff (.cmp .Lt (.b1 .len (.pk 2)) (.b1 .len (.pk 0))) [(.rai "Impossible" "Impossible" none)] []),
    (.ret (.mv 2))]
/-- those that must stand below -/
def addLow (n : Str) (acc : List Str) (p : Str × Str) : List Str := if p.2 = n then (if p.1 ∈ acc then acc else acc ++ [p.1]) else acc
def lowL (Ws : List (Str × Str)) (n : Str) : List Str := Ws.foldl (addLow n) []
theorem lowL_snoc (pre : List (Str × Str)) (p : Str × Str) (n : Str) : lowL (pre ++ [p]) n = addLow n (lowL pre n) p := by
  unfold lowL
  rw [List.foldl_append]
  rfl
theorem foldl_low {n a : Str} : ∀ (Ws : List (Str × Str)) (acc : List Str), a ∈ Ws.foldl (addLow n) acc ↔ a ∈ acc ∨ (a, n) ∈ Ws
  | [], acc => by simp
  | p :: Ws, acc => by
    rw [List.foldl_cons, foldl_low Ws]
    unfold addLow
    obtain ⟨x, y⟩ := p
    by_cases h1 : y = n
    · subst h1
      by_cases h2 : x ∈ acc
      · simp only [if_true, if_pos h2, List.mem_cons, Prod.mk.injEq, and_true]
        constructor
        · rintro (h | h)
          · exact .inl h
          · exact .inr (.inr h)
        · rintro (h | rfl | h)
          · exact .inl h
          · exact .inl h2
          · exact .inr h
      · simp [h2, or_assoc]
    · have h1' : ¬ n = y := fun e => h1 e.symm
      simp [h1, h1']
theorem lowL_mem {Ws : List (Str × Str)} {n a : Str} : a ∈ lowL Ws n ↔ (a, n) ∈ Ws := by
  unfold lowL
  rw [foldl_low]
  simp
def ltb (o p : Bool) (N : List Str) (f : Str → List Str) : D := .dct o (N.map .str) (N.map fun n => .lst p ((f n).map .str))
theorem ltb_fz {o p : Bool} {N : List Str} {f : Str → List Str} : (ltb o p N f).fz = ltb false false N f := by
  unfold ltb
  rw [D.fz]
  congr 1
  induction N with
  | nil => rfl
  | cons n N ih => rw [List.map_cons, List.map_cons, fzL, ih, D.fz, fzL_str]
theorem ltb_pk {o p : Bool} {N : List Str} {f : Str → List Str} {n : Str} (h : n ∈ N) : pkD (ltb o p N f) (.str n) = some (.lst p ((f n).map .str)) := by
  show (if isK (.str n) then look (.str n) (N.map .str) (N.map fun n => D.lst p ((f n).map .str)) else none) = _
  rw [look_map h]
  rfl
theorem ltb_ix {o : Bool} {N : List Str} {f : Str → List Str} {n : Str} (h : n ∈ N) : ixD (ltb o false N f) (.str n) = some (.lst false ((f n).map .str)) := by
  show (look (.str n) (N.map .str) (N.map fun n => D.lst false ((f n).map .str))).bind onlyF = _
  rw [look_map h, Option.bind_some, onlyF, isf_lst, isFL_str]
  rfl
theorem putL_map {x : D} {b : Str} {f g : Str → D} (hb : g b = x) (ho : ∀ n, n ≠ b → g n = f n) : ∀ {N : List Str}, N.Nodup → b ∈ N → putL (.str b) x (N.map .str) (N.map f) = N.map g
  | n :: N, hn, h => by
    rw [List.map_cons, List.map_cons, putL, eqD_ss, List.map_cons]
    obtain ⟨h1, h2⟩ := List.nodup_cons.mp hn
    by_cases e : n = b
    · subst e
      simp only [beq_self_eq_true, if_true, hb]
      congr 1
      exact List.map_congr_left fun m hm => (ho m fun e => h1 (e ▸ hm)).symm
    · have h' : b ∈ N := by
        rcases List.mem_cons.mp h with h | h
        · exact absurd h.symm e
        · exact h
      have e' : (n == b) = false := by simpa using e
      rw [e', if_neg Bool.false_ne_true, ho n e, putL_map hb ho h2 h']
theorem nin_ls {o : Bool} {M : List Str} {n : Str} : cmpD .NotIn (.str n) (.lst o (M.map .str)) = some (!decide (n ∈ M)) := by
  show (if shal 7 (.str n) && (M.map D.str).all (shal 7) then some (!memD (.str n) (M.map .str)) else none) = _
  rw [memD_str, shal_str, shal_s]
  rfl
/-- texts in a list or a tuple; pairs in a list or a tuple -/
def Seq1 (x : D) (N : List Str) : Prop := (∃ o, x = .lst o (N.map .str)) ∨ x = .tup (N.map .str)
def Seq2 (x : D) (Ws : List (Str × Str)) : Prop := (∃ o, x = .lst o (Ws.map pD)) ∨ x = .tup (Ws.map pD)
theorem Seq1.fz {x : D} {N : List Str} (h : Seq1 x N) : Seq1 x.fz N := by
  rcases h with ⟨o, rfl⟩ | rfl
  · exact .inl ⟨false, by rw [D.fz, fzL_str]⟩
  · exact .inr (by rw [D.fz, fzL_str])
theorem Seq2.fz {x : D} {N : List (Str × Str)} (h : Seq2 x N) : Seq2 x.fz N := by
  rcases h with ⟨o, rfl⟩ | rfl
  · exact .inl ⟨false, by rw [D.fz, fzL_p]⟩
  · exact .inr (by rw [D.fz, fzL_p])
theorem Seq1.items {x : D} {N : List Str} (h : Seq1 x N) : itemsD .seq [x] = some (N.map .str) := by
  rcases h with ⟨o, rfl⟩ | rfl
  · rfl
  · show (if isFL _ then _ else _) = _
    rw [isFL_str, if_pos rfl]
theorem Seq2.items {x : D} {N : List (Str × Str)} (h : Seq2 x N) : itemsD .seq [x] = some (N.map pD) := by
  rcases h with ⟨o, rfl⟩ | rfl
  · rfl
  · show (if isFL _ then _ else _) = _
    rw [isFL_p, if_pos rfl]
theorem dco_ok {w : Nv → Nv} {tg : D → Nv → Option Nv} {tt : Nv → R Bool} {fk fv : Nv → R D} (f : Str → D) (I : Nv → Prop) : ∀ (M : List Str) (ks : List Str) (e : Nv), (ks ++ M).Nodup → I e →
    (∀ n ∈ M, ∀ e, I e → ∃ e1 e2 e3 e4, tg (.str n) e = some e1 ∧ tt e1 = .ok true e2 ∧ fk e2 = .ok (.str n) e3 ∧ fv e3 = .ok (f n) e4 ∧ I (w e4)) →
    ∃ e', dcoGo w tg tt fk fv (M.map D.str) (ks.map D.str) (ks.map f) e = .ok ((ks ++ M).map D.str, (ks ++ M).map f) e' ∧ I e'
  | [], ks, e, _, hi, _ => ⟨e, by simp [dcoGo], hi⟩
  | n :: M, ks, e, hn, hi, st => by
    obtain ⟨e1, e2, e3, e4, h1, h2, h3, h4, h5⟩ := st n (by simp) e hi
    have hnk : n ∉ ks := fun h => (List.nodup_append.mp hn).2.2 n h n (by simp) rfl
    obtain ⟨e', h6, h7⟩ := dco_ok f I M (ks ++ [n]) (w e4) (by simpa using hn) h5 fun n' h' => st n' (List.mem_cons_of_mem _ h')
    refine ⟨e', ?_, h7⟩
    have hk : (isK (.str n) && !memD (.str n) (ks.map D.str)) = true := by
      rw [memD_str]
      simp [hnk, isK]
    rw [List.map_cons]
    unfold dcoGo
    rw [h1]
    simp only [h2, R.bind_ok, if_true, h3, hk, h4]
    have := h6
    simp only [List.map_append, List.map_cons, List.map_nil] at this ⊢
    rw [this]
    simp
theorem ev_dco {C : Orc} {kx vx : E} {tg : Tg} {ik : Ik} {is ifs : List E} {own : List (Str × Nat)} {e e1 e2 : Nv} {xs ds : List D} {r : List D × List D} (h1 : evs C is e = .ok xs e1) (h2 : itemsD ik xs = some ds)
    (h3 : dcoGo (fun e => wipeE e (own.map (·.2))) (asgT tg) (fun e => evTs C ifs e) (fun e => (ev C kx e).still) (fun e => (ev C vx e).still) ds [] [] (wipeE e1 (own.map (·.2))) = .ok r e2) : ev C (.dco kx vx tg ik is ifs own) e = .ok (.dct true r.1 r.2) e2 := by
  rw [ev, h1, R.bind_ok]
  simp only [h2, h3]
  rfl
theorem lower_ok {T : Str → Option Fn} {W k : Nat} (hT : Is T "lower_table" 2 6 [true, true] p_lower_table_body) {N : List Str} {Ws : List (Str × Str)} {x y : D} (hx : Seq1 x N) (hy : Seq2 y Ws) (hn : N.Nodup) (hw : ∀ p ∈ Ws, p.2 ∈ N) (hl : Ws.length ≤ 900000) :
    callN T W (k + 1) "lower_table" [x, y] = .ok (ltb true true N (lowL Ws)) [some x.fz, some y.fz] := by
  rw [hT.eq rfl]
  obtain ⟨e', g1, rfl⟩ := dco_ok (w := fun e => wipeE e [5]) (tg := asgT (.nm 5)) (tt := fun e => evTs (callN T W k) [] e) (fk := fun e => (ev (callN T W k) (.nm 5) e).still) (fv := fun e => (ev (callN T W k) p_lower_table_1 e).still)
    (fun n => .lst true []) (fun e => e = [some x.fz, some y, none, none, none, none]) N [] _ (by simpa using hn) rfl (by
    rintro n hm e rfl
    exact ⟨[some x.fz, some y, none, none, none, some (.str n)], _, [some x.fz, some y, none, none, none, some (.str n)], [some x.fz, some y, none, none, none, some (.str n)], rfl, rfl, rfl, rfl, rfl⟩)
  have hdc : ev (callN T W k) p_lower_table_2 [some x, some y, none, none, none, none] = .ok (ltb true true N (lowL [])) [some x.fz, some y, none, none, none, none] := by
    unfold p_lower_table_2
    refine ev_dco (xs := [x.fz]) (ds := N.map .str) (e1 := [some x.fz, some y, none, none, none, none]) (r := (N.map .str, N.map fun n => .lst true [])) ?_ hx.fz.items ?_
    · simp [evs, ev]
    · rw [List.nil_append] at g1
      exact g1
  have hlen : ∀ (pre : List (Str × Str)) (n : Str), (lowL pre n).length ≤ pre.length := fun pre n => by
    have h : ∀ (pre : List (Str × Str)) (acc : List Str), (pre.foldl (addLow n) acc).length ≤ acc.length + pre.length := fun pre => by
      induction pre with
      | nil => intro acc; simp
      | cons p pre ih =>
        intro acc
        rw [List.foldl_cons, List.length_cons]
        have := ih (addLow n acc p)
        have h2 : (addLow n acc p).length ≤ acc.length + 1 := by
          unfold addLow
          split
          · split
            · omega
            · simp
          · omega
        omega
    have h2 := h pre []
    rw [List.length_nil, Nat.zero_add] at h2
    exact h2
  obtain ⟨e'', g2, x3, x4, rfl⟩ := for_p (tg := asgT (.tup [(.nm 3), (.nm 4)])) (b := fun e => exs (callN T W k) W p_lower_table_3 e) pD (M0 := Ws) (fun pre e => ∃ x3 x4 : Option D, e = [some x.fz, some y.fz, some (ltb true true N (lowL pre)), x3, x4, none]) Ws [] [some x.fz, some y.fz, some (ltb true true N (lowL [])), none, none, none] rfl ⟨none, none, rfl⟩ (by
    rintro pre p post e hp ⟨x3, x4, rfl⟩
    have hm : p.2 ∈ N := hw p (by rw [← hp]; simp)
    have hpk := ltb_pk (o := true) (p := true) (f := lowL pre) hm
    refine ⟨[some x.fz, some y.fz, some (ltb true true N (lowL pre)), some (.str p.1), some (.str p.2), none], .next, [some x.fz, some y.fz, some (ltb true true N (lowL (pre ++ [p]))), some (.str p.1), some (.str p.2), none], rfl, ?_, .inl rfl, _, _, rfl⟩
    by_cases c : p.1 ∈ lowL pre p.2
    · have e1 : ltb true true N (lowL (pre ++ [p])) = ltb true true N (lowL pre) := by
        unfold ltb
        congr 1
        refine List.map_congr_left fun n _ => ?_
        rw [lowL_snoc]
        unfold addLow
        by_cases h : p.2 = n
        · subst h; simp [c]
        · simp [h]
      rw [e1]
      simp [p_lower_table_3, exs, exS, ev, hpk, R.of_some, nin_ls, c, asb_ok]
    · have hput : putL (.str p.2) (.lst true (((lowL pre p.2).map .str) ++ [.str p.1])) (N.map .str) (N.map fun n => D.lst true ((lowL pre n).map .str)) = N.map fun n => D.lst true ((lowL (pre ++ [p]) n).map .str) :=
        putL_map (by rw [lowL_snoc]; unfold addLow; simp [c]) (fun n h => by rw [lowL_snoc]; unfold addLow; rw [if_neg fun e => h e.symm]) hn hm
      have hlk : look (.str p.2) (N.map .str) (N.map fun n => D.lst true ((lowL pre n).map .str)) = some (.lst true ((lowL pre p.2).map .str)) := look_map hm
      have hlt : ((lowL pre p.2).map D.str).length < lim := by
        have h1 := hlen pre p.2
        have h2 := congrArg List.length hp
        simp only [List.length_append, List.length_cons] at h2
        simp only [List.length_map, lim]
        omega
      have hap : exS (callN T W k) W (.apx 2 4 3) [some x.fz, some y.fz, some (ltb true true N (lowL pre)), some (.str p.1), some (.str p.2), none] = .ok .next [some x.fz, some y.fz, some (ltb true true N (lowL (pre ++ [p]))), some (.str p.1), some (.str p.2), none] := by
        unfold ltb
        rw [exS]
        simp only [List.getElem?_cons_zero, List.getElem?_cons_succ, isf_str, isK, Bool.and_self, if_true, hlk, if_pos hlt, hput, List.set_cons_zero, List.set_cons_succ]
      simp only [p_lower_table_3, exs]
      rw [exS]
      simp [exs, hap, ev, hpk, R.of_some, nin_ls, c, asb_ok])
  simp [p_lower_table_body, exs, exS, ev, evs, hdc, asg_nm, hy.fz.items, g2, fin, lastP]

end Vm.Lib
namespace Vm.Lib
open PySem PySem.Spec L2 Vm
theorem ev_lcb {C : Orc} {elt : E} {tg : Tg} {i : Nat} {ifs : List E} {own : List (Str × Nat)} {e e2 : Nv} {o : Bool} {ds r : List D} (h1 : e[i]? = some (some (.lst o ds)))
    (h3 : lcGo (fun e => wipeE e (own.map (·.2))) (asgT tg) (fun e => evTs C ifs e) (fun e => (ev C elt e).still) ds (wipeE (e.set i none) (own.map (·.2))) = .ok r e2) (hi : i < e2.length) : ev C (.lcb elt tg i ifs own) e = .ok (.lst true r) (e2.set i (some (.lst o ds))) := by
  rw [ev, h1]
  simp only [h3, still_k, R.bind_ok, if_pos hi]
theorem bools_map {α : Type} (f : α → Bool) : ∀ L : List α, boolsOf (L.map fun a => D.bl (f a)) = some (L.map f)
  | [] => rfl
  | a :: L => by rw [List.map_cons, boolsOf, bools_map f L]; rfl
theorem eq_ls {o p : Bool} {M N : List Str} : cmpD .Eq (.lst o (M.map .str)) (.lst p (N.map .str)) = some (decide (M = N)) := by
  show (if shal 8 _ && shal 8 _ then some (eqD _ _) else none) = _
  rw [shal_ls, shal_ls, eq_ll, eqL_str]
  rfl
theorem strsOf_map : ∀ Rs : List Str, strsOf (Rs.map .str) = some Rs
  | [] => rfl
  | s :: Rs => by rw [List.map_cons, strsOf, strsOf_map Rs]; rfl
theorem remO_str {Rs : List Str} {n : Str} (h : n ∈ Rs) : remO (.lst true (Rs.map .str)) (.str n) = some (.lst true ((Rs.eraseIdx (Rs.idxOf n)).map .str)) := by
  show ((strsOf (Rs.map .str)).bind fun ns => if n ∈ ns then some (D.lst true ((ns.eraseIdx (ns.idxOf n)).map .str)) else none) = _
  rw [strsOf_map, Option.bind_some, if_pos h]
theorem appO_str {F : List Str} {n : Str} (h : F.length < 1000000) : appO (.lst true (F.map .str)) (.str n) = some (.lst true ((F ++ [n]).map .str)) := by
  show (if _ then _ else _) = _
  rw [if_pos (by rw [List.length_map]; exact h), List.map_append]
  rfl
/-- whose lower ones all stand already -/
def frees (Ws : List (Str × Str)) (F Rs : List Str) : List Str := Rs.filter fun n => (lowL Ws n).all fun a => decide (a ∈ F)
def gr (Ws : List (Str × Str)) : Nat → List Str → List Str → List Str
  | 0, F, _ => F
  | m + 1, F, Rs => match frees Ws F Rs with
    | [] => F
    | n :: _ => gr Ws m (F ++ [n]) (Rs.eraseIdx (Rs.idxOf n))
theorem free_ok {C : Orc} {X Y x5 : Option D} {N F Rs : List Str} {Ws : List (Str × Str)} (hR : ∀ n ∈ Rs, n ∈ N) :
    ev C p_sorted_names_5 [X, Y, some (ltb false false N (lowL Ws)), some (.lst true (F.map .str)), some (.lst true (Rs.map .str)), x5, none, none] = .ok (.lst true ((frees Ws F Rs).map .str)) [X, Y, some (ltb false false N (lowL Ws)), some (.lst true (F.map .str)), some (.lst true (Rs.map .str)), x5, none, none] := by
  obtain ⟨e', g1, rfl⟩ := lc_flt (w := fun e => wipeE e [6]) (tg := asgT (.nm 6)) (tt := fun e => evTs C [p_sorted_names_4] e) (f := fun e => (ev C (.nm 6) e).still) D.str (fun n => (lowL Ws n).all fun a => decide (a ∈ F)) D.str (fun e => e = [X, Y, some (ltb false false N (lowL Ws)), some (.lst true (F.map .str)), none, x5, none, none]) Rs _ rfl (by
    rintro n hm e rfl
    refine ⟨[X, Y, some (ltb false false N (lowL Ws)), some (.lst true (F.map .str)), none, x5, some (.str n), none], [X, Y, some (ltb false false N (lowL Ws)), some (.lst true (F.map .str)), none, x5, some (.str n), none], rfl, ?_, fun _ => ⟨[X, Y, some (ltb false false N (lowL Ws)), some (.lst true (F.map .str)), none, x5, some (.str n), none], rfl, rfl⟩, fun _ => rfl⟩
    have hix := ltb_ix (o := false) (f := lowL Ws) (hR n hm)
    obtain ⟨e', g1, rfl⟩ := lc_flt (w := fun e => wipeE e [7]) (tg := asgT (.nm 7)) (tt := fun e => evTs C [] e) (f := fun e => (ev C p_sorted_names_2 e).still) D.str (fun _ => true) (fun a => .bl (decide (a ∈ F))) (fun e => e = [X, Y, some (ltb false false N (lowL Ws)), some (.lst true (F.map .str)), none, x5, some (.str n), none]) (lowL Ws n) _ rfl (by
      rintro a ha e rfl
      refine ⟨[X, Y, some (ltb false false N (lowL Ws)), some (.lst true (F.map .str)), none, x5, some (.str n), some (.str a)], _, rfl, rfl, fun _ => ⟨[X, Y, some (ltb false false N (lowL Ws)), some (.lst true (F.map .str)), none, x5, some (.str n), some (.str a)], ?_, rfl⟩, fun h => by cases h⟩
      simp [p_sorted_names_2, ev, in_ls, R.of_some, still_k])
    have e2 : ((lowL Ws n).filter fun _ => true).map (fun a => (D.bl (decide (a ∈ F))).fz) = (lowL Ws n).map fun a => .bl (decide (a ∈ F)) := by
      rw [List.filter_eq_self.mpr fun _ _ => rfl]
      rfl
    rw [e2] at g1
    have hlc : ev C p_sorted_names_3 [X, Y, some (ltb false false N (lowL Ws)), some (.lst true (F.map .str)), none, x5, some (.str n), none] = .ok (.lst true ((lowL Ws n).map fun a => .bl (decide (a ∈ F)))) [X, Y, some (ltb false false N (lowL Ws)), some (.lst true (F.map .str)), none, x5, some (.str n), none] := by
      unfold p_sorted_names_3
      refine ev_lc (xs := [.lst false ((lowL Ws n).map .str)]) (ds := (lowL Ws n).map .str) (e1 := [X, Y, some (ltb false false N (lowL Ws)), some (.lst true (F.map .str)), none, x5, some (.str n), none]) ?_ rfl g1
      simp [evs, ev, hix, R.of_some]
    have hall : b1D .all (.lst true ((lowL Ws n).map fun a => .bl (decide (a ∈ F)))) = some (.bl ((lowL Ws n).all fun a => decide (a ∈ F))) := by
      rw [b1all, bools_map]
      simp
    generalize (lowL Ws n).map (fun a => D.bl (decide (a ∈ F))) = A at *
    simp only [evTs, p_sorted_names_4, ev, hlc, R.bind_ok, hall, R.of_some, asb_ok, still_k]
    cases (lowL Ws n).all fun a => decide (a ∈ F) <;> rfl)
  have hfz : (Rs.filter fun n => (lowL Ws n).all fun a => decide (a ∈ F)).map (fun a => (D.str a).fz) = (frees Ws F Rs).map .str := rfl
  rw [hfz] at g1
  unfold p_sorted_names_5
  exact ev_lcb (o := true) (ds := Rs.map .str) (e2 := [X, Y, some (ltb false false N (lowL Ws)), some (.lst true (F.map .str)), none, x5, none, none]) rfl g1 (by simp)
theorem sn_loop {C : Orc} {W : Nat} {X Y : Option D} {N : List Str} {Ws : List (Str × Str)} : ∀ (m : Nat) (F Rs : List Str) (x5 : Option D) (fuel : Nat), Rs.length = m → (∀ n ∈ Rs, n ∈ N) → F.length + m < 1000000 → m < fuel →
    ∃ r, whlGo (fun e => asB (ev C p_sorted_names_1 e)) (fun e => exs C W p_sorted_names_6 e) fuel [X, Y, some (ltb false false N (lowL Ws)), some (.lst true (F.map .str)), some (.lst true (Rs.map .str)), x5, none, none] = r ∧
      ((∃ x4 x5, r = .ok .next [X, Y, some (ltb false false N (lowL Ws)), some (.lst true ((gr Ws m F Rs).map .str)), x4, x5, none, none]) ∨ ∃ e', r = .ok (.ret (.lst true ((gr Ws m F Rs).map .str))) (X :: Y :: e'))
  | 0, F, Rs, x5, fuel + 1, hl, hR, hF, hf => by
    have h0 : Rs = [] := List.length_eq_zero_iff.mp hl
    subst h0
    refine ⟨_, rfl, .inl ⟨some (.lst true []), x5, ?_⟩⟩
    unfold whlGo
    have hc : cmpD .NotEq (.lst true []) (.lst true []) = some false := ne_ls (M := []) (N := [])
    simp [p_sorted_names_1, ev, evs, fzL, hc, R.of_some, asb_ok, gr]
  | m + 1, F, Rs, x5, fuel + 1, hl, hR, hF, hf => by
    have hc : cmpD .NotEq (.lst true (Rs.map .str)) (.lst true []) = some true := by
      have := ne_ls (o := true) (p := true) (M := Rs) (N := [])
      rw [decide_eq_false (fun e => by subst e; cases hl)] at this
      exact this
    have hfr := free_ok (C := C) (X := X) (Y := Y) (x5 := x5) (F := F) (Ws := Ws) hR
    unfold whlGo
    have htest : asB (ev C p_sorted_names_1 [X, Y, some (ltb false false N (lowL Ws)), some (.lst true (F.map .str)), some (.lst true (Rs.map .str)), x5, none, none]) = .ok true [X, Y, some (ltb false false N (lowL Ws)), some (.lst true (F.map .str)), some (.lst true (Rs.map .str)), x5, none, none] := by
      simp [p_sorted_names_1, ev, evs, fzL, hc, R.of_some, asb_ok]
    simp only [htest, R.bind_ok, if_true]
    cases hfs : frees Ws F Rs with
    | nil =>
      rw [hfs] at hfr
      have hq : cmpD .Eq (.lst true ([] : List D)) (.lst true []) = some true := eq_ls (M := []) (N := [])
      have hb : exs C W p_sorted_names_6 [X, Y, some (ltb false false N (lowL Ws)), some (.lst true (F.map .str)), some (.lst true (Rs.map .str)), x5, none, none] = .ok (.ret (.lst true (F.map .str))) [X, Y, some (ltb false false N (lowL Ws)), none, some (.lst true (Rs.map .str)), some (.lst true []), none, none] := by
        simp [p_sorted_names_6, exs, exS, hfr, asg_nm, ev, evs, fzL, hq, R.of_some, asb_ok]
      refine ⟨_, rfl, .inr ⟨[some (ltb false false N (lowL Ws)), none, some (.lst true (Rs.map .str)), some (.lst true []), none, none], ?_⟩⟩
      simp only [hb, R.bind_ok, gr, hfs]
    | cons n fs =>
      have hn : n ∈ Rs := (List.mem_filter.mp (show n ∈ frees Ws F Rs by rw [hfs]; simp)).1
      rw [hfs] at hfr
      have hq : cmpD .Eq (.lst true ((n :: fs).map .str)) (.lst true []) = some false := by
        have := eq_ls (o := true) (p := true) (M := n :: fs) (N := [])
        rw [decide_eq_false (by simp)] at this
        exact this
      have hix : ixD (.lst true ((n :: fs).map .str)) (.int 0) = some (.str n) := a0
      have happ := appO_str (F := F) (n := n) (by omega)
      have hrem := remO_str hn
      have hb : exs C W p_sorted_names_6 [X, Y, some (ltb false false N (lowL Ws)), some (.lst true (F.map .str)), some (.lst true (Rs.map .str)), x5, none, none] = .ok .next [X, Y, some (ltb false false N (lowL Ws)), some (.lst true ((F ++ [n]).map .str)), some (.lst true ((Rs.eraseIdx (Rs.idxOf n)).map .str)), some (.lst true ((n :: fs).map .str)), none, none] := by
        generalize (n :: fs).map D.str = A at *
        generalize (F ++ [n]).map D.str = B at *
        generalize (Rs.eraseIdx (Rs.idxOf n)).map D.str = E at *
        simp [p_sorted_names_6, exs, exS, hfr, asg_nm, ev, evs, fzL, hq, R.of_some, asb_ok, hix, onL, updE, happ, hrem]
      have hlen : (Rs.eraseIdx (Rs.idxOf n)).length = m := by
        rw [List.length_eraseIdx_of_lt (List.idxOf_lt_length_iff.mpr hn)]
        omega
      obtain ⟨r, h1, h2⟩ := sn_loop (C := C) (W := W) (X := X) (Y := Y) (N := N) (Ws := Ws) m (F ++ [n]) (Rs.eraseIdx (Rs.idxOf n)) (some (.lst true ((n :: fs).map .str))) fuel hlen (fun a ha => hR a (List.mem_of_mem_eraseIdx ha)) (by rw [List.length_append, List.length_singleton]; omega) (by omega)
      refine ⟨r, ?_, by simp only [gr, hfs]; exact h2⟩
      simp only [hb, R.bind_ok]
      exact h1
theorem sorted_ok {T : Str → Option Fn} {W k : Nat} (hT : Is T "sorted_names" 2 8 [true, true] p_sorted_names_body) (hL : Is T "lower_table" 2 6 [true, true] p_lower_table_body) {N : List Str} {Ws : List (Str × Str)} {x y : D} (hx : Seq1 x N) (hy : Seq2 y Ws) (hn : N.Nodup) (hw : ∀ p ∈ Ws, p.2 ∈ N) (hl : Ws.length ≤ 900000) (hN : N.length < 900000) (hW : N.length < W) :
    callN T W (k + 2) "sorted_names" [x, y] = .ok (.lst true ((gr Ws N.length [] (sS N)).map .str)) [some x.fz, some y.fz] := by
  rw [hT.eq rfl]
  have h1 := lower_ok (W := W) (k := k) hL hx hy hn hw hl
  have hs : b1D .sorted x.fz = some (.lst true ((sS N).map .str)) := by
    rcases hx with ⟨o, rfl⟩ | rfl
    · rw [D.fz, fzL_str, srt_ls]
    · rw [D.fz, fzL_str, srt_tp]
  obtain ⟨r, h2, h3⟩ := sn_loop (C := callN T W (k + 1)) (W := W) (X := some x.fz) (Y := some y.fz) (N := N) (Ws := Ws) N.length [] (sS N) none W (sS_len N) (fun n h => sS_mem.mp h) (by rw [List.length_nil]; omega) hW
  have hG : ∀ G : List Str, fzL (G.map D.str) = G.map D.str := fzL_str
  rcases h3 with ⟨x4, x5, rfl⟩ | ⟨e', rfl⟩
  · simp only [List.map_nil] at h2
    simp [p_sorted_names_body, exs, exS, ev, evs, evA, callA, takeA, putA, h1, ltb_fz, hs, R.of_some, asg_nm, asg_tup, asgl_nil, asgl_cons, fzL, h2, fin, lastP]
  · simp only [List.map_nil] at h2
    simp [p_sorted_names_body, exs, exS, ev, evs, evA, callA, takeA, putA, h1, ltb_fz, hs, R.of_some, asg_nm, asg_tup, asgl_nil, asgl_cons, fzL, h2, fin, lastP]

end Vm.Lib
namespace Vm.Lib
open PySem PySem.Spec L2 Vm
def enP (p : (Str × Str) × Nat) : D := .tup [.int (p.2 : Int), pD p.1]
theorem enum_pairs : ∀ (L : List (Str × Str)) (k : Nat), List.zipWith (fun (i : Nat) x => D.tup [.int (i : Int), x]) (List.range' k L.length) (L.map pD) = (L.zipIdx k).map enP
  | [], _ => rfl
  | n :: N, k => by
    rw [List.length_cons, List.range'_succ, List.map_cons, List.zipWith_cons_cons, List.zipIdx_cons, List.map_cons, enum_pairs N (k + 1)]
    rfl
theorem Seq2.enum {x : D} {L : List (Str × Str)} (h : Seq2 x L) : itemsD .enum [x] = some ((L.zipIdx 0).map enP) := by
  rw [← enum_pairs L 0, ← List.range_eq_range']
  have hl : L.length = (L.map pD).length := by rw [List.length_map]
  rcases h with ⟨o, rfl⟩ | rfl
  · rw [hl]; rfl
  · rw [hl]
    show (if isFL _ then _ else _) = _
    rw [isFL_p, if_pos rfl]
theorem nin_sq {x : D} {N : List Str} (h : Seq1 x N) {n : Str} : cmpD .NotIn (.str n) x = some (!decide (n ∈ N)) := by
  rcases h with ⟨o, rfl⟩ | rfl
  · exact nin_ls
  · show (if shal 0 (.str n) && (N.map D.str).all (shal 0) then some (!memD (.str n) (N.map .str)) else none) = _
    rw [memD_str, shal_str, shal_s]
    rfl
theorem eq_str {a b : Str} : cmpD .Eq (.str a) (.str b) = some (decide (a = b)) := by
  show (if shal 8 (.str a) && shal 8 (.str b) then some (eqD (.str a) (.str b)) else none) = _
  rw [shal_s, shal_s, eqD_ss]
  simp only [Bool.and_self, if_true]
  by_cases h : a = b <;> simp [h]
/-- a wish: pairs of two different ones of the names -/
def Good (N : List Str) (Ws : List (Str × Str)) : Prop := ∀ p ∈ Ws, p.1 ≠ p.2 ∧ p.1 ∈ N ∧ p.2 ∈ N
theorem cwish_ok {T : Str → Option Fn} {W k : Nat} (hT : Is T "check_wish" 2 6 [true, true] p_check_wish_body) {N : List Str} {Ws : List (Str × Str)} {x y : D} (hx : Seq1 x N) (hy : Seq2 y Ws) (hw : Good N Ws) :
    callN T W (k + 1) "check_wish" [x, y] = .ok .non [some x, some y.fz] := by
  rw [hT.eq rfl]
  obtain ⟨e', g1, x2, x3, x4, x5, rfl⟩ := for_p (tg := asgT (.tup [(.nm 2), (.nm 3)])) (b := fun e => exs (callN T W k) W p_check_wish_1 e) enP (M0 := Ws.zipIdx 0) (fun _ e => ∃ x2 x3 x4 x5 : Option D, e = [some x, some y.fz, x2, x3, x4, x5]) (Ws.zipIdx 0) [] [some x, some y.fz, none, none, none, none] rfl ⟨none, none, none, none, rfl⟩ (by
    rintro pre q post e hp ⟨x2, x3, x4, x5, rfl⟩
    obtain ⟨p, i⟩ := q
    have hm : p ∈ Ws := by
      have : (p, i) ∈ Ws.zipIdx 0 := by rw [← hp]; simp
      obtain ⟨_, _, h⟩ := List.mem_zipIdx this
      rw [h]
      exact List.getElem_mem _
    obtain ⟨h1, h2, h3⟩ := hw p hm
    refine ⟨[some x, some y.fz, some (.int (i : Int)), some (pD p), x4, x5], .next, [some x, some y.fz, some (.int (i : Int)), some (pD p), some (.str p.1), some (.str p.2)], rfl, ?_, .inl rfl, _, _, _, _, rfl⟩
    have e1 := eq_str (a := p.1) (b := p.2)
    rw [decide_eq_false h1] at e1
    have e2 := nin_sq hx (n := p.1)
    have e3 := nin_sq hx (n := p.2)
    simp only [h2, h3, decide_true, Bool.not_true] at e2 e3
    simp [p_check_wish_1, exs, exS, ev, fz_p, pD, D.fz, fzL, asg_tup, asgl_nil, asgl_cons, asg_nm, e1, e2, e3, R.of_some, asb_ok, asBD])
  simp [p_check_wish_body, exs, exS, ev, evs, hy.fz.enum, g1, fin, lastP]
theorem least_ok {T : Str → Option Fn} {W k : Nat} (hT : Is T "least_keeping" 2 3 [true, true] p_least_keeping_body) (hC : Is T "check_wish" 2 6 [true, true] p_check_wish_body) (hS : Is T "sorted_names" 2 8 [true, true] p_sorted_names_body) (hL : Is T "lower_table" 2 6 [true, true] p_lower_table_body)
    {N : List Str} {Ws : List (Str × Str)} {x y : D} (hx : Seq1 x N) (hy : Seq2 y Ws) (hn : N.Nodup) (hw : Good N Ws) (hl : Ws.length ≤ 900000) (hN : N.length < 900000) (hW : N.length < W) (hg : (gr Ws N.length [] (sS N)).length = N.length) :
    callN T W (k + 3) "least_keeping" [x, y] = .ok (.lst true ((gr Ws N.length [] (sS N)).map .str)) [some x.fz, some y.fz] := by
  rw [hT.eq rfl]
  have h1 := cwish_ok (W := W) (k := k + 1) hC hx hy hw
  have h2 := sorted_ok (W := W) (k := k) hS hL hx hy.fz hn (fun p hp => (hw p hp).2.2) hl hN hW
  have hz : y.fz.fz = y.fz := by
    rcases hy with ⟨o, rfl⟩ | rfl
    · rw [D.fz, fzL_p, D.fz, fzL_p]
    · rw [D.fz, fzL_p, D.fz, fzL_p]
  rw [hz] at h2
  have hlen1 : b1D .len (.lst true ((gr Ws N.length [] (sS N)).map .str)) = some (.int (N.length : Nat)) := by
    show some (D.int (((gr Ws N.length [] (sS N)).map D.str).length : Nat)) = _
    rw [List.length_map, hg]
  have hlen2 : b1D .len x.fz = some (.int (N.length : Nat)) := by
    rcases hx with ⟨o, rfl⟩ | rfl
    · show some (D.int ((fzL (N.map D.str)).length : Nat)) = _
      rw [fzL_str, List.length_map]
    · show some (D.int ((fzL (N.map D.str)).length : Nat)) = _
      rw [fzL_str, List.length_map]
  generalize (gr Ws N.length [] (sS N)).map D.str = G at *
  simp [p_least_keeping_body, exs, exS, ev, evA, callA, takeA, putA, h1, h2, asg_nm, hlen1, hlen2, cmpD, R.of_some, asb_ok, fin, lastP]
end Vm.Lib
namespace Vm.Lib
open PySem PySem.Spec L2 Vm
def extL (M s : List Str) : List (List Str) := (M.filter fun n => decide (n ∉ s)).map fun n => s ++ [n]
def lkF (M : List Str) : Nat → List (List Str) → List (List Str)
  | 0, Ls => Ls
  | m + 1, Ls => lkF M m (Ls.flatMap (extL M))
def feas (Ws : List (Str × Str)) (s : List Str) : Prop := ∀ p ∈ Ws, p.2 ∈ s → p.1 ∈ s ∧ s.idxOf p.1 < s.idxOf p.2
instance (Ws : List (Str × Str)) (s : List Str) : Decidable (feas Ws s) := inferInstanceAs (Decidable (∀ p ∈ Ws, p.2 ∈ s → p.1 ∈ s ∧ s.idxOf p.1 < s.idxOf p.2))
theorem lkF_app (M : List Str) : ∀ (m : Nat) (A B : List (List Str)), lkF M m (A ++ B) = lkF M m A ++ lkF M m B
  | 0, A, B => rfl
  | m + 1, A, B => by
    show lkF M m ((A ++ B).flatMap (extL M)) = _
    rw [List.flatMap_append, lkF_app M m]
    rfl
theorem idx_snoc {s : List Str} {a n : Str} (h : a ∈ s) : (s ++ [n]).idxOf a = s.idxOf a := by rw [List.idxOf_append, if_pos h]
theorem idx_out {s t : List Str} {a : Str} (h : a ∉ s) : (s ++ t).idxOf a = t.idxOf a + s.length := by rw [List.idxOf_append, if_neg h]
theorem feas_snoc {Ws : List (Str × Str)} {s : List Str} {n : Str} (hn : n ∉ s) (hne : ∀ p ∈ Ws, p.1 ≠ p.2) : feas Ws (s ++ [n]) ↔ feas Ws s ∧ ∀ p ∈ Ws, p.2 = n → p.1 ∈ s := by
  have last : ∀ a, a ∈ s ++ [n] → a ∉ s → a = n := fun a h1 h2 => by
    rcases List.mem_append.mp h1 with h | h
    · exact absurd h h2
    · exact List.mem_singleton.mp h
  constructor
  · intro h
    refine ⟨fun p hp h2 => ?_, fun p hp e => ?_⟩
    · obtain ⟨h3, h4⟩ := h p hp (List.mem_append_left _ h2)
      rw [idx_snoc h2] at h4
      have h5 : p.1 ∈ s := Classical.byContradiction fun h5 => by
        rw [last _ h3 h5, idx_out hn] at h4
        have := List.idxOf_lt_length_iff.mpr h2
        omega
      rw [idx_snoc h5] at h4
      exact ⟨h5, h4⟩
    · obtain ⟨h3, h4⟩ := h p hp (by rw [e]; simp)
      exact Classical.byContradiction fun h5 => hne p hp ((last _ h3 h5).trans e.symm)
  · rintro ⟨h1, h2⟩ p hp h3
    by_cases h4 : p.2 ∈ s
    · obtain ⟨h5, h6⟩ := h1 p hp h4
      exact ⟨List.mem_append_left _ h5, by rw [idx_snoc h4, idx_snoc h5]; exact h6⟩
    · have e := last _ h3 h4
      have h5 := h2 p hp e
      refine ⟨List.mem_append_left _ h5, ?_⟩
      rw [idx_snoc h5, idx_out h4]
      have := List.idxOf_lt_length_iff.mpr h5
      omega
theorem bad_none {M : List Str} {Ws : List (Str × Str)} (hne : ∀ p ∈ Ws, p.1 ≠ p.2) : ∀ (m : Nat) (Ls : List (List Str)), (∀ s ∈ Ls, ¬ feas Ws s) → (lkF M m Ls).filter (fun s => decide (feas Ws s)) = []
  | 0, Ls, h => by
    rw [List.filter_eq_nil_iff]
    intro s hs
    simpa using h s hs
  | m + 1, Ls, h => bad_none hne m _ fun s hs => by
    obtain ⟨s0, h0, h1⟩ := List.mem_flatMap.mp hs
    obtain ⟨n, hn, rfl⟩ := List.mem_map.mp h1
    have hn' : n ∉ s0 := by simpa using (List.mem_filter.mp hn).2
    exact fun z => h s0 h0 ((feas_snoc hn' hne).mp z).1
theorem lkF_filter {M : List Str} {Ws : List (Str × Str)} (hne : ∀ p ∈ Ws, p.1 ≠ p.2) (m : Nat) : ∀ Ls : List (List Str), (lkF M m Ls).filter (fun s => decide (feas Ws s)) = (lkF M m (Ls.filter fun s => decide (feas Ws s))).filter (fun s => decide (feas Ws s))
  | [] => rfl
  | s :: Ls => by
    have e : s :: Ls = [s] ++ Ls := rfl
    rw [e, lkF_app, List.filter_append, lkF_filter hne m Ls, List.filter_append]
    by_cases h : feas Ws s
    · have : [s].filter (fun s => decide (feas Ws s)) = [s] := by simp [h]
      rw [this, lkF_app, List.filter_append]
    · have : [s].filter (fun s => decide (feas Ws s)) = [] := by simp [h]
      rw [this, bad_none hne m [s] (by simpa using h)]
      rfl
theorem ext_free {M F : List Str} {Ws : List (Str × Str)} (hne : ∀ p ∈ Ws, p.1 ≠ p.2) (hF : feas Ws F) : (extL M F).filter (fun s => decide (feas Ws s)) = (frees Ws F (M.filter fun n => decide (n ∉ F))).map fun n => F ++ [n] := by
  unfold extL frees
  rw [List.filter_map]
  congr 1
  refine List.filter_congr fun n hn => ?_
  have hn' : n ∉ F := by simpa using (List.mem_filter.mp hn).2
  have : ((lowL Ws n).all fun a => decide (a ∈ F)) = decide (∀ p ∈ Ws, p.2 = n → p.1 ∈ F) := by
    rw [Bool.eq_iff_iff, List.all_eq_true, decide_eq_true_iff]
    constructor
    · intro h p hp e
      have := h p.1 (lowL_mem.mpr (by rw [← e]; exact hp))
      simpa using this
    · intro h a ha
      have := h (a, n) (lowL_mem.mp ha) rfl
      simpa using this
  rw [this]
  simp only [Function.comp, decide_eq_decide]
  rw [feas_snoc hn' hne]
  simp [hF]
theorem erase_filter {M F : List Str} {n : Str} (hn : M.Nodup) : (M.filter fun a => decide (a ∉ F)).eraseIdx ((M.filter fun a => decide (a ∉ F)).idxOf n) = M.filter fun a => decide (a ∉ F ++ [n]) := by
  have h1 : ((M.filter fun a => decide (a ∉ F)).eraseIdx ((M.filter fun a => decide (a ∉ F)).idxOf n)) = (M.filter fun a => decide (a ∉ F)).erase n := (List.erase_eq_eraseIdx_of_idxOf rfl).symm
  rw [h1, List.Nodup.erase_eq_filter (hn.filter _), List.filter_filter]
  refine List.filter_congr fun a _ => ?_
  by_cases h2 : a ∈ F <;> by_cases h3 : a = n <;> simp [h2, h3]
theorem first_ok {M N : List Str} {Ws : List (Str × Str)} (hne : ∀ p ∈ Ws, p.1 ≠ p.2) (hM : M.Nodup) (hN : ∀ n, n ∈ N ↔ n ∈ M) (hk : ∀ p ∈ Ws, p.1 ∈ N ∧ N.idxOf p.1 < N.idxOf p.2) : ∀ (m : Nat) (F : List Str), feas Ws F → (M.filter fun n => decide (n ∉ F)).length = m →
    ((lkF M m [F]).filter fun s => decide (feas Ws s)).head? = some (gr Ws m F (M.filter fun n => decide (n ∉ F)))
  | 0, F, hF, hl => by simp [lkF, gr, hF]
  | m + 1, F, hF, hl => by
    have hfr : ∃ n fs, frees Ws F (M.filter fun n => decide (n ∉ F)) = n :: fs := by
      have hex : ∃ a ∈ N, decide (a ∉ F) = true := by
        have h0 : 0 < (M.filter fun n => decide (n ∉ F)).length := by omega
        obtain ⟨a, ha⟩ := List.exists_mem_of_length_pos h0
        obtain ⟨h1, h2⟩ := List.mem_filter.mp ha
        exact ⟨a, (hN a).mpr h1, h2⟩
      obtain ⟨n, hn⟩ := Option.isSome_iff_exists.mp (List.find?_isSome.mpr hex)
      obtain ⟨h1, as, bs, h2, h3⟩ := List.find?_eq_some_iff_append.mp hn
      have hnF : n ∉ F := by simpa using h1
      have hasF : ∀ a ∈ as, a ∈ F := fun a ha => by simpa using h3 a ha
      have hmem : n ∈ frees Ws F (M.filter fun n => decide (n ∉ F)) := by
        refine List.mem_filter.mpr ⟨List.mem_filter.mpr ⟨(hN n).mp (by rw [h2]; simp), by simpa using hnF⟩, ?_⟩
        rw [List.all_eq_true]
        intro a ha
        obtain ⟨k1, k2⟩ := hk _ (lowL_mem.mp ha)
        simp only at k1 k2
        rw [decide_eq_true_iff]
        have hna : n ∉ as := fun z => hnF (hasF n z)
        rw [h2, idx_out hna, List.idxOf_cons_self] at k2
        refine hasF a (Classical.byContradiction fun z => ?_)
        rw [idx_out z] at k2
        omega
      cases hf : frees Ws F (M.filter fun n => decide (n ∉ F)) with
      | nil => rw [hf] at hmem; cases hmem
      | cons n fs => exact ⟨n, fs, rfl⟩
    obtain ⟨n, fs, hf⟩ := hfr
    have hnm := List.mem_filter.mp (show n ∈ (M.filter fun n => decide (n ∉ F)).filter _ by unfold frees at hf; rw [hf]; simp)
    have hnF : n ∉ F := by simpa using (List.mem_filter.mp hnm.1).2
    have he : lkF M (m + 1) [F] = lkF M m (extL M F) := by
      show lkF M m ([F].flatMap (extL M)) = _
      simp
    have hF' : feas Ws (F ++ [n]) := (feas_snoc hnF hne).mpr ⟨hF, fun p hp e => by
      have := List.all_eq_true.mp hnm.2 p.1 (lowL_mem.mpr (by rw [← e]; exact hp))
      simpa using this⟩
    have hl' : (M.filter fun a => decide (a ∉ F ++ [n])).length = m := by
      rw [← erase_filter hM, List.length_eraseIdx_of_lt (List.idxOf_lt_length_iff.mpr hnm.1)]
      omega
    have ih := first_ok hne hM hN hk m (F ++ [n]) hF' hl'
    rw [he, lkF_filter hne, ext_free hne hF, hf, List.map_cons]
    have e2 : (F ++ [n]) :: fs.map (fun n => F ++ [n]) = [F ++ [n]] ++ fs.map fun n => F ++ [n] := rfl
    rw [e2, lkF_app, List.filter_append, List.head?_append, ih]
    simp only [Option.some_or, gr, hf]
    rw [erase_filter hM]

end Vm.Lib
namespace Vm.Lib
open PySem PySem.Spec L2 Vm
theorem lkF_succ (M : List Str) : ∀ (j : Nat) (Ls : List (List Str)), lkF M (j + 1) Ls = (lkF M j Ls).flatMap (extL M)
  | 0, Ls => rfl
  | j + 1, Ls => by
    show lkF M (j + 1) (Ls.flatMap (extL M)) = _
    rw [lkF_succ M j]
    rfl
theorem lkF_mem {M : List Str} : ∀ (j : Nat) {s : List Str}, s ∈ lkF M j [[]] → s.length = j
  | 0, s, h => by
    have : s = [] := by simpa [lkF] using h
    rw [this]; rfl
  | j + 1, s, h => by
    rw [lkF_succ] at h
    obtain ⟨t, h1, h2⟩ := List.mem_flatMap.mp h
    obtain ⟨n, _, rfl⟩ := List.mem_map.mp h2
    rw [List.length_append, lkF_mem j h1]
    rfl
end Vm.Lib
namespace Vm.Lib
open PySem PySem.Spec L2 Vm
theorem lkF_inv {M : List Str} (hM : M.Nodup) : ∀ (j : Nat) {s : List Str}, s ∈ lkF M j [[]] → (M.filter fun n => decide (n ∉ s)).length + j = M.length
  | 0, s, h => by
    have : s = [] := by simpa [lkF] using h
    subst this
    simp
  | j + 1, s, h => by
    rw [lkF_succ] at h
    obtain ⟨t, h1, h2⟩ := List.mem_flatMap.mp h
    obtain ⟨n, hn, rfl⟩ := List.mem_map.mp h2
    have ih := lkF_inv hM j h1
    rw [← erase_filter hM, List.length_eraseIdx_of_lt (List.idxOf_lt_length_iff.mpr hn)]
    have := List.length_pos_of_mem hn
    omega
theorem lkF_all {M s : List Str} (hM : M.Nodup) (h : s ∈ lkF M M.length [[]]) {n : Str} (hn : n ∈ M) : n ∈ s := by
  have h1 := lkF_inv hM _ h
  have h2 : M.filter (fun n => decide (n ∉ s)) = [] := List.length_eq_zero_iff.mp (by omega)
  have h3 := List.filter_eq_nil_iff.mp h2 n hn
  simpa using h3
end Vm.Lib
namespace Vm.Lib
open PySem PySem.Spec L2 Vm
def keeps_1 : E := (.cmp .Lt (.m1 .index (.pk 0) (.pk 2)) (.m1 .index (.pk 0) (.pk 3)))
def keeps_2 : E := (.lc keeps_1 (.tup [(.nm 2), (.nm 3)]) .seq [(.nm 1)] [] [("_law_low", 2), ("_law_high", 3)])
def keeps_body : List S := [
    (.ret (.b1 .all keeps_2))]
end Vm.Lib
namespace Vm.Lib
open PySem PySem.Spec L2 Vm
theorem slc_dr {o : Bool} {xs : List D} {k : Nat} : slcD (.lst o xs) (some (k : Int)) none = some (.lst true (xs.drop k)) := by
  unfold slcD
  simp only [HT.sIx_none, HT.sIx_nat]
  by_cases h : k ≤ xs.length
  · rw [Nat.min_eq_left h, List.take_of_length_le (by rw [List.length_drop]; omega)]
  · rw [Nat.min_eq_right (by omega), List.drop_length, List.drop_eq_nil_of_le (by omega), List.take_nil]
end Vm.Lib
namespace Vm.Lib
open PySem PySem.Spec L2 Vm
def p_ring_1 : E := (.cmp .NotIn (.pk 7) (.pk 2))
def p_ring_2 : E := (.lc (.nm 7) (.nm 7) .seq [(.b1 .sorted (.pk 0))] [p_ring_1] [("name", 7)])
def p_ring_3 : E := (.cst (.bl true))
def p_ring_4 : E := (.cmp .In (.pk 7) (.pk 3))
def p_ring_5 : E := (.lc (.nm 7) (.nm 7) .seq [(.ix (.pk 4) (.ix (.pk 5) (.neg (.cst (.int 1)))))] [p_ring_4] [("name", 7)])
def p_ring_6 : List S := [(.asg (.nm 6) (.ix p_ring_5 (.cst (.int 0)))), (.iff (.cmp .In (.pk 6) (.pk 5)) [(.ret (.rev (.slc true false (.pk 5) (.m1 .index (.pk 5) (.pk 6)) (.cst .non))))] []), (.app 5 (.nm 6))]
def p_ring_body : List S := [
    (.exp (.cal "check_wish" [(.pk 0), (.pk 1)])),
    (.asg (.nm 2) (.cal "sorted_names" [(.pk 0), (.pk 1)])),
    (.asg (.nm 3) p_ring_2),
    (.iff (.cmp .Eq (.pk 3) (.lst [])) [(.ret (.cst .non))] []),
    (.asg (.nm 4) (.fz (.cal "lower_table" [(.pk 0), (.pk 1)]))),
    (.asg (.nm 5) (.lst [(.ix (.pk 3) (.cst (.int 0)))])),
    (.whl p_ring_3 p_ring_6)]
def p_is_ring_1 : E := (.b1 .tup (.pk 4))
def p_is_ring_2 : E := (.lc p_is_ring_1 (.nm 4) .seq [(.nm 1)] [] [("pair", 4)])
def p_is_ring_3 : E := (.cmp .In (.tup [(.ix (.pk 2) (.bin .Sub (.pk 5) (.cst (.int 1)))), (.ix (.pk 2) (.pk 5))]) (.pk 3))
def p_is_ring_4 : E := (.lc p_is_ring_3 (.nm 5) .rng1 [(.b1 .len (.pk 2))] [] [("at", 5)])
def p_is_ring_body : List S := [
    (.exp (.cal "check_wish" [(.pk 0), (.pk 1)])),
    (.asg (.nm 3) p_is_ring_2),
    (.iff (.or (.cmp .Lt (.b1 .len (.pk 2)) (.cst (.int 2))) (.cmp .Lt (.st1 .len (.pk 2)) (.b1 .len (.pk 2)))) [(.ret (.cst (.bl false)))] []),
    (.ret (.b1 .all p_is_ring_4))]
def wish_1 : List S := [(.asg (.tup [(.nm 6), (.nm 7)]) (.tup [(.cal "_law_of" [(.pk 0), (.pk 1)]), (.cal "_law_of" [(.pk 0), (.pk 1)])])), (.iff (.cmp .NotEq (.pk 6) (.pk 7)) [(.asg (.nm 8) (.or (.cmp .Lt (.m1 .index (.pk 3) (.pk 6)) (.m1 .index (.pk 3) (.pk 7))) (.cmp .Eq (.cal "_law_pull" [(.pk 0), (.cst (.int 12))]) (.cst (.int 0))))), (.app 4 (.ite (.pk 8) (.tup [(.nm 6), (.nm 7)]) (.tup [(.nm 7), (.nm 6)])))] [])]
def wish_body : List S := [
    (.asg (.tup [(.nm 3), (.nm 4)]) (.tup [(.cal "_law_mixed" [(.pk 0), (.pk 1)]), (.lst [])])),
    (.for_ (.nm 5) .rng1 [(.cal "_law_pull" [(.pk 0), (.bin .Add (.pk 2) (.cst (.int 1)))])] wish_1),
    (.ret (.mv 4))]
theorem gr_stop {M : List Str} {Ws : List (Str × Str)} (hM : M.Nodup) : ∀ (m : Nat) (F : List Str), (M.filter fun n => decide (n ∉ F)).length ≤ m →
    frees Ws (gr Ws m F (M.filter fun n => decide (n ∉ F))) (M.filter fun n => decide (n ∉ gr Ws m F (M.filter fun n => decide (n ∉ F)))) = []
  | 0, F, h => by
    have e : (M.filter fun n => decide (n ∉ F)) = [] := List.length_eq_zero_iff.mp (by omega)
    simp only [gr]
    show frees Ws F (M.filter fun n => decide (n ∉ F)) = []
    rw [e]
    rfl
  | m + 1, F, h => by
    cases hf : frees Ws F (M.filter fun n => decide (n ∉ F)) with
    | nil =>
      have e : gr Ws (m + 1) F (M.filter fun n => decide (n ∉ F)) = F := by simp only [gr, hf]
      rw [e]
      exact hf
    | cons n fs =>
      have hn : n ∈ (M.filter fun n => decide (n ∉ F)) := (List.mem_filter.mp (show n ∈ frees Ws F (M.filter fun n => decide (n ∉ F)) by rw [hf]; simp)).1
      have e : gr Ws (m + 1) F (M.filter fun n => decide (n ∉ F)) = gr Ws m (F ++ [n]) (M.filter fun a => decide (a ∉ F ++ [n])) := by
        rw [← erase_filter hM]
        simp only [gr, hf]
      rw [e]
      refine gr_stop hM m (F ++ [n]) ?_
      rw [← erase_filter hM, List.length_eraseIdx_of_lt (List.idxOf_lt_length_iff.mpr hn)]
      omega
def restF (Ws : List (Str × Str)) (N : List Str) : List Str := (sS N).filter fun n => decide (n ∉ gr Ws N.length [] (sS N))
def lowR (Ws : List (Str × Str)) (Rs : List Str) (n : Str) : List Str := (lowL Ws n).filter fun a => decide (a ∈ Rs)
theorem rest_in {Ws : List (Str × Str)} {N : List Str} {n : Str} (h : n ∈ restF Ws N) : n ∈ N := sS_mem.mp (List.mem_filter.mp h).1
theorem lowR_ne {Ws : List (Str × Str)} {N : List Str} {n : Str} (hN : N.Nodup) (hg : Good N Ws) (h : n ∈ restF Ws N) : lowR Ws (restF Ws N) n ≠ [] := by
  have e0 : ((sS N).filter fun n => decide (n ∉ ([] : List Str))) = sS N := List.filter_eq_self.mpr fun _ _ => by simp
  have hs := gr_stop (Ws := Ws) (sS_nodup hN) N.length [] (by rw [e0, sS_len]; exact Nat.le_refl _)
  rw [e0] at hs
  have h1 := List.filter_eq_nil_iff.mp hs n h
  intro z
  refine h1 (List.all_eq_true.mpr fun a ha => ?_)
  have h2 := List.filter_eq_nil_iff.mp z a ha
  have haN : a ∈ sS N := sS_mem.mpr (hg _ (lowL_mem.mp ha)).2.1
  refine decide_eq_true (Classical.byContradiction fun hG => h2 (decide_eq_true ?_))
  exact List.mem_filter.mpr ⟨haN, decide_eq_true hG⟩
def walkF (Ws : List (Str × Str)) (Rs : List Str) : Nat → List Str → List Str
  | 0, w => w
  | m + 1, w => match w.getLast? with
    | none => w
    | some c => match lowR Ws Rs c with
      | [] => w
      | a :: _ => if a ∈ w then (w.drop (w.idxOf a)).reverse else walkF Ws Rs m (w ++ [a])
def ringF (Ws : List (Str × Str)) (N : List Str) : Option (List Str) := match restF Ws N with
  | [] => none
  | r :: rs => some (walkF Ws (r :: rs) (rs.length + 1) [r])
theorem nodup_le : ∀ {w Rs : List Str}, w.Nodup → (∀ n ∈ w, n ∈ Rs) → w.length ≤ Rs.length
  | [], Rs, _, _ => Nat.zero_le _
  | a :: w, Rs, hw, h => by
    obtain ⟨h1, h2⟩ := List.nodup_cons.mp hw
    have ha := h a List.mem_cons_self
    have ih := nodup_le (Rs := Rs.erase a) h2 fun n hn => (List.mem_erase_of_ne fun e : n = a => h1 (e ▸ hn)).mpr (h n (List.mem_cons_of_mem _ hn))
    rw [List.length_erase_of_mem ha] at ih
    have := List.length_pos_of_mem ha
    rw [List.length_cons]
    omega
def tL (l : List Str) : D := .lst true (l.map .str)
theorem walk_loop {C : Orc} {W : Nat} {X Y Fd : Option D} {N Rs : List Str} {Ws : List (Str × Str)} (hR : ∀ n ∈ Rs, n ∈ N) (hne : ∀ n ∈ Rs, lowR Ws Rs n ≠ []) (hRl : Rs.length < 100000) : ∀ (m : Nat) (w : List Str) (x6 : Option D) (fuel : Nat), w.Nodup → (∀ n ∈ w, n ∈ Rs) → w ≠ [] → w.length + m = Rs.length + 1 → m ≤ fuel →
    ∃ e', whlGo (fun e => asB (ev C p_ring_3 e)) (fun e => exs C W p_ring_6 e) fuel [X, Y, Fd, some (.lst true (Rs.map .str)), some (ltb false false N (lowL Ws)), some (.lst true (w.map .str)), x6, none] = .ok (.ret (tL (walkF Ws Rs m w))) (X :: Y :: e')
  | 0, w, x6, fuel, hn, hs, h0, hl, hf => by
    have := nodup_le hn hs
    omega
  | m + 1, w, x6, 0, hn, hs, h0, hl, hf => by omega
  | m + 1, w, x6, fuel + 1, hn, hs, h0, hl, hf => by
    obtain ⟨c, hc⟩ : ∃ c, w.getLast? = some c := ⟨w.getLast h0, List.getLast?_eq_some_getLast h0⟩
    have hcw : c ∈ w := List.mem_of_getLast? hc
    have hcR := hs c hcw
    cases hlr : lowR Ws Rs c with
    | nil => exact absurd hlr (hne c hcR)
    | cons a ls =>
      have haR : a ∈ Rs := of_decide_eq_true (List.mem_filter.mp (show a ∈ lowR Ws Rs c by rw [hlr]; simp)).2
      have hla : ixD (.lst true (w.map .str)) (.int (-1)) = some (.str c) := by
        show atI _ _ = _
        exact atI_last (by rw [List.getLast?_map, hc]; rfl)
      have hix := ltb_ix (o := false) (f := lowL Ws) (hR c hcR)
      obtain ⟨e', g1, rfl⟩ := lc_flt (w := fun e => wipeE e [7]) (tg := asgT (.nm 7)) (tt := fun e => evTs C [p_ring_4] e) (f := fun e => (ev C (.nm 7) e).still) D.str (fun a => decide (a ∈ Rs)) D.str (fun e => e = [X, Y, Fd, some (.lst true (Rs.map .str)), some (ltb false false N (lowL Ws)), some (.lst true (w.map .str)), x6, none]) (lowL Ws c) _ rfl (by
        rintro b hb e rfl
        refine ⟨[X, Y, Fd, some (.lst true (Rs.map .str)), some (ltb false false N (lowL Ws)), some (.lst true (w.map .str)), x6, some (.str b)], [X, Y, Fd, some (.lst true (Rs.map .str)), some (ltb false false N (lowL Ws)), some (.lst true (w.map .str)), x6, some (.str b)], rfl, ?_, fun _ => ⟨[X, Y, Fd, some (.lst true (Rs.map .str)), some (ltb false false N (lowL Ws)), some (.lst true (w.map .str)), x6, some (.str b)], rfl, rfl⟩, fun _ => rfl⟩
        by_cases cb : b ∈ Rs <;> simp [evTs, p_ring_4, ev, in_ls, R.of_some, asb_ok, cb, still_k])
      have e2 : ((lowL Ws c).filter fun a => decide (a ∈ Rs)).map (fun a => (D.str a).fz) = (a :: ls).map .str := by
        show (lowR Ws Rs c).map D.str = _
        rw [hlr]
      rw [e2] at g1
      have hlc : ev C p_ring_5 [X, Y, Fd, some (.lst true (Rs.map .str)), some (ltb false false N (lowL Ws)), some (.lst true (w.map .str)), x6, none] = .ok (.lst true ((a :: ls).map .str)) [X, Y, Fd, some (.lst true (Rs.map .str)), some (ltb false false N (lowL Ws)), some (.lst true (w.map .str)), x6, none] := by
        unfold p_ring_5
        refine ev_lc (xs := [.lst false ((lowL Ws c).map .str)]) (ds := (lowL Ws c).map .str) (e1 := [X, Y, Fd, some (.lst true (Rs.map .str)), some (ltb false false N (lowL Ws)), some (.lst true (w.map .str)), x6, none]) ?_ rfl g1
        simp [evs, ev, hla, hix, R.of_some]
      have hi0 : ixD (.lst true ((a :: ls).map .str)) (.int 0) = some (.str a) := a0
      have hin := in_ls (o := true) (M := w) (n := a)
      have ht : asB (ev C p_ring_3 [X, Y, Fd, some (.lst true (Rs.map .str)), some (ltb false false N (lowL Ws)), some (.lst true (w.map .str)), x6, none]) = .ok true [X, Y, Fd, some (.lst true (Rs.map .str)), some (ltb false false N (lowL Ws)), some (.lst true (w.map .str)), x6, none] := rfl
      unfold whlGo
      simp only [ht, R.bind_ok, if_true]
      by_cases caw : a ∈ w
      · rw [decide_eq_true caw] at hin
        have hidx := index_str caw (o := true)
        have hsl : slcD (.lst true (w.map .str)) (some (w.idxOf a : Int)) none = some (.lst true ((w.drop (w.idxOf a)).map .str)) := by rw [slc_dr, List.map_drop]
        have hrv : revD (.lst true ((w.drop (w.idxOf a)).map .str)) = some (tL (w.drop (w.idxOf a)).reverse) := by
          show some (D.lst true _) = _
          rw [← List.map_reverse]
          rfl
        have hw : walkF Ws Rs (m + 1) w = (w.drop (w.idxOf a)).reverse := by simp only [walkF, hc, hlr, if_pos caw]
        rw [hw]
        generalize (w.drop (w.idxOf a)).map D.str = B at *
        generalize tL (w.drop (w.idxOf a)).reverse = TT at *
        generalize (a :: ls).map D.str = A at *
        generalize w.map D.str = PW at *
        generalize Rs.map D.str = PR at *
        have hb : exs C W p_ring_6 [X, Y, Fd, some (.lst true PR), some (ltb false false N (lowL Ws)), some (.lst true PW), x6, none] = .ok (.ret TT) [X, Y, Fd, some (.lst true PR), some (ltb false false N (lowL Ws)), some (.lst true PW), some (.str a), none] := by
          simp [p_ring_6, exs, exS, hlc, ev, hi0, R.of_some, asg_nm, hin, asb_ok, m1Ty, hidx, partD, hsl, hrv]
        simp only [hb, R.bind_ok]
        exact ⟨_, rfl⟩
      · rw [decide_eq_false caw] at hin
        have hn2 : (w ++ [a]).Nodup := List.nodup_append.mpr ⟨hn, by simp, fun x hx y hy => by rw [List.mem_singleton.mp hy]; exact fun e => caw (e ▸ hx)⟩
        have hs2 : ∀ n ∈ w ++ [a], n ∈ Rs := fun n h => (List.mem_append.mp h).elim (hs n) fun h => by rw [List.mem_singleton.mp h]; exact haR
        have happ := appO_str (F := w) (n := a) (by have := nodup_le hn hs; omega)
        have hw : walkF Ws Rs (m + 1) w = walkF Ws Rs m (w ++ [a]) := by simp only [walkF, hc, hlr, if_neg caw]
        rw [hw]
        obtain ⟨e', h1⟩ := walk_loop (C := C) (W := W) (X := X) (Y := Y) (Fd := Fd) hR hne hRl m (w ++ [a]) (some (.str a)) fuel hn2 hs2 (by simp) (by rw [List.length_append, List.length_singleton]; omega) (by omega)
        refine ⟨e', ?_⟩
        rw [← h1]
        have hb : exs C W p_ring_6 [X, Y, Fd, some (.lst true (Rs.map .str)), some (ltb false false N (lowL Ws)), some (.lst true (w.map .str)), x6, none] = .ok .next [X, Y, Fd, some (.lst true (Rs.map .str)), some (ltb false false N (lowL Ws)), some (.lst true ((w ++ [a]).map .str)), some (.str a), none] := by
          generalize (w ++ [a]).map D.str = B at *
          generalize (a :: ls).map D.str = A at *
          generalize w.map D.str = PW at *
          generalize Rs.map D.str = PR at *
          simp [p_ring_6, exs, exS, hlc, ev, hi0, R.of_some, asg_nm, hin, asb_ok, D.fz, onL, updE, happ]
        simp only [hb, R.bind_ok]
theorem ring_ok {T : Str → Option Fn} {W k : Nat} (hT : Is T "ring" 2 8 [true, true] p_ring_body) (hC : Is T "check_wish" 2 6 [true, true] p_check_wish_body) (hS : Is T "sorted_names" 2 8 [true, true] p_sorted_names_body) (hL : Is T "lower_table" 2 6 [true, true] p_lower_table_body)
    {N : List Str} {Ws : List (Str × Str)} {x y : D} (hx : Seq1 x N) (hy : Seq2 y Ws) (hn : N.Nodup) (hw : Good N Ws) (hl : Ws.length ≤ 900000) (hN : N.length < 90000) (hW : N.length < W) :
    callN T W (k + 3) "ring" [x, y] = .ok (oD tL (ringF Ws N)) [some x.fz, some y.fz] := by
  rw [hT.eq rfl]
  have h1 := cwish_ok (W := W) (k := k + 1) hC hx hy hw
  have h2 := sorted_ok (W := W) (k := k) hS hL hx hy.fz hn (fun p hp => (hw p hp).2.2) hl (by omega) hW
  have h4 := lower_ok (W := W) (k := k + 1) hL hx.fz hy.fz hn (fun p hp => (hw p hp).2.2) hl
  have hz : y.fz.fz = y.fz := by
    rcases hy with ⟨o, rfl⟩ | rfl
    · rw [D.fz, fzL_p, D.fz, fzL_p]
    · rw [D.fz, fzL_p, D.fz, fzL_p]
  have hzx : x.fz.fz = x.fz := by
    rcases hx with ⟨o, rfl⟩ | rfl
    · rw [D.fz, fzL_str, D.fz, fzL_str]
    · rw [D.fz, fzL_str, D.fz, fzL_str]
  rw [hz] at h2
  rw [hz, hzx] at h4
  have hs : b1D .sorted x.fz = some (.lst true ((sS N).map .str)) := by
    rcases hx with ⟨o, rfl⟩ | rfl
    · rw [D.fz, fzL_str, srt_ls]
    · rw [D.fz, fzL_str, srt_tp]
  obtain ⟨e', g1, rfl⟩ := lc_flt (w := fun e => wipeE e [7]) (tg := asgT (.nm 7)) (tt := fun e => evTs (callN T W (k + 2)) [p_ring_1] e) (f := fun e => (ev (callN T W (k + 2)) (.nm 7) e).still) D.str (fun n => decide (n ∉ gr Ws N.length [] (sS N))) D.str (fun e => e = [some x.fz, some y.fz, some (.lst true ((gr Ws N.length [] (sS N)).map .str)), none, none, none, none, none]) (sS N) _ rfl (by
    rintro n hm e rfl
    refine ⟨[some x.fz, some y.fz, some (.lst true ((gr Ws N.length [] (sS N)).map .str)), none, none, none, none, some (.str n)], [some x.fz, some y.fz, some (.lst true ((gr Ws N.length [] (sS N)).map .str)), none, none, none, none, some (.str n)], rfl, ?_, fun _ => ⟨[some x.fz, some y.fz, some (.lst true ((gr Ws N.length [] (sS N)).map .str)), none, none, none, none, some (.str n)], rfl, rfl⟩, fun _ => rfl⟩
    have hni := nin_ls (o := true) (M := gr Ws N.length [] (sS N)) (n := n)
    by_cases c : n ∈ gr Ws N.length [] (sS N) <;> simp [evTs, p_ring_1, ev, hni, R.of_some, asb_ok, c, still_k])
  have e2 : ((sS N).filter fun n => decide (n ∉ gr Ws N.length [] (sS N))).map (fun a => (D.str a).fz) = (restF Ws N).map .str := rfl
  rw [e2] at g1
  have hlc : ev (callN T W (k + 2)) p_ring_2 [some x.fz, some y.fz, some (.lst true ((gr Ws N.length [] (sS N)).map .str)), none, none, none, none, none] = .ok (.lst true ((restF Ws N).map .str)) [some x.fz, some y.fz, some (.lst true ((gr Ws N.length [] (sS N)).map .str)), none, none, none, none, none] := by
    unfold p_ring_2
    refine ev_lc (xs := [.lst true ((sS N).map .str)]) (ds := (sS N).map .str) (e1 := [some x.fz, some y.fz, some (.lst true ((gr Ws N.length [] (sS N)).map .str)), none, none, none, none, none]) ?_ rfl g1
    simp [evs, ev, hs, R.of_some]
  have heq := eq_ls (o := true) (p := true) (M := restF Ws N) (N := [])
  unfold ringF
  cases hr : restF Ws N with
  | nil =>
    rw [hr] at hlc heq
    simp only [List.map_nil] at heq hlc
    have heq : cmpD .Eq (.lst true []) (.lst true []) = some true := heq
    generalize (gr Ws N.length [] (sS N)).map D.str = PG at *
    simp [p_ring_body, exs, exS, ev, evs, evA, callA, takeA, putA, h1, h2, asg_nm, hlc, fzL, heq, R.of_some, asb_ok, oD, fin, lastP]
  | cons r rs =>
    have hRN : ∀ n ∈ r :: rs, n ∈ N := fun n h => rest_in (by rw [hr]; exact h)
    have hRne : ∀ n ∈ r :: rs, lowR Ws (r :: rs) n ≠ [] := fun n h => by
      have z := lowR_ne hn hw (n := n) (by rw [hr]; exact h)
      rw [hr] at z
      exact z
    have hlen : (r :: rs).length ≤ N.length := by
      rw [← hr, ← sS_len N]
      exact List.length_filter_le ..
    simp only [List.length_cons] at hlen
    obtain ⟨e', hwl⟩ := walk_loop (C := callN T W (k + 2)) (W := W) (X := some x.fz) (Y := some y.fz) (Fd := some (.lst true ((gr Ws N.length [] (sS N)).map .str))) hRN hRne (by simp only [List.length_cons]; omega) (rs.length + 1) [r] none W (by simp) (by simp) (by simp) (by simp only [List.length_cons, List.length_nil]; omega) (by omega)
    rw [hr] at hlc heq
    rw [decide_eq_false (by simp)] at heq
    have heq : cmpD .Eq (.lst true ((r :: rs).map .str)) (.lst true []) = some false := heq
    have hi0 : ixD (.lst true ((r :: rs).map .str)) (.int 0) = some (.str r) := a0
    have hltb := ltb_fz (o := true) (p := true) (N := N) (f := lowL Ws)
    simp only [List.map_cons, List.map_nil] at hwl
    rw [← List.map_cons] at hwl
    generalize (r :: rs).map D.str = PR at *
    generalize (gr Ws N.length [] (sS N)).map D.str = PG at *
    simp [p_ring_body, exs, exS, ev, evs, evA, callA, takeA, putA, h1, h2, h4, asg_nm, hlc, fzL, D.fz, heq, hltb, hi0, R.of_some, asb_ok, hwl, oD, fin, lastP]

end Vm.Lib
namespace Vm.Lib
open PySem PySem.Spec L2 Vm
theorem memD_p (p : Str × Str) : ∀ L : List (Str × Str), memD (pD p) (L.map pD) = decide (p ∈ L)
  | [] => rfl
  | q :: L => by
    have ih := memD_p p L
    unfold memD at ih ⊢
    rw [List.map_cons, List.any_cons, ih, eqD_p]
    by_cases h : q = p
    · subst h; simp
    · have h' : ¬ p = q := fun e => h e.symm
      simp [h, h']
theorem in_pl {o : Bool} {p : Str × Str} {L : List (Str × Str)} : cmpD .In (.tup [.str p.1, .str p.2]) (.lst o (L.map pD)) = some (decide (p ∈ L)) := by
  show (if shal 7 (pD p) && (L.map pD).all (shal 7) then some (memD (pD p) (L.map pD)) else none) = _
  have h1 : shal 7 (pD p) = true := rfl
  rw [h1, shal_p 6, memD_p]
  rfl
theorem seq_len {x : D} {K : List Str} (h : Seq1 x K) : b1D .len x = some (.int (K.length : Int)) := by
  rcases h with ⟨o, rfl⟩ | rfl
  · show some (D.int ((K.map D.str).length : Nat)) = _
    rw [List.length_map]
  · show some (D.int ((K.map D.str).length : Nat)) = _
    rw [List.length_map]
theorem seq_set {x : D} {K : List Str} (h : Seq1 x K) (hl : K.length ≤ 4000) : st1D .len x = some (.int ((dedS K).length : Int)) := by
  rcases h with ⟨o, rfl⟩ | rfl
  · show (strsOf (K.map D.str)).bind _ = _
    rw [strsOf_map]
    exact if_pos hl
  · show (strsOf (K.map D.str)).bind _ = _
    rw [strsOf_map]
    exact if_pos hl
theorem seq_ix {x : D} {K : List Str} (h : Seq1 x K) {i : Int} {n : Str} (hi : atI (K.map D.str) i = some (.str n)) : ixD x (.int i) = some (.str n) := by
  rcases h with ⟨o, rfl⟩ | rfl
  · exact hi
  · show (atI _ _).bind _ = _
    rw [hi]
    rfl
theorem at_nat {K : List Str} {j : Nat} (h : j < K.length) : atI (K.map D.str) (j : Int) = some (.str (K.getD j "")) := by
  rw [Vm.Lib.atI_nat, List.getElem?_map, List.getElem?_eq_getElem h, List.getD_eq_getElem?_getD, List.getElem?_eq_getElem h]
  rfl
def prvN (K : List Str) (j : Nat) : Nat := if j = 0 then K.length - 1 else j - 1
theorem at_prv {K : List Str} {j : Nat} (h : j < K.length) : atI (K.map D.str) ((j : Int) - 1) = some (.str (K.getD (prvN K j) "")) := by
  unfold prvN
  by_cases c : j = 0
  · subst c
    rw [if_pos rfl]
    have e : ((0 : Nat) : Int) - 1 = -1 := rfl
    rw [e]
    refine atI_last ?_
    rw [List.getLast?_map, List.getLast?_eq_getElem?, List.getD_eq_getElem?_getD, List.getElem?_eq_getElem (by omega : K.length - 1 < K.length)]
    rfl
  · rw [if_neg c, show (j : Int) - 1 = ((j - 1 : Nat) : Int) by omega]
    exact at_nat (by omega)
def ringG (K : List Str) : Bool := decide (2 ≤ K.length) && decide (K.length ≤ (dedS K).length)
def ringB (Ws : List (Str × Str)) (K : List Str) : Bool := (List.range K.length).all fun j => decide ((K.getD (prvN K j) "", K.getD j "") ∈ Ws)
theorem all_b {f : Nat → Bool} (l : List Nat) : b1D .all (.lst true (l.map fun j => D.bl (f j))) = some (.bl (l.all f)) := by
  rw [b1all, bools_map f, Option.map_some, List.all_map]
  rfl
theorem Seq1.fzfz {x : D} {N : List Str} (h : Seq1 x N) : x.fz.fz = x.fz := by
  rcases h with ⟨o, rfl⟩ | rfl
  · rw [D.fz, fzL_str, D.fz, fzL_str]
  · rw [D.fz, fzL_str, D.fz, fzL_str]
theorem Seq2.fzfz {x : D} {N : List (Str × Str)} (h : Seq2 x N) : x.fz.fz = x.fz := by
  rcases h with ⟨o, rfl⟩ | rfl
  · rw [D.fz, fzL_p, D.fz, fzL_p]
  · rw [D.fz, fzL_p, D.fz, fzL_p]
theorem isring_ok {T : Str → Option Fn} {W k : Nat} (hT : Is T "is_ring" 3 6 [true, true, true] p_is_ring_body) (hC : Is T "check_wish" 2 6 [true, true] p_check_wish_body)
    {N K : List Str} {Ws : List (Str × Str)} {x y c : D} (hx : Seq1 x N) (hy : Seq2 y Ws) (hc : Seq1 c K) (hw : Good N Ws) (hk : K.length ≤ 4000) :
    callN T W (k + 2) "is_ring" [x, y, c] = .ok (.bl (ringG K && ringB Ws K)) [some x, some y.fz, some c] := by
  rw [hT.eq rfl]
  have h1 := cwish_ok (W := W) (k := k) hC hx hy hw
  obtain ⟨e', g1, rfl⟩ := lc_flt (w := fun e => wipeE e [4]) (tg := asgT (.nm 4)) (tt := fun e => evTs (callN T W (k + 1)) [] e) (f := fun e => (ev (callN T W (k + 1)) p_is_ring_1 e).still) pD (fun _ => true) pD (fun e => e = [some x, some y.fz, some c, none, none, none]) Ws _ rfl (by
    rintro a ha e rfl
    refine ⟨[some x, some y.fz, some c, none, some (pD a), none], _, rfl, rfl, fun _ => ⟨[some x, some y.fz, some c, none, some (pD a), none], ?_, rfl⟩, fun h => by cases h⟩
    have ht : b1D .tup (pD a) = some (pD a) := rfl
    simp [p_is_ring_1, ev, ht, R.of_some, still_k])
  rw [List.filter_eq_self.mpr fun _ _ => rfl] at g1
  have g1 : _ = R.ok (Ws.map pD) _ := g1
  have hlc : ev (callN T W (k + 1)) p_is_ring_2 [some x, some y.fz, some c, none, none, none] = .ok (.lst true (Ws.map pD)) [some x, some y.fz, some c, none, none, none] := by
    unfold p_is_ring_2
    refine ev_lc (xs := [y.fz]) (ds := Ws.map pD) (e1 := [some x, some y.fz, some c, none, none, none]) ?_ hy.fz.items g1
    simp [evs, ev, hy.fzfz]
  have hl := seq_len hc
  have hs := seq_set hc hk
  have hlt1 : cmpD .Lt (.int (K.length : Int)) (.int 2) = some (!decide (2 ≤ K.length)) := by
    show some (decide ((K.length : Int) < 2)) = _
    congr 1
    rw [Bool.eq_iff_iff]
    simp
    omega
  have hlt2 : cmpD .Lt (.int ((dedS K).length : Int)) (.int (K.length : Int)) = some (!decide (K.length ≤ (dedS K).length)) := by
    show some (decide (((dedS K).length : Int) < (K.length : Int))) = _
    congr 1
    rw [Bool.eq_iff_iff]
    simp
  obtain ⟨e', g2, rfl⟩ := lc_flt (w := fun e => wipeE e [5]) (tg := asgT (.nm 5)) (tt := fun e => evTs (callN T W (k + 1)) [] e) (f := fun e => (ev (callN T W (k + 1)) p_is_ring_3 e).still) (fun j : Nat => D.int (j : Int)) (fun _ => true) (fun j => .bl (decide ((K.getD (prvN K j) "", K.getD j "") ∈ Ws))) (fun e => e = [some x, some y.fz, some c, some (.lst true (Ws.map pD)), none, none]) (List.range K.length) _ rfl (by
    rintro j hj e rfl
    have hj' := List.mem_range.mp hj
    have i1 := seq_ix hc (at_prv hj')
    have i2 := seq_ix hc (at_nat hj')
    have hsb : binD .Sub (.int (j : Int)) (.int 1) = some (.int ((j : Int) - 1)) := rfl
    have hin := in_pl (o := true) (p := (K.getD (prvN K j) "", K.getD j "")) (L := Ws)
    simp only at hin
    generalize Ws.map pD = PW at *
    refine ⟨[some x, some y.fz, some c, some (.lst true PW), none, some (.int (j : Int))], _, rfl, rfl, fun _ => ⟨[some x, some y.fz, some c, some (.lst true PW), none, some (.int (j : Int))], ?_, rfl⟩, fun h => by cases h⟩
    generalize K.getD (prvN K j) "" = n1 at *
    generalize K.getD j "" = n2 at *
    simp [p_is_ring_3, ev, evs, hsb, i1, i2, hin, R.of_some, still_k])
  rw [List.filter_eq_self.mpr fun _ _ => rfl] at g2
  have g2 : _ = R.ok ((List.range K.length).map fun j => D.bl (decide ((K.getD (prvN K j) "", K.getD j "") ∈ Ws))) _ := g2
  have hr := rng_nat (n := K.length) (by omega)
  have hlc2 : ev (callN T W (k + 1)) p_is_ring_4 [some x, some y.fz, some c, some (.lst true (Ws.map pD)), none, none] = .ok (.lst true ((List.range K.length).map fun j => D.bl (decide ((K.getD (prvN K j) "", K.getD j "") ∈ Ws)))) [some x, some y.fz, some c, some (.lst true (Ws.map pD)), none, none] := by
    unfold p_is_ring_4
    refine ev_lc (xs := [.int (K.length : Int)]) (ds := (List.range K.length).map fun (k : Nat) => .int (k : Int)) (e1 := [some x, some y.fz, some c, some (.lst true (Ws.map pD)), none, none]) ?_ hr g2
    simp [evs, ev, hl, R.of_some]
  have hall := all_b (f := fun j => decide ((K.getD (prvN K j) "", K.getD j "") ∈ Ws)) (List.range K.length)
  have hB : ringB Ws K = (List.range K.length).all fun j => decide ((K.getD (prvN K j) "", K.getD j "") ∈ Ws) := rfl
  rw [← hB] at hall
  unfold ringG
  generalize ((List.range K.length).map fun j => D.bl (decide ((K.getD (prvN K j) "", K.getD j "") ∈ Ws))) = AA at *
  generalize Ws.map pD = PW at *
  cases b1 : decide (2 ≤ K.length) <;> cases b2 : decide (K.length ≤ (dedS K).length) <;> rw [b1] at hlt1 <;> rw [b2] at hlt2 <;>
    simp [p_is_ring_body, exs, exS, ev, evs, evA, callA, takeA, putA, h1, asg_nm, hlc, hl, hs, hlt1, hlt2, hlc2, hall, R.of_some, asb_ok, asBD, fin, lastP]
theorem lwish_ok {T : Str → Option Fn} {W k : Nat} (hT : Is T "_law_wish" 3 9 [true, true, true] wish_body) (hM : Is T "_law_mixed" 2 4 [true, true] mixed_body) (hO : Is T "_law_of" 2 2 [true, true] of_body) (hP : Is T "_law_pull" 2 5 [true, true] pull_body)
    {b : D} (B : Bag b) {o : Bool} {N : List Str} {most : Nat} (h0 : N ≠ []) (hN : N.length < 1000) (hm : most ≤ 1000) :
    ∃ (b' : D) (Ws : List (Str × Str)), callN T W (k + 3) "_law_wish" [b, .lst o (N.map .str), .int (most : Int)] = .ok (.lst true (Ws.map pD)) [some b', some (.lst false (N.map .str)), some (.int (most : Int))] ∧ Bag b' ∧ Good N Ws ∧ Ws.length ≤ most := by
  rw [hT.eq rfl]
  obtain ⟨b1, ys, p1, B1, hp⟩ := mixed_ok (W := W) (k := k) hM hP B (o := o) (isFL_str N) (by rw [List.length_map]; omega)
  obtain ⟨Bs, rfl, hB⟩ := perm_str hp
  obtain ⟨r, b2, p2, B2, u1, u2⟩ := pull_ok (W := W) (k := k + 1) hP B1 (m := (most : Int) + 1) (by omega) (by omega)
  obtain ⟨r, rfl⟩ := Int.eq_ofNat_of_zero_le u1
  have hr := rng_nat (n := r) (by omega)
  obtain ⟨e', g1, b', Ws, x5, x6, x7, x8, B', hG, hl, rfl⟩ := for_p (tg := asgT (.nm 5)) (b := fun e => exs (callN T W (k + 2)) W wish_1 e) (fun j : Nat => D.int (j : Int)) (M0 := List.range r) (fun pre e => ∃ (b : D) (Ws : List (Str × Str)) (x5 x6 x7 x8 : Option D), Bag b ∧ Good N Ws ∧ Ws.length ≤ pre.length ∧ e = [some b, some (.lst false (N.map .str)), some (.int (most : Int)), some (.lst true (Bs.map .str)), some (.lst true (Ws.map pD)), x5, x6, x7, x8])
    (List.range r) [] [some b2, some (.lst false (N.map .str)), some (.int (most : Int)), some (.lst true (Bs.map .str)), some (.lst true []), none, none, none, none] rfl ⟨b2, [], none, none, none, none, B2, (fun p h => by cases h), Nat.le_refl _, rfl⟩ (by
    rintro pre j post e hpre ⟨b, Ws, x5, x6, x7, x8, B, hG, hl, rfl⟩
    have hpl : pre.length < 2000 := by
      have := congrArg List.length hpre
      simp only [List.length_append, List.length_cons, List.length_range] at this
      omega
    obtain ⟨x, b3, q1, B3, hx⟩ := of_ok (W := W) (k := k) hO hP B (o := false) (isFL_str N) (fun z => h0 (List.map_eq_nil_iff.mp z)) (by rw [List.length_map]; omega)
    obtain ⟨y, b4, q2, B4, hy⟩ := of_ok (W := W) (k := k) hO hP B3 (o := false) (isFL_str N) (fun z => h0 (List.map_eq_nil_iff.mp z)) (by rw [List.length_map]; omega)
    obtain ⟨n1, hn1, rfl⟩ := List.mem_map.mp hx
    obtain ⟨n2, hn2, rfl⟩ := List.mem_map.mp hy
    obtain ⟨z, b5, q3, B5, v1, v2⟩ := pull_ok (W := W) (k := k + 1) hP B4 (m := 12) (by decide) (by decide)
    have i1 := index_str (hB.mem_iff.mpr hn1) (o := true)
    have i2 := index_str (hB.mem_iff.mpr hn2) (o := true)
    have hne : cmpD .NotEq (.str n1) (.str n2) = some (!decide (n1 = n2)) := by
      show (if shal 8 (.str n1) && shal 8 (.str n2) then some (!(eqD (.str n1) (.str n2))) else none) = _
      rw [shal_s, shal_s, eqD_ss]
      simp only [Bool.and_self, if_true]
      by_cases h : n1 = n2 <;> simp [h]
    have happ : ∀ p : Str × Str, appO (.lst true (Ws.map pD)) (.tup [.str p.1, .str p.2]) = some (.lst true ((Ws ++ [p]).map pD)) := fun p => by
      show (if _ then _ else _) = _
      rw [if_pos (by rw [List.length_map]; simp only [lim]; omega), List.map_append]
      rfl
    have hgood : ∀ p : Str × Str, p.1 ≠ p.2 → p.1 ∈ N → p.2 ∈ N → Good N (Ws ++ [p]) := fun p a1 a2 a3 q hq => by
      rcases List.mem_append.mp hq with hq | hq
      · exact hG q hq
      · rw [List.mem_singleton.mp hq]; exact ⟨a1, a2, a3⟩
    by_cases c : n1 = n2
    · rw [decide_eq_true c] at hne
      refine ⟨_, .next, _, rfl, ?_, .inl rfl, b4, Ws, some (.int (j : Int)), some (.str n1), some (.str n2), x8, B4, hG, by rw [List.length_append]; omega, rfl⟩
      generalize Ws.map pD = PW at *
      generalize N.map D.str = PN at *
      generalize Bs.map D.str = PB at *
      simp [wish_1, exs, exS, ev, evs, evA, callA, takeA, putA, q1, q2, asg_tup, asgl_nil, asgl_cons, asg_nm, hne, R.of_some, asb_ok]
    · rw [decide_eq_false c] at hne
      have hlt : cmpD .Lt (.int (Bs.idxOf n1 : Int)) (.int (Bs.idxOf n2 : Int)) = some (decide (Bs.idxOf n1 < Bs.idxOf n2)) := by
        show some (decide _) = _
        congr 1
        rw [decide_eq_decide]
        omega
      have h12 := happ (n1, n2)
      have h21 := happ (n2, n1)
      have g12 := hgood (n1, n2) c hn1 hn2
      have g21 := hgood (n2, n1) (fun e => c e.symm) hn2 hn1
      simp only at h12 h21
      by_cases d : Bs.idxOf n1 < Bs.idxOf n2
      · rw [decide_eq_true d] at hlt
        refine ⟨_, .next, _, rfl, ?_, .inl rfl, b4, Ws ++ [(n1, n2)], some (.int (j : Int)), some (.str n1), some (.str n2), some (.bl true), B4, g12, by simp only [List.length_append, List.length_singleton]; omega, rfl⟩
        generalize (Ws ++ [(n1, n2)]).map pD = PV at *
        generalize (Ws ++ [(n2, n1)]).map pD = PU at *
        generalize Ws.map pD = PW at *
        generalize N.map D.str = PN at *
        generalize Bs.map D.str = PB at *
        simp [wish_1, exs, exS, ev, evs, evA, callA, takeA, putA, q1, q2, asg_tup, asgl_nil, asgl_cons, asg_nm, hne, m1Ty, i1, i2, hlt, h12, R.of_some, asb_ok, asBD, D.fz, fzL, onL, updE]
      · rw [decide_eq_false d] at hlt
        have hz0 : cmpD .Eq (.int z) (.int 0) = some (decide (z = 0)) := rfl
        by_cases e0 : z = 0
        · rw [decide_eq_true e0] at hz0
          refine ⟨_, .next, _, rfl, ?_, .inl rfl, b5, Ws ++ [(n1, n2)], some (.int (j : Int)), some (.str n1), some (.str n2), some (.bl true), B5, g12, by simp only [List.length_append, List.length_singleton]; omega, rfl⟩
          generalize (Ws ++ [(n1, n2)]).map pD = PV at *
          generalize (Ws ++ [(n2, n1)]).map pD = PU at *
          generalize Ws.map pD = PW at *
          generalize N.map D.str = PN at *
          generalize Bs.map D.str = PB at *
          simp [wish_1, exs, exS, ev, evs, evA, callA, takeA, putA, q1, q2, q3, asg_tup, asgl_nil, asgl_cons, asg_nm, hne, m1Ty, i1, i2, hlt, hz0, h12, R.of_some, asb_ok, asBD, D.fz, fzL, onL, updE]
        · rw [decide_eq_false e0] at hz0
          refine ⟨_, .next, _, rfl, ?_, .inl rfl, b5, Ws ++ [(n2, n1)], some (.int (j : Int)), some (.str n1), some (.str n2), some (.bl false), B5, g21, by simp only [List.length_append, List.length_singleton]; omega, rfl⟩
          generalize (Ws ++ [(n1, n2)]).map pD = PV at *
          generalize (Ws ++ [(n2, n1)]).map pD = PU at *
          generalize Ws.map pD = PW at *
          generalize N.map D.str = PN at *
          generalize Bs.map D.str = PB at *
          simp [wish_1, exs, exS, ev, evs, evA, callA, takeA, putA, q1, q2, q3, asg_tup, asgl_nil, asgl_cons, asg_nm, hne, m1Ty, i1, i2, hlt, hz0, h21, R.of_some, asb_ok, asBD, D.fz, fzL, onL, updE])
  refine ⟨b', Ws, ?_, B', hG, by rw [List.length_range] at hl; omega⟩
  have had : binD .Add (.int (most : Int)) (.int 1) = some (.int ((most : Int) + 1)) := rfl
  generalize (List.range r).map (fun (k : Nat) => D.int (k : Int)) = ds at *
  generalize Ws.map pD = PW at *
  generalize N.map D.str = PN at *
  generalize Bs.map D.str = PB at *
  simp [wish_body, exs, exS, ev, evs, evA, callA, takeA, putA, p1, p2, had, asg_tup, asgl_nil, asgl_cons, asg_nm, fzL, D.fz, itemsD, hr, g1, R.of_some, fin, lastP]

end Vm.Lib
namespace Vm.Lib
open PySem PySem.Spec L2 Vm
inductive PS where
  | mv (up : Bool) (ns : List Str)
  | pl (n : Str) (q : Q)
  deriving Inhabited
def wd (up : Bool) : Str := if up then "raise" else "lower"
def PS.d : PS → D
  | .mv up ns => .tup [.str (wd up), .lst false (ns.map .str)]
  | .pl n q => .tup [.str "place", .str n, q.d]
def PS.ok (M : List Str) : PS → Prop
  | .mv _ ns => ns ≠ [] ∧ ns.Nodup ∧ (∀ n ∈ ns, n ∈ M) ∧ ns.length ≤ 4000
  | .pl n q => n ∈ M ∧ q.ok = true
inductive St where
  | p (s : PS)
  | rep (c : Int) (ss : List St)
mutual
def St.d : St → D
  | .p s => s.d
  | .rep c ss => .tup [.str "repeat", .int c, .lst false (stL ss)]
def stL : List St → List D
  | [] => []
  | s :: ss => s.d :: stL ss
end
mutual
def St.fl : St → List PS
  | .p s => [s]
  | .rep c ss => if 0 < c then flL ss else []
def flL : List St → List PS
  | [] => []
  | s :: ss => s.fl ++ flL ss
end
mutual
def St.ok (M : List Str) : St → Prop
  | .p s => s.ok M
  | .rep c ss => 0 ≤ c ∧ c ≤ 1000000000000000000 ∧ okL M ss
def okL (M : List Str) : List St → Prop
  | [] => True
  | s :: ss => s.ok M ∧ okL M ss
end
theorem isF_ps {s : PS} : s.d.isF = true := by
  cases s with
  | mv up ns => show isFL [D.str (wd up), .lst false (ns.map .str)] = true; rw [isfl_cons, isfl_cons, isf_lst, isFL_str]; rfl
  | pl n q => rfl
/-- a list or a tuple -/
def Sq (x : D) (ds : List D) : Prop := (∃ o, x = .lst o ds) ∨ x = .tup ds
section
variable {x : D} {ds : List D}
theorem Sq.fz (h : Sq x ds) (f : isFL ds = true) : Sq x.fz ds := by
  rcases h with ⟨o, rfl⟩ | rfl
  · exact .inl ⟨false, by rw [D.fz, fzL_isF f]⟩
  · exact .inr (by rw [D.fz, fzL_isF f])
theorem Sq.fzfz (h : Sq x ds) (f : isFL ds = true) : x.fz.fz = x.fz := by
  rcases h with ⟨o, rfl⟩ | rfl <;> rw [D.fz, fzL_isF f, D.fz, fzL_isF f]
theorem Sq.items (h : Sq x ds) (f : isFL ds = true) : itemsD .seq [x] = some ds := by
  rcases h with ⟨o, rfl⟩ | rfl
  · rfl
  · show (if isFL _ then _ else _) = _
    rw [f, if_pos rfl]
theorem Sq.len (h : Sq x ds) : b1D .len x = some (.int (ds.length : Int)) := by
  rcases h with ⟨o, rfl⟩ | rfl <;> rfl
theorem Sq.lst (h : Sq x ds) (f : isFL ds = true) : b1D .lst x = some (.lst true ds) := by
  rcases h with ⟨o, rfl⟩ | rfl
  · rfl
  · show (if isFL _ then _ else _) = _
    rw [f, if_pos rfl]
theorem Sq.enum {α : Type} {g : α → D} {A : List α} (h : Sq x (A.map g)) (f : isFL (A.map g) = true) : itemsD .enum [x] = some ((A.zipIdx 0).map fun p => D.tup [.int (p.2 : Int), g p.1]) := by
  have e : ∀ (L : List α) (k : Nat), List.zipWith (fun (i : Nat) x => D.tup [.int (i : Int), x]) (List.range' k L.length) (L.map g) = (L.zipIdx k).map fun p => D.tup [.int (p.2 : Int), g p.1] := by
    intro L
    induction L with
    | nil => intro k; rfl
    | cons a L ih =>
      intro k
      rw [List.length_cons, List.range'_succ, List.map_cons, List.zipWith_cons_cons, ih (k + 1), List.zipIdx_cons, List.map_cons]
  have e0 := e A 0
  rw [← List.range_eq_range'] at e0
  rcases h with ⟨o, rfl⟩ | rfl
  · show some (List.zipWith _ (List.range (A.map g).length) _) = _
    rw [List.length_map, e0]
  · show (if isFL _ then some (List.zipWith _ (List.range (A.map g).length) _) else none) = _
    rw [f, if_pos rfl, List.length_map, e0]
end
section
variable {T : Str → Option Fn} {W k : Nat}
section
variable {up : Bool} {ns : List Str} {n : Str} {q : Q} {c : Int} {ss : List St}
theorem m0 : ixD (PS.mv up ns).d (.int 0) = some (.str (wd up)) := rfl
theorem m1 : ixD (PS.mv up ns).d (.int 1) = some (.lst false (ns.map .str)) := by
  simp only [PS.d, ixD, a1, Option.bind_some, isf_lst, isFL_str]
  rfl
theorem p1 : ixD (PS.pl n q).d (.int 1) = some (.str n) := rfl
theorem p2 : ixD (PS.pl n q).d (.int 2) = some q.d := rfl
theorem r0 : ixD (St.rep c ss).d (.int 0) = some (.str "repeat") := rfl
theorem r1 : ixD (St.rep c ss).d (.int 1) = some (.int c) := rfl
end
end
end Vm.Lib
namespace Vm.Lib
open PySem PySem.Spec L2 Vm
theorem ded_nd : ∀ (ns acc : List Str), (acc ++ ns).Nodup → ns.foldl addS acc = acc ++ ns
  | [], acc, _ => by simp
  | n :: ns, acc, h => by
    have hn : n ∉ acc := fun z => (List.nodup_append.mp h).2.2 n z n (by simp) rfl
    rw [List.foldl_cons, addS, if_neg hn, ded_nd ns _ (by simpa using h)]
    simp
theorem dedS_nd {ns : List Str} (h : ns.Nodup) : dedS ns = ns := by
  have := ded_nd ns [] (by simpa using h)
  simpa [dedS] using this
section
variable {T : Str → Option Fn} {W k : Nat}
end
end Vm.Lib
namespace Vm.Lib
open PySem PySem.Spec L2 Vm
def upq (Z : Str → Q) (n : Str) (q : Q) : Str → Q := fun m => if m = n then q else Z m
def zst (Z : Str → Q) : PS → Str → Q
  | .mv _ _ => Z
  | .pl n q => upq Z n q
def runZ (Z : Str → Q) (ss : List PS) : Str → Q := ss.foldl zst Z
section
variable {T : Str → Option Fn} {W k : Nat}
end
end Vm.Lib
namespace Vm.Lib
open PySem PySem.Spec L2 Vm
def prt (a b : Str) : PS → Bool
  | .mv _ ns => decide (a ∈ ns) != decide (b ∈ ns)
  | .pl _ _ => false
/-- the last place below m that parts -/
def dn (ss : List PS) (a b : Str) : Nat → Option Nat
  | 0 => none
  | m + 1 => if prt a b (ss.getD m default) then some m else dn ss a b m
def lpt (ss : List PS) (a b : Str) : Option Nat := dn ss a b ss.length
def wds (a : Str) : PS → Str
  | .mv up ns => if up = decide (a ∈ ns) then "over" else "under"
  | .pl _ _ => "under"
def wrd (ss : List PS) (a b : Str) : Str := match lpt ss a b with
  | none => "left"
  | some i => wds a (ss.getD i default)
theorem dn_lt {ss : List PS} {a b : Str} : ∀ {m i : Nat}, dn ss a b m = some i → i < m
  | 0, i, h => by cases h
  | m + 1, i, h => by
    rw [dn] at h
    split at h
    · cases h; omega
    · have := dn_lt h; omega
theorem lpt_lt {ss : List PS} {a b : Str} {i : Nat} (h : lpt ss a b = some i) : i < ss.length := dn_lt h
section
variable {T : Str → Option Fn} {W k : Nat}
theorem Sq.ix {x : D} {ss : List PS} (h : Sq x (ss.map PS.d)) {i : Nat} (hi : i < ss.length) : ixD x (.int (i : Int)) = some (ss.getD i default).d := by
  have e : atI (ss.map PS.d) (i : Int) = some (ss.getD i default).d := by
    rw [atI_nat, List.getElem?_map, List.getElem?_eq_getElem hi, List.getD_eq_getElem?_getD, List.getElem?_eq_getElem hi]
    rfl
  rcases h with ⟨o, rfl⟩ | rfl
  · exact e
  · simp only [ixD, e, Option.bind_some, isF_ps, if_pos]
def efc (M : List Str) (Z : Str → Q) (ss : List PS) : List ((Str × Str) × Str) := (prs M (runZ Z ss)).map fun p => (p, wrd ss p.1 p.2)
end
end Vm.Lib
namespace Vm.Lib
open PySem PySem.Spec L2 Vm
theorem dn_eq {ss tt : List PS} {a b : Str} : ∀ {m : Nat}, (∀ i, i < m → ss.getD i default = tt.getD i default) → dn ss a b m = dn tt a b m
  | 0, _ => rfl
  | m + 1, h => by
    rw [dn, dn, h m (by omega), dn_eq fun i hi => h i (by omega)]
theorem lpt_snoc {ss : List PS} {s : PS} {a b : Str} : lpt (ss ++ [s]) a b = if prt a b s then some ss.length else lpt ss a b := by
  unfold lpt
  rw [List.length_append, List.length_singleton, dn]
  have e1 : (ss ++ [s]).getD ss.length default = s := by simp [List.getD_eq_getElem?_getD]
  have e2 : dn (ss ++ [s]) a b ss.length = dn ss a b ss.length := dn_eq fun i hi => by
    rw [List.getD_eq_getElem?_getD, List.getD_eq_getElem?_getD, List.getElem?_append_left hi]
  rw [e1, e2]
theorem wrd_snoc {ss : List PS} {s : PS} {a b : Str} : wrd (ss ++ [s]) a b = if prt a b s then wds a s else wrd ss a b := by
  unfold wrd
  rw [lpt_snoc]
  cases hp : prt a b s with
  | true =>
    have e1 : (ss ++ [s]).getD ss.length default = s := by simp [List.getD_eq_getElem?_getD]
    simp [e1]
  | false =>
    simp only [Bool.false_eq_true, if_false]
    cases hl : lpt ss a b with
    | none => rfl
    | some i =>
      have hi := lpt_lt hl
      simp only
      rw [List.getD_eq_getElem?_getD, List.getD_eq_getElem?_getD, List.getElem?_append_left hi]
theorem snoc_ind {α : Type} {P : List α → Prop} (h0 : P []) (hs : ∀ l a, P l → P (l ++ [a])) : ∀ l, P l := by
  have key : ∀ post pre : List α, P pre → P (pre ++ post) := by
    intro post
    induction post with
    | nil => intro pre h; simpa using h
    | cons a post ih =>
      intro pre h
      have := ih (pre ++ [a]) (hs pre a h)
      simpa using this
  intro l
  exact key l [] h0
theorem wds_two (a : Str) (s : PS) : wds a s = "over" ∨ wds a s = "under" := by
  cases s with
  | mv up ns =>
    show (if up = decide (a ∈ ns) then ("over" : Str) else "under") = _ ∨ _
    by_cases c : up = decide (a ∈ ns)
    · exact .inl (if_pos c)
    · exact .inr (if_neg c)
  | pl n q => exact .inr rfl
theorem wds_ne {a : Str} {s : PS} : wds a s ≠ "left" := by
  rcases wds_two a s with h | h <;> rw [h] <;> decide
end Vm.Lib
namespace Vm.Lib
open PySem PySem.Spec L2 Vm
section
variable {T : Str → Option Fn} {W k : Nat}
def two (a b : Str) (N : List Str) : List Str := (sS N).filter fun n => decide (n ∉ [a, b])
/-- the same thing, it may be given up -/
def Fzq (y y' : D) : Prop := y' = y ∨ y' = y.fz
theorem Fzq.step {y y' : D} {ds : List D} (h : Fzq y y') (hy : Sq y ds) (f : isFL ds = true) : Fzq y y'.fz := by
  rcases h with rfl | rfl
  · exact .inr rfl
  · exact .inr (hy.fzfz f)
theorem Fzq.trans {y y' z : D} {ds : List D} (h : Fzq y y') (k : Fzq y' z) (hy : Sq y ds) (f : isFL ds = true) : Fzq y z := by
  rcases k with rfl | rfl
  · exact h
  · exact h.step hy f
end
end Vm.Lib
namespace Vm.Lib
open PySem PySem.Spec L2 Vm
section
variable {T : Str → Option Fn} {W k : Nat}
end
theorem all_map (xs : List PyData) : PyData.shownAll xs = xs.map PyData.shown := by
  induction xs with
  | nil => rfl
  | cons x xs ih => rw [PyData.shownAll_cons, ih]; rfl
end Vm.Lib
namespace Vm.Lib
open PySem PySem.Spec L2 Vm
theorem wrd_app {A : List PS} {a b : Str} : ∀ B : List PS, wrd (A ++ B) a b = if wrd B a b = "left" then wrd A a b else wrd B a b := by
  refine snoc_ind (by rw [List.append_nil, if_pos]; rfl) fun B s ih => ?_
  rw [← List.append_assoc, wrd_snoc, wrd_snoc, ih]
  cases hp : prt a b s with
  | true => simp [wds_ne]
  | false => simp
section
variable {T : Str → Option Fn} {W k : Nat}
end
end Vm.Lib
namespace Vm.Lib
open PySem PySem.Spec L2 Vm
def plo (n : Str) : PS → Option Q
  | .pl m q => if n = m then some q else none
  | .mv _ _ => none
def lpl (n : Str) : List PS → Option Q
  | [] => none
  | s :: ss => (lpl n ss).or (plo n s)
theorem runZ_lpl {n : Str} : ∀ (ss : List PS) (Z : Str → Q), runZ Z ss n = (lpl n ss).getD (Z n)
  | [], Z => rfl
  | s :: ss, Z => by
    have ih := runZ_lpl (n := n) ss (zst Z s)
    have e : runZ Z (s :: ss) = runZ (zst Z s) ss := rfl
    rw [e, ih, lpl]
    cases lpl n ss with
    | some q => rfl
    | none =>
      cases s with
      | mv up ns => rfl
      | pl m q =>
        show upq Z m q n = (if n = m then some q else none).getD (Z n)
        unfold upq
        split <;> rfl
theorem lpl_app {n : Str} : ∀ A B : List PS, lpl n (A ++ B) = (lpl n B).or (lpl n A)
  | [], B => by simp [lpl]
  | s :: A, B => by
    rw [List.cons_append, lpl, lpl_app A B, lpl, Option.or_assoc]
def Same (M : List Str) (Z : Str → Q) (ss tt : List PS) : Prop := (∀ n ∈ M, runZ Z ss n = runZ Z tt n) ∧ efc M Z ss = efc M Z tt
theorem Same.trans {M : List Str} {Z : Str → Q} {a b c : List PS} (h : Same M Z a b) (k : Same M Z b c) : Same M Z a c := ⟨fun n hn => (h.1 n hn).trans (k.1 n hn), h.2.trans k.2⟩
section
variable {T : Str → Option Fn} {W k : Nat}
end
end Vm.Lib
namespace Vm.Lib
open PySem PySem.Spec L2 Vm
structure Eqv (A B : List PS) : Prop where
  w : ∀ x y, wrd A x y = wrd B x y
  l : ∀ n, lpl n A = lpl n B
theorem Eqv.rfl' {A : List PS} : Eqv A A := ⟨fun _ _ => rfl, fun _ => rfl⟩
theorem Eqv.trans {A B C : List PS} (h : Eqv A B) (k : Eqv B C) : Eqv A C := ⟨fun x y => (h.w x y).trans (k.w x y), fun n => (h.l n).trans (k.l n)⟩
theorem Eqv.app {A A' B B' : List PS} (h : Eqv A A') (k : Eqv B B') : Eqv (A ++ B) (A' ++ B') := ⟨fun x y => by rw [wrd_app, wrd_app, h.w, k.w], fun n => by rw [lpl_app, lpl_app, h.l, k.l]⟩
theorem Eqv.twice {A : List PS} : Eqv (A ++ A) A := ⟨fun x y => by rw [wrd_app]; split <;> rfl, fun n => by rw [lpl_app]; cases lpl n A <;> rfl⟩
theorem Eqv.rep {A : List PS} : ∀ j : Nat, Eqv (List.replicate (j + 1) A).flatten A
  | 0 => by simpa using Eqv.rfl'
  | j + 1 => by
    rw [List.replicate_succ, List.flatten_cons]
    exact (Eqv.app Eqv.rfl' (Eqv.rep j)).trans Eqv.twice
theorem Eqv.runZ {A B : List PS} (h : Eqv A B) (Z : Str → Q) : runZ Z A = runZ Z B := by
  funext n
  rw [runZ_lpl, runZ_lpl, h.l]
section
variable {T : Str → Option Fn} {W k : Nat}
end
end Vm.Lib
namespace Vm.Lib
open PySem PySem.Spec L2 Vm
def KeepB (Ws : List (Str × Str)) (s : List Str) : Bool := Ws.all fun p => decide (s.idxOf p.1 < s.idxOf p.2)
theorem keep_iff {Ws : List (Str × Str)} {s : List Str} : KeepB Ws s = true ↔ ∀ p ∈ Ws, s.idxOf p.1 < s.idxOf p.2 := by
  unfold KeepB
  rw [List.all_eq_true]
  exact ⟨fun h p hp => of_decide_eq_true (h p hp), fun h p hp => decide_eq_true (h p hp)⟩
theorem keep_feas {N s : List Str} {Ws : List (Str × Str)} (hg : Good N Ws) (hs : ∀ n ∈ N, n ∈ s) : KeepB Ws s = true ↔ feas Ws s := by
  rw [keep_iff]
  exact ⟨fun h p hp _ => ⟨hs _ (hg p hp).2.1, h p hp⟩, fun h p hp => (h p hp (hs _ (hg p hp).2.2)).2⟩
abbrev grF (Ws : List (Str × Str)) (N : List Str) : List Str := gr Ws N.length [] (sS N)
theorem gr_inv {M : List Str} {Ws : List (Str × Str)} (hM : M.Nodup) (hne : ∀ p ∈ Ws, p.1 ≠ p.2) : ∀ (m : Nat) (F : List Str), F.Nodup → (∀ n ∈ F, n ∈ M) → feas Ws F →
    (gr Ws m F (M.filter fun n => decide (n ∉ F))).Nodup ∧ (∀ n ∈ gr Ws m F (M.filter fun n => decide (n ∉ F)), n ∈ M) ∧ feas Ws (gr Ws m F (M.filter fun n => decide (n ∉ F)))
  | 0, F, h1, h2, h3 => ⟨h1, h2, h3⟩
  | m + 1, F, h1, h2, h3 => by
    cases hf : frees Ws F (M.filter fun n => decide (n ∉ F)) with
    | nil =>
      have e : gr Ws (m + 1) F (M.filter fun n => decide (n ∉ F)) = F := by simp only [gr, hf]
      rw [e]
      exact ⟨h1, h2, h3⟩
    | cons n fs =>
      have hnm := List.mem_filter.mp (show n ∈ (M.filter fun n => decide (n ∉ F)).filter _ by unfold frees at hf; rw [hf]; simp)
      have hnF : n ∉ F := by simpa using (List.mem_filter.mp hnm.1).2
      have e : gr Ws (m + 1) F (M.filter fun n => decide (n ∉ F)) = gr Ws m (F ++ [n]) (M.filter fun a => decide (a ∉ F ++ [n])) := by
        rw [← erase_filter hM]
        simp only [gr, hf]
      rw [e]
      refine gr_inv hM hne m (F ++ [n]) ?_ ?_ ((feas_snoc hnF hne).mpr ⟨h3, fun p hp e => by
        have := List.all_eq_true.mp hnm.2 p.1 (lowL_mem.mpr (by rw [← e]; exact hp))
        simpa using this⟩)
      · exact List.nodup_append.mpr ⟨h1, by simp, fun x hx y hy => by rw [List.mem_singleton.mp hy]; exact fun e => hnF (e ▸ hx)⟩
      · intro a ha
        rcases List.mem_append.mp ha with ha | ha
        · exact h2 a ha
        · rw [List.mem_singleton.mp ha]
          exact (List.mem_filter.mp hnm.1).1
theorem flt_nil (M : List Str) : (M.filter fun n => decide (n ∉ ([] : List Str))) = M := List.filter_eq_self.mpr fun _ _ => by simp
theorem grF_inv {N : List Str} {Ws : List (Str × Str)} (hN : N.Nodup) (hg : Good N Ws) : (grF Ws N).Nodup ∧ (∀ n ∈ grF Ws N, n ∈ N) ∧ feas Ws (grF Ws N) := by
  have h := gr_inv (M := sS N) (Ws := Ws) (sS_nodup hN) (fun p hp => (hg p hp).1) N.length [] List.nodup_nil (fun _ z => absurd z List.not_mem_nil) (fun p _ z => absurd z List.not_mem_nil)
  rw [flt_nil] at h
  exact ⟨h.1, fun n hn => sS_mem.mp (h.2.1 n hn), h.2.2⟩
theorem rest_nil {N : List Str} {Ws : List (Str × Str)} : restF Ws N = [] ↔ ∀ n ∈ N, n ∈ grF Ws N := by
  unfold restF
  rw [List.filter_eq_nil_iff]
  constructor
  · intro h n hn
    have := h n (sS_mem.mpr hn)
    simpa using this
  · intro h n hn
    simpa using h n (sS_mem.mp hn)
theorem grF_perm {N : List Str} {Ws : List (Str × Str)} (hN : N.Nodup) (hg : Good N Ws) (h : restF Ws N = []) : (grF Ws N).Perm N := by
  obtain ⟨h1, h2, _⟩ := grF_inv hN hg
  exact (List.perm_ext_iff_of_nodup h1 hN).mpr fun a => ⟨h2 a, rest_nil.mp h a⟩
theorem grF_full {N : List Str} {Ws : List (Str × Str)} (hN : N.Nodup) (hg : Good N Ws) : (grF Ws N).length = N.length ↔ restF Ws N = [] := by
  obtain ⟨h1, h2, _⟩ := grF_inv hN hg
  constructor
  · intro h
    refine rest_nil.mpr fun n hn => Classical.byContradiction fun z => ?_
    have := nodup_le (w := n :: grF Ws N) (Rs := N) (List.nodup_cons.mpr ⟨z, h1⟩) fun m hm => by
      rcases List.mem_cons.mp hm with rfl | hm
      · exact hn
      · exact h2 m hm
    rw [List.length_cons, h] at this
    omega
  · exact fun h => (grF_perm hN hg h).length_eq
theorem grF_keep {N : List Str} {Ws : List (Str × Str)} (hN : N.Nodup) (hg : Good N Ws) (h : restF Ws N = []) : KeepB Ws (grF Ws N) = true :=
  (keep_feas hg fun n hn => rest_nil.mp h n hn).mpr (grF_inv hN hg).2.2
/-- where some order keeps the wish, the first one is the one that is built -/
theorem grF_first {N s : List Str} {Ws : List (Str × Str)} (hN : N.Nodup) (hg : Good N Ws) (hs : s.Perm N) (hk : KeepB Ws s = true) :
    restF Ws N = [] ∧ ((lkF (sS N) N.length [[]]).filter fun t => KeepB Ws t).head? = some (grF Ws N) := by
  have hlen : N.length = (sS N).length := (sS_len N).symm
  have h1 := first_ok (M := sS N) (N := s) (Ws := Ws) (fun p hp => (hg p hp).1) (sS_nodup hN) (fun n => hs.mem_iff.trans sS_mem.symm) (fun p hp => ⟨hs.mem_iff.mpr (hg p hp).2.1, keep_iff.mp hk p hp⟩) N.length [] (fun p _ h => absurd h List.not_mem_nil) (by rw [flt_nil, sS_len])
  rw [flt_nil] at h1
  have e2 : (lkF (sS N) N.length [[]]).filter (fun t => decide (feas Ws t)) = (lkF (sS N) N.length [[]]).filter fun t => KeepB Ws t := List.filter_congr fun t ht => by
    rw [hlen] at ht
    have := keep_feas (s := t) hg fun n hn => lkF_all (sS_nodup hN) ht (sS_mem.mpr hn)
    rw [Bool.eq_iff_iff, decide_eq_true_iff]
    exact this.symm
  rw [e2] at h1
  have hm : grF Ws N ∈ lkF (sS N) N.length [[]] := (List.mem_filter.mp (List.mem_of_mem_head? h1)).1
  exact ⟨(grF_full hN hg).mp (lkF_mem _ hm), h1⟩
theorem keep_rest {N s : List Str} {Ws : List (Str × Str)} (hN : N.Nodup) (hg : Good N Ws) (hs : s.Perm N) (hr : restF Ws N ≠ []) : KeepB Ws s = false := by
  cases hk : KeepB Ws s with
  | false => rfl
  | true => exact absurd (grF_first hN hg hs hk).1 hr
def DownC (Ws : List (Str × Str)) (w : List Str) : Prop := ∀ i, i + 1 < w.length → (w.getD (i + 1) "", w.getD i "") ∈ Ws
theorem getD_drop {w : List Str} {k i : Nat} : (w.drop k).getD i "" = w.getD (k + i) "" := by
  rw [List.getD_eq_getElem?_getD, List.getElem?_drop, List.getD_eq_getElem?_getD]
theorem getD_rev {u : List Str} {j : Nat} (h : j < u.length) : u.reverse.getD j "" = u.getD (u.length - 1 - j) "" := by
  rw [List.getD_eq_getElem?_getD, List.getElem?_reverse h, List.getD_eq_getElem?_getD]
theorem ring_up {Ws : List (Str × Str)} {u : List Str} (hd : DownC Ws u) (hl : 2 ≤ u.length) (ha : (u.getD 0 "", u.getD (u.length - 1) "") ∈ Ws) : ringB Ws u.reverse = true := by
  unfold ringB
  rw [List.all_eq_true]
  intro j hj
  rw [List.mem_range, List.length_reverse] at hj
  refine decide_eq_true ?_
  unfold prvN
  rw [List.length_reverse, getD_rev hj]
  by_cases c : j = 0
  · subst c
    rw [if_pos rfl, getD_rev (by omega)]
    have e : u.length - 1 - (u.length - 1) = 0 := by omega
    rw [e]
    exact ha
  · rw [if_neg c, getD_rev (by omega)]
    have e : u.length - 1 - (j - 1) = (u.length - 1 - j) + 1 := by omega
    rw [e]
    exact hd _ (by omega)
theorem getD_idx {w : List Str} {a : Str} (h : a ∈ w) : w.getD (w.idxOf a) "" = a := by
  rw [List.getD_eq_getElem?_getD, List.getElem?_eq_getElem (List.idxOf_lt_length_iff.mpr h), List.getElem_idxOf]
  rfl
theorem getD_last {w : List Str} {c : Str} (h : w.getLast? = some c) : w.getD (w.length - 1) "" = c := by
  rw [List.getLast?_eq_getElem?] at h
  rw [List.getD_eq_getElem?_getD, h]
  rfl
theorem walk_real {Ws : List (Str × Str)} {Rs : List Str} (hne : ∀ n ∈ Rs, lowR Ws Rs n ≠ []) (hd : ∀ p ∈ Ws, p.1 ≠ p.2) : ∀ (m : Nat) (w : List Str), w.Nodup → (∀ n ∈ w, n ∈ Rs) → w ≠ [] → w.length + m = Rs.length + 1 → DownC Ws w →
    (walkF Ws Rs m w).Nodup ∧ 2 ≤ (walkF Ws Rs m w).length ∧ ringB Ws (walkF Ws Rs m w) = true
  | 0, w, hn, hs, h0, hl, hc => by
    have := nodup_le hn hs
    omega
  | m + 1, w, hn, hs, h0, hl, hc => by
    obtain ⟨c, hlast⟩ : ∃ c, w.getLast? = some c := ⟨w.getLast h0, List.getLast?_eq_some_getLast h0⟩
    have hcw : c ∈ w := List.mem_of_getLast? hlast
    cases hlr : lowR Ws Rs c with
    | nil => exact absurd hlr (hne c (hs c hcw))
    | cons a ls =>
      have ham := List.mem_filter.mp (show a ∈ lowR Ws Rs c by rw [hlr]; simp)
      have haR : a ∈ Rs := of_decide_eq_true ham.2
      have hac : (a, c) ∈ Ws := lowL_mem.mp ham.1
      have hpos : 0 < w.length := List.length_pos_iff.mpr h0
      have hgl := getD_last hlast
      by_cases caw : a ∈ w
      · have e : walkF Ws Rs (m + 1) w = (w.drop (w.idxOf a)).reverse := by simp only [walkF, hlast, hlr, if_pos caw]
        have hia := List.idxOf_lt_length_iff.mpr caw
        have hga := getD_idx caw
        have hlt : w.idxOf a < w.length - 1 := by
          rcases Nat.lt_or_ge (w.idxOf a) (w.length - 1) with z | z
          · exact z
          · have e2 : w.idxOf a = w.length - 1 := by omega
            rw [e2, hgl] at hga
            exact absurd hga.symm (hd _ hac)
        have hdl : (w.drop (w.idxOf a)).length = w.length - w.idxOf a := List.length_drop
        rw [e]
        refine ⟨(List.reverse_perm _).nodup_iff.mpr (List.Sublist.nodup (List.drop_sublist _ _) hn), by rw [List.length_reverse, hdl]; omega, ring_up (fun i hi => ?_) (by omega) ?_⟩
        · rw [hdl] at hi
          rw [getD_drop, getD_drop, ← Nat.add_assoc]
          exact hc _ (by omega)
        · rw [getD_drop, getD_drop, Nat.add_zero, hga, hdl]
          have e3 : w.idxOf a + (w.length - w.idxOf a - 1) = w.length - 1 := by omega
          rw [e3, hgl]
          exact hac
      · have e : walkF Ws Rs (m + 1) w = walkF Ws Rs m (w ++ [a]) := by simp only [walkF, hlast, hlr, if_neg caw]
        rw [e]
        refine walk_real hne hd m (w ++ [a]) ?_ ?_ (by simp) (by rw [List.length_append, List.length_singleton]; omega) ?_
        · exact List.nodup_append.mpr ⟨hn, by simp, fun x hx y hy => by rw [List.mem_singleton.mp hy]; exact fun e => caw (e ▸ hx)⟩
        · exact fun n h => (List.mem_append.mp h).elim (hs n) fun h => by rw [List.mem_singleton.mp h]; exact haR
        · intro i hi
          rw [List.length_append, List.length_singleton] at hi
          rcases Nat.lt_or_ge (i + 1) w.length with z | z
          · have g : ∀ j, j < w.length → (w ++ [a]).getD j "" = w.getD j "" := fun j hj => by rw [List.getD_eq_getElem?_getD, List.getElem?_append_left hj, List.getD_eq_getElem?_getD]
            rw [g _ z, g _ (by omega)]
            exact hc i z
          · have ei : i + 1 = w.length := by omega
            have g1 : (w ++ [a]).getD (i + 1) "" = a := by rw [ei, List.getD_eq_getElem?_getD]; simp
            have g2 : (w ++ [a]).getD i "" = c := by
              rw [List.getD_eq_getElem?_getD, List.getElem?_append_left (by omega), ← List.getD_eq_getElem?_getD]
              have : i = w.length - 1 := by omega
              rw [this, hgl]
            rw [g1, g2]
            exact hac
theorem walk_mem {Ws : List (Str × Str)} {Rs : List Str} : ∀ (m : Nat) (w : List Str), (∀ n ∈ w, n ∈ Rs) → ∀ n ∈ walkF Ws Rs m w, n ∈ Rs
  | 0, w, h => h
  | m + 1, w, h => by
    unfold walkF
    split
    · exact h
    · split
      · exact h
      · rename_i c _ _ a as hl
        split
        · intro n hn
          exact h n (List.mem_of_mem_drop (List.mem_reverse.mp hn))
        · refine walk_mem m _ fun n hn => (List.mem_append.mp hn).elim (h n) fun hn => ?_
          rw [List.mem_singleton.mp hn]
          exact of_decide_eq_true (List.mem_filter.mp (show a ∈ lowR Ws Rs c by rw [hl]; simp)).2
theorem ring_in {N l : List Str} {Ws : List (Str × Str)} (h : ringF Ws N = some l) : ∀ n ∈ l, n ∈ N := by
  unfold ringF at h
  split at h
  · cases h
  · rename_i r rs hr
    cases h
    exact fun n hn => rest_in (by rw [hr]; exact walk_mem _ _ (fun n hn => by rw [List.mem_singleton.mp hn]; simp) n hn)
theorem ring_real {N l : List Str} {Ws : List (Str × Str)} (hN : N.Nodup) (hg : Good N Ws) (h : ringF Ws N = some l) : l.Nodup ∧ 2 ≤ l.length ∧ ringB Ws l = true ∧ restF Ws N ≠ [] := by
  unfold ringF at h
  split at h
  · cases h
  · rename_i r rs hr
    cases h
    have hRne : ∀ n ∈ r :: rs, lowR Ws (r :: rs) n ≠ [] := fun n h => by
      have z := lowR_ne hN hg (n := n) (by rw [hr]; exact h)
      rw [hr] at z
      exact z
    have := walk_real (Ws := Ws) (Rs := r :: rs) hRne (fun p hp => (hg p hp).1) (rs.length + 1) [r] (by simp) (by simp) (by simp) (by simp only [List.length_cons, List.length_nil]; omega) (fun i hi => by simp at hi)
    exact ⟨this.1, this.2.1, this.2.2, by rw [hr]; simp⟩
theorem ring_none {N : List Str} {Ws : List (Str × Str)} : ringF Ws N = none ↔ restF Ws N = [] := by
  unfold ringF
  constructor
  · intro h
    split at h
    · assumption
    · cases h
  · intro h
    rw [h]
def p_keeps_1 : E := (.dc (.nm 4) (.nm 3) (.tup [(.nm 3), (.nm 4)]) .enum [(.nm 0)] [] [("at", 3), ("name", 4)])
def p_keeps_2 : E := (.cmp .Lt (.ix (.pk 2) (.pk 5)) (.ix (.pk 2) (.pk 6)))
def p_keeps_3 : E := (.lc p_keeps_2 (.tup [(.nm 5), (.nm 6)]) .seq [(.nm 1)] [] [("low", 5), ("high", 6)])
def p_keeps_body : List S := [
    (.exp (.cal "check_wish" [(.pk 0), (.pk 1)])),
    (.asg (.nm 2) p_keeps_1),
    (.ret (.b1 .all p_keeps_3))]
def lkp_1 : E := (.cmp .Lt (.m1 .index (.pk 0) (.pk 2)) (.m1 .index (.pk 0) (.pk 3)))
def lkp_2 : E := (.lc lkp_1 (.tup [(.nm 2), (.nm 3)]) .seq [(.nm 1)] [] [("_law_low", 2), ("_law_high", 3)])
def lkp_body : List S := [
    (.ret (.b1 .all lkp_2))]
theorem lt_nat {a b : Nat} : cmpD .Lt (.int (a : Int)) (.int (b : Int)) = some (decide (a < b)) := by
  show some (decide ((a : Int) < (b : Int))) = _
  congr 1
  rw [decide_eq_decide]
  omega
theorem all_m {α : Type} {f : α → Bool} (l : List α) : b1D .all (.lst true (l.map fun a => D.bl (f a))) = some (.bl (l.all f)) := by
  show (boolsOf (l.map fun a => D.bl (f a))).map _ = _
  rw [bools_map, Option.map_some, List.all_map]
  rfl
theorem kps_ok {T : Str → Option Fn} {W k : Nat} (hT : Is T "keeps" 2 7 [true, true] p_keeps_body) (hC : Is T "check_wish" 2 6 [true, true] p_check_wish_body) {N : List Str} {Ws : List (Str × Str)} {x y : D} (hx : Seq1 x N) (hy : Seq2 y Ws) (hn : N.Nodup) (hw : Good N Ws) :
    callN T W (k + 2) "keeps" [x, y] = .ok (.bl (KeepB Ws N)) [some x.fz, some y.fz] := by
  rw [hT.eq rfl]
  have h1 := cwish_ok (W := W) (k := k) hC hx hy hw
  have hi : itemsD .enum [x.fz] = some ((N.zipIdx 0).map enG) := by
    rw [← enum_items N 0, ← List.range_eq_range']
    have hl : N.length = (N.map D.str).length := by rw [List.length_map]
    rcases hx with ⟨o, rfl⟩ | rfl
    · rw [D.fz, fzL_str, hl]; rfl
    · rw [D.fz, fzL_str, hl]
      show (if isFL _ then _ else _) = _
      rw [isFL_str, if_pos rfl]
  have hyi := hy.fz.items
  have hyz := hy.fzfz
  generalize hzy : y.fz = yf at *
  generalize hzx : x.fz = xf at *
  obtain ⟨e', g1, rfl⟩ := dc_gen (w := fun e => wipeE e [3, 4]) (tg := asgT (.tup [(.nm 3), (.nm 4)])) (tt := fun e => evTs (callN T W (k + 1)) [] e) (fk := fun e => (ev (callN T W (k + 1)) (.nm 4) e).still) (fv := fun e => (ev (callN T W (k + 1)) (.nm 3) e).still)
    enG (fun p => p.1) (fun p => .int (p.2 : Int)) (fun _ => rfl) (fun e => e = [some xf, some yf, none, none, none, none, none]) (N.zipIdx 0) [] _ (by rw [List.nil_append, zipIdx_key]; exact hn) rfl (by
    rintro p _ e rfl
    exact ⟨[some xf, some yf, none, some (.int (p.2 : Int)), some (.str p.1), none, none], _, _, _, rfl, rfl, rfl, rfl, rfl⟩)
  have hdc : ev (callN T W (k + 1)) p_keeps_1 [some x, some yf, none, none, none, none, none] = .ok (plD N) [some xf, some yf, none, none, none, none, none] := by
    unfold p_keeps_1
    refine ev_dc (xs := [xf]) (ds := (N.zipIdx 0).map enG) (e1 := [some xf, some yf, none, none, none, none, none]) (r := ((N.zipIdx 0).map fun p => .str p.1, (N.zipIdx 0).map fun p => .int (p.2 : Int))) ?_ hi ?_
    · simp [evs, ev, hzx]
    · rw [List.nil_append] at g1
      exact g1
  obtain ⟨e'', g2, rfl⟩ := lc_flt (w := fun e => wipeE e [5, 6]) (tg := asgT (.tup [(.nm 5), (.nm 6)])) (tt := fun e => evTs (callN T W (k + 1)) [] e) (f := fun e => (ev (callN T W (k + 1)) p_keeps_2 e).still) pD (fun _ => true) (fun p => .bl (decide (N.idxOf p.1 < N.idxOf p.2))) (fun e => e = [some xf, some yf, some (plD N), none, none, none, none]) Ws _ rfl (by
    rintro p hp e rfl
    obtain ⟨_, m1, m2⟩ := hw p hp
    have i1 := ix_pl m1
    have i2 := ix_pl m2
    refine ⟨[some xf, some yf, some (plD N), none, none, some (.str p.1), some (.str p.2)], _, rfl, rfl, fun _ => ⟨[some xf, some yf, some (plD N), none, none, some (.str p.1), some (.str p.2)], ?_, rfl⟩, fun h => by cases h⟩
    simp [p_keeps_2, ev, i1, i2, R.of_some, lt_nat, still_k])
  have e2 : (Ws.filter fun _ => true).map (fun p => (D.bl (decide (N.idxOf p.1 < N.idxOf p.2))).fz) = Ws.map fun p => D.bl (decide (N.idxOf p.1 < N.idxOf p.2)) := by
    rw [List.filter_eq_self.mpr fun _ _ => rfl]
    rfl
  rw [e2] at g2
  have hlc : ev (callN T W (k + 1)) p_keeps_3 [some xf, some yf, some (plD N), none, none, none, none] = .ok (.lst true (Ws.map fun p => D.bl (decide (N.idxOf p.1 < N.idxOf p.2)))) [some xf, some yf, some (plD N), none, none, none, none] := by
    unfold p_keeps_3
    refine ev_lc (xs := [yf]) (ds := Ws.map pD) (e1 := [some xf, some yf, some (plD N), none, none, none, none]) ?_ hyi g2
    simp [evs, ev, hyz]
  have hall := all_m (f := fun p : Str × Str => decide (N.idxOf p.1 < N.idxOf p.2)) Ws
  have hB : KeepB Ws N = Ws.all fun p => decide (N.idxOf p.1 < N.idxOf p.2) := rfl
  rw [← hB] at hall
  generalize (Ws.map fun p => D.bl (decide (N.idxOf p.1 < N.idxOf p.2))) = AA at *
  simp [p_keeps_body, exs, exS, ev, evA, callA, takeA, putA, h1, hdc, asg_nm, hlc, hall, R.of_some, fin, lastP]
theorem lkeeps_ok {T : Str → Option Fn} {W k : Nat} (hT : Is T "_law_keeps" 2 4 [true, true] lkp_body) {N : List Str} {Ws : List (Str × Str)} {o : Bool} {y : D} (hy : Seq2 y Ws) (hw : Good N Ws) :
    callN T W (k + 1) "_law_keeps" [.lst o (N.map .str), y] = .ok (.bl (KeepB Ws N)) [some (.lst o (N.map .str)), some y.fz] := by
  rw [hT.eq rfl]
  have hyi := hy.fz.items
  generalize hzy : y.fz = yf at *
  obtain ⟨e'', g2, rfl⟩ := lc_flt (w := fun e => wipeE e [2, 3]) (tg := asgT (.tup [(.nm 2), (.nm 3)])) (tt := fun e => evTs (callN T W k) [] e) (f := fun e => (ev (callN T W k) lkp_1 e).still) pD (fun _ => true) (fun p => .bl (decide (N.idxOf p.1 < N.idxOf p.2))) (fun e => e = [some (.lst o (N.map .str)), some yf, none, none]) Ws _ rfl (by
    rintro p hp e rfl
    obtain ⟨_, m1, m2⟩ := hw p hp
    have i1 := index_str m1 (o := o)
    have i2 := index_str m2 (o := o)
    refine ⟨[some (.lst o (N.map .str)), some yf, some (.str p.1), some (.str p.2)], _, rfl, rfl, fun _ => ⟨[some (.lst o (N.map .str)), some yf, some (.str p.1), some (.str p.2)], ?_, rfl⟩, fun h => by cases h⟩
    generalize N.map D.str = PN at *
    simp [lkp_1, ev, m1Ty, i1, i2, R.of_some, lt_nat, still_k])
  have e2 : (Ws.filter fun _ => true).map (fun p => (D.bl (decide (N.idxOf p.1 < N.idxOf p.2))).fz) = Ws.map fun p => D.bl (decide (N.idxOf p.1 < N.idxOf p.2)) := by
    rw [List.filter_eq_self.mpr fun _ _ => rfl]
    rfl
  rw [e2] at g2
  have hlc : ev (callN T W k) lkp_2 [some (.lst o (N.map .str)), some y, none, none] = .ok (.lst true (Ws.map fun p => D.bl (decide (N.idxOf p.1 < N.idxOf p.2)))) [some (.lst o (N.map .str)), some yf, none, none] := by
    unfold lkp_2
    refine ev_lc (xs := [yf]) (ds := Ws.map pD) (e1 := [some (.lst o (N.map .str)), some yf, none, none]) ?_ hyi g2
    simp [evs, ev, hzy]
  have hall := all_m (f := fun p : Str × Str => decide (N.idxOf p.1 < N.idxOf p.2)) Ws
  have hB : KeepB Ws N = Ws.all fun p => decide (N.idxOf p.1 < N.idxOf p.2) := rfl
  rw [← hB] at hall
  generalize (Ws.map fun p => D.bl (decide (N.idxOf p.1 < N.idxOf p.2))) = AA at *
  generalize N.map D.str = PN at *
  simp [lkp_body, exs, exS, ev, hlc, hall, R.of_some, fin, lastP]
def exImp : D := .ins false "Impossible" ["word"] [.str "Impossible"]
/-- least_keeping in full -/
theorem least_full {T : Str → Option Fn} {W k : Nat} (hT : Is T "least_keeping" 2 3 [true, true] p_least_keeping_body) (hC : Is T "check_wish" 2 6 [true, true] p_check_wish_body) (hS : Is T "sorted_names" 2 8 [true, true] p_sorted_names_body) (hL : Is T "lower_table" 2 6 [true, true] p_lower_table_body)
    {N : List Str} {Ws : List (Str × Str)} {x y : D} (hx : Seq1 x N) (hy : Seq2 y Ws) (hn : N.Nodup) (hw : Good N Ws) (hl : Ws.length ≤ 900000) (hN : N.length < 900000) (hW : N.length < W) :
    callN T W (k + 3) "least_keeping" [x, y] = if restF Ws N = [] then .ok (.lst true ((grF Ws N).map .str)) [some x.fz, some y.fz] else .ex exImp [some x.fz, some y.fz] := by
  by_cases hr : restF Ws N = []
  · rw [if_pos hr]
    exact least_ok hT hC hS hL hx hy hn hw hl hN hW ((grF_full hn hw).mpr hr)
  · rw [if_neg hr, hT.eq rfl]
    have h1 := cwish_ok (W := W) (k := k + 1) hC hx hy hw
    have h2 := sorted_ok (W := W) (k := k) hS hL hx hy.fz hn (fun p hp => (hw p hp).2.2) hl hN hW
    rw [hy.fzfz] at h2
    obtain ⟨g1, g2, _⟩ := grF_inv hn hw
    have hlt : (grF Ws N).length < N.length := by
      have := nodup_le g1 g2
      have h9 : (grF Ws N).length ≠ N.length := fun z => hr ((grF_full hn hw).mp z)
      omega
    have hlen1 : b1D .len (.lst true ((grF Ws N).map .str)) = some (.int ((grF Ws N).length : Nat)) := by
      show some (D.int (((grF Ws N).map D.str).length : Nat)) = _
      rw [List.length_map]
    have hlen2 : b1D .len x.fz = some (.int (N.length : Nat)) := by
      rcases hx with ⟨o, rfl⟩ | rfl
      · show some (D.int ((fzL (N.map D.str)).length : Nat)) = _
        rw [fzL_str, List.length_map]
      · show some (D.int ((fzL (N.map D.str)).length : Nat)) = _
        rw [fzL_str, List.length_map]
    have hc := lt_nat (a := (grF Ws N).length) (b := N.length)
    rw [decide_eq_true hlt] at hc
    have h2 : callN T W (k + 2) "sorted_names" [x, y.fz] = .ok (.lst true ((grF Ws N).map .str)) [some x.fz, some y.fz] := h2
    generalize (grF Ws N).map D.str = G at *
    generalize grF Ws N = GL at *
    simp [p_least_keeping_body, exs, exS, ev, evA, callA, takeA, putA, h1, h2, asg_nm, hlen1, hlen2, hc, R.of_some, asb_ok, fin, lastP, exImp]
theorem try_imp : tryD exImp = some (.tup [.str "Impossible", .non]) := rfl

end Vm.Lib
namespace Lw
open PySem PySem.Spec L2 Vm Vm.Lib
def stm (i : Nat) : Stmt := PySem.Challenge.pw_raisekeys_k16_whole_a_ring_or_an_order.main.body.getD i (.Pass ⟨0, 0, 0, 0⟩)
def p_check_wish_1 : List S := [(.asg (.tup [(.nm 4), (.nm 5)]) (.nm 3)), (.iff (.or (.cmp .Eq (.pk 4) (.pk 5)) (.or (.cmp .NotIn (.pk 4) (.pk 0)) (.cmp .NotIn (.pk 5) (.pk 0)))) [(.rai "BadWish" "BadWish" (some ("at", (.nm 2))))] [])]
def p_check_wish_body : List S := [
    (.for_ (.tup [(.nm 2), (.nm 3)]) .enum [(.nm 1)] p_check_wish_1)]
def F_p_check_wish : Fn where
  ps := ["names", "wish"]
  N := ["names", "wish", "at", "pair", "low", "high"]
  keep := [true, true]
  body := p_check_wish_body
def q_p_check_wish : FnE := ⟨"check_wish", ("check_wish", none), "check_wish", "check_wish", defArgs (stm 7), defBody (stm 7), defScope (stm 7), F_p_check_wish, [2, 3, 4, 5]⟩
def p_lower_table_1 : E := (.lst [])
def p_lower_table_2 : E := (.dco (.nm 5) p_lower_table_1 (.nm 5) .seq [(.nm 0)] [] [("name", 5)])
def p_lower_table_3 : List S := [(.iff (.cmp .NotIn (.pk 3) (.ixp (.pk 2) (.pk 4))) [(.apx 2 4 3)] [])]
def p_lower_table_body : List S := [
    (.asg (.nm 2) p_lower_table_2),
    (.for_ (.tup [(.nm 3), (.nm 4)]) .seq [(.nm 1)] p_lower_table_3),
    (.ret (.mv 2))]
def F_p_lower_table : Fn where
  ps := ["names", "wish"]
  N := ["names", "wish", "table", "low", "high", "name"]
  keep := [true, true]
  body := p_lower_table_body
def q_p_lower_table : FnE := ⟨"lower_table", ("lower_table", none), "lower_table", "lower_table", defArgs (stm 8), defBody (stm 8), defScope (stm 8), F_p_lower_table, [2, 3, 4]⟩
def p_sorted_names_1 : E := (.cmp .NotEq (.pk 4) (.lst []))
def p_sorted_names_2 : E := (.cmp .In (.pk 7) (.pk 3))
def p_sorted_names_3 : E := (.lc p_sorted_names_2 (.nm 7) .seq [(.ix (.pk 2) (.pk 6))] [] [("low", 7)])
def p_sorted_names_4 : E := (.b1 .all p_sorted_names_3)
def p_sorted_names_5 : E := (.lcb (.nm 6) (.nm 6) 4 [p_sorted_names_4] [("name", 6)])
def p_sorted_names_6 : List S := [(.asg (.nm 5) p_sorted_names_5), (.iff (.cmp .Eq (.pk 5) (.lst [])) [(.ret (.mv 3))] []), (.app 3 (.ix (.pk 5) (.cst (.int 0)))), (.rem 4 (.ix (.pk 5) (.cst (.int 0))))]
def p_sorted_names_body : List S := [
    (.asg (.nm 2) (.fz (.cal "lower_table" [(.pk 0), (.pk 1)]))),
    (.asg (.tup [(.nm 3), (.nm 4)]) (.tup [(.lst []), (.b1 .sorted (.pk 0))])),
    (.whl p_sorted_names_1 p_sorted_names_6),
    (.ret (.mv 3))]
def F_p_sorted_names : Fn where
  ps := ["names", "wish"]
  N := ["names", "wish", "below", "found", "rest", "free", "name", "low"]
  keep := [true, true]
  body := p_sorted_names_body
def q_p_sorted_names : FnE := ⟨"sorted_names", ("sorted_names", none), "sorted_names", "sorted_names", defArgs (stm 9), defBody (stm 9), defScope (stm 9), F_p_sorted_names, [2, 3, 4, 5]⟩
def p_ring_1 : E := (.cmp .NotIn (.pk 7) (.pk 2))
def p_ring_2 : E := (.lc (.nm 7) (.nm 7) .seq [(.b1 .sorted (.pk 0))] [p_ring_1] [("name", 7)])
def p_ring_3 : E := (.cst (.bl true))
def p_ring_4 : E := (.cmp .In (.pk 7) (.pk 3))
def p_ring_5 : E := (.lc (.nm 7) (.nm 7) .seq [(.ix (.pk 4) (.ix (.pk 5) (.neg (.cst (.int 1)))))] [p_ring_4] [("name", 7)])
def p_ring_6 : List S := [(.asg (.nm 6) (.ix p_ring_5 (.cst (.int 0)))), (.iff (.cmp .In (.pk 6) (.pk 5)) [(.ret (.rev (.slc true false (.pk 5) (.m1 .index (.pk 5) (.pk 6)) (.cst .non))))] []), (.app 5 (.nm 6))]
def p_ring_body : List S := [
    (.exp (.cal "check_wish" [(.pk 0), (.pk 1)])),
    (.asg (.nm 2) (.cal "sorted_names" [(.pk 0), (.pk 1)])),
    (.asg (.nm 3) p_ring_2),
    (.iff (.cmp .Eq (.pk 3) (.lst [])) [(.ret (.cst .non))] []),
    (.asg (.nm 4) (.fz (.cal "lower_table" [(.pk 0), (.pk 1)]))),
    (.asg (.nm 5) (.lst [(.ix (.pk 3) (.cst (.int 0)))])),
    (.whl p_ring_3 p_ring_6)]
def F_p_ring : Fn where
  ps := ["names", "wish"]
  N := ["names", "wish", "found", "rest", "below", "walk", "low", "name"]
  keep := [true, true]
  body := p_ring_body
def q_p_ring : FnE := ⟨"ring", ("ring", none), "ring", "ring", defArgs (stm 10), defBody (stm 10), defScope (stm 10), F_p_ring, [2, 3, 4, 5, 6]⟩
def p_is_ring_1 : E := (.b1 .tup (.pk 4))
def p_is_ring_2 : E := (.lc p_is_ring_1 (.nm 4) .seq [(.nm 1)] [] [("pair", 4)])
def p_is_ring_3 : E := (.cmp .In (.tup [(.ix (.pk 2) (.bin .Sub (.pk 5) (.cst (.int 1)))), (.ix (.pk 2) (.pk 5))]) (.pk 3))
def p_is_ring_4 : E := (.lc p_is_ring_3 (.nm 5) .rng1 [(.b1 .len (.pk 2))] [] [("at", 5)])
def p_is_ring_body : List S := [
    (.exp (.cal "check_wish" [(.pk 0), (.pk 1)])),
    (.asg (.nm 3) p_is_ring_2),
    (.iff (.or (.cmp .Lt (.b1 .len (.pk 2)) (.cst (.int 2))) (.cmp .Lt (.st1 .len (.pk 2)) (.b1 .len (.pk 2)))) [(.ret (.cst (.bl false)))] []),
    (.ret (.b1 .all p_is_ring_4))]
def F_p_is_ring : Fn where
  ps := ["names", "wish", "claimed"]
  N := ["names", "wish", "claimed", "pairs", "pair", "at"]
  keep := [true, true, true]
  body := p_is_ring_body
def q_p_is_ring : FnE := ⟨"is_ring", ("is_ring", none), "is_ring", "is_ring", defArgs (stm 11), defBody (stm 11), defScope (stm 11), F_p_is_ring, [3]⟩
def p_keeps_1 : E := (.dc (.nm 4) (.nm 3) (.tup [(.nm 3), (.nm 4)]) .enum [(.nm 0)] [] [("at", 3), ("name", 4)])
def p_keeps_2 : E := (.cmp .Lt (.ix (.pk 2) (.pk 5)) (.ix (.pk 2) (.pk 6)))
def p_keeps_3 : E := (.lc p_keeps_2 (.tup [(.nm 5), (.nm 6)]) .seq [(.nm 1)] [] [("low", 5), ("high", 6)])
def p_keeps_body : List S := [
    (.exp (.cal "check_wish" [(.pk 0), (.pk 1)])),
    (.asg (.nm 2) p_keeps_1),
    (.ret (.b1 .all p_keeps_3))]
def F_p_keeps : Fn where
  ps := ["order", "wish"]
  N := ["order", "wish", "places", "at", "name", "low", "high"]
  keep := [true, true]
  body := p_keeps_body
def q_p_keeps : FnE := ⟨"keeps", ("keeps", none), "keeps", "keeps", defArgs (stm 12), defBody (stm 12), defScope (stm 12), F_p_keeps, [2]⟩
def p_least_keeping_body : List S := [
    (.exp (.cal "check_wish" [(.pk 0), (.pk 1)])),
    (.asg (.nm 2) (.cal "sorted_names" [(.pk 0), (.pk 1)])),
    (.iff (.cmp .Lt (.b1 .len (.pk 2)) (.b1 .len (.pk 0))) [(.rai "Impossible" "Impossible" none)] []),
    (.ret (.mv 2))]
def F_p_least_keeping : Fn where
  ps := ["names", "wish"]
  N := ["names", "wish", "found"]
  keep := [true, true]
  body := p_least_keeping_body
def q_p_least_keeping : FnE := ⟨"least_keeping", ("least_keeping", none), "least_keeping", "least_keeping", defArgs (stm 13), defBody (stm 13), defScope (stm 13), F_p_least_keeping, [2]⟩
def F_bag : Fn where
  ps := ["_law_script"]
  N := ["_law_script", "_law_salt", "_law_cell"]
  keep := [true]
  body := Vm.Lib.bag_body
def q_bag : FnE := ⟨"_law_bag", ("_law_bag", none), "_law_bag", "_law_bag", defArgs (stm 15), defBody (stm 15), defScope (stm 15), F_bag, [1, 2]⟩
def F_pull : Fn where
  ps := ["_law_bag_here", "_law_amount"]
  N := ["_law_bag_here", "_law_amount", "_law_seed", "_law_cell", "_law_got"]
  keep := [true, true]
  body := Vm.Lib.pull_body
def q_pull : FnE := ⟨"_law_pull", ("_law_pull", none), "_law_pull", "_law_pull", defArgs (stm 16), defBody (stm 16), defScope (stm 16), F_pull, [2, 3, 4]⟩
def F_of : Fn where
  ps := ["_law_bag_here", "_law_things"]
  N := ["_law_bag_here", "_law_things"]
  keep := [true, true]
  body := Vm.Lib.of_body
def q_of : FnE := ⟨"_law_of", ("_law_of", none), "_law_of", "_law_of", defArgs (stm 17), defBody (stm 17), defScope (stm 17), F_of, []⟩
def F_mixed : Fn where
  ps := ["_law_bag_here", "_law_things"]
  N := ["_law_bag_here", "_law_things", "_law_found", "_law_thing"]
  keep := [true, true]
  body := Vm.Lib.mixed_body
def q_mixed : FnE := ⟨"_law_mixed", ("_law_mixed", none), "_law_mixed", "_law_mixed", defArgs (stm 18), defBody (stm 18), defScope (stm 18), F_mixed, [2, 3]⟩
def F_names : Fn where
  ps := ["_law_bag_here", "_law_count"]
  N := ["_law_bag_here", "_law_count", "_law_letters", "_law_base", "_law_k", "_law_spot", "_law_first", "_law_step"]
  keep := [true, true]
  body := Vm.Lib.names_body
def q_names : FnE := ⟨"_law_names", ("_law_names", none), "_law_names", "_law_names", defArgs (stm 19), defBody (stm 19), defScope (stm 19), F_names, [2, 3, 4, 5, 6, 7]⟩
def keeps_1 : E := (.cmp .Lt (.m1 .index (.pk 0) (.pk 2)) (.m1 .index (.pk 0) (.pk 3)))
def keeps_2 : E := (.lc keeps_1 (.tup [(.nm 2), (.nm 3)]) .seq [(.nm 1)] [] [("_law_low", 2), ("_law_high", 3)])
def keeps_body : List S := [
    (.ret (.b1 .all keeps_2))]
def F_keeps : Fn where
  ps := ["_law_order", "_law_wish_here"]
  N := ["_law_order", "_law_wish_here", "_law_low", "_law_high"]
  keep := [true, true]
  body := keeps_body
def q_keeps : FnE := ⟨"_law_keeps", ("_law_keeps", none), "_law_keeps", "_law_keeps", defArgs (stm 20), defBody (stm 20), defScope (stm 20), F_keeps, []⟩
def wish_1 : List S := [(.asg (.tup [(.nm 6), (.nm 7)]) (.tup [(.cal "_law_of" [(.pk 0), (.pk 1)]), (.cal "_law_of" [(.pk 0), (.pk 1)])])), (.iff (.cmp .NotEq (.pk 6) (.pk 7)) [(.asg (.nm 8) (.or (.cmp .Lt (.m1 .index (.pk 3) (.pk 6)) (.m1 .index (.pk 3) (.pk 7))) (.cmp .Eq (.cal "_law_pull" [(.pk 0), (.cst (.int 12))]) (.cst (.int 0))))), (.app 4 (.ite (.pk 8) (.tup [(.nm 6), (.nm 7)]) (.tup [(.nm 7), (.nm 6)])))] [])]
def wish_body : List S := [
    (.asg (.tup [(.nm 3), (.nm 4)]) (.tup [(.cal "_law_mixed" [(.pk 0), (.pk 1)]), (.lst [])])),
    (.for_ (.nm 5) .rng1 [(.cal "_law_pull" [(.pk 0), (.bin .Add (.pk 2) (.cst (.int 1)))])] wish_1),
    (.ret (.mv 4))]
def F_wish : Fn where
  ps := ["_law_bag_here", "_law_names_here", "_law_most"]
  N := ["_law_bag_here", "_law_names_here", "_law_most", "_law_base", "_law_found", "_law_k", "_law_one", "_law_other", "_law_good"]
  keep := [true, true, true]
  body := wish_body
def q_wish : FnE := ⟨"_law_wish", ("_law_wish", none), "_law_wish", "_law_wish", defArgs (stm 23), defBody (stm 23), defScope (stm 23), F_wish, [3, 4, 5, 6, 7, 8]⟩
def law_1 : E := (.cmp .In (.tup [(.ix (.pk 5) (.bin .Sub (.pk 7) (.cst (.int 1)))), (.ix (.pk 5) (.pk 7))]) (.pk 4))
def law_2 : E := (.lc law_1 (.nm 7) .rng1 [(.b1 .len (.pk 5))] [] [("_law_k", 7)])
def law_3 : E := (.cal "keeps" [(.cal "_law_mixed" [(.pk 1), (.pk 3)]), (.pk 4)])
def law_4 : E := (.lc law_3 (.nm 7) .rng1 [(.cst (.int 4))] [] [("_law_k", 7)])
def law_5 : List S := [(.asg (.nm 3) (.cal "_law_mixed" [(.pk 1), (.cal "_law_names" [(.pk 1), (.bin .Add (.cst (.int 2)) (.cal "_law_pull" [(.pk 1), (.cal "_law_of" [(.pk 1), (.lst [(.cst (.int 5)), (.cst (.int 23))])])]))])])), (.asg (.nm 4) (.cal "_law_wish" [(.pk 1), (.pk 3), (.cal "_law_of" [(.pk 1), (.lst [(.cst (.int 9)), (.cst (.int 60))])])])), (.asg (.tup [(.nm 5), (.nm 6)]) (.tup [(.cal "ring" [(.pk 3), (.pk 4)]), (.fz (.tryl (.cal "least_keeping" [(.pk 3), (.pk 4)])))])), (.iff (.isn false (.pk 5)) [(.iff (.or (.cmp .NotEq (.ix (.pk 6) (.cst (.int 0))) (.cst (.str "value"))) (.or (.cmp .NotEq (.b1 .sorted (.ix (.pk 6) (.cst (.int 1)))) (.b1 .sorted (.pk 3))) (.not (.cal "_law_keeps" [(.ix (.pk 6) (.cst (.int 1))), (.pk 4)])))) [(.ret (.cst (.bl false)))] []), (.iff (.cmp .IsNot (.cal "keeps" [(.ix (.pk 6) (.cst (.int 1))), (.pk 4)]) (.cst (.bl true))) [(.ret (.cst (.bl false)))] []), .cnt] []), (.iff (.or (.cmp .NotEq (.pk 6) (.tup [(.cst (.str "Impossible")), (.cst .non)])) (.or (.not (.isi false [.list] (.pk 5))) (.or (.cmp .Lt (.b1 .len (.pk 5)) (.cst (.int 2))) (.cmp .Lt (.st1 .len (.pk 5)) (.b1 .len (.pk 5)))))) [(.ret (.cst (.bl false)))] []), (.iff (.or (.not (.b1 .all law_2)) (.cmp .IsNot (.cal "is_ring" [(.pk 3), (.pk 4), (.pk 5)]) (.cst (.bl true)))) [(.ret (.cst (.bl false)))] []), (.iff (.b1 .any law_4) [(.ret (.cst (.bl false)))] [])]
def law_body : List S := [
    (.asg (.nm 1) (.cal "_law_bag" [(.pk 0)])),
    (.for_ (.nm 2) .rng1 [(.cst (.int 2))] law_5),
    (.ret (.cst (.bl true)))]
def F_law : Fn where
  ps := ["_law_script"]
  N := ["_law_script", "_law_bag_here", "_law_turn", "_law_names_here", "_law_wish_here", "_law_found", "_law_order", "_law_k"]
  keep := [true]
  body := law_body
def q_law : FnE := ⟨"law", ("law", none), "law", "law", defArgs (stm 24), defBody (stm 24), defScope (stm 24), F_law, [1, 2, 3, 4, 5, 6]⟩
def defsOf : List FnE := [q_p_check_wish, q_p_lower_table, q_p_sorted_names, q_p_ring, q_p_is_ring, q_p_keeps, q_p_least_keeping, q_bag, q_pull, q_of, q_mixed, q_names, q_keeps, q_wish, q_law]
def x_BadWish : XcE := ⟨"BadWish", "BadWish", some "at", "__init__", "BadWish.__init__", defArgs (inClass (stm 3) 0), defBody (inClass (stm 3) 0), defScope (inClass (stm 3) 0)⟩
theorem xb_BadWish : BndX x_BadWish := fun _ _ _ _ _ _ us hl => match us, hl with | [_, _], _ => rfl
def x_Impossible : XcE := ⟨"Impossible", "Impossible", none, "__init__", "Impossible.__init__", defArgs (inClass (stm 4) 0), defBody (inClass (stm 4) 0), defScope (inClass (stm 4) 0)⟩
theorem xb_Impossible : BndX x_Impossible := fun _ _ _ _ _ _ us hl => match us, hl with | [_], _ => rfl
def xsOf : List XcE := [x_BadWish, x_Impossible]
theorem xbnds : ∀ q ∈ xsOf, BndX q := List.forall_mem_cons.mpr ⟨xb_BadWish, List.forall_mem_cons.mpr ⟨xb_Impossible, fun _ z => nomatch z⟩⟩
def dT : He.DefD := ⟨("_law_try", none), "_law_try", "_law_try", defArgs (stm 22), defBody (stm 22), defScope (stm 22), [], []⟩
def dF : He.DefD := ⟨("_law_field", none), "_law_field", "_law_field", defArgs (stm 21), defBody (stm 21), defScope (stm 21), [], []⟩
theorem bdT : BndD dT [("_law_ask" : Str)] := fun _ _ _ _ _ _ us hl => match us, hl with | [_], _ => rfl
theorem bdF : BndD dF [("_law_e" : Str)] := fun _ _ _ _ _ _ us hl => match us, hl with | [_], _ => rfl
def trOf : List He.DefD := [dT, dF]
def tab : Tab := ⟨["all", "any", "enumerate", "isinstance", "len", "list", "range", "set", "sorted", "tuple"], [], defsOf.map fun q => (q.x, q.fn), [], ["check_wish", "lower_table", "sorted_names", "ring", "is_ring", "keeps", "least_keeping", "_law_bag", "_law_pull", "_law_of", "_law_mixed", "_law_names", "_law_keeps", "_law_wish", "law"], [], [], [], false, [], [], [("BadWish", "BadWish", some "at"), ("Impossible", "Impossible", none)], ["law"], false⟩
theorem b_p_check_wish : BndOk q_p_check_wish := fun _ _ _ _ _ _ us hl => match us, hl with | [_, _], _ => rfl
theorem b_p_lower_table : BndOk q_p_lower_table := fun _ _ _ _ _ _ us hl => match us, hl with | [_, _], _ => rfl
theorem b_p_sorted_names : BndOk q_p_sorted_names := fun _ _ _ _ _ _ us hl => match us, hl with | [_, _], _ => rfl
theorem b_p_ring : BndOk q_p_ring := fun _ _ _ _ _ _ us hl => match us, hl with | [_, _], _ => rfl
theorem b_p_is_ring : BndOk q_p_is_ring := fun _ _ _ _ _ _ us hl => match us, hl with | [_, _, _], _ => rfl
theorem b_p_keeps : BndOk q_p_keeps := fun _ _ _ _ _ _ us hl => match us, hl with | [_, _], _ => rfl
theorem b_p_least_keeping : BndOk q_p_least_keeping := fun _ _ _ _ _ _ us hl => match us, hl with | [_, _], _ => rfl
theorem b_bag : BndOk q_bag := fun _ _ _ _ _ _ us hl => match us, hl with | [_], _ => rfl
theorem b_pull : BndOk q_pull := fun _ _ _ _ _ _ us hl => match us, hl with | [_, _], _ => rfl
theorem b_of : BndOk q_of := fun _ _ _ _ _ _ us hl => match us, hl with | [_, _], _ => rfl
theorem b_mixed : BndOk q_mixed := fun _ _ _ _ _ _ us hl => match us, hl with | [_, _], _ => rfl
theorem b_names : BndOk q_names := fun _ _ _ _ _ _ us hl => match us, hl with | [_, _], _ => rfl
theorem b_keeps : BndOk q_keeps := fun _ _ _ _ _ _ us hl => match us, hl with | [_, _], _ => rfl
theorem b_wish : BndOk q_wish := fun _ _ _ _ _ _ us hl => match us, hl with | [_, _, _], _ => rfl
theorem b_law : BndOk q_law := fun _ _ _ _ _ _ us hl => match us, hl with | [_], _ => rfl
theorem bnds : ∀ q ∈ defsOf, BndOk q := List.forall_mem_cons.mpr ⟨b_p_check_wish, List.forall_mem_cons.mpr ⟨b_p_lower_table, List.forall_mem_cons.mpr ⟨b_p_sorted_names, List.forall_mem_cons.mpr ⟨b_p_ring, List.forall_mem_cons.mpr ⟨b_p_is_ring, List.forall_mem_cons.mpr ⟨b_p_keeps, List.forall_mem_cons.mpr ⟨b_p_least_keeping, List.forall_mem_cons.mpr ⟨b_bag, List.forall_mem_cons.mpr ⟨b_pull, List.forall_mem_cons.mpr ⟨b_of, List.forall_mem_cons.mpr ⟨b_mixed, List.forall_mem_cons.mpr ⟨b_names, List.forall_mem_cons.mpr ⟨b_keeps, List.forall_mem_cons.mpr ⟨b_wish, List.forall_mem_cons.mpr ⟨b_law, fun _ z => nomatch z⟩⟩⟩⟩⟩⟩⟩⟩⟩⟩⟩⟩⟩⟩⟩
theorem kwds : ∀ q ∈ defsOf, ∀ n ks perm, (q.x, n, ks, perm) ∈ tab.kws → KwOk q n ks perm := kw_of (by decide +kernel) [] rfl (fun _ z => nomatch z)
theorem chkd : defsOf.all (chkFn tab) = true := by decide +kernel
theorem i_p_check_wish : Is tab.fn "check_wish" 2 6 [true, true] p_check_wish_body := ⟨F_p_check_wish, rfl, rfl, rfl, rfl, rfl⟩
theorem i_p_lower_table : Is tab.fn "lower_table" 2 6 [true, true] p_lower_table_body := ⟨F_p_lower_table, rfl, rfl, rfl, rfl, rfl⟩
theorem i_p_sorted_names : Is tab.fn "sorted_names" 2 8 [true, true] p_sorted_names_body := ⟨F_p_sorted_names, rfl, rfl, rfl, rfl, rfl⟩
theorem i_p_ring : Is tab.fn "ring" 2 8 [true, true] p_ring_body := ⟨F_p_ring, rfl, rfl, rfl, rfl, rfl⟩
theorem i_p_is_ring : Is tab.fn "is_ring" 3 6 [true, true, true] p_is_ring_body := ⟨F_p_is_ring, rfl, rfl, rfl, rfl, rfl⟩
theorem i_p_keeps : Is tab.fn "keeps" 2 7 [true, true] p_keeps_body := ⟨F_p_keeps, rfl, rfl, rfl, rfl, rfl⟩
theorem i_p_least_keeping : Is tab.fn "least_keeping" 2 3 [true, true] p_least_keeping_body := ⟨F_p_least_keeping, rfl, rfl, rfl, rfl, rfl⟩
theorem i_bag : Is tab.fn "_law_bag" 1 3 [true] Vm.Lib.bag_body := ⟨F_bag, rfl, rfl, rfl, rfl, rfl⟩
theorem i_pull : Is tab.fn "_law_pull" 2 5 [true, true] Vm.Lib.pull_body := ⟨F_pull, rfl, rfl, rfl, rfl, rfl⟩
theorem i_of : Is tab.fn "_law_of" 2 2 [true, true] Vm.Lib.of_body := ⟨F_of, rfl, rfl, rfl, rfl, rfl⟩
theorem i_mixed : Is tab.fn "_law_mixed" 2 4 [true, true] Vm.Lib.mixed_body := ⟨F_mixed, rfl, rfl, rfl, rfl, rfl⟩
theorem i_names : Is tab.fn "_law_names" 2 8 [true, true] Vm.Lib.names_body := ⟨F_names, rfl, rfl, rfl, rfl, rfl⟩
theorem i_keeps : Is tab.fn "_law_keeps" 2 4 [true, true] keeps_body := ⟨F_keeps, rfl, rfl, rfl, rfl, rfl⟩
theorem i_wish : Is tab.fn "_law_wish" 3 9 [true, true, true] wish_body := ⟨F_wish, rfl, rfl, rfl, rfl, rfl⟩
theorem i_law : Is tab.fn "law" 1 8 [true] law_body := ⟨F_law, rfl, rfl, rfl, rfl, rfl⟩
theorem txt : Txt tab defsOf xsOf trOf := ⟨by decide +kernel, by decide +kernel, rfl, chkd, by decide +kernel, bnds, kwds, rfl, by decide +kernel, xbnds, by decide +kernel, (fun t f z => by cases z; exact ⟨bdT, bdF⟩), (fun z => nomatch z)⟩
end Lw
namespace Lw
open PySem PySem.Spec L2 Vm Vm.Lib
abbrev deep : Nat := 40
abbrev C0 := callN tab.fn 200 39
theorem ne_str {a b : Str} : cmpD .NotEq (.str a) (.str b) = some (!decide (a = b)) := by
  show (if shal 8 (.str a) && shal 8 (.str b) then some (!(eqD (.str a) (.str b))) else none) = _
  rw [shal_s, shal_s, eqD_ss]
  simp only [Bool.and_self, if_true]
  by_cases h : a = b <;> simp [h]
theorem ne_ls {o p : Bool} {M N : List Str} : cmpD .NotEq (.lst o (M.map .str)) (.lst p (N.map .str)) = some (!decide (M = N)) := by
  show (if shal 8 _ && shal 8 _ then some (!eqD _ _) else none) = _
  rw [shal_ls, shal_ls, eq_ll, eqL_str]
  rfl
theorem imp_ne : cmpD .NotEq (.tup [.str "Impossible", .non]) (.tup [.str "Impossible", .non]) = some false := by decide +kernel
theorem isF_ls (G : List Str) : isFL (G.map D.str) = true := isFL_str G
theorem pairs_ok {x0 x2 x6 : Option D} {b : D} {N l : List Str} {Ws : List (Str × Str)} {o : Bool} (hl : l.length ≤ 4000) :
    ev C0 law_2 [x0, some b, x2, some (.lst o (N.map .str)), some (.lst false (Ws.map pD)), some (.lst true (l.map .str)), x6, none] = .ok (.lst true ((List.range l.length).map fun j => D.bl (decide ((l.getD (prvN l j) "", l.getD j "") ∈ Ws)))) [x0, some b, x2, some (.lst o (N.map .str)), some (.lst false (Ws.map pD)), some (.lst true (l.map .str)), x6, none] := by
  have hc : Seq1 (.lst true (l.map .str)) l := .inl ⟨true, rfl⟩
  have hlen := seq_len hc
  obtain ⟨e', g2, rfl⟩ := lc_flt (w := fun e => wipeE e [7]) (tg := asgT (.nm 7)) (tt := fun e => evTs C0 [] e) (f := fun e => (ev C0 law_1 e).still) (fun j : Nat => D.int (j : Int)) (fun _ => true) (fun j => .bl (decide ((l.getD (prvN l j) "", l.getD j "") ∈ Ws))) (fun e => e = [x0, some b, x2, some (.lst o (N.map .str)), some (.lst false (Ws.map pD)), some (.lst true (l.map .str)), x6, none]) (List.range l.length) _ rfl (by
    rintro j hj e rfl
    have hj' := List.mem_range.mp hj
    have i1 := seq_ix hc (at_prv hj')
    have i2 := seq_ix hc (at_nat hj')
    have hsb : binD .Sub (.int (j : Int)) (.int 1) = some (.int ((j : Int) - 1)) := rfl
    have hin := in_pl (o := false) (p := (l.getD (prvN l j) "", l.getD j "")) (L := Ws)
    simp only at hin
    generalize Ws.map pD = PW at *
    generalize N.map D.str = PN at *
    generalize l.map D.str = PL at *
    refine ⟨[x0, some b, x2, some (.lst o PN), some (.lst false PW), some (.lst true PL), x6, some (.int (j : Int))], _, rfl, rfl, fun _ => ⟨[x0, some b, x2, some (.lst o PN), some (.lst false PW), some (.lst true PL), x6, some (.int (j : Int))], ?_, rfl⟩, fun h => by cases h⟩
    generalize l.getD (prvN l j) "" = n1 at *
    generalize l.getD j "" = n2 at *
    simp [law_1, ev, evs, hsb, i1, i2, hin, R.of_some, still_k])
  rw [List.filter_eq_self.mpr fun _ _ => rfl] at g2
  have g2 : _ = R.ok ((List.range l.length).map fun j => D.bl (decide ((l.getD (prvN l j) "", l.getD j "") ∈ Ws))) _ := g2
  have hr := rng_nat (n := l.length) (by omega)
  unfold law_2
  refine ev_lc (xs := [.int (l.length : Int)]) (ds := (List.range l.length).map fun (k : Nat) => .int (k : Int)) (e1 := [x0, some b, x2, some (.lst o (N.map .str)), some (.lst false (Ws.map pD)), some (.lst true (l.map .str)), x6, none]) ?_ hr g2
  generalize Ws.map pD = PW at *
  generalize N.map D.str = PN at *
  generalize l.map D.str = PL at *
  simp [evs, ev, hlen, R.of_some]
theorem tries_ok {x0 x2 x5 x6 : Option D} {b : D} {N : List Str} {Ws : List (Str × Str)} (B : Bag b) (hN : N.Nodup) (hNl : N.length ≤ 30) (hg : Good N Ws) (hr : restF Ws N ≠ []) :
    ∃ b' : D, Bag b' ∧ ev C0 law_4 [x0, some b, x2, some (.lst false (N.map .str)), some (.lst false (Ws.map pD)), x5, x6, none] = .ok (.lst true [.bl false, .bl false, .bl false, .bl false]) [x0, some b', x2, some (.lst false (N.map .str)), some (.lst false (Ws.map pD)), x5, x6, none] := by
  obtain ⟨e', g2, b', B', rfl⟩ := lc_flt (w := fun e => wipeE e [7]) (tg := asgT (.nm 7)) (tt := fun e => evTs C0 [] e) (f := fun e => (ev C0 law_3 e).still) (fun j : Nat => D.int (j : Int)) (fun _ => true) (fun _ => .bl false) (fun e => ∃ b, Bag b ∧ e = [x0, some b, x2, some (.lst false (N.map .str)), some (.lst false (Ws.map pD)), x5, x6, none]) (List.range 4) _ ⟨b, B, rfl⟩ (by
    rintro j hj e ⟨b, B, rfl⟩
    obtain ⟨b9, ys9, q9, B9, hp9⟩ := mixed_ok (W := 200) (k := 37) i_mixed i_pull B (o := false) (isFL_str N) (by rw [List.length_map]; omega)
    obtain ⟨K, rfl, hK⟩ := perm_str hp9
    have q9 : C0 "_law_mixed" [b, .lst false (N.map .str)] = _ := q9
    have hgK : Good K Ws := fun p hp => ⟨(hg p hp).1, hK.mem_iff.mpr (hg p hp).2.1, hK.mem_iff.mpr (hg p hp).2.2⟩
    have q1 : C0 "keeps" [.lst true (K.map .str), .lst false (Ws.map pD)] = _ := kps_ok (W := 200) (k := 37) i_p_keeps i_p_check_wish (.inl ⟨true, rfl⟩) (.inl ⟨false, rfl⟩) (hK.nodup_iff.mpr hN) hgK
    rw [keep_rest hN hg hK hr] at q1
    rw [D.fz, fzL_str, D.fz, fzL_p] at q1
    refine ⟨[x0, some b, x2, some (.lst false (N.map .str)), some (.lst false (Ws.map pD)), x5, x6, some (.int (j : Int))], _, rfl, rfl, fun _ => ⟨[x0, some b9, x2, some (.lst false (N.map .str)), some (.lst false (Ws.map pD)), x5, x6, some (.int (j : Int))], ?_, ⟨b9, B9, rfl⟩⟩, fun h => by cases h⟩
    generalize Ws.map pD = PW at *
    generalize N.map D.str = PN at *
    generalize K.map D.str = PK at *
    simp [law_3, ev, evA, callA, takeA, putA, q9, q1, still_k])
  refine ⟨b', B', ?_⟩
  rw [List.filter_eq_self.mpr fun _ _ => rfl] at g2
  have g2 : _ = R.ok [D.bl false, .bl false, .bl false, .bl false] _ := g2
  have hr := rng_nat (n := 4) (by omega)
  unfold law_4
  refine ev_lc (xs := [.int 4]) (ds := (List.range 4).map fun (k : Nat) => .int (k : Int)) (e1 := [x0, some b, x2, some (.lst false (N.map .str)), some (.lst false (Ws.map pD)), x5, x6, none]) ?_ hr g2
  simp [evs, ev]
theorem round_ok {S0 t o3 o4 o5 o6 : Option D} {b : D} (B : Bag b) :
    ∃ b', ∃ fl, ∃ p3 p4 p5 p6 : Option D, exs C0 200 law_5 [S0, some b, t, o3, o4, o5, o6, none] = .ok fl [S0, some b', t, p3, p4, p5, p6, none] ∧ Bag b' ∧ (fl = .next ∨ fl = .cnt) := by
  obtain ⟨z0, b0, q0, B0, m0⟩ := of_ok (W := 200) (k := 37) i_of i_pull B (o := true) (xs := [.int 5, .int 23]) rfl (by simp) (by decide)
  have q0 : C0 "_law_of" [b, .lst true [.int 5, .int 23]] = _ := q0
  obtain ⟨n0, e0, hn0, hn1⟩ : ∃ n : Nat, z0 = .int (n : Int) ∧ n ≤ 23 ∧ 0 < n := by
    simp only [List.mem_cons, List.not_mem_nil, or_false] at m0
    rcases m0 with e | e
    · exact ⟨5, e, by decide, by decide⟩
    · exact ⟨23, e, by decide, by decide⟩
  subst e0
  obtain ⟨r1, b1, q1, B1, u1, v1⟩ := pull_ok (W := 200) (k := 38) i_pull B0 (m := (n0 : Int)) (by omega) (by omega)
  have q1 : C0 "_law_pull" [b0, .int (n0 : Int)] = _ := q1
  obtain ⟨r1, rfl⟩ := Int.eq_ofNat_of_zero_le u1
  have hadd : binD .Add (.int 2) (.int (r1 : Int)) = some (.int ((2 + r1 : Nat) : Int)) := by
    show some (D.int _) = _
    rw [Int.natCast_add]
    rfl
  obtain ⟨b2, ss, q2, B2, hsl, hsn, hss⟩ := names_ok (W := 200) (k := 36) i_names i_of i_pull B1 (n := 2 + r1) (by omega)
  have q2 : C0 "_law_names" [b1, .int ((2 + r1 : Nat) : Int)] = _ := q2
  obtain ⟨b3, ys, q3, B3, hp⟩ := mixed_ok (W := 200) (k := 37) i_mixed i_pull B2 (o := true) (isFL_str ss) (by rw [List.length_map]; omega)
  obtain ⟨N, rfl, hN⟩ := perm_str hp
  have q3 : C0 "_law_mixed" [b2, .lst true (ss.map .str)] = _ := q3
  have hNn : N.Nodup := hN.nodup_iff.mpr hsn
  have hNl : N.length = 2 + r1 := by rw [hN.length_eq, hsl]
  have hN0 : N ≠ [] := fun e => by rw [e] at hNl; simp at hNl; omega
  obtain ⟨z4, b4, q4, B4, m4⟩ := of_ok (W := 200) (k := 37) i_of i_pull B3 (o := true) (xs := [.int 9, .int 60]) rfl (by simp) (by decide)
  have q4 : C0 "_law_of" [b3, .lst true [.int 9, .int 60]] = _ := q4
  obtain ⟨n4, e4, hn4⟩ : ∃ n : Nat, z4 = .int (n : Int) ∧ n ≤ 60 := by
    simp only [List.mem_cons, List.not_mem_nil, or_false] at m4
    rcases m4 with e | e
    · exact ⟨9, e, by decide⟩
    · exact ⟨60, e, by decide⟩
  subst e4
  obtain ⟨b5, Ws, q5, B5, hG, hWl⟩ := lwish_ok (W := 200) (k := 36) i_wish i_mixed i_of i_pull B4 (o := true) (N := N) (most := n4) hN0 (by omega) (by omega)
  have q5 : C0 "_law_wish" [b4, .lst true (N.map .str), .int (n4 : Int)] = _ := q5
  have t1 : C0 "ring" [.lst false (N.map .str), .lst true (Ws.map pD)] = _ := ring_ok (W := 200) (k := 36) i_p_ring i_p_check_wish i_p_sorted_names i_p_lower_table (x := .lst false (N.map .str)) (.inl ⟨false, rfl⟩) (.inl ⟨true, rfl⟩) hNn hG (by omega) (by omega) (by omega)
  have t2 : C0 "least_keeping" [.lst false (N.map .str), .lst false (Ws.map pD)] = _ := least_full (W := 200) (k := 36) i_p_least_keeping i_p_check_wish i_p_sorted_names i_p_lower_table (x := .lst false (N.map .str)) (.inl ⟨false, rfl⟩) (.inl ⟨false, rfl⟩) hNn hG (by omega) (by omega) (by omega)
  rw [D.fz, fzL_str, D.fz, fzL_p] at t1 t2
  by_cases hr : restF Ws N = []
  · rw [if_pos hr] at t2
    rw [ring_none.mpr hr] at t1
    have hP := grF_perm hNn hG hr
    have hK := grF_keep hNn hG hr
    have hgG : Good (grF Ws N) Ws := fun p hp => ⟨(hG p hp).1, hP.mem_iff.mpr (hG p hp).2.1, hP.mem_iff.mpr (hG p hp).2.2⟩
    have k1 : C0 "_law_keeps" [.lst false ((grF Ws N).map .str), .lst false (Ws.map pD)] = _ := lkeeps_ok (W := 200) (k := 38) i_keeps (.inl ⟨false, rfl⟩) hgG
    have k2 : C0 "keeps" [.lst false ((grF Ws N).map .str), .lst false (Ws.map pD)] = _ := kps_ok (W := 200) (k := 37) i_p_keeps i_p_check_wish (.inl ⟨false, rfl⟩) (.inl ⟨false, rfl⟩) (hP.nodup_iff.mpr hNn) hgG
    rw [hK] at k1 k2
    rw [D.fz, fzL_p] at k1
    rw [D.fz, fzL_str, D.fz, fzL_p] at k2
    have hx0 : ixD (.tup [.str "value", .lst false ((grF Ws N).map .str)]) (.int 0) = some (.str "value") := rfl
    have hx1 : ixD (.tup [.str "value", .lst false ((grF Ws N).map .str)]) (.int 1) = some (.lst false ((grF Ws N).map .str)) := by
      show (if (!false && isFL ((grF Ws N).map D.str)) = true then _ else _) = _
      rw [isFL_str]
      rfl
    have e0 := ne_str (a := "value") (b := "value")
    rw [decide_eq_true rfl] at e0
    have s1 := srt_ls (o := false) (M := grF Ws N)
    have s2 := srt_ls (o := false) (M := N)
    have e1 := ne_ls (o := true) (p := true) (M := sS (grF Ws N)) (N := sS N)
    rw [decide_eq_true (sS_eq hP)] at e1
    have e2 : cmpD .IsNot (.bl true) (.bl true) = some false := rfl
    have hfG : fzL ((grF Ws N).map D.str) = (grF Ws N).map D.str := fzL_str _
    refine ⟨b5, .cnt, some (.lst false (N.map .str)), some (.lst false (Ws.map pD)), some .non, some (.tup [.str "value", .lst false ((grF Ws N).map .str)]), ?_, B5, .inr rfl⟩
    generalize (sS (grF Ws N)).map D.str = SG at *
    generalize (sS N).map D.str = SN at *
    generalize (grF Ws N).map D.str = PG at *
    generalize Ws.map pD = PW at *
    generalize N.map D.str = PN at *
    generalize ss.map D.str = Pss at *
    generalize 2 + r1 = n2 at *
    simp [law_5, exs, exS, ev, evs, evA, callA, takeA, putA, q0, q1, hadd, q2, q3, q4, q5, t1, t2, oD, hx0, hx1, e0, e1, e2, s1, s2, k1, k2, hfG, asg_tup, asgl_nil, asgl_cons, asg_nm, asb_ok, asBD, D.fz, fzL, R.of_some]
  · rw [if_neg hr] at t2
    obtain ⟨l, hl⟩ : ∃ l, ringF Ws N = some l := by
      cases h : ringF Ws N with
      | none => exact absurd (ring_none.mp h) hr
      | some l => exact ⟨l, rfl⟩
    rw [hl] at t1
    obtain ⟨w1, w2, w3, _⟩ := ring_real hNn hG hl
    have w4 : l.length ≤ 4000 := by
      have := nodup_le w1 (ring_in hl)
      omega
    have hc : Seq1 (.lst true (l.map .str)) l := .inl ⟨true, rfl⟩
    have hlen := seq_len hc
    have hset := seq_set hc w4
    rw [dedS_nd w1] at hset
    have c1 : cmpD .Lt (.int (l.length : Int)) (.int 2) = some false := by
      show some (decide ((l.length : Int) < 2)) = _
      rw [decide_eq_false (by omega)]
    have c2 := lt_nat (a := l.length) (b := l.length)
    rw [decide_eq_false (Nat.lt_irrefl _)] at c2
    have hall := all_b (f := fun j => decide ((l.getD (prvN l j) "", l.getD j "") ∈ Ws)) (List.range l.length)
    have hB : ringB Ws l = (List.range l.length).all fun j => decide ((l.getD (prvN l j) "", l.getD j "") ∈ Ws) := rfl
    rw [← hB, w3] at hall
    have k1 : C0 "is_ring" [.lst false (N.map .str), .lst false (Ws.map pD), .lst true (l.map .str)] = _ := isring_ok (W := 200) (k := 37) i_p_is_ring i_p_check_wish (x := .lst false (N.map .str)) (.inl ⟨false, rfl⟩) (.inl ⟨false, rfl⟩) hc hG w4
    have hrg : (ringG l && ringB Ws l) = true := by
      unfold ringG
      rw [w3, dedS_nd w1]
      simp [w2]
    rw [hrg, D.fz, fzL_p] at k1
    have e2 : cmpD .IsNot (.bl true) (.bl true) = some false := rfl
    have e3 : b1D .any (.lst true [.bl false, .bl false, .bl false, .bl false]) = some (.bl false) := rfl
    obtain ⟨b6, B6, hL4⟩ := tries_ok (x0 := S0) (x2 := t) (x5 := some (.lst true (l.map .str))) (x6 := some (.tup [.str "Impossible", .non])) (Ws := Ws) B5 hNn (by omega) hG hr
    have hL2 : ∀ b : D, _ := fun b => pairs_ok (x0 := S0) (x2 := t) (x6 := some (.tup [.str "Impossible", .non])) (b := b) (N := N) (l := l) (Ws := Ws) (o := false) w4
    refine ⟨b6, .next, some (.lst false (N.map .str)), some (.lst false (Ws.map pD)), some (.lst true (l.map .str)), some (.tup [.str "Impossible", .non]), ?_, B6, .inl rfl⟩
    have hti := try_imp
    generalize (List.range l.length).map (fun j => D.bl (decide ((l.getD (prvN l j) "", l.getD j "") ∈ Ws))) = AA at *
    have hoD : oD tL (some l) = .lst true (l.map .str) := rfl
    rw [hoD] at t1
    generalize l.map D.str = PL at *
    generalize Ws.map pD = PW at *
    generalize N.map D.str = PN at *
    generalize ss.map D.str = Pss at *
    generalize 2 + r1 = n2 at *
    generalize exImp = XI at *
    have himp := imp_ne
    simp [law_5, exs, exS, ev, evs, evA, callA, takeA, putA, q0, q1, hadd, q2, q3, q4, q5, t1, t2, hti, himp, hlen, hset, c1, c2, hL2, hall, k1, e2, hL4, e3, isTy, bTy, asg_tup, asgl_nil, asgl_cons, asg_nm, asb_ok, asBD, D.fz, fzL, R.of_some]
theorem law_ok (ns : List Int) (h : ns.length ≤ 63) : ∃ W e', callN tab.fn W deep "law" [.lst false (ns.map .int)] = .ok (.bl true) e' := by
  refine ⟨200, ?_⟩
  obtain ⟨b, hb, B⟩ := bag_ok (W := 200) (k := 38) i_bag false ns
  have hb : C0 "_law_bag" [.lst false (ns.map .int)] = .ok b [some (.lst false (ns.map .int))] := hb
  obtain ⟨e', h1, b', o2, o3, o4, o5, o6, rfl, B'⟩ := for_ok (tg := asgT (.nm 2)) (b := fun e => exs C0 200 law_5 e) (fun j e => ∃ b : D, ∃ o2 o3 o4 o5 o6 : Option D, e = [some (.lst false (ns.map .int)), some b, o2, o3, o4, o5, o6, none] ∧ Bag b)
    ((List.range 2).map fun (k : Nat) => .int (k : Int)) 0 [some (.lst false (ns.map .int)), some b, none, none, none, none, none, none] ⟨b, _, _, _, _, _, rfl, B⟩ (by
    rintro j x e hx ⟨b, o2, o3, o4, o5, o6, rfl, B⟩
    obtain ⟨b', fl, z3, z4, z5, z6, h1, B', hf⟩ := round_ok (S0 := some (.lst false (ns.map .int))) (t := some x) (o3 := o3) (o4 := o4) (o5 := o5) (o6 := o6) B
    exact ⟨_, fl, _, rfl, h1, hf, b', _, _, _, _, _, rfl, B'⟩)
  have hr : rngD 0 2 = some ((List.range 2).map fun (k : Nat) => .int (k : Int)) := rng_nat (n := 2) (by decide)
  show ∃ e', callN tab.fn 200 (39 + 1) "law" [.lst false (ns.map .int)] = .ok (.bl true) e'
  rw [i_law.eq rfl]
  change ∃ e', fin [true] (exs C0 200 law_body _) = _
  generalize (List.range 2).map (fun (k : Nat) => D.int (k : Int)) = ds at h1 hr
  simp [law_body, exs, exS, ev, evs, evA, asb_ok, asBD, R.of_some, ixD, cmpD, eq_ii, eq_bb, eq_ss, eq_nn, eq_ll, eq_tt, eql_nil, eql_cons, shal, a0, a1, a2, a3, s1, s2, s3, b1D, asg_nm, asg_tup, asgl_nil, asgl_cons, onS, updE, binD, D.fz, fzL, fin, lastP, partD, itemsD, callA, takeA, putA, isTy, bTy, hb, hr, h1]

end Lw
set_option maxHeartbeats 0
namespace Lw
open PySem PySem.Spec L2 Vm
abbrev TheRow : PySem.W.OpenRow := PySem.W.OpenLaw.row PySem.Challenge.rw_raisekeys_k16_whole_a_ring_or_an_order
abbrev hook : PySem.W.Hook := hookL (hdOf 7 tab defsOf xsOf trOf)
def watch (s : PySem.W.SharedT) : AlL := obsL (hdOf 7 tab defsOf xsOf trOf) (HandSHeadRun.getT s)
theorem watch_eq (s : PySem.W.SharedT) : watch s = hook.obs s.abs := obsL_eq (HandSHeadRun.getT_eq s)
theorem ran (w : World) : HandSHeadRun.RunEq TheRow (PySem.W.view TheRow.prog [24]) hook watch 20000 ("check_wish" :: "lower_table" :: "sorted_names" :: "ring" :: "is_ring" :: "keeps" :: "least_keeping" :: "_law_bag" :: "_law_pull" :: "_law_of" :: "_law_mixed" :: "_law_names" :: "_law_keeps" :: "_law_field" :: "_law_try" :: "_law_wish" :: "DeskError" :: "Missing" :: "BadWish" :: "Impossible" :: "NothingLeft" :: ([] : List PySem.Str)) w := by
  intro os
  kernel_rfl
end Lw
open PySem PySem.W PySem.Calls PyProof.Rows
theorem PySem.Challenge.cw_raisekeys_k16_whole_a_ring_or_an_order_holds : PySem.Challenge.rw_raisekeys_k16_whole_a_ring_or_an_order.Holds := by
  w_on
  o_law
  refine HandSHeadRun.head_any (r := OpenLaw.row PySem.Challenge.rw_raisekeys_k16_whole_a_ring_or_an_order) (q := view (OpenLaw.row PySem.Challenge.rw_raisekeys_k16_whole_a_ring_or_an_order).prog [24]) (H := Lw.hook) (ob := Lw.watch) (M := 20000) (loose := ("check_wish" :: "lower_table" :: "sorted_names" :: "ring" :: "is_ring" :: "keeps" :: "least_keeping" :: "_law_bag" :: "_law_pull" :: "_law_of" :: "_law_mixed" :: "_law_names" :: "_law_keeps" :: "_law_field" :: "_law_try" :: "_law_wish" :: "DeskError" :: "Missing" :: "BadWish" :: "Impossible" :: "NothingLeft" :: ([] : List PySem.Str))) (d := HandSHeadRun.topDef (OpenLaw.row PySem.Challenge.rw_raisekeys_k16_whole_a_ring_or_an_order).prog 24) (kwd := []) Lw.watch_eq
    (by kernel_rfl) (fun s => by kernel_rfl) Lw.ran (by kernel_rfl) (by kernel_rfl) (by kernel_rfl) (by rfl) (by first | assumption | decide +kernel) (by decide +kernel) ⟨rfl, rfl, rfl, rfl, rfl, by decide +kernel⟩ ?hw ?hc
  case hw => w_witness2
  case hc =>
    refine Vm.walk_vm (l := PySem.Challenge.rw_raisekeys_k16_whole_a_ring_or_an_order) (n := 63) (k := Lw.deep) (x := "_law_script") (g := Lw.tab) (es := Lw.defsOf) (fn := Lw.F_law) rfl (by decide) (by kernel_rfl) ⟨rfl, by decide, by decide⟩ (by kernel_rfl) rfl ?facts (fun ns h => ?law)
    case facts =>
      intro w mg fa h Y G hm
      obtain ⟨K, pr, KX, c, fb, ht⟩ := Y
      exact ⟨K, _, pr, KX, Vm.pg_of Lw.txt KX G c fb, Vm.nl_of fb, by decide +kernel, Vm.tabs_of KX fb ht⟩
    case law =>
      have e : (HandSHeadRun.topDef (OpenLaw.row PySem.Challenge.rw_raisekeys_k16_whole_a_ring_or_an_order).prog 24).name = ("law" : PySem.Str) := by kernel_rfl
      rw [e]
      exact Lw.law_ok ns h
