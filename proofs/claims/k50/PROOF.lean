import PyProof.Rows.All
import Wide.All
import OpenK.AllK
import Wide.FinOn
import HandS.ForMost
import HandS.Wide
import HandS.ForExc
import HandS.TryMany
import HandS.TupAny
import HandS.IsInst
import HandS.SortInts
import HandS.ExcOwn
import HandS.MakeKwOnly
import HandS.Comp
import HandS.Iter
import KE.KExcSuper
import HandS.ExcInit
import HandS.ExcField
import HandS.WordsExc
import HandS.EndBits
import KE.RegKSuper
import KE.KExcLine
import PySem.Challenge.RW_pairfloors_k50_odd_sets_counted
set_option Elab.async false
set_option linter.all false
set_option maxRecDepth 100000
/-! A small machine of values: no heap; lists that are owned or shared. -/
namespace Mv
open PySem

inductive Kd where
  | own | shr | giv
  deriving DecidableEq, Inhabited

inductive D where
  | non
  | bl (b : Bool)
  | int (i : Int)
  | str (s : Str)
  | tup (ds : List D)
  | lst (k : Kd) (ds : List D)
  | obj (k : Kd) (c : Nat) (ks : List Nat) (ds : List D)
  | exn (c : Nat) (w : D)
  deriving Inhabited

mutual
def D.eq : D → D → Bool
  | .non, .non => true
  | .bl a, .bl b => a == b
  | .int a, .int b => a == b
  | .str a, .str b => a == b
  | .tup a, .tup b => D.eqs a b
  | .lst o a, .lst p b => o == p && D.eqs a b
  | .obj o c k a, .obj p d l b => o == p && c == d && k == l && D.eqs a b
  | .exn c a, .exn d b => c == d && D.eq a b
  | _, _ => false
def D.eqs : List D → List D → Bool
  | [], [] => true
  | a :: r, b :: s => D.eq a b && D.eqs r s
  | _, _ => false
end
mutual
theorem D.eq_of : ∀ (a b : D), D.eq a b = true → a = b
  | .non, b, h => by cases b <;> first | rfl | cases h
  | .bl _, b, h => by cases b <;> first | (simp only [D.eq, beq_iff_eq] at h; rw [h]) | cases h
  | .int _, b, h => by cases b <;> first | (simp only [D.eq, beq_iff_eq] at h; rw [h]) | cases h
  | .str _, b, h => by cases b <;> first | (simp only [D.eq, beq_iff_eq] at h; rw [h]) | cases h
  | .tup xs, b, h => by cases b <;> first | (simp only [D.eq] at h; rw [D.eqs_of xs _ h]) | cases h
  | .lst _ xs, b, h => by cases b <;> first | (simp only [D.eq, Bool.and_eq_true, beq_iff_eq] at h; rw [D.eqs_of xs _ h.2, h.1]) | cases h
  | .obj _ _ _ xs, b, h => by cases b <;> first | (simp only [D.eq, Bool.and_eq_true, beq_iff_eq] at h; rw [D.eqs_of xs _ h.2, h.1.1.1, h.1.1.2, h.1.2]) | cases h
  | .exn _ x, b, h => by cases b <;> first | (simp only [D.eq, Bool.and_eq_true, beq_iff_eq] at h; rw [D.eq_of x _ h.2, h.1]) | cases h
theorem D.eqs_of : ∀ (a b : List D), D.eqs a b = true → a = b
  | [], b, h => by cases b <;> first | rfl | cases h
  | x :: r, b, h => by cases b <;> first | (simp only [D.eqs, Bool.and_eq_true] at h; rw [D.eq_of x _ h.1, D.eqs_of r _ h.2]) | cases h
end
mutual
theorem D.eq_refl : ∀ a : D, D.eq a a = true
  | .non => rfl
  | .bl _ => by simp [D.eq]
  | .int _ => by simp [D.eq]
  | .str _ => by simp [D.eq]
  | .tup xs => by simp [D.eq, D.eqs_refl xs]
  | .lst _ xs => by simp [D.eq, D.eqs_refl xs]
  | .obj _ _ _ xs => by simp [D.eq, D.eqs_refl xs]
  | .exn _ x => by simp [D.eq, D.eq_refl x]
theorem D.eqs_refl : ∀ a : List D, D.eqs a a = true
  | [] => rfl
  | x :: r => by simp [D.eqs, D.eq_refl x, D.eqs_refl r]
end
instance : DecidableEq D := fun a b => if h : D.eq a b = true then .isTrue (D.eq_of a b h) else .isFalse fun e => h (e ▸ D.eq_refl a)

-- shared from here on
def Kd.frz : Kd → Kd
  | .own => .shr
  | k => k
@[simp] theorem Kd.frz_own : Kd.frz .own = .shr := rfl
@[simp] theorem Kd.frz_shr : Kd.frz .shr = .shr := rfl
@[simp] theorem Kd.frz_giv : Kd.frz .giv = .giv := rfl
mutual
def D.frz : D → D
  | .lst k ds => .lst k.frz (D.frzs ds)
  | .obj k c ks ds => .obj k.frz c ks (D.frzs ds)
  | d => d
def D.frzs : List D → List D
  | [] => []
  | d :: r => D.frz d :: D.frzs r
end
@[simp] theorem D.frz_non : D.frz .non = .non := rfl
@[simp] theorem D.frz_bl (b : Bool) : D.frz (.bl b) = .bl b := rfl
@[simp] theorem D.frz_int (i : Int) : D.frz (.int i) = .int i := rfl
@[simp] theorem D.frz_str (i : Str) : D.frz (.str i) = .str i := rfl
@[simp] theorem D.frz_tup (ds : List D) : D.frz (.tup ds) = .tup ds := rfl
@[simp] theorem D.frz_lst (o : Kd) (ds : List D) : D.frz (.lst o ds) = .lst o.frz (D.frzs ds) := rfl
@[simp] theorem D.frz_obj (o : Kd) (c : Nat) (ks : List Nat) (ds : List D) : D.frz (.obj o c ks ds) = .obj o.frz c ks (D.frzs ds) := rfl
@[simp] theorem D.frzs_nil : D.frzs [] = [] := rfl
@[simp] theorem D.frzs_cons (d : D) (r : List D) : D.frzs (d :: r) = D.frz d :: D.frzs r := rfl
theorem D.frzs_map : ∀ ds : List D, D.frzs ds = ds.map D.frz
  | [] => rfl
  | d :: r => by rw [D.frzs_cons, D.frzs_map r]; rfl
@[simp] theorem D.frzs_app (a b : List D) : D.frzs (a ++ b) = D.frzs a ++ D.frzs b := by simp [D.frzs_map]

def D.owned : D → Bool
  | .lst .own _ => true
  | .obj .own _ _ _ => true
  | _ => false
/-- no owned thing among them -/
def noOwn (ds : List D) : Bool := ds.all fun d => !d.owned

abbrev En := List (Option D)
inductive Out (α : Type) where
  | ok (a : α) (r : En)
  | exc (c : Nat) (w : D) (r : En)
  | bad
def Out.bind {α β : Type} (x : Out α) (f : α → En → Out β) : Out β := match x with
  | .ok a r => f a r
  | .exc c w r => .exc c w r
  | .bad => .bad
@[simp] theorem Out.bind_ok {α β : Type} (a : α) (r : En) (f : α → En → Out β) : (Out.ok a r).bind f = f a r := rfl
@[simp] theorem Out.bind_exc {α β : Type} (c : Nat) (w : D) (r : En) (f : α → En → Out β) : (Out.exc c w r).bind f = .exc c w r := rfl
@[simp] theorem Out.bind_bad {α β : Type} (f : α → En → Out β) : (Out.bad : Out α).bind f = .bad := rfl
/-- a value if there is one -/
def Out.of {α : Type} (x : Option α) (r : En) : Out α := match x with
  | some a => .ok a r
  | none => .bad
@[simp] theorem Out.of_some {α : Type} (a : α) (r : En) : Out.of (some a) r = .ok a r := rfl
@[simp] theorem Out.of_none {α : Type} (r : En) : (Out.of (none : Option α) r) = .bad := rfl

/-- what a call gives: the value, the parameters behind it -/
inductive FOut where
  | ok (d : D) (ps : En)
  | exc (c : Nat) (w : D) (ps : En)
  | bad

inductive Tg where
  | nm (i : Nat)
  | tp (ts : List Tg)
inductive ItK where
  | val | rng | enm | zp | rev
  deriving DecidableEq
inductive Bt where
  | len | int | bool | tuple | list | sum | max | min | sorted | abs | str | all | any
  deriving DecidableEq
inductive Lm where
  | append | pop | extend | index | count | insert | remove | reverse | sort
  deriving DecidableEq
inductive Ty where
  | int | bool | str | tuple | list | none
  deriving DecidableEq

inductive E where
  | int (i : Int)
  | bl (b : Bool)
  | str (s : Str)
  | non
  | var (i : Nat)
  | bin (op : Operator) (a b : E)
  | neg (a : E)
  | notE (a : E)
  | andE (es : List E)
  | orE (es : List E)
  | ite (c a b : E)
  | cmp (a : E) (ops : List CmpOp) (es : List E)
  | tup (es : List E)
  | lst (es : List E)
  | idx (a i : E)
  | slc (a : E) (lo hi : Option E)
  | attr (a : E) (f : Nat)
  | what (i : Nat)
  | call (f : Nat) (es : List E)
  | callk (f : Nat) (perm : List Nat) (es : List E)
  | mk (c : Nat) (es : List E)
  | mkk (c : Nat) (perm : List Nat) (es : List E)
  | meth (m : Nat) (a : E) (es : List E)
  | blt (b : Bt) (es : List E)
  | lm (m : Lm) (a : E) (es : List E)
  | isi (a : E) (t : Ty)
  | comp (elt : E) (tg : Tg) (k : ItK) (src : List E) (ifs : List E) (own : List Nat)

mutual
inductive S where
  | pass
  | brk
  | cont
  | expr (e : E)
  | asg (t : Tg) (e : E)
  | setI (a i e : E)
  | setA (i f : Nat) (e : E)
  | aug (i : Nat) (op : Operator) (e : E)
  | augI (a i : E) (op : Operator) (e : E)
  | ret (e : E)
  | retV (i : Nat)
  | ifS (c : E) (a b : List S)
  | whl (c : E) (b : List S)
  | forS (tg : Tg) (k : ItK) (src : List E) (b : List S)
  | raise (c : Nat) (e : E)
  | tryS (b : List S) (hs : List Hd)
  | nev
inductive Hd where
  | mk (c : Nat) (i : Option Nat) (b : List S)
end

-- slots stored to
mutual
def stS : S → List Nat
  | .asg t _ => stT t
  | .aug i _ _ => [i]
  | .ifS _ a b => stB a ++ stB b
  | .whl _ b => stB b
  | .forS t _ _ b => stT t ++ stB b
  | .tryS b hs => stB b ++ stHs hs
  | _ => []
def stB : List S → List Nat
  | [] => []
  | s :: ss => stS s ++ stB ss
def stHs : List Hd → List Nat
  | [] => []
  | .mk _ i b :: hs => i.toList ++ stB b ++ stHs hs
def stT : Tg → List Nat
  | .nm i => [i]
  | .tp ts => stTs ts
def stTs : List Tg → List Nat
  | [] => []
  | t :: ts => stT t ++ stTs ts
end
structure Fn where
  np : Nat
  nl : Nat
  body : List S
  /-- parameters that are stored to -/
  asg : List Nat
structure Cl where
  init : Nat
  /-- method name, def -/
  ms : List (Nat × Nat)
  /-- itself and the classes above it -/
  up : List Nat
structure Pg where
  fns : List Fn
  cls : List Cl

/-! ### operations on values -/
def ixN (n : Nat) (i : Int) : Option Nat := if 0 ≤ i then (if i < n then some i.toNat else none) else if -(n : Int) ≤ i then some (i + n).toNat else none
def line : Nat := 16777216
def fits (ds : List D) : Bool := decide (ds.length ≤ 16777216)
def mulOk (i j : Int) : Bool := decide (-(2 ^ 64) < i ∧ i < 2 ^ 64) || decide (-(2 ^ 64) < j ∧ j < 2 ^ 64) || decide (i.natAbs.log2 + j.natAbs.log2 < 1000000)

def intOp : Operator → Int → Int → Option Int
  | .Add, i, j => some (i + j)
  | .Sub, i, j => some (i - j)
  | .Mult, i, j => if mulOk i j then some (i * j) else none
  | .FloorDiv, i, j => if 0 < j ∧ j.natAbs.log2 < 9000 then some (i / j) else none
  | .Mod, i, j => if 0 < j then some (i % j) else none
  | .Pow, i, j => if 0 ≤ j ∧ j ≤ 1000000 ∧ i.natAbs < 2 ^ 64 then some (i ^ j.toNat) else none
  | _, _, _ => none
/-- of an augmented assignment -/
def augOp : Operator → Int → Int → Option Int
  | .Add, i, j => some (i + j)
  | .Sub, i, j => some (i - j)
  | _, _, _ => none
def binD (op : Operator) : D → D → Option D
  | .int i, .int j => (intOp op i j).map D.int
  | .int i, .bl k => match op with
    | .Add => some (.int (i + if k then 1 else 0))
    | _ => none
  | .str a, .str b => match op with
    | .Add => if a.length + b.length ≤ 16777216 then some (.str (a ++ b)) else none
    | _ => none
  | .lst k a, .lst l b => match op with
    | .Add => if k != .giv && l != .giv && noOwn a && noOwn b && decide (a.length + b.length ≤ 16777216) then some (.lst .own (a ++ b)) else none
    | _ => none
  | .lst l a, .int k => match op with
    | .Mult => if l != .giv && noOwn a && decide (-(2 ^ 63) ≤ k ∧ k < 2 ^ 63) && decide (a.length * k.toNat ≤ 16777216) then some (.lst .own (List.replicate k.toNat a).flatten) else none
    | _ => none
  | .tup a, .tup b => match op with
    | .Add => if decide (a.length + b.length ≤ 16777216) then some (.tup (a ++ b)) else none
    | _ => none
  | _, _ => none
-- what is compared by content
mutual
def D.py : D → Option PyData
  | .non => some .none
  | .bl b => some (.bool b)
  | .int i => some (.int i)
  | .str s => some (.str s)
  | .tup ds => (D.pys ds).map .tuple
  | .lst _ ds => (D.pys ds).map .list
  | _ => none
def D.pys : List D → Option (List PyData)
  | [] => some []
  | d :: r => match D.py d, D.pys r with
    | some a, some b => some (a :: b)
    | _, _ => none
end
def eqD (a b : D) : Option Bool := match a.py, b.py with
  | some x, some y => if SeqAt.shaped x && SeqAt.shaped y then some (PyData.eqv x y) else none
  | _, _ => none
def intsOf : List D → Option (List Int)
  | [] => some []
  | .int i :: r => (intsOf r).map fun x => i :: x
  | _ => none
def inD (a b : D) : Option Bool := match a.py, b.py with
  | some x, some y => match y with
    | .list ys => if SeqAt.shaped x && SeqAt.shaped y then some (ys.any fun z => PyData.eqv z x) else none
    | .tuple ys => if SeqAt.shaped x && SeqAt.shaped y then some (ys.any fun z => PyData.eqv z x) else none
    | _ => none
  | _, _ => none
def cmpD (op : CmpOp) (a b : D) : Option Bool := match op with
  | .Eq => eqD a b
  | .NotEq => (eqD a b).map (!·)
  | .In => inD a b
  | .NotIn => (inD a b).map (!·)
  | .Lt => match a, b with
    | .int i, .int j => some (decide (i < j))
    | .tup x, .tup y => match intsOf x, intsOf y with
      | some u, some v => some (HT.lexLt u v)
      | _, _ => none
    | _, _ => none
  | .LtE => match a, b with
    | .int i, .int j => some (decide (i ≤ j))
    | _, _ => none
  | .Gt => match a, b with
    | .int i, .int j => some (decide (j < i))
    | _, _ => none
  | .GtE => match a, b with
    | .int i, .int j => some (decide (j ≤ i))
    | _, _ => none
  | .Is => match b with
    | .non => match a with
      | .non => some true
      | .exn _ _ => none
      | _ => some false
    | _ => none
  | .IsNot => match b with
    | .non => match a with
      | .non => some false
      | .exn _ _ => none
      | _ => some true
    | _ => none
def truD : D → Option Bool
  | .non => some false
  | .bl b => some b
  | .int i => some (i != 0)
  | .str s => if s.length ≤ 16777216 then some ((s.length : Int) != 0) else none
  | .tup ds => some (!ds.isEmpty)
  | .lst _ ds => some (!ds.isEmpty)
  | _ => none
/-- a[i] -/
def itemD : D → D → Option D
  | .lst _ ds, .int i => (ixN ds.length i).bind fun j => ds[j]?
  | .tup ds, .int i => (ixN ds.length i).bind fun j => ds[j]?
  | _, _ => none
def fldD : D → Nat → Option D
  | .obj _ _ ks ds, f => (ks.zip ds).lookup f
  | _, _ => none

/-! ### places: a slot and a way into it -/
inductive St1 where
  | ix (i : Int)
  | fl (f : Nat)
def getS : D → St1 → Option D
  | d, .ix i => itemD d (.int i)
  | d, .fl f => fldD d f
def getP : D → List St1 → Option D
  | d, [] => some d
  | d, s :: p => (getS d s).bind fun e => getP e p
def idxOf (f : Nat) : List Nat → Option Nat
  | [] => none
  | k :: r => if k = f then some 0 else (idxOf f r).map (· + 1)
/-- change the thing at the end of an owned way -/
def updP (g : D → Option D) : D → List St1 → Option D
  | d, [] => g d
  | .lst .own ds, .ix i :: p => (ixN ds.length i).bind fun j => (ds[j]?).bind fun e => (updP g e p).map fun e' => .lst .own (ds.set j e')
  | .obj .own c ks ds, .fl f :: p => (idxOf f ks).bind fun j => (ds[j]?).bind fun e => (updP g e p).map fun e' => .obj .own c ks (ds.set j e')
  | _, _ => none
def slot (r : En) (i : Nat) : Option D := (r[i]?).bind id
/-- look at a place -/
def peekP (r : En) (i : Nat) (p : List St1) : Option D := (slot r i).bind fun d => getP d p
mutual
/-- an int without a call -/
def evI : E → En → Option Int
  | .int i, _ => some i
  | .var i, r => match slot r i with
    | some (.int n) => some n
    | _ => none
  | .bin .Add a b, r => (evI a r).bind fun x => (evI b r).map fun y => x + y
  | .bin .Sub a b, r => (evI a r).bind fun x => (evI b r).map fun y => x - y
  | .neg a, r => (evI a r).map fun x => -x
  | .idx a i, r => (path a r).bind fun p => (evI i r).bind fun n => match peekP r p.1 (p.2 ++ [.ix n]) with
    | some (.int m) => some m
    | _ => none
  | _, _ => none
def path : E → En → Option (Nat × List St1)
  | .var i, _ => some (i, [])
  | .idx a i, r => (path a r).bind fun p => (evI i r).map fun n => (p.1, p.2 ++ [.ix n])
  | .attr a f, r => (path a r).map fun p => (p.1, p.2 ++ [.fl f])
  | _, _ => none
end
/-- read a place: an owned thing is shared from then on -/
def readP (r : En) (i : Nat) (p : List St1) : Out D := match slot r i with
  | some d => match getP d p with
    | some (.exn _ _) => .bad
    | some e => if e.owned then (match updP (fun x => some x.frz) d p with
        | some d' => .ok e.frz (r.set i (some d'))
        | none => .bad) else .ok e r
    | none => .bad
  | none => .bad
end Mv

namespace Mv
open PySem

/-- an argument: a value, or a name of the frame -/
inductive Ar where
  | v (d : D)
  | r (i : Nat)
def Ar.peek (r : En) : Ar → Option D
  | .v d => some d
  | .r i => match slot r i with
    | some (.exn _ _) => none
    | x => x
def peekA (r : En) : List Ar → Option (List D)
  | [] => some []
  | a :: as => (a.peek r).bind fun d => (peekA r as).map fun ds => d :: ds
/-- owned things of the frame are lent: their slots are empty meanwhile -/
def lend : List Ar → En → Option (List D × En)
  | [], r => some ([], r)
  | .v d :: as, r => (lend as r).map fun x => (d :: x.1, x.2)
  | .r i :: as, r => ((Ar.r i).peek r).bind fun d =>
      if d.owned then (lend as (r.set i none)).map fun x => (d :: x.1, x.2) else (lend as r).map fun x => (d :: x.1, x.2)
/-- .. and come back -/
def back : List Ar → List D → En → En → Option En
  | [], [], _, r => some r
  | .v _ :: as, _ :: ds, _ :: ps, r => back as ds ps r
  | .r i :: as, d :: ds, p :: ps, r => if d.owned then p.bind fun p' => back as ds ps (r.set i (some p')) else back as ds ps r
  | _, _, _, _ => none
def has (r : En) (i : Nat) : Bool := ((Ar.r i).peek r).isSome
def FOut.out : FOut → Out D
  | .ok d ps => .ok d ps
  | .exc c w ps => .exc c w ps
  | .bad => .bad
/-- the lent things come back -/
def backO (as : List Ar) (ds : List D) (r : En) (o : Out D) : Out D := match o with
  | .ok d ps => match back as ds ps r with
    | some r2 => .ok d r2
    | none => .bad
  | .exc c w ps => match back as ds ps r with
    | some r2 => .exc c w r2
    | none => .bad
  | .bad => .bad
def callA (F : Nat → List D → FOut) (f : Nat) (as : List Ar) (r : En) : Out D := match lend as r with
  | some (ds, r1) => backO as ds r1 (F f ds).out
  | none => .bad
def methOf (P : Pg) (m c : Nat) : Option Nat := (P.cls[c]?).bind fun cl => cl.ms.lookup m
/-- a new instance, shared once it is made: its __init__'s end -/
def made (o : Out D) : Out D := match o with
  | .ok .non (some o :: ps) => .ok o.frz ps
  | .exc e w (_ :: ps) => .exc e w ps
  | _ => .bad
def callC (P : Pg) (F : Nat → List D → FOut) (c : Nat) (as : List Ar) (r : En) : Out D := match P.cls[c]? with
  | some cl => match lend as r with
    | some (ds, r1) => backO as ds r1 (made (F cl.init (.obj .own c [] [] :: ds)).out)
    | none => .bad
  | none => .bad

def isTy : D → Ty → Option Bool
  | .non, t => some (t == .none)
  | .bl _, t => some (t == .bool || t == .int)
  | .int _, t => some (t == .int)
  | .str _, t => some (t == .str)
  | .tup _, t => some (t == .tuple)
  | .lst _ _, t => some (t == .list)
  | _, _ => none
def blsOf : List D → Option (List Bool)
  | [] => some []
  | .bl i :: r => (blsOf r).map fun x => i :: x
  | _ => none
def sortI (l : List Int) : List Int := l.mergeSort (fun a b => decide (a ≤ b))
def bltD : Bt → List D → Option D
  | .len, [.lst _ ds] => some (.int ds.length)
  | .len, [.tup ds] => some (.int ds.length)
  | .len, [.str s] => if s.length ≤ 16777216 then some (.int s.length) else none
  | .int, [.int i] => some (.int i)
  | .int, [.bl k] => some (.int (if k then 1 else 0))
  | .bool, [.int i] => some (.bl (i != 0))
  | .bool, [.bl k] => some (.bl k)
  | .tuple, [.lst _ ds] => if noOwn ds then some (.tup ds) else none
  | .tuple, [.tup ds] => some (.tup ds)
  | .list, [.lst _ ds] => if noOwn ds then some (.lst .own ds) else none
  | .list, [.tup ds] => some (.lst .own ds)
  | .sum, [.lst _ ds] => (intsOf ds).map fun l => .int l.sum
  | .sum, [.tup ds] => (intsOf ds).map fun l => .int l.sum
  | .max, [.int i, .int j] => some (.int (if j > i then j else i))
  | .min, [.int i, .int j] => some (.int (if j < i then j else i))
  | .abs, [.int i] => some (.int (if i < 0 then -i else i))
  | .all, [.lst _ ds] => (blsOf ds).map fun l => .bl (l.all id)
  | .any, [.lst _ ds] => (blsOf ds).map fun l => .bl (l.any id)
  | .sorted, [.lst _ ds] => (intsOf ds).map fun l => .lst .own ((sortI l).map .int)
  | _, _ => none
/-- a list method at an owned list: the value, the list behind it -/
def lmD : Lm → List D → List D → Option (D × List D)
  | .append, ds, [d] => if ds.length < 16777216 then some (.non, ds ++ [d]) else none
  | .pop, ds, [] => (ds[ds.length - 1]?).map fun d => (d, ds.dropLast)
  | .extend, ds, [.lst k es] => if k != .giv && noOwn es && decide (ds.length + es.length ≤ 16777216) then some (.non, ds ++ es) else none
  | .reverse, ds, [] => if noOwn ds then some (.non, ds.reverse) else none
  | _, _, _ => none
/-- .. of what was slot x's, the slot is empty -/
def lmP (m : Lm) (o : Option D) (r : En) (x : Nat) (p : List St1) (ds : List D) : Out D := match o with
  | some d => match getP d p with
    | some (.lst .own xs) => match lmD m xs ds with
      | some (v, ys) => match updP (fun _ => some (.lst .own ys)) d p with
        | some d' => if x < r.length then .ok v (r.set x (some d')) else .bad
        | none => .bad
      | none => .bad
    | _ => .bad
  | none => .bad

def asgT : Tg → D → En → Option En
  | .nm i, d, r => if i < r.length then some (r.set i (some d)) else none
  | .tp ts, d, r => match d with
    | .tup ds => asgs ts ds r
    | _ => none
where asgs : List Tg → List D → En → Option En
  | [], [], r => some r
  | t :: ts, d :: ds, r => (asgT t d r).bind fun r' => asgs ts ds r'
  | _, _, _ => none

def itemsOf : ItK → List D → Option (List D)
  | .val, [.lst _ ds] => if noOwn ds then some ds else none
  | .val, [.tup ds] => some ds
  | .rng, [.int j] => if -(2 ^ 62) ≤ j ∧ j < 2 ^ 62 then some ((List.range j.toNat).map fun (k : Nat) => D.int k) else none
  | .rng, [.int i, .int j] => if -(2 ^ 62) ≤ i ∧ i < 2 ^ 62 ∧ -(2 ^ 62) ≤ j ∧ j < 2 ^ 62 then some ((List.range (j - i).toNat).map fun (k : Nat) => D.int (i + k)) else none
  | .rng, [.int i, .int j, .int c] => if c = -1 ∧ -(2 ^ 62) ≤ i ∧ i < 2 ^ 62 ∧ -(2 ^ 62) ≤ j ∧ j < 2 ^ 62 then some ((List.range (i - j).toNat).map fun (k : Nat) => D.int (i + k * c)) else
      if c ≠ 0 ∧ c.natAbs < 1073741824 ∧ Builtin.Range.small i j c = true ∧ 0 ≤ Builtin.Range.rangeSize i j c then some ((List.range (Builtin.Range.rangeSize i j c).toNat).map fun (k : Nat) => D.int (i + k * c)) else none
  | .enm, [.lst _ ds] => if noOwn ds then some (ds.mapIdx fun k d => .tup [.int k, d]) else none
  | .zp, [.lst _ ds, .lst _ es] => if noOwn ds && noOwn es then some ((ds.zip es).map fun x => .tup [x.1, x.2]) else none
  | .rev, [.lst _ ds] => if noOwn ds then some ds.reverse else none
  | _, _ => none
def itemsN (k : ItK) (n : Nat) (ds : List D) : Option (List D) := if ds.length = n then itemsOf k ds else none
/-- the items of what a loop walks are shared -/
def prep : List Ar → En → Option (List Ar × En)
  | [], r => some ([], r)
  | .v d :: as, r => (prep as r).map fun x => (.v d.frz :: x.1, x.2)
  | .r i :: as, r => match slot r i with
    | some (.lst .own ds) => (prep as (r.set i (some (.lst .own (D.frzs ds))))).map fun x => (.r i :: x.1, x.2)
    | some (.exn _ _) => none
    | some _ => (prep as r).map fun x => (.r i :: x.1, x.2)
    | none => none
/-- what must stand as it stood -/
def chks : List Ar → En → List (Nat × Option D)
  | [], _ => []
  | .v _ :: as, r => chks as r
  | .r i :: as, r => (i, slot r i) :: chks as r
def still (r : En) (l : List (Nat × Option D)) : Bool := l.all fun x => decide (slot r x.1 = x.2)

inductive Fl where
  | next | brk | cont
  | ret (d : D)

def forL (chk : List (Nat × Option D)) (tg : Tg) (b : En → Out Fl) : List D → En → Out Fl
  | [], r => if still r chk then .ok .next r else .bad
  | d :: ds, r => if still r chk then (match asgT tg d r with
      | some r1 => match b r1 with
        | .ok .next r2 => forL chk tg b ds r2
        | .ok .cont r2 => forL chk tg b ds r2
        | .ok .brk r2 => .ok .next r2
        | .ok (.ret v) r2 => .ok (.ret v) r2
        | .exc c w r2 => .exc c w r2
        | .bad => .bad
      | none => .bad) else .bad
def whlL (t : En → Out Bool) (b : En → Out Fl) : Nat → En → Out Fl
  | 0, _ => .bad
  | n + 1, r => (t r).bind fun k r1 => if k then (match b r1 with
      | .ok .next r2 => whlL t b n r2
      | .ok .cont r2 => whlL t b n r2
      | .ok .brk r2 => .ok .next r2
      | .ok (.ret v) r2 => .ok (.ret v) r2
      | .exc c w r2 => .exc c w r2
      | .bad => .bad) else .ok .next r1
def wipeE (r : En) : List Nat → En
  | [] => r
  | v :: vs => (wipeE r vs).set v none
/-- a comprehension's turns: own slots are forgotten behind each turn -/
def compL (chk : List (Nat × Option D)) (own : List Nat) (tg : Tg) (t : En → Out Bool) (e : En → Out D) : List D → List D → En → Out (List D)
  | [], acc, r => if still r chk then .ok acc r else .bad
  | d :: ds, acc, r => if still r chk then (match asgT tg d r with
      | some r1 => match t r1 with
        | .ok true r2 => match e r2 with
          | .ok v r3 => if acc.length < 16777216 then compL chk own tg t e ds (acc ++ [v]) (wipeE r3 own) else .bad
          | _ => .bad
        | .ok false r2 => compL chk own tg t e ds acc (wipeE r2 own)
        | _ => .bad
      | none => .bad) else .bad

/-- what an expression does: as a value, as a test, as an argument -/
structure Ev where
  v : En → Out D
  t : En → Out Bool
  a : En → Out Ar
def Ev.mk1 (v : En → Out D) : Ev := ⟨v, fun r => (v r).bind fun d r => .of (truD d) r, fun r => (v r).bind fun d r => .ok (.v d) r⟩
def evTAnd : List Ev → En → Out Bool
  | [], r => .ok true r
  | e :: es, r => (e.t r).bind fun k r => if k then evTAnd es r else .ok false r
def evTOr : List Ev → En → Out Bool
  | [], r => .ok false r
  | e :: es, r => (e.t r).bind fun k r => if k then .ok true r else evTOr es r
def evAnd : List Ev → En → Out D
  | [], _ => .bad
  | [e], r => e.v r
  | e :: es, r => (e.v r).bind fun d r => match d with
      | .bl true => evAnd es r
      | .bl false => .ok (.bl false) r
      | _ => .bad
def evOr : List Ev → En → Out D
  | [], _ => .bad
  | [e], r => e.v r
  | e :: es, r => (e.v r).bind fun d r => match d with
      | .bl true => .ok (.bl true) r
      | .bl false => evOr es r
      | _ => .bad
def evEs : List Ev → En → Out (List D)
  | [], r => .ok [] r
  | e :: es, r => (e.v r).bind fun d r => (evEs es r).bind fun ds r => .ok (d :: ds) r
def evAs : List Ev → En → Out (List Ar)
  | [], r => .ok [] r
  | e :: es, r => (e.a r).bind fun a r => (evAs es r).bind fun as r => .ok (a :: as) r
def cmpA (op : CmpOp) (x y : Ar) (r : En) : Option Bool := (x.peek r).bind fun d => (y.peek r).bind fun e => cmpD op d e
def evC : Ar → List CmpOp → List Ev → En → Out Bool
  | x, [op], [e], r => (e.a r).bind fun y r => .of (cmpA op x y r) r
  | x, op :: ops, e :: es, r => (e.a r).bind fun y r => match cmpA op x y r with
    | some b => if b then evC y ops es r else .ok false r
    | none => .bad
  | _, _, _, _ => .bad

/-- arguments in the parameters' order; what lies behind the last is None -/
def pick {α : Type} (non : α) (perm : List Nat) (ds : List α) : List α := perm.filterMap fun i => (ds ++ [non])[i]?
section
variable (P : Pg) (F : Nat → List D → FOut)
mutual
def ev : E → Ev
  | .int i => .mk1 fun r => .ok (.int i) r
  | .bl b => .mk1 fun r => .ok (.bl b) r
  | .str s => .mk1 fun r => .ok (.str s) r
  | .non => .mk1 fun r => .ok .non r
  | .var i => ⟨fun r => readP r i [], fun r => .of ((slot r i).bind truD) r, fun r => if has r i then .ok (.r i) r else .bad⟩
  | .bin op a b => .mk1 fun r => ((ev a).v r).bind fun x r => ((ev b).v r).bind fun y r => .of (binD op x y) r
  | .neg a => .mk1 fun r => ((ev a).v r).bind fun x r => match x with
    | .int i => .ok (.int (-i)) r
    | _ => .bad
  | .notE a => { Ev.mk1 (fun r => ((ev a).v r).bind fun x r => match x with
    | .bl b => .ok (.bl (!b)) r
    | _ => .bad) with t := fun r => ((ev a).t r).bind fun k r => .ok (!k) r }
  | .andE es => { Ev.mk1 (evAnd (evs es)) with t := evTAnd (evs es) }
  | .orE es => { Ev.mk1 (evOr (evs es)) with t := evTOr (evs es) }
  | .ite c a b => { Ev.mk1 (fun r => ((ev c).t r).bind fun k r => if k then (ev a).v r else (ev b).v r) with t := fun r => ((ev c).t r).bind fun k r => if k then (ev a).t r else (ev b).t r }
  | .cmp a ops es => { Ev.mk1 (fun r => ((ev a).a r).bind fun x r => (evC x ops (evs es) r).bind fun b r => .ok (.bl b) r) with t := fun r => ((ev a).a r).bind fun x r => evC x ops (evs es) r }
  | .tup es => .mk1 fun r => (evEs (evs es) r).bind fun ds r => if fits ds then .ok (.tup (D.frzs ds)) r else .bad
  | .lst es => .mk1 fun r => (evEs (evs es) r).bind fun ds r => if fits ds then .ok (.lst .own ds) r else .bad
  | .idx a i => .mk1 fun r => match a with
    | .var x => if has r x then (((ev i).v r).bind fun k r => match k with
      | .int n => readP r x [.ix n]
      | _ => .bad) else .bad
    | a' => match path (.idx a' i) r with
      | some (x, p) => readP r x p
      | none => ((ev a).v r).bind fun d r => ((ev i).v r).bind fun k r => .of ((itemD d k).map D.frz) r
  | .slc _ _ _ => .mk1 fun _ => .bad
  | .attr a f => .mk1 fun r => match path (.attr a f) r with
    | some (x, p) => readP r x p
    | none => ((ev a).v r).bind fun d r => .of ((fldD d f).map D.frz) r
  | .what i => .mk1 fun r => match slot r i with
    | some (.exn _ w) => .ok w r
    | _ => .bad
  | .call f es => .mk1 fun r => (evAs (evs es) r).bind fun as r => callA F f as r
  | .callk f perm es => .mk1 fun r => (evEs (evs es) r).bind fun ds r => if noOwn ds then callA F f ((pick .non perm ds).map .v) r else .bad
  | .mkk c perm es => .mk1 fun r => (evEs (evs es) r).bind fun ds r => if noOwn ds then callC P F c ((pick .non perm ds).map .v) r else .bad
  | .mk c es => .mk1 fun r => (evAs (evs es) r).bind fun as r => callC P F c as r
  | .meth m a es => .mk1 fun r => ((ev a).a r).bind fun x r => match x.peek r with
    | some (.obj _ c _ _) => match methOf P m c with
      | some f => (evAs (evs es) r).bind fun as r => callA F f (x :: as) r
      | none => .bad
    | _ => .bad
  | .blt b es => .mk1 fun r => (evAs (evs es) r).bind fun as r => .of ((peekA r as).bind fun ds => bltD b ds) r
  | .lm m a es => .mk1 fun r => match a with
    | .var x => match slot r x with
      | some (.lst _ _) => (evEs (evs es) r).bind fun ds r => lmP m (slot r x) (r.set x none) x [] ds
      | _ => .bad
    | a' => match path a' r with
      | some (x, p) => match peekP r x p with
        | some (.lst _ _) => (evEs (evs es) (r.set x none)).bind fun ds r2 => if slot r2 x = none then lmP m (slot r x) r2 x p ds else .bad
        | _ => .bad
      | none => .bad
  | .isi a t => .mk1 fun r => ((ev a).a r).bind fun x r => .of (((x.peek r).bind fun d => isTy d t).map D.bl) r
  | .comp elt tg k src ifs own => .mk1 fun r => (evAs (evs src) r).bind fun as r => match prep as r with
    | some (as1, r1) => match (peekA r1 as1).bind (itemsN k src.length) with
      | some ds => if (stT tg).all own.contains then (match compL (chks as1 r1) own tg (evTAnd (evs ifs)) (ev elt).v ds [] (wipeE r1 own) with
        | .ok acc r2 => .ok (.lst .own acc) r2
        | _ => .bad) else .bad
      | none => .bad
    | none => .bad
def evs : List E → List Ev
  | [] => []
  | e :: es => ev e :: evs es
end
end

/-- no exception is held -/
def clean (r : En) : Bool := r.all fun x => match x with
  | some (.exn _ _) => false
  | _ => true
def LF : Nat := 1000000
def upOf (P : Pg) (c d : Nat) : Bool := match P.cls[c]? with
  | some cl => cl.up.contains d
  | none => false
mutual
def evS (P : Pg) (F : Nat → List D → FOut) : S → En → Out Fl
  | .pass, r => .ok .next r
  | .brk, r => .ok .brk r
  | .cont, r => .ok .cont r
  | .expr e, r => ((ev P F e).v r).bind fun _ r => .ok .next r
  | .asg t e, r => ((ev P F e).v r).bind fun d r => match asgT t d r with
    | some r1 => .ok .next r1
    | none => .bad
  | .setI a i e, r => ((ev P F e).v r).bind fun d r => match a with
    | .var x => if has r x then (((ev P F i).v r).bind fun k r => match k with
      | .int n => match (slot r x).bind (updP (fun _ => some d) · [.ix n]) with
        | some d' => .ok .next (r.set x (some d'))
        | none => .bad
      | _ => .bad) else .bad
    | _ => match path (.idx a i) r with
      | some (x, p) => match (slot r x).bind (updP (fun _ => some d) · p) with
        | some d' => .ok .next (r.set x (some d'))
        | none => .bad
      | none => .bad
  | .setA i f e, r => ((ev P F e).v r).bind fun d r => match slot r i with
    | some (.obj .own c ks ds) => if decide (ks.length < 1000) && decide (ks.length = ds.length) then (match idxOf f ks with
      | some j => .ok .next (r.set i (some (.obj .own c ks (ds.set j d))))
      | none => .ok .next (r.set i (some (.obj .own c (ks ++ [f]) (ds ++ [d]))))) else .bad
    | _ => .bad
  | .aug i op e, r => match slot r i with
    | some _ => ((ev P F e).v r).bind fun y r => match slot r i with
      | some x => match x, y with
        | .int a, .int b => match augOp op a b with
          | some z => .ok .next (r.set i (some (.int z)))
          | none => .bad
        | _, _ => .bad
      | none => .bad
    | none => .bad
  | .augI a i op e, r => match path (.idx a i) r with
    | some (x, p) => match peekP r x p with
      | some (.int old) => match (slot r x).bind (updP some · p) with
        | some _ => ((ev P F e).v (r.set x none)).bind fun y r2 => match y with
          | .int b => match augOp op old b with
            | some z => match (slot r x).bind (updP (fun _ => some (.int z)) · p) with
              | some d' => if slot r2 x = none ∧ x < r2.length then .ok .next (r2.set x (some d')) else .bad
              | none => .bad
            | none => .bad
          | _ => .bad
        | none => .bad
      | _ => .bad
    | none => .bad
  | .nev, _ => .bad
  | .ret e, r => ((ev P F e).v r).bind fun d r => .ok (.ret d) r
  | .retV i, r => match slot r i with
    | some (.exn _ _) => .bad
    | some d => .ok (.ret d) (r.set i none)
    | none => .bad
  | .ifS c a b, r => ((ev P F c).t r).bind fun k r => if k then evB P F a r else evB P F b r
  | .whl c b, r => whlL (ev P F c).t (fun r => evB P F b r) LF r
  | .forS tg k src b, r => (evAs (evs P F src) r).bind fun as r => match prep as r with
    | some (as1, r1) => match (peekA r1 as1).bind (itemsN k src.length) with
      | some ds => if (chks as1 r1).all fun x => !(stT tg ++ stB b).contains x.1 then forL (chks as1 r1) tg (fun r => evB P F b r) ds r1 else .bad
      | none => .bad
    | none => .bad
  | .raise c e, r => ((ev P F e).v r).bind fun w r => .exc c w.frz r
  | .tryS b hs, r => match evB P F b r with
    | .ok f r1 => .ok f r1
    | .exc c w r1 => if upOf P c c then evH P F c w hs r1 else .bad
    | .bad => .bad
def evB (P : Pg) (F : Nat → List D → FOut) : List S → En → Out Fl
  | [], r => .ok .next r
  | s :: ss, r => match evS P F s r with
    | .ok .next r1 => evB P F ss r1
    | x => x
def evH (P : Pg) (F : Nat → List D → FOut) (c : Nat) (w : D) : List Hd → En → Out Fl
  | [], r => .exc c w r
  | h :: hs, r => match evH1 P F c w h r with
    | some o => o
    | none => evH P F c w hs r
/-- the suite of a clause that fits -/
def evH1 (P : Pg) (F : Nat → List D → FOut) (c : Nat) (w : D) : Hd → En → Option (Out Fl)
  | .mk d i b, r => if upOf P c d then some (match i with
      | none => (match evB P F b r with
        | .ok f r1 => if clean r1 then .ok f r1 else .bad
        | _ => .bad)
      | some j => if j < r.length then (match evB P F b (r.set j (some (.exn c w))) with
        | .ok f r1 => if clean (r1.set j none) then .ok f (r1.set j none) else .bad
        | _ => .bad) else .bad) else none
end

/-- a def's parameters behind it: none where it has stored to one -/
def parsOf (asg : List Nat) (np : Nat) (r : En) : En := ((r ++ List.replicate np none).take np).mapIdx fun i x => if asg.contains i then none else x
def run (P : Pg) : Nat → Nat → List D → FOut
  | 0, _, _ => .bad
  | k + 1, f, ds => match P.fns[f]? with
    | some fn => if ds.length = fn.np then (match evB P (run P k) fn.body (ds.map some ++ List.replicate (fn.nl - fn.np) none) with
      | .ok .next r => .ok .non (parsOf fn.asg fn.np r)
      | .ok (.ret d) r => .ok d (parsOf fn.asg fn.np r)
      | .exc c w r => .exc c w (parsOf fn.asg fn.np r)
      | _ => .bad) else .bad
    | none => .bad
end Mv

namespace Mv
open PySem

/-- what a translation knows -/
structure Tc where
  sc : Scope
  N : List Str
  np : Nat
  fns : List Str
  cls : List Str
  /-- the ordinary classes -/
  oc : List Nat
  cons : List (Str × Int)
  att : List Str
  mts : List Str
  /-- built-in names that the module leaves as they are -/
  blt : List Str
  /-- whether what is raised is caught -/
  exc : Bool
  /-- the error classes -/
  ec : List Nat := []
  /-- how calls with keywords bind: the callee, the number of other values, the keywords, the parameters' order -/
  kw : List (Str × Nat × List Str × List Nat) := []
  /-- classes that are made by keywords, or with defaults -/
  okw : List Nat := []
  /-- defs that take keywords or defaults always -/
  nb : List Nat := []

def ixOf (x : Str) : List Str → Option Nat
  | [] => none
  | y :: r => if y = x then some 0 else (ixOf x r).map (· + 1)
def vis (sc : Scope) (x : Str) : Bool := match sc.names.lookup x with
  | some .local => true
  | some .cell => true
  | some .free => true
  | _ => false
def loc (sc : Scope) (x : Str) : Bool := match sc.names.lookup x with
  | some .local => true
  | some .cell => true
  | _ => false
def glo (sc : Scope) (x : Str) : Bool := match sc.names.lookup x with
  | some .globalImplicit => true
  | _ => false
def okName (x : Str) : Bool := decide (x ≠ "__debug__") && decide (x ≠ "__classdict__") && decide (x ≠ "__name__")
def kwOf (T : Tc) (f : Str) (n : Nat) (ks : List Str) : Option (List Nat) := T.kw.findSome? fun q => if q.1 = f ∧ q.2.1 = n ∧ q.2.2.1 = ks then some q.2.2.2 else none
/-- a built-in that no name of the module's hides -/
def isB (T : Tc) (x : Str) : Bool := glo T.sc x && okName x && T.blt.contains x
def btTab : List (Str × Bt) := [(PySem.Str.ofString "len", .len), (PySem.Str.ofString "int", .int), (PySem.Str.ofString "bool", .bool), (PySem.Str.ofString "tuple", .tuple), (PySem.Str.ofString "list", .list), (PySem.Str.ofString "sum", .sum), (PySem.Str.ofString "max", .max), (PySem.Str.ofString "min", .min), (PySem.Str.ofString "sorted", .sorted), (PySem.Str.ofString "abs", .abs), (PySem.Str.ofString "all", .all), (PySem.Str.ofString "any", .any)]
def btOf (x : Str) : Option Bt := btTab.lookup x
def tyTab : List (Str × Ty) := [(PySem.Str.ofString "int", .int), (PySem.Str.ofString "bool", .bool), (PySem.Str.ofString "str", .str), (PySem.Str.ofString "tuple", .tuple), (PySem.Str.ofString "list", .list)]
def tyOf (x : Str) : Option Ty := tyTab.lookup x
def lmTab : List (Str × Lm) := [(PySem.Str.ofString "append", .append), (PySem.Str.ofString "pop", .pop), (PySem.Str.ofString "extend", .extend), (PySem.Str.ofString "reverse", .reverse)]
def lmOf (x : Str) : Option Lm := lmTab.lookup x
def itTab : List (Str × ItK) := [(PySem.Str.ofString "range", .rng), (PySem.Str.ofString "enumerate", .enm), (PySem.Str.ofString "zip", .zp), (PySem.Str.ofString "reversed", .rev)]
def itOf (x : Str) : Option ItK := itTab.lookup x
def notSup : Expr → Bool
  | .Call (.Name _ _) [] [] _ => false
  | _ => true
/-- the places of a comprehension's own names -/
def ownOf (N : List Str) : List (Str × NameKind) → List (Str × Nat)
  | [] => []
  | (x, k) :: r => if k = .local ∨ k = .cell then (match ixOf x N with
    | some i => (x, i) :: ownOf N r
    | none => ownOf N r) else ownOf N r
mutual
def trTg : Nat → Tc → Expr → Option Tg
  | 0, _, _ => none
  | n + 1, T, e => match e with
    | .Name x _ => if loc T.sc x then (ixOf x T.N).map .nm else none
    | .Tuple es _ _ => (trTgs n T es).map .tp
    | _ => none
def trTgs : Nat → Tc → List Expr → Option (List Tg)
  | 0, _, _ => none
  | _ + 1, _, [] => some []
  | n + 1, T, e :: es => (trTg n T e).bind fun a => (trTgs n T es).map fun as => a :: as
end
def isTupE : Expr → Bool
  | .Tuple _ _ _ => true
  | _ => false
def itC (k : ItK) (tg : Expr) (n : Nat) : Bool := match k with
  | .rng => decide (1 ≤ n ∧ n ≤ 3)
  | .enm => decide (n = 1) && isTupE tg
  | .zp => decide (n = 2) && isTupE tg
  | .rev => decide (n = 1)
  | .val => false
mutual
def trE : Nat → Tc → Expr → Option E
  | 0, _, _ => none
  | n + 1, T, e => match e with
    | .Constant c _ _ => match c with
      | .int i => some (.int i)
      | .bool b => some (.bl b)
      | .none => some .non
      | .str s => some (.str s)
      | _ => none
    | .Name x _ => if okName x then (if vis T.sc x then (ixOf x T.N).map .var else if glo T.sc x then (T.cons.lookup x).map .int else none) else none
    | .BinOp a op b _ => (trE n T a).bind fun a => (trE n T b).map fun b => .bin op a b
    | .UnaryOp .USub a _ => (trE n T a).map .neg
    | .UnaryOp .Not a _ => (trE n T a).map .notE
    | .BoolOp .And es _ => if es.isEmpty then none else (trEs n T es).map .andE
    | .BoolOp .Or es _ => if es.isEmpty then none else (trEs n T es).map .orE
    | .IfExp c a b _ => (trE n T c).bind fun c => (trE n T a).bind fun a => (trE n T b).map fun b => .ite c a b
    | .Compare a ops es _ => if es.isEmpty || ops.length != es.length then none else (trE n T a).bind fun a => (trEs n T es).map fun es => .cmp a ops es
    | .Tuple es _ _ => (trEs n T es).map .tup
    | .List es _ => (trEs n T es).map .lst
    | .Subscript a i _ => (trE n T a).bind fun a => (trE n T i).map fun i => .idx a i
    | .Attribute a f _ => if notSup a then (ixOf f T.att).bind fun f => (trE n T a).map fun a => .attr a f else none
    | .Call (.Name f _) es [] _ => if glo T.sc f && okName f then trC n T f es else none
    | .Call (.Name f _) es (kw :: kws) _ => if glo T.sc f && okName f then (trEs n T es).bind fun as => (trKs n T (kw :: kws)).bind fun kb => (kwOf T f es.length kb.1).bind fun perm => match ixOf f T.fns with
        | some j => some (.callk j perm (as ++ kb.2))
        | none => (ixOf f T.cls).bind fun j => if T.okw.contains j then some (.mkk j perm (as ++ kb.2)) else none
      else none
    | .Call (.Attribute a m ap) es [] cp => if notSup a && ap.endLine == cp.line && decide (es.length < 29) then
        (match ixOf m T.mts with
        | some j => (trE n T a).bind fun a => (trEs n T es).map fun es => .meth j a es
        | none => (lmOf m).bind fun l => (trE n T a).bind fun a => (trEs n T es).map fun es => .lm l a es) else none
    | .ListComp elt [⟨tg, iter, ifs, 0⟩] scope _ => trLc n T elt tg iter ifs scope
    | _ => none
/-- a call of a name -/
def trC : Nat → Tc → Str → List Expr → Option E
  | 0, _, _, _ => none
  | n + 1, T, f, es => match ixOf f T.fns with
    | some j => (trEs n T es).map fun es => .call j es
    | none => match ixOf f T.cls with
      | some j => if T.oc.contains j then (trEs n T es).map fun es => .mk j es else if T.okw.contains j then (kwOf T f es.length []).bind fun perm => (trEs n T es).map fun as => .mkk j perm as else none
      | none => if !T.blt.contains f then none else if f = "isinstance" then (match es with
          | [a, .Name t _] => if isB T t then (tyOf t).bind fun t => (trE n T a).map fun a => .isi a t else none
          | _ => none) else if es.isEmpty then none else (btOf f).bind fun b => (trEs n T es).map fun es => .blt b es
def trEs : Nat → Tc → List Expr → Option (List E)
  | 0, _, _ => none
  | _ + 1, _, [] => some []
  | n + 1, T, e :: es => (trE n T e).bind fun a => (trEs n T es).map fun as => a :: as
def trKs : Nat → Tc → List Keyword → Option (List Str × List E)
  | 0, _, _ => none
  | _ + 1, _, [] => some ([], [])
  | n + 1, T, ⟨some nm, e, _⟩ :: kws => (trE n T e).bind fun a => (trKs n T kws).map fun x => (nm :: x.1, a :: x.2)
  | _ + 1, _, _ => none
def trIt : Nat → Tc → Expr → Expr → Option (ItK × List E)
  | 0, _, _, _ => none
  | n + 1, T, tg, e => match e with
    | .Call (.Name f _) es [] _ => (match (if isB T f then itOf f else none) with
        | some k => if itC k tg es.length then (trEs n T es).map fun es => (k, es) else none
        | none => (trE n T e).map fun a => (.val, [a]))
    | _ => (trE n T e).map fun a => (.val, [a])
def trLc : Nat → Tc → Expr → Expr → Expr → List Expr → Scope → Option E
  | 0, _, _, _, _, _, _ => none
  | n + 1, T, elt, tg, iter, ifs, scope => if L2.blkC T.N T.sc scope (ownOf T.N scope.names) && decide (ifs.length ≤ 1) then
      (trIt n T tg iter).bind fun ki => (trTg n { T with sc := scope } tg).bind fun t =>
        if (stT t).all fun i => ((ownOf T.N scope.names).map (·.2)).contains i then
          (trE n { T with sc := L2.relS scope T.sc } elt).bind fun elt => (trEs n { T with sc := L2.relS scope T.sc } ifs).map fun ifs => .comp elt t ki.1 ki.2 ifs ((ownOf T.N scope.names).map (·.2))
        else none
    else none
end
/-- the value is no comprehension -/
def ncm : Expr → Bool
  | .ListComp _ _ _ _ => false
  | .SetComp _ _ _ _ => false
  | .DictComp _ _ _ _ _ => false
  | _ => true
/-- names that are stored from the right -/
def parC (T : Tc) : List Expr → List Expr → Bool
  | [.Name x p, .Name y q], [a, b] => (match T.sc.kind with | .function => true | _ => false) && decide (T.sc.names.lookup x = some .local) && decide (T.sc.names.lookup y = some .local) && (q.line == p.line) && decide (x ≠ y) && !([a, b].all (foldedForSure 8)) && !([a, b].all (constantsAlone 8))
  | [.Name x p, .Name y q, .Name z o], [a, b, c] => (match T.sc.kind with | .function => true | _ => false) && decide (T.sc.names.lookup x = some .local) && decide (T.sc.names.lookup y = some .local) && decide (T.sc.names.lookup z = some .local) && (q.line == p.line) && (o.line == p.line) && decide (x ≠ y) && decide (x ≠ z) && decide (y ≠ z) && !([a, b, c].all (foldedForSure 8)) && !([a, b, c].all (constantsAlone 8))
  | _, _ => false
/-- .. by places -/
def parT (T : Tc) : List Expr → Option (List Tg)
  | [] => some []
  | .Name x _ :: r => (ixOf x T.N).bind fun i => (parT T r).map fun ts => .nm i :: ts
  | _ :: _ => none
def isTup2 : Expr → Bool
  | .Tuple _ _ _ => true
  | _ => false
/-- an error class -/
def ecOf (T : Tc) (x : Str) : Option Nat := if glo T.sc x && okName x then (ixOf x T.cls).bind fun c => if T.ec.contains c then some c else none else none
mutual
/-- what an except suite says: displays of constants and of the error's what -/
def trX : Nat → Tc → Option (Str × Nat) → Expr → Option E
  | 0, _, _, _ => none
  | n + 1, T, q, e => match e with
    | .Constant c _ _ => match c with
      | .int i => some (.int i)
      | .bool b => some (.bl b)
      | .none => some .non
      | .str s => some (.str s)
      | _ => none
    | .UnaryOp .USub (.Constant (.int i) _ _) _ => some (.neg (.int i))
    | .Attribute (.Name x _) f _ => match q with
      | some (y, i) => if decide (x = y) && vis T.sc x && okName x && decide (f = "what") then some (.what i) else none
      | none => none
    | .Tuple es _ _ => (trXs n T q es).map .tup
    | .List es _ => (trXs n T q es).map .lst
    | _ => none
def trXs : Nat → Tc → Option (Str × Nat) → List Expr → Option (List E)
  | 0, _, _, _ => none
  | _ + 1, _, _, [] => some []
  | n + 1, T, q, e :: es => (trX n T q e).bind fun a => (trXs n T q es).map fun as => a :: as
end
def trXS (n : Nat) (T : Tc) (q : Option (Str × Nat)) : Stmt → Option S
  | .Return none _ => some (.ret .non)
  | .Return (some e) _ => (trX n T q e).map .ret
  | .Assign [.Name y _] e _ => if ncm e && loc T.sc y then (ixOf y T.N).bind fun i => (trX n T q e).map fun a => .asg (.nm i) a else none
  | .Pass _ => some .pass
  | _ => none
def trXB (n : Nat) (T : Tc) (q : Option (Str × Nat)) : List Stmt → Option (List S)
  | [] => some []
  | s :: ss => (trXS n T q s).bind fun a => (trXB n T q ss).map fun as => a :: as
def trH (n : Nat) (T : Tc) : ExceptHandler → Option Hd
  | .ExceptHandler (some (.Name x _)) none (b :: bs) _ => (ecOf T x).bind fun c => (trXB n T none (b :: bs)).map fun as => .mk c none as
  | .ExceptHandler (some (.Name x _)) (some y) (b :: bs) _ => if T.sc.names.lookup y = some .local then (ecOf T x).bind fun c => (ixOf y T.N).bind fun i => (trXB n T (some (y, i)) (b :: bs)).map fun as => .mk c (some i) as else none
  | _ => none
def trHs (n : Nat) (T : Tc) : List ExceptHandler → Option (List Hd)
  | [] => some []
  | h :: hs => (trH n T h).bind fun a => (trHs n T hs).map fun as => a :: as
mutual
def trS : Nat → Tc → Stmt → Option S
  | 0, _, _ => none
  | n + 1, T, st => match st with
    | .Pass _ => some .pass
    | .Break _ => some .brk
    | .Continue _ => some .cont
    | .Expr e _ => match e with
      | .Constant (.str _) _ _ => some .pass
      | e => if ncm e then (trE n T e).map .expr else none
    | .Return none _ => some (.ret .non)
    | .Return (some e) _ => match e with
      | .Name x p => (trE n T (.Name x p)).map fun e => match e with
        | .var i => if T.np ≤ i && vis T.sc x && decide (ixOf x T.N = some i) then .retV i else .ret (.var i)
        | e => .ret e
      | e => (trE n T e).map .ret
    | .Assign [tg] e _ => match tg with
      | .Name y _ => match e with
        | .ListComp _ _ _ _ => if T.sc.names.lookup y = some .local then (trTg n T tg).bind fun t => (trE n T e).map fun e => .asg t e else none
        | e => if ncm e then (trTg n T tg).bind fun t => (trE n T e).map fun e => .asg t e else none
      | .Tuple ts _ _ => match e with
        | .Tuple vs _ _ => if parC T ts vs then (parT T ts).bind fun t => (trEs n T vs).map fun as => .asg (.tp t) (.tup as) else none
        | e => if isTup2 e then none else if ncm e then (trTg n T tg).bind fun t => (trE n T e).map fun e => .asg t e else none
      | .Subscript a i _ => (trE n T a).bind fun a => (trE n T i).bind fun i => (trE n T e).map fun e => .setI a i e
      | .Attribute (.Name x p) f _ => if okName x && vis T.sc x then (ixOf f T.att).bind fun f => (ixOf x T.N).bind fun i => (trE n T e).map fun e => .setA i f e else none
      | _ => none
    | .AugAssign (.Name x _) op e _ => if loc T.sc x then (ixOf x T.N).bind fun i => (trE n T e).map fun e => .aug i op e else none
    | .AugAssign (.Subscript a i _) op e _ => (trE n T a).bind fun a => (trE n T i).bind fun i => (trE n T e).map fun e => .augI a i op e
    | .If c a b _ => (trE n T c).bind fun c => (trB n T a).bind fun a => (trB n T b).map fun b => .ifS c a b
    | .While c b [] _ => (trE n T c).bind fun c => (trB n T b).map fun b => .whl c b
    | .For tg it b [] _ => (trTg n T tg).bind fun t => (trIt n T tg it).bind fun ki => (trB n T b).map fun b => .forS t ki.1 ki.2 b
    | .Raise (some (.Call (.Name x _) [a] [] _)) none _ => if T.exc then (ecOf T x).bind fun c => (trE n T a).map fun a => .raise c a else some .nev
    | .Raise _ _ _ => if T.exc then none else some .nev
    | .Try b (h :: hs) [] [] _ => if T.exc then (trB n T b).bind fun b => (trHs n T (h :: hs)).map fun hs => .tryS b hs else none
    | _ => none
def trB : Nat → Tc → List Stmt → Option (List S)
  | 0, _, _ => none
  | _ + 1, _, [] => some []
  | n + 1, T, s :: ss => (trS n T s).bind fun a => (trB n T ss).map fun as => a :: as
end
end Mv

namespace Mv
open PySem L2

/-- what is fixed for the whole text -/
structure Kc where
  K : PySem.W.Frag
  cA : Nat → Addr
  aN : Nat → Str
  n : Nat
  inj : ∀ a b, a < n → b < n → aN a = aN b → a = b
  /-- the ordinary classes -/
  oc : Nat → Prop
  cls : ∀ c, oc c → Cls K (cA c) ∧ ∀ f, f < n → NoAttr K (cA c) (aN f)
variable {k : Kc} {Z Z' Z1 Z2 : Addr → Prop} {H H' H1 H2 : Hp}

def SL (k : Kc) (Z : Addr → Prop) (H : Hp) (a : Addr) (xs : List V) : Prop := (Z a ∧ Rd H a (.lst xs)) ∨
    ∃ (o : Obj) (its : Array Value) (n : Nat), k.K.lookup a = some o ∧ o.cls = .type "list" ∧ o.dict = none ∧ o.data = .seq its n ∧ its.size ≤ sizeLine ∧ Vals xs its.toList
def ST (k : Kc) (Z : Addr → Prop) (H : Hp) (a : Addr) (xs : List V) : Prop := (Z a ∧ Rd H a (.tup xs)) ∨
    ∃ (o : Obj) (its : Array Value) (n : Nat), k.K.lookup a = some o ∧ o.cls = .type "tuple" ∧ o.data = .seq its n ∧ its.size ≤ sizeLine ∧ Vals xs its.toList
theorem SL.sq {a : Addr} {xs : List V} (h : SL k Z H a xs) : SqL k.K H a xs := h.imp And.right id
theorem ST.sq {a : Addr} {xs : List V} (h : ST k Z H a xs) : SqT k.K H a xs := h.imp And.right id

mutual
/-- d lies at v; the owned lists and instances of it are at the addresses listed -/
inductive RD (k : Kc) (Z : Addr → Prop) (H : Hp) : D → V → List Addr → Prop
  | non : RD k Z H .non .non []
  | bl (b : Bool) : RD k Z H (.bl b) (.bl b) []
  | int (i : Int) : RD k Z H (.int i) (.int i) []
  | str (s : Str) : RD k Z H (.str s) (.str s) []
  | tup {a : Addr} {vs : List V} {ds : List D} : ST k Z H a vs → RDs k Z H ds vs [] → RD k Z H (.tup ds) (.ref a) []
  | own {a : Addr} {vs : List V} {ds : List D} {os : List Addr} : H a = some (.lst vs) → RDs k Z H ds vs os → RD k Z H (.lst .own ds) (.ref a) (a :: os)
  | shr {a : Addr} {vs : List V} {ds : List D} : Z a → H a = some (.lst vs) → RDs k Z H ds vs [] → RD k Z H (.lst .shr ds) (.ref a) []
  | giv {a : Addr} {vs : List V} {ds : List D} : SL k Z H a vs → RDs k Z H ds vs [] → RD k Z H (.lst .giv ds) (.ref a) []
  | oown {a dx : Addr} {c : Nat} {fs : List (Str × V)} {ks : List Nat} {ds : List D} {os : List Addr} : H a = some (.ins (k.cA c) dx fs) → (fs.map (·.1) = ks.map k.aN ∧ ∀ x ∈ ks, x < k.n) ∧ k.oc c → RDs k Z H ds (fs.map (·.2)) os → RD k Z H (.obj .own c ks ds) (.ref a) (a :: os)
  | oshr {a dx : Addr} {c : Nat} {fs : List (Str × V)} {ks : List Nat} {ds : List D} : Z a → H a = some (.ins (k.cA c) dx fs) → (fs.map (·.1) = ks.map k.aN ∧ ∀ x ∈ ks, x < k.n) ∧ k.oc c → RDs k Z H ds (fs.map (·.2)) [] → RD k Z H (.obj .shr c ks ds) (.ref a) []
inductive RDs (k : Kc) (Z : Addr → Prop) (H : Hp) : List D → List V → List Addr → Prop
  | nil : RDs k Z H [] [] []
  | cons {d : D} {ds : List D} {v : V} {vs : List V} {o os : List Addr} : RD k Z H d v o → RDs k Z H ds vs os → RDs k Z H (d :: ds) (v :: vs) (o ++ os)
end

theorem SL.mono {a : Addr} {xs : List V} (hH : ∀ a o, H a = some o → Z a → H' a = some o) (hZ : ∀ a, Z a → Z' a) (h : SL k Z H a xs) : SL k Z' H' a xs := by
  rcases h with ⟨z, h⟩ | h
  · refine .inl ⟨hZ a z, ?_⟩
    rcases h with h | ⟨o, h⟩
    · exact .inl (hH _ _ h z)
    · exact .inr ⟨o, hH _ _ h z⟩
  · exact .inr h
theorem ST.mono {a : Addr} {xs : List V} (hH : ∀ a o, H a = some o → Z a → H' a = some o) (hZ : ∀ a, Z a → Z' a) (h : ST k Z H a xs) : ST k Z' H' a xs := by
  rcases h with ⟨z, h⟩ | h
  · refine .inl ⟨hZ a z, ?_⟩
    rcases h with h | ⟨o, h⟩
    · exact .inl (hH _ _ h z)
    · exact .inr ⟨o, hH _ _ h z⟩
  · exact .inr h
mutual
theorem RD.mono (hZ : ∀ a, Z a → Z' a) : ∀ (d : D) (v : V) (os : List Addr), (∀ a o, H a = some o → (Z a ∨ a ∈ os) → H' a = some o) → RD k Z H d v os → RD k Z' H' d v os
  | .non, _, _, _, h => by cases h; exact .non
  | .bl _, _, _, _, h => by cases h; exact .bl _
  | .int _, _, _, _, h => by cases h; exact .int _
  | .str _, _, _, _, h => by cases h; exact .str _
  | .tup ds, _, _, hH, h => by
    cases h with
    | tup h1 h2 => exact .tup (h1.mono (fun a o e z => hH a o e (.inl z)) hZ) (RDs.mono hZ ds _ _ (fun a o e z => hH a o e (z.elim .inl fun m => by cases m)) h2)
  | .lst _ ds, _, _, hH, h => by
    cases h with
    | own h1 h2 => exact .own (hH _ _ h1 (.inr List.mem_cons_self)) (RDs.mono hZ ds _ _ (fun a o e z => hH a o e (z.imp id (List.mem_cons_of_mem _))) h2)
    | shr z h1 h2 => exact .shr (hZ _ z) (hH _ _ h1 (.inl z)) (RDs.mono hZ ds _ _ (fun a o e z => hH a o e (z.elim .inl fun m => by cases m)) h2)
    | giv h1 h2 => exact .giv (h1.mono (fun a o e z => hH a o e (.inl z)) hZ) (RDs.mono hZ ds _ _ (fun a o e z => hH a o e (z.elim .inl fun m => by cases m)) h2)
  | .obj _ _ _ ds, _, _, hH, h => by
    cases h with
    | oown h1 e h2 => exact .oown (hH _ _ h1 (.inr List.mem_cons_self)) e (RDs.mono hZ ds _ _ (fun a o e z => hH a o e (z.imp id (List.mem_cons_of_mem _))) h2)
    | oshr z h1 e h2 => exact .oshr (hZ _ z) (hH _ _ h1 (.inl z)) e (RDs.mono hZ ds _ _ (fun a o e z => hH a o e (z.elim .inl fun m => by cases m)) h2)
  | .exn _ _, _, _, _, h => by cases h
theorem RDs.mono (hZ : ∀ a, Z a → Z' a) : ∀ (ds : List D) (vs : List V) (os : List Addr), (∀ a o, H a = some o → (Z a ∨ a ∈ os) → H' a = some o) → RDs k Z H ds vs os → RDs k Z' H' ds vs os
  | [], _, _, _, h => by cases h; exact .nil
  | d :: ds, _, _, hH, h => by
    cases h with
    | cons h1 h2 => exact .cons (RD.mono hZ d _ _ (fun a o e z => hH a o e (z.imp id (List.mem_append_left _))) h1) (RDs.mono hZ ds _ _ (fun a o e z => hH a o e (z.imp id (List.mem_append_right _))) h2)
end
mutual
theorem RD.dom : ∀ (d : D) (v : V) (os : List Addr), RD k Z H d v os → ∀ a ∈ os, ∃ o, H a = some o
  | .lst _ ds, _, _, h, a, ha => by
    cases h with
    | own h1 h2 => exact (List.mem_cons.mp ha).elim (fun e => ⟨_, e ▸ h1⟩) fun m => RDs.dom ds _ _ h2 a m
    | shr _ _ _ => cases ha
    | giv _ _ => cases ha
  | .obj _ _ _ ds, _, _, h, a, ha => by
    cases h with
    | oown h1 e h2 => exact (List.mem_cons.mp ha).elim (fun e => ⟨_, e ▸ h1⟩) fun m => RDs.dom ds _ _ h2 a m
    | oshr _ _ _ _ => cases ha
  | .non, _, _, h, _, ha => by cases h; cases ha
  | .bl _, _, _, h, _, ha => by cases h; cases ha
  | .int _, _, _, h, _, ha => by cases h; cases ha
  | .str _, _, _, h, _, ha => by cases h; cases ha
  | .tup _, _, _, h, _, ha => by cases h; cases ha
  | .exn _ _, _, _, h, _, _ => by cases h
theorem RDs.dom : ∀ (ds : List D) (vs : List V) (os : List Addr), RDs k Z H ds vs os → ∀ a ∈ os, ∃ o, H a = some o
  | [], _, _, h, a, ha => by cases h; cases ha
  | d :: ds, _, _, h, a, ha => by
    cases h with
    | cons h1 h2 => exact (List.mem_append.mp ha).elim (RD.dom d _ _ h1 a) (RDs.dom ds _ _ h2 a)
end
theorem RDs.length {ds : List D} {vs : List V} {os : List Addr} (h : RDs k Z H ds vs os) : vs.length = ds.length := by
  induction ds generalizing vs os with
  | nil => cases h; rfl
  | cons d ds ih =>
    cases h with
    | cons _ h2 => simp [ih h2]
theorem RD.noOwn {d : D} {v : V} {os : List Addr} (h : RD k Z H d v os) (n : d.owned = false) : os = [] := by
  cases h <;> first | rfl | cases n
theorem RDs.noOwn {ds : List D} {vs : List V} {os : List Addr} (h : RDs k Z H ds vs os) (n : Mv.noOwn ds = true) : os = [] := by
  induction ds generalizing vs os with
  | nil => cases h; rfl
  | cons d ds ih =>
    cases h with
    | cons h1 h2 =>
      simp only [Mv.noOwn, List.all_cons, Bool.and_eq_true, Bool.not_eq_true'] at n
      rw [h1.noOwn n.1, ih h2 n.2]
      rfl
/-- the item in the j-th place -/
theorem RDs.get {ds : List D} {vs : List V} {os : List Addr} {j : Nat} {d : D} (h : RDs k Z H ds vs os) (e : ds[j]? = some d) :
    ∃ v A o B, vs[j]? = some v ∧ os = A ++ (o ++ B) ∧ RD k Z H d v o ∧ ∀ d' v' o', RD k Z H d' v' o' → RDs k Z H (ds.set j d') (vs.set j v') (A ++ (o' ++ B)) := by
  induction ds generalizing vs os j with
  | nil => simp at e
  | cons x ds ih =>
    cases h with
    | @cons _ _ v vs o os h1 h2 =>
      cases j with
      | zero =>
        have e : x = d := Option.some.inj e
        subst e
        exact ⟨v, [], o, os, rfl, rfl, h1, fun d' v' o' r => show RDs k Z H (d' :: ds) (v' :: vs) (o' ++ os) from .cons r h2⟩
      | succ j =>
        obtain ⟨v', A, o', B, e1, e2, e3, e4⟩ := ih h2 e
        subst e2
        exact ⟨v', o ++ A, o', B, e1, by rw [List.append_assoc], e3, fun d' w o2 r => by rw [List.append_assoc]; exact .cons h1 (e4 d' w o2 r)⟩
theorem RDs.app {ds es : List D} {vs us : List V} {os ps : List Addr} (h : RDs k Z H ds vs os) (g : RDs k Z H es us ps) : RDs k Z H (ds ++ es) (vs ++ us) (os ++ ps) := by
  induction ds generalizing vs os with
  | nil => cases h; exact g
  | cons d ds ih =>
    cases h with
    | cons h1 h2 => rw [List.append_assoc]; exact .cons h1 (ih h2)
theorem RDs.split {ds es : List D} {us : List V} {os : List Addr} (h : RDs k Z H (ds ++ es) us os) : ∃ u1 u2 o1 o2, us = u1 ++ u2 ∧ os = o1 ++ o2 ∧ RDs k Z H ds u1 o1 ∧ RDs k Z H es u2 o2 := by
  induction ds generalizing us os with
  | nil => exact ⟨[], us, [], os, rfl, rfl, .nil, h⟩
  | cons d ds ih =>
    cases h with
    | cons h1 h2 =>
      obtain ⟨u1, u2, o1, o2, rfl, rfl, g1, g2⟩ := ih h2
      exact ⟨_ :: u1, u2, _ ++ o1, o2, rfl, by rw [List.append_assoc], .cons h1 g1, g2⟩

-- sharing: the owned places join Z
mutual
theorem RD.frz (hZ : ∀ a, Z a → Z' a) : ∀ (d : D) (v : V) (os : List Addr), (∀ a ∈ os, Z' a) → RD k Z H d v os → RD k Z' H d.frz v []
  | .non, _, _, _, h => by cases h; exact .non
  | .bl _, _, _, _, h => by cases h; exact .bl _
  | .int _, _, _, _, h => by cases h; exact .int _
  | .str _, _, _, _, h => by cases h; exact .str _
  | .tup ds, _, _, _, h => by
    cases h with
    | tup h1 h2 => exact .tup (h1.mono (fun _ _ e _ => e) hZ) (RDs.mono hZ ds _ _ (fun _ _ e _ => e) h2)
  | .lst _ ds, _, _, hm, h => by
    cases h with
    | own h1 h2 => exact .shr (hm _ List.mem_cons_self) h1 (RDs.frz hZ ds _ _ (fun a m => hm a (List.mem_cons_of_mem _ m)) h2)
    | shr z h1 h2 => exact .shr (hZ _ z) h1 (RDs.frz hZ ds _ _ hm h2)
    | giv h1 h2 => exact .giv (h1.mono (fun _ _ e _ => e) hZ) (RDs.frz hZ ds _ _ hm h2)
  | .obj _ _ _ ds, _, _, hm, h => by
    cases h with
    | oown h1 e h2 => exact .oshr (hm _ List.mem_cons_self) h1 e (RDs.frz hZ ds _ _ (fun a m => hm a (List.mem_cons_of_mem _ m)) h2)
    | oshr z h1 e h2 => exact .oshr (hZ _ z) h1 e (RDs.frz hZ ds _ _ hm h2)
  | .exn _ _, _, _, _, h => by cases h
theorem RDs.frz (hZ : ∀ a, Z a → Z' a) : ∀ (ds : List D) (vs : List V) (os : List Addr), (∀ a ∈ os, Z' a) → RDs k Z H ds vs os → RDs k Z' H (D.frzs ds) vs []
  | [], _, _, _, h => by cases h; exact .nil
  | d :: ds, _, _, hm, h => by
    cases h with
    | cons h1 h2 => exact .cons (o := []) (RD.frz hZ d _ _ (fun a m => hm a (List.mem_append_left _ m)) h1) (RDs.frz hZ ds _ _ (fun a m => hm a (List.mem_append_right _ m)) h2)
end

mutual
theorem RD.frz_id : ∀ (d : D) (v : V), RD k Z H d v [] → d.frz = d
  | .non, _, _ => rfl
  | .bl _, _, _ => rfl
  | .int _, _, _ => rfl
  | .str _, _, _ => rfl
  | .tup _, _, _ => rfl
  | .lst _ ds, _, h => by
    cases h with
    | shr _ _ h2 => rw [D.frz_lst, RDs.frz_id ds _ h2]; rfl
    | giv _ h2 => rw [D.frz_lst, RDs.frz_id ds _ h2]; rfl
  | .obj _ _ _ ds, _, h => by
    cases h with
    | oshr _ _ _ h2 => rw [D.frz_obj, RDs.frz_id ds _ h2]; rfl
  | .exn _ _, _, h => by cases h
theorem RDs.frz_id : ∀ (ds : List D) (vs : List V), RDs k Z H ds vs [] → D.frzs ds = ds
  | [], _, _ => rfl
  | d :: ds, vs, h => by
    obtain ⟨v, us, os, o, e1, e2, h1, h2⟩ : ∃ v us os o, vs = v :: us ∧ [] = o ++ os ∧ RD k Z H d v o ∧ RDs k Z H ds us os := by
      generalize hz : ([] : List Addr) = z at h
      cases h with
      | cons h1 h2 => exact ⟨_, _, _, _, rfl, rfl, h1, h2⟩
    obtain ⟨rfl, rfl⟩ := List.append_eq_nil_iff.mp e2.symm
    rw [D.frzs_cons, RD.frz_id d _ h1, RDs.frz_id ds _ h2]
end

/-! ### the frame's slots -/
/-- sx: the exception of the suite that runs: its object, its dict -/
inductive RS (k : Kc) (sx : Option (Addr × Addr)) (Z : Addr → Prop) (H : Hp) : En → St → List Addr → Prop
  | nil : RS k sx Z H [] [] []
  | emp {x : Option V} {r : En} {s : St} {os : List Addr} : RS k sx Z H r s os → RS k sx Z H (none :: r) (x :: s) os
  | val {d : D} {v : V} {r : En} {s : St} {o os : List Addr} : RD k Z H d v o → RS k sx Z H r s os → RS k sx Z H (some d :: r) (some v :: s) (o ++ os)
  | ex {c : Nat} {w : D} {a d : Addr} {v : V} {r : En} {s : St} {os : List Addr} : sx = some (a, d) → Z d → H d = some (.xd [("what", v)]) → RD k Z H w v [] → RS k sx Z H r s os → RS k sx Z H (some (.exn c w) :: r) (some (.ref a) :: s) os
variable {sx : Option (Addr × Addr)}
theorem RS.mono (hZ : ∀ a, Z a → Z' a) {r : En} {s : St} {os : List Addr} (hH : ∀ a o, H a = some o → (Z a ∨ a ∈ os) → H' a = some o) (h : RS k sx Z H r s os) : RS k sx Z' H' r s os := by
  induction h with
  | nil => exact .nil
  | emp _ ih => exact .emp (ih hH)
  | val h1 _ ih => exact .val (RD.mono hZ _ _ _ (fun a o e z => hH a o e (z.imp id (List.mem_append_left _))) h1) (ih fun a o e z => hH a o e (z.imp id (List.mem_append_right _)))
  | ex e z hd h1 _ ih => exact .ex e (hZ _ z) (hH _ _ hd (.inl z)) (RD.mono hZ _ _ _ (fun a o e z => hH a o e (z.elim .inl fun m => by cases m)) h1) (ih hH)
theorem RS.dom {r : En} {s : St} {os : List Addr} (h : RS k sx Z H r s os) : ∀ a ∈ os, ∃ o, H a = some o := by
  induction h with
  | nil => intro a ha; cases ha
  | emp _ ih => exact ih
  | val h1 _ ih => exact fun a ha => (List.mem_append.mp ha).elim (RD.dom _ _ _ h1 a) (ih a)
  | ex _ _ _ _ _ ih => exact ih
theorem RS.length {r : En} {s : St} {os : List Addr} (h : RS k sx Z H r s os) : s.length = r.length := by
  induction h with
  | nil => rfl
  | emp _ ih => simp [ih]
  | val _ _ ih => simp [ih]
  | ex _ _ _ _ _ ih => simp [ih]
/-- a slot that holds a value -/
theorem RS.get {r : En} {s : St} {os : List Addr} {i : Nat} {d : D} (h : RS k sx Z H r s os) (e : slot r i = some d) (ne : ∀ c w, d ≠ .exn c w) :
    ∃ v A o B, s[i]? = some (some v) ∧ os = A ++ (o ++ B) ∧ RD k Z H d v o ∧ (∀ x, RS k sx Z H (r.set i none) (s.set i x) (A ++ B)) ∧ ∀ d' v' o', RD k Z H d' v' o' → RS k sx Z H (r.set i (some d')) (s.set i (some v')) (A ++ (o' ++ B)) := by
  induction h generalizing i with
  | nil => simp [slot] at e
  | @emp x r s os h ih =>
    cases i with
    | zero => simp [slot] at e
    | succ i =>
      obtain ⟨v, A, o, B, e1, e2, e3, e4, e5⟩ := ih (i := i) e
      exact ⟨v, A, o, B, e1, e2, e3, fun x => .emp (e4 x), fun d' v' o' q => .emp (e5 d' v' o' q)⟩
  | @val d0 v0 r s o0 os h1 h ih =>
    cases i with
    | zero =>
      have e : d0 = d := by simpa [slot] using e
      subst e
      exact ⟨v0, [], o0, os, rfl, rfl, h1, fun x => .emp h, fun d' v' o' q => show RS k sx Z H (some d' :: r) (some v' :: s) (o' ++ os) from .val q h⟩
    | succ i =>
      obtain ⟨v, A, o, B, e1, e2, e3, e4, e5⟩ := ih (i := i) e
      subst e2
      exact ⟨v, o0 ++ A, o, B, e1, by rw [List.append_assoc], e3, fun x => by rw [List.append_assoc]; exact .val h1 (e4 x), fun d' v' o' q => by rw [List.append_assoc]; exact .val h1 (e5 d' v' o' q)⟩
  | @ex c w a dd v0 r s os ex z hd h1 h ih =>
    cases i with
    | zero =>
      have e : D.exn c w = d := by simpa [slot] using e
      exact absurd e.symm (ne c w)
    | succ i =>
      obtain ⟨v, A, o, B, e1, e2, e3, e4, e5⟩ := ih (i := i) e
      exact ⟨v, A, o, B, e1, e2, e3, fun x => .ex ex z hd h1 (e4 x), fun d' v' o' q => .ex ex z hd h1 (e5 d' v' o' q)⟩
/-- any slot is set -/
theorem RS.put {r : En} {s : St} {os : List Addr} {i : Nat} (h : RS k sx Z H r s os) (hi : i < r.length) :
    ∃ A o B, os = A ++ (o ++ B) ∧ (∀ x, RS k sx Z H (r.set i none) (s.set i x) (A ++ B)) ∧ ∀ d' v' o', RD k Z H d' v' o' → RS k sx Z H (r.set i (some d')) (s.set i (some v')) (A ++ (o' ++ B)) := by
  induction h generalizing i with
  | nil => simp at hi
  | @emp x r s os h ih =>
    cases i with
    | zero => exact ⟨[], [], os, rfl, fun x => .emp h, fun d' v' o' q => show RS k sx Z H (some d' :: r) (some v' :: s) (o' ++ os) from .val q h⟩
    | succ i =>
      obtain ⟨A, o, B, e2, e4, e5⟩ := ih (i := i) (by simpa using hi)
      exact ⟨A, o, B, e2, fun x => .emp (e4 x), fun d' v' o' q => .emp (e5 d' v' o' q)⟩
  | @val d0 v0 r s o0 os h1 h ih =>
    cases i with
    | zero => exact ⟨[], o0, os, rfl, fun x => .emp h, fun d' v' o' q => show RS k sx Z H (some d' :: r) (some v' :: s) (o' ++ os) from .val q h⟩
    | succ i =>
      obtain ⟨A, o, B, e2, e4, e5⟩ := ih (i := i) (by simpa using hi)
      subst e2
      exact ⟨o0 ++ A, o, B, by rw [List.append_assoc], fun x => by rw [List.append_assoc]; exact .val h1 (e4 x), fun d' v' o' q => by rw [List.append_assoc]; exact .val h1 (e5 d' v' o' q)⟩
  | @ex c w a dd v0 r s os ex z hd h1 h ih =>
    cases i with
    | zero => exact ⟨[], [], os, rfl, fun x => .emp h, fun d' v' o' q => show RS k sx Z H (some d' :: r) (some v' :: s) (o' ++ os) from .val q h⟩
    | succ i =>
      obtain ⟨A, o, B, e2, e4, e5⟩ := ih (i := i) (by simpa using hi)
      exact ⟨A, o, B, e2, fun x => .ex ex z hd h1 (e4 x), fun d' v' o' q => .ex ex z hd h1 (e5 d' v' o' q)⟩

structure Rel (k : Kc) (sx : Option (Addr × Addr)) (Z : Addr → Prop) (r : En) (s : St) (H : Hp) (os : List Addr) : Prop where
  rs : RS k sx Z H r s os
  nd : os.Nodup
  nz : ∀ a ∈ os, ¬ Z a
  zd : ∀ a, Z a → ∃ o, H a = some o
/-- what a step may do -/
structure Step (Z Z' : Addr → Prop) (H H' : Hp) (os os' : List Addr) : Prop where
  keep : ∀ a o, H a = some o → a ∉ os → H' a = some o
  zs : ∀ a, Z a → Z' a
  zn : ∀ a, Z' a → Z a ∨ a ∈ os ∨ H a = none
  on : ∀ a ∈ os', a ∈ os ∨ H a = none
theorem Step.refl {os : List Addr} : Step Z Z H H os os := ⟨fun _ _ h _ => h, fun _ h => h, fun _ h => .inl h, fun _ h => .inl h⟩
theorem Step.trans {o0 o1 o2 : List Addr} (a : Step Z Z1 H H1 o0 o1) (b : Step Z1 Z2 H1 H2 o1 o2) : Step Z Z2 H H2 o0 o2 where
  keep := fun x o h n => b.keep x o (a.keep x o h n) fun m => (a.on x m).elim n fun e => by rw [h] at e; cases e
  zs := fun x h => b.zs x (a.zs x h)
  zn := fun x h => by
    rcases b.zn x h with h | h | h
    · exact a.zn x h
    · exact .inr (a.on x h)
    · cases q : H x with
      | none => exact .inr (.inr rfl)
      | some o =>
        by_cases m : x ∈ o0
        · exact .inr (.inl m)
        · rw [a.keep x o q m] at h; cases h
  on := fun x h => by
    rcases b.on x h with h | h
    · exact a.on x h
    · cases q : H x with
      | none => exact .inr rfl
      | some o =>
        by_cases m : x ∈ o0
        · exact .inl m
        · rw [a.keep x o q m] at h; cases h
theorem Step.less {o0 o1 o2 : List Addr} (a : Step Z Z' H H' o0 o1) (h : ∀ x ∈ o2, x ∈ o1) : Step Z Z' H H' o0 o2 := ⟨a.keep, a.zs, a.zn, fun x m => a.on x (h x m)⟩
theorem Step.more {o0 o1 o2 : List Addr} (a : Step Z Z' H H' o0 o1) (h : ∀ x ∈ o0, x ∈ o2) : Step Z Z' H H' o2 o1 := ⟨fun x o e n => a.keep x o e fun m => n (h x m), a.zs, fun x m => (a.zn x m).imp id (Or.imp (h x) id), fun x m => (a.on x m).imp (h x) id⟩
/-- values that are held meanwhile -/
structure Tmp (k : Kc) (Z : Addr → Prop) (H : Hp) (ds : List D) (vs : List V) (od os : List Addr) : Prop where
  rd : RDs k Z H ds vs od
  nd : (od ++ os).Nodup
  nz : ∀ a ∈ od, ¬ Z a
theorem Tmp.carry {ds : List D} {vs : List V} {od os os' : List Addr} (T : Tmp k Z H ds vs od os) (hz : ∀ a ∈ os, ¬ Z a) (S : Step Z Z' H H' os os') (nd : os'.Nodup) : Tmp k Z' H' ds vs od os' := by
  obtain ⟨h1, h2, h3⟩ := List.nodup_append.mp T.nd
  have out : ∀ a ∈ od, a ∉ os := fun a m n => h3 a m a n rfl
  have dm := RDs.dom _ _ _ T.rd
  refine ⟨RDs.mono S.zs _ _ _ (fun a o e z => S.keep a o e ?_) T.rd, List.nodup_append.mpr ⟨h1, nd, fun a m b n e => ?_⟩, fun a m z => ?_⟩
  · rcases z with z | z
    · exact fun m => hz a m z
    · exact out a z
  · subst e
    obtain ⟨o, q⟩ := dm a m
    rcases S.on a n with x | x
    · exact out a m x
    · rw [q] at x; cases x
  · obtain ⟨o, q⟩ := dm a m
    rcases S.zn a z with x | x | x
    · exact T.nz a m x
    · exact out a m x
    · rw [q] at x; cases x
end Mv

namespace Mv
open PySem L2

section
variable {k : Kc} {sx : Option (Addr × Addr)} {W : WX} {Z Z' Z1 Z2 : Addr → Prop} {H H' H1 H2 : Hp} {σ : St} {r r1 r2 : En} {os os' os1 os2 od : List Addr}

theorem Step.wide (t : List Addr) (a : Step Z Z' H H' os os') : Step Z Z' H H' (t ++ os) (t ++ os') := ⟨fun x o e n => a.keep x o e fun m => n (List.mem_append_right _ m), a.zs, fun x m => (a.zn x m).imp id (Or.imp (List.mem_append_right _) id), fun x m => by
  rcases List.mem_append.mp m with m | m
  · exact .inl (List.mem_append_left _ m)
  · exact (a.on x m).imp (List.mem_append_right _) id⟩

/-- an exception as it flies -/
structure ExV (k : Kc) (Z : Addr → Prop) (H : Hp) (c : Nat) (w : D) (cls : Value) (d : Option Addr) : Prop where
  cl : cls = .ref (k.cA c)
  ex : ∃ a v, d = some a ∧ H a = some (.xd [("what", v)]) ∧ Z a ∧ RD k Z H w v []
def PostX (k : Kc) (sx : Option (Addr × Addr)) (W : WX) (Z : Addr → Prop) (H : Hp) (os : List Addr) (σ : St) (c : Nat) (w : D) (r : En) : Prop :=
  ∀ cls d H' Z' os', Rel k sx Z' r σ H' os' → ExV k Z' H' c w cls d → Step Z Z' H H' os os' → W cls d σ H'
def Sat (k : Kc) (sx : Option (Addr × Addr)) (W : WX) (Z : Addr → Prop) (H : Hp) (os : List Addr) (σ : St) {α : Type} (o : Out α) (ok : α → En → Prop) : Prop := match o with
  | .ok a r => ok a r
  | .exc c w r => PostX k sx W Z H os σ c w r
  | .bad => False
theorem Sat.bind {α β : Type} {x : Out α} {f : α → En → Out β} {ok : β → En → Prop} : Sat k sx W Z H os σ (x.bind f) ok ↔ Sat k sx W Z H os σ x fun a r => Sat k sx W Z H os σ (f a r) ok := by
  cases x <;> exact Iff.rfl
theorem PostX.base {c : Nat} {w : D} (h : PostX k sx W Z H os σ c w r) (S : Step Z Z1 H H1 os (od ++ os1)) : PostX k sx W Z1 H1 os1 σ c w r :=
  fun cls d H' Z' os' R e T => h cls d H' Z' os' R e ((S.trans (T.wide od)).less fun x m => List.mem_append_right _ m)
theorem Sat.base {α : Type} {x : Out α} {ok : α → En → Prop} (h : Sat k sx W Z H os σ x ok) (S : Step Z Z1 H H1 os (od ++ os1)) : Sat k sx W Z1 H1 os1 σ x ok := by
  cases x with
  | ok a r => exact h
  | exc c w r => exact PostX.base h S
  | bad => exact h
theorem Sat.imp {α : Type} {x : Out α} {ok ok' : α → En → Prop} (h : Sat k sx W Z H os σ x ok) (f : ∀ a r, ok a r → ok' a r) : Sat k sx W Z H os σ x ok' := by
  cases x with
  | ok a r => exact f a r h
  | exc c w r => exact h
  | bad => exact h
theorem Sat.of {α : Type} {x : Option α} {ok : α → En → Prop} (h : Sat k sx W Z H os σ (Out.of x r) ok) : ∃ a, x = some a ∧ ok a r := by
  cases x with
  | none => exact h.elim
  | some a => exact ⟨a, rfl, h⟩

def PostV (k : Kc) (sx : Option (Addr × Addr)) (Z : Addr → Prop) (H : Hp) (os : List Addr) (σ : St) (Q : VK) (d : D) (r : En) : Prop :=
  ∀ v H' Z' od os', Rel k sx Z' r σ H' os' → RD k Z' H' d v od → (od ++ os').Nodup → (∀ a ∈ od, ¬ Z' a) → Step Z Z' H H' os (od ++ os') → Q v H'
def PostT (k : Kc) (sx : Option (Addr × Addr)) (Z : Addr → Prop) (H : Hp) (os : List Addr) (σ : St) (Q : Bool → Hp → Prop) (b : Bool) (r : En) : Prop :=
  ∀ H' Z' os', Rel k sx Z' r σ H' os' → Step Z Z' H H' os os' → Q b H'
def PostL (k : Kc) (sx : Option (Addr × Addr)) (Z : Addr → Prop) (H : Hp) (os : List Addr) (σ : St) (Q : List V → Hp → Prop) (ds : List D) (r : En) : Prop :=
  ∀ vs H' Z' od os', Rel k sx Z' r σ H' os' → RDs k Z' H' ds vs od → (od ++ os').Nodup → (∀ a ∈ od, ¬ Z' a) → Step Z Z' H H' os (od ++ os') → Q vs H'
/-- an expression's reading -/
def tV (k : Kc) (sx : Option (Addr × Addr)) (W : WX) (e : En → Out D) : TE := fun σ H Q => ∃ Z r os, Rel k sx Z r σ H os ∧ Sat k sx W Z H os σ (e r) (PostV k sx Z H os σ Q)
def tT (k : Kc) (sx : Option (Addr × Addr)) (W : WX) (e : En → Out Bool) : TT := fun σ H Q => ∃ Z r os, Rel k sx Z r σ H os ∧ Sat k sx W Z H os σ (e r) (PostT k sx Z H os σ Q)
def tL (k : Kc) (sx : Option (Addr × Addr)) (W : WX) (e : En → Out (List D)) : TA := fun σ H Q => ∃ Z r os, Rel k sx Z r σ H os ∧ Sat k sx W Z H os σ (e r) (PostL k sx Z H os σ Q)

theorem tV_then {β : Type} {e : En → Out D} {f : D → En → Out β} {OK : β → En → Prop} {Q : VK} (R : Rel k sx Z r σ H os) (h : Sat k sx W Z H os σ ((e r).bind f) OK)
    (next : ∀ d r1 v H1 Z1 od os1, Rel k sx Z1 r1 σ H1 os1 → RD k Z1 H1 d v od → (od ++ os1).Nodup → (∀ a ∈ od, ¬ Z1 a) → Step Z Z1 H H1 os (od ++ os1) → Sat k sx W Z H os σ (f d r1) OK → Q v H1) : tV k sx W e σ H Q :=
  ⟨Z, r, os, R, (Sat.bind.mp h).imp fun d r1 q v H1 Z1 od os1 R1 rd nd nz S => next d r1 v H1 Z1 od os1 R1 rd nd nz S q⟩
theorem tT_then {β : Type} {e : En → Out Bool} {f : Bool → En → Out β} {OK : β → En → Prop} {Q : Bool → Hp → Prop} (R : Rel k sx Z r σ H os) (h : Sat k sx W Z H os σ ((e r).bind f) OK)
    (next : ∀ b r1 H1 Z1 os1, Rel k sx Z1 r1 σ H1 os1 → Step Z Z1 H H1 os os1 → Sat k sx W Z H os σ (f b r1) OK → Q b H1) : tT k sx W e σ H Q :=
  ⟨Z, r, os, R, (Sat.bind.mp h).imp fun b r1 q H1 Z1 os1 R1 S => next b r1 H1 Z1 os1 R1 S q⟩
theorem tL_then {β : Type} {e : En → Out (List D)} {f : List D → En → Out β} {OK : β → En → Prop} {Q : List V → Hp → Prop} (R : Rel k sx Z r σ H os) (h : Sat k sx W Z H os σ ((e r).bind f) OK)
    (next : ∀ ds r1 vs H1 Z1 od os1, Rel k sx Z1 r1 σ H1 os1 → RDs k Z1 H1 ds vs od → (od ++ os1).Nodup → (∀ a ∈ od, ¬ Z1 a) → Step Z Z1 H H1 os (od ++ os1) → Sat k sx W Z H os σ (f ds r1) OK → Q vs H1) : tL k sx W e σ H Q :=
  ⟨Z, r, os, R, (Sat.bind.mp h).imp fun d r1 q v H1 Z1 od os1 R1 rd nd nz S => next d r1 v H1 Z1 od os1 R1 rd nd nz S q⟩

/-- a value that is held meanwhile -/
theorem RD.carry {d : D} {v : V} (h : RD k Z H d v od) (nd : (od ++ os).Nodup) (nz : ∀ a ∈ od, ¬ Z a) (R : Rel k sx Z r σ H os) (S : Step Z Z' H H' os os') (nd' : os'.Nodup) :
    RD k Z' H' d v od ∧ (od ++ os').Nodup ∧ ∀ a ∈ od, ¬ Z' a := by
  have T : Tmp k Z H [d] [v] od os := ⟨by have q := RDs.cons h .nil; rwa [List.append_nil] at q, nd, nz⟩
  have T' := T.carry R.nz S nd'
  refine ⟨?_, T'.nd, T'.nz⟩
  cases T'.rd with
  | cons h1 h2 =>
    cases h2
    rwa [List.append_nil]
theorem RDs.carry {ds : List D} {vs : List V} (h : RDs k Z H ds vs od) (nd : (od ++ os).Nodup) (nz : ∀ a ∈ od, ¬ Z a) (R : Rel k sx Z r σ H os) (S : Step Z Z' H H' os os') (nd' : os'.Nodup) :
    RDs k Z' H' ds vs od ∧ (od ++ os').Nodup ∧ ∀ a ∈ od, ¬ Z' a :=
  have T' := (Tmp.mk h nd nz).carry R.nz S nd'
  ⟨T'.rd, T'.nd, T'.nz⟩
theorem RDs.one {d : D} {v : V} (h : RD k Z H d v od) : RDs k Z H [d] [v] od := by have q := RDs.cons h .nil; rwa [List.append_nil] at q
theorem RDs.of1 {d : D} {vs : List V} (h : RDs k Z H [d] vs od) : ∃ v, vs = [v] ∧ RD k Z H d v od := by
  cases h with
  | cons h1 h2 =>
    cases h2
    exact ⟨_, rfl, by rwa [List.append_nil]⟩

/-- a new list at p -/
theorem new_lst {ds : List D} {vs : List V} {p : Addr} (R : Rel k sx Z r σ H os) (T : RDs k Z H ds vs od) (nd : (od ++ os).Nodup) (nz : ∀ a ∈ od, ¬ Z a) (hp : H p = none) :
    Rel k sx Z r σ (upd H p (.lst vs)) os ∧ RD k Z (upd H p (.lst vs)) (.lst .own ds) (.ref p) (p :: od) ∧ ((p :: od) ++ os).Nodup ∧ (∀ a ∈ p :: od, ¬ Z a) ∧ Step Z Z H (upd H p (.lst vs)) (od ++ os) ((p :: od) ++ os) := by
  have kp : ∀ a o, H a = some o → upd H p (.lst vs) a = some o := fun a o e => by rw [upd_ne (ne_of_none e hp)]; exact e
  have zp : ¬ Z p := fun z => by obtain ⟨o, e⟩ := R.zd p z; rw [hp] at e; cases e
  have np : p ∉ od ++ os := fun m => by
    rcases List.mem_append.mp m with m | m
    · obtain ⟨o, e⟩ := RDs.dom _ _ _ T p m; rw [hp] at e; cases e
    · obtain ⟨o, e⟩ := R.rs.dom p m; rw [hp] at e; cases e
  refine ⟨⟨R.rs.mono (fun _ z => z) fun a o e _ => kp a o e, R.nd, R.nz, fun a z => ?_⟩, .own upd_same (RDs.mono (fun _ z => z) _ _ _ (fun a o e _ => kp a o e) T), List.nodup_cons.mpr ⟨np, nd⟩, fun a m => ?_, fun a o e _ => kp a o e, fun _ z => z, fun _ z => .inl z, fun a m => ?_⟩
  · obtain ⟨o, e⟩ := R.zd a z
    exact ⟨o, kp a o e⟩
  · rcases List.mem_cons.mp m with m | m
    · rw [m]; exact zp
    · exact nz a m
  · rcases List.mem_cons.mp (show a ∈ p :: (od ++ os) from m) with m | m
    · rw [m]; exact .inr hp
    · exact .inl m
/-- things are shared -/
theorem Rel.share (R : Rel k sx Z r σ H os) (nd : (od ++ os).Nodup) (dm : ∀ a ∈ od, ∃ o, H a = some o) : Rel k sx (fun a => Z a ∨ a ∈ od) r σ H os ∧ Step Z (fun a => Z a ∨ a ∈ od) H H (od ++ os) os := by
  obtain ⟨h1, h2, h3⟩ := List.nodup_append.mp nd
  refine ⟨⟨R.rs.mono (fun _ z => .inl z) fun a o e _ => e, R.nd, fun a m z => ?_, fun a z => ?_⟩, fun a o e _ => e, fun _ z => .inl z, fun a z => ?_, fun a m => .inl (List.mem_append_right _ m)⟩
  · rcases z with z | z
    · exact R.nz a m z
    · exact h3 a z a m rfl
  · rcases z with z | z
    · exact R.zd a z
    · exact dm a z
  · rcases z with z | z
    · exact .inl z
    · exact .inr (.inl (List.mem_append_left _ z))
/-- a new tuple at p -/
theorem new_tup {ds : List D} {vs : List V} {p : Addr} (R : Rel k sx Z r σ H os) (T : RDs k Z H ds vs od) (nd : (od ++ os).Nodup) (hp : H p = none) :
    ∃ Z', Rel k sx Z' r σ (upd H p (.tup vs)) os ∧ RD k Z' (upd H p (.tup vs)) (.tup (D.frzs ds)) (.ref p) [] ∧ Step Z Z' H (upd H p (.tup vs)) (od ++ os) ([] ++ os) := by
  have kp : ∀ a o, H a = some o → upd H p (.tup vs) a = some o := fun a o e => by rw [upd_ne (ne_of_none e hp)]; exact e
  obtain ⟨h1, h2, h3⟩ := List.nodup_append.mp nd
  have dm := RDs.dom _ _ _ T
  refine ⟨fun a => Z a ∨ a ∈ od ∨ a = p, ⟨R.rs.mono (fun _ z => .inl z) fun a o e _ => kp a o e, R.nd, fun a m z => ?_, fun a z => ?_⟩, .tup (vs := vs) (.inl ⟨.inr (.inr rfl), .inl upd_same⟩) ?_, fun a o e _ => kp a o e, fun _ z => .inl z, fun a z => ?_, fun a m => .inl (List.mem_append_right _ m)⟩
  · rcases z with z | z | z
    · exact R.nz a m z
    · exact h3 a z a m rfl
    · obtain ⟨o, e⟩ := R.rs.dom a m
      rw [z, hp] at e; cases e
  · rcases z with z | z | z
    · obtain ⟨o, e⟩ := R.zd a z
      exact ⟨o, kp a o e⟩
    · obtain ⟨o, e⟩ := dm a z
      exact ⟨o, kp a o e⟩
    · rw [z]; exact ⟨_, upd_same⟩
  · have q := RDs.frz (Z' := fun a => Z a ∨ a ∈ od ∨ a = p) (fun a z => .inl z) ds vs od (fun a m => .inr (.inl m)) T
    exact RDs.mono (fun _ z => z) _ _ _ (fun a o e _ => kp a o e) q
  · rcases z with z | z | z
    · exact .inl z
    · exact .inr (.inl (List.mem_append_left _ z))
    · rw [z]; exact .inr (.inr hp)
end

theorem _root_.L2.PE.weak {X : Cx} {e : Expr} {t t' : TE} (h : PE X e t) (w : ∀ σ H Q, t' σ H Q → t σ H Q) : PE X e t' := ⟨fun pins s σ H Q I hq => h.run pins s σ H Q I (w σ H Q hq)⟩
theorem _root_.L2.PT.weak {X : Cx} {e : Expr} {t t' : TT} (h : PT X e t) (w : ∀ σ H Q, t' σ H Q → t σ H Q) : PT X e t' := ⟨fun pins s σ H Q I hq => h.run pins s σ H Q I (w σ H Q hq)⟩
theorem _root_.L2.PW.weak {X : Cx} {e : Expr} {t t' : TT} (h : PW X e t) (w : ∀ σ H Q, t' σ H Q → t σ H Q) : PW X e t' := ⟨fun wh pins s σ H Q I hq => h.run wh pins s σ H Q I (w σ H Q hq)⟩
theorem _root_.L2.PA.weak {X : Cx} {es : List Expr} {t t' : TA} (h : PA X es t) (w : ∀ σ H Q, t' σ H Q → t σ H Q) : PA X es t' := ⟨fun p pins s σ H Q I hq => h.run p pins s σ H Q I (w σ H Q hq)⟩
theorem _root_.L2.PS.weak {X : Cx} {e : Stmt} {t t' : TS} (h : PS X e t) (w : ∀ D σ H, t' D σ H → t D σ H) : PS X e t' := ⟨fun pins s σ H Q I hq => h.run pins s σ H Q I (w Q σ H hq)⟩
theorem _root_.L2.PSs.weak {X : Cx} {e : List Stmt} {t t' : TS} (h : PSs X e t) (w : ∀ D σ H, t' D σ H → t D σ H) : PSs X e t' := ⟨fun pins s σ H Q I hq => h.run pins s σ H Q I (w Q σ H hq)⟩
theorem _root_.L2.OpR.no {X : Cx} {f : Value → Value → Sem Value} : OpR X f (fun _ _ _ _ => False) := fun _ _ _ _ _ _ _ _ _ _ _ _ q => q.elim

section
variable {X : Cx} {k : Kc} {sx : Option (Addr × Addr)} {W : WX} {pos : Pos}
theorem sv_tC {c : V} {d : D} {e : Expr} (h : PE X e (tC c)) (rd : ∀ Z H, RD k Z H d c []) : PE X e (tV k sx W fun r => .ok d r) := by
  refine h.weak fun σ H Q ⟨Z, r, os, R, q⟩ => ?_
  exact q c H Z [] os R (rd Z H) R.nd (fun _ m => by cases m) Step.refl

/-- what an operator wants, whatever the values are -/
def rBin (K : PySem.W.Frag) (op : Operator) : R2 := match op with
  | .Add => fun x y H Q => (rI0 (fun i j => .int (i + j)) x y H Q ∨ (∃ i k, x = .int i ∧ y = .bl k ∧ Q (.int (i + PyProof.Rows.b2i k)) H)) ∨ (∃ i j, x = .str i ∧ y = .str j ∧ i.length + j.length ≤ sizeLine ∧ Q (.str (i ++ j)) H) ∨ rCat x y H Q ∨ rCatA K x y H Q
  | .Sub => rI0 fun i j => .int (i - j)
  | .Mult => fun x y H Q => rI CMul (fun i j => .int (i * j)) x y H Q ∨ rI CMulW (fun i j => .int (i * j)) x y H Q ∨ rRep x y H Q
  | .FloorDiv => rI CDivW fun i j => .int (i / j)
  | .Mod => rI (fun _ j => 0 < j) fun i j => .int (i % j)
  | .Pow => rI CPow fun i j => .int (i ^ j.toNat)
  | _ => fun _ _ _ _ => False
theorem opr_bin (op : Operator) : OpR X (binaryOp op) (rBin X.K op) := by
  cases op <;> first
    | exact OpR.no
    | exact op_sub
    | exact op_fdivW
    | exact op_mod
    | exact op_pow
    | exact op_mul.or (op_mulW.or op_rep)
    | exact (op_add.or op_add_ib).or (op_add_str.or (op_cat.or op_catA))

theorem log_ok {i j : Int} (h : mulOk i j = true) : CMul i j ∨ CMulW i j := by
  unfold mulOk at h
  simp only [Bool.or_eq_true, decide_eq_true_eq] at h
  rcases h with (h | h) | h
  · exact .inl (.inl h)
  · exact .inl (.inr h)
  · exact .inr h
variable {Z Z1 : Addr → Prop} {H H1 : Hp} {σ : St} {r r1 : En} {os os1 oa ob : List Addr} {K : PySem.W.Frag}
/-- what is wanted of a value that comes next, after a step -/
theorem PostV.at {Q : VK} {d : D} {v : V} {od : List Addr} (h : PostV k sx Z H os σ Q d r) (S : Step Z Z1 H H1 os os1) {Z2 : Addr → Prop} {H2 : Hp} {os2 : List Addr} (S2 : Step Z1 Z2 H1 H2 os1 (od ++ os2)) (R : Rel k sx Z2 r σ H2 os2) (rd : RD k Z2 H2 d v od) (nd : (od ++ os2).Nodup) (nz : ∀ a ∈ od, ¬ Z2 a) : Q v H2 :=
  h v H2 Z2 od os2 R rd nd nz (S.trans S2)
theorem PostV.atom {Q : VK} {d : D} {v : V} (h : PostV k sx Z H os σ Q d r) {t : List Addr} (S : Step Z Z1 H H1 os (t ++ os1)) (R : Rel k sx Z1 r σ H1 os1) (rd : RD k Z1 H1 d v []) : Q v H1 :=
  h v H1 Z1 [] os1 R rd R.nd (fun _ m => by cases m) (S.less fun x m => List.mem_append_right _ m)
theorem slE : (sizeLine : Nat) = 16777216 := sizeLine_eq
theorem lst_at {kd : Kd} {ds : List D} {v : V} {od : List Addr} (h : RD k Z H (.lst kd ds) v od) (ng : kd ≠ .giv) : ∃ a vs o2, v = .ref a ∧ H a = some (.lst vs) ∧ RDs k Z H ds vs o2 ∧ ∀ x ∈ o2, x ∈ od := by
  cases h with
  | own h1 h2 => exact ⟨_, _, _, rfl, h1, h2, fun x m => List.mem_cons_of_mem _ m⟩
  | shr _ h1 h2 => exact ⟨_, _, _, rfl, h1, h2, fun x m => m⟩
  | giv _ _ => exact absurd rfl ng
theorem binD_ok {op : Operator} {da db d : D} {x y : V} {Q : VK} (e : binD op da db = some d) (R : Rel k sx Z1 r σ H1 os1) (ra : RD k Z1 H1 da x oa) (rb : RD k Z1 H1 db y ob)
    (nd : (oa ++ (ob ++ os1)).Nodup) (S : Step Z Z1 H H1 os (oa ++ (ob ++ os1))) (h : PostV k sx Z H os σ Q d r) : rBin k.K op x y H1 Q := by
  have S' : Step Z Z1 H H1 os ((oa ++ ob) ++ os1) := by rw [List.append_assoc]; exact S
  have fin : ∀ {v : V} {d : D}, PostV k sx Z H os σ Q d r → RD k Z1 H1 d v [] → Q v H1 := fun h rd => h.atom S' R rd
  have fresh : ∀ {ds : List D} {vs : List V} {p : Addr}, PostV k sx Z H os σ Q (.lst .own ds) r → RDs k Z1 H1 ds vs [] → H1 p = none → Q (.ref p) (upd H1 p (.lst vs)) := fun {ds vs p} h t hp => by
    obtain ⟨R2, rd, n2, z2, S2⟩ := new_lst (od := []) R t R.nd (fun _ m => by cases m) hp
    exact h _ _ _ _ _ R2 rd n2 z2 ((S'.less fun x m => List.mem_append_right _ m).trans S2)
  unfold binD at e
  split at e
  · -- ints
    rename_i i j
    cases ra
    cases rb
    cases q : intOp op i j with
    | none => rw [q] at e; cases e
    | some n =>
      rw [q] at e
      cases e
      have g := fin h (.int _)
      unfold intOp at q
      split at q
      · cases q; exact .inl (.inl ⟨i, j, rfl, rfl, g⟩)
      · cases q; exact ⟨i, j, rfl, rfl, g⟩
      · split at q
        · cases q
          rename_i hm
          rcases log_ok hm with hm | hm
          · exact .inl ⟨i, j, rfl, rfl, hm, g⟩
          · exact .inr (.inl ⟨i, j, rfl, rfl, hm, g⟩)
        · cases q
      · split at q
        · cases q; exact ⟨i, j, rfl, rfl, by assumption, g⟩
        · cases q
      · split at q
        · cases q; exact ⟨i, j, rfl, rfl, by assumption, g⟩
        · cases q
      · split at q
        · cases q; exact ⟨i, j, rfl, rfl, by assumption, g⟩
        · cases q
      · cases q
  · rename_i i b
    cases ra
    cases rb
    split at e
    · cases e
      refine .inl (.inr ⟨i, b, rfl, rfl, ?_⟩)
      have g := fin h (.int _)
      cases b <;> exact g
    · cases e
  · rename_i a b
    cases ra
    cases rb
    split at e
    · split at e
      · cases e
        exact .inr (.inl ⟨a, b, rfl, rfl, by rw [slE]; assumption, fin h (.str _)⟩)
      · cases e
    · cases e
  · rename_i k1 a k2 b
    split at e
    · split at e
      · rename_i c
        cases e
        simp only [Bool.and_eq_true, bne_iff_ne, decide_eq_true_eq] at c
        obtain ⟨⟨⟨⟨c1, c2⟩, c3⟩, c4⟩, c5⟩ := c
        obtain ⟨p, vs, o1, rfl, e1, t1, _⟩ := lst_at ra c1
        obtain ⟨q, us, o2, rfl, e2, t2, _⟩ := lst_at rb c2
        have z1 := t1.noOwn c3
        have z2 := t2.noOwn c4
        subst z1 z2
        refine .inr (.inr (.inl ⟨p, q, vs, us, rfl, rfl, e1, e2, by rw [slE, t1.length, t2.length]; exact c5, fun l hl => ?_⟩))
        exact fresh h (t1.app t2) hl
      · cases e
    · cases e
  · rename_i k1 a n
    split at e
    · split at e
      · rename_i c
        cases e
        simp only [Bool.and_eq_true, bne_iff_ne, decide_eq_true_eq] at c
        obtain ⟨⟨⟨c1, c2⟩, c3, c4⟩, c5⟩ := c
        obtain ⟨p, vs, o1, rfl, e1, t1, _⟩ := lst_at ra c1
        have z1 := t1.noOwn c2
        subst z1
        cases rb
        refine .inr (.inr ⟨p, n, vs, rfl, rfl, e1, c3, c4, by rw [slE, t1.length]; exact c5, fun l hl => ?_⟩)
        have rep : ∀ m : Nat, RDs k Z1 H1 (List.replicate m a).flatten (List.replicate m vs).flatten [] := by
          intro m
          induction m with
          | zero => exact .nil
          | succ m ih => rw [List.replicate_succ, List.replicate_succ, List.flatten_cons, List.flatten_cons]; exact t1.app ih
        exact fresh h (rep _) hl
      · cases e
    · cases e
  · rename_i a b
    split at e
    · split at e
      · rename_i c
        cases e
        cases ra with
        | @tup p vs _ h1 t1 =>
          cases rb with
          | @tup q us _ h2 t2 =>
            have c' := of_decide_eq_true c
            refine .inr (.inr (.inr ⟨p, q, vs, us, rfl, rfl, h1.sq, h2.sq, by rw [slE, t1.length, t2.length]; exact c', ?_⟩))
            refine ⟨fun z => ?_, fun _ z => ?_, fun _ _ p hp => ?_⟩
            · subst z
              cases t1
              exact fin h (.tup h2 t2)
            · subst z
              cases t2
              rw [List.append_nil] at h
              exact fin h (.tup h1 t1)
            · obtain ⟨Z2, R2, rd, S2⟩ := new_tup (od := []) R (t1.app t2) R.nd hp
              rw [RDs.frz_id _ _ (t1.app t2)] at rd
              exact h _ _ _ _ _ R2 rd R2.nd (fun _ m => by cases m) ((S'.less fun x m => List.mem_append_right _ m).trans S2)
      · cases e
    · cases e
  · cases e
end
end Mv

namespace Mv
open PySem L2

section
variable {k : Kc} {sx : Option (Addr × Addr)} {W : WX} {Z Z' Z1 Z2 : Addr → Prop} {H H' H1 H2 : Hp} {σ : St} {r r1 r2 : En} {os os' os1 os2 od : List Addr}

/-! ### places -/
inductive CP (k : Kc) (H : Hp) : V → List St1 → V → Prop
  | nil {v : V} : CP k H v [] v
  | ixl {a : Addr} {vs : List V} {i : Int} {j : Nat} {u w : V} {p : List St1} : SqL k.K H a vs → ixN vs.length i = some j → vs[j]? = some u → CP k H u p w → CP k H (.ref a) (.ix i :: p) w
  | ixt {a : Addr} {vs : List V} {i : Int} {j : Nat} {u w : V} {p : List St1} : SqT k.K H a vs → ixN vs.length i = some j → vs[j]? = some u → CP k H u p w → CP k H (.ref a) (.ix i :: p) w
  | fl {a dx : Addr} {c f : Nat} {fs : List (Str × V)} {u w : V} {p : List St1} : H a = some (.ins (k.cA c) dx fs) → k.oc c ∧ f < k.n → fs.lookup (k.aN f) = some u → CP k H u p w → CP k H (.ref a) (.fl f :: p) w

theorem RDs.focus {ds : List D} {vs : List V} {j : Nat} {d : D} (h : RDs k Z H ds vs os) (e : ds[j]? = some d) :
    ∃ v A o B, vs[j]? = some v ∧ os = A ++ (o ++ B) ∧ RD k Z H d v o ∧ ∀ Z' H', (∀ a, Z a → Z' a) → (∀ a o, H a = some o → (Z a ∨ a ∈ A ∨ a ∈ B) → H' a = some o) → ∀ d' o', RD k Z' H' d' v o' → RDs k Z' H' (ds.set j d') vs (A ++ (o' ++ B)) := by
  induction ds generalizing vs os j with
  | nil => simp at e
  | cons x ds ih =>
    cases h with
    | @cons _ _ v vs o os h1 h2 =>
      cases j with
      | zero =>
        have e : x = d := Option.some.inj e
        subst e
        exact ⟨v, [], o, os, rfl, rfl, h1, fun Z' H' hZ hH d' o' q => show RDs k Z' H' (d' :: ds) (v :: vs) (o' ++ os) from .cons q (RDs.mono hZ _ _ _ (fun a o e z => hH a o e (z.imp id .inr)) h2)⟩
      | succ j =>
        obtain ⟨v', A, o', B, e1, e2, e3, e4⟩ := ih h2 e
        subst e2
        refine ⟨v', o ++ A, o', B, e1, by rw [List.append_assoc], e3, fun Z' H' hZ hH d' o2 q => ?_⟩
        rw [List.append_assoc]
        exact .cons (RD.mono hZ _ _ _ (fun a o e z => hH a o e (z.imp id fun m => .inl (List.mem_append_left _ m))) h1) (e4 Z' H' hZ (fun a o e z => hH a o e (z.imp id (Or.imp (List.mem_append_right _) id))) d' o2 q)
theorem RS.focusN {i : Nat} {d : D} (h : RS k sx Z H r σ os) (e : slot r i = some d) (ne : ∀ c w, d ≠ .exn c w) :
    ∃ v A o B, σ[i]? = some (some v) ∧ os = A ++ (o ++ B) ∧ RD k Z H d v o ∧ RS k sx Z H (r.set i none) σ (A ++ B) ∧ ∀ Z' H', (∀ a, Z a → Z' a) → (∀ a o, H a = some o → (Z a ∨ a ∈ A ∨ a ∈ B) → H' a = some o) → ∀ d' o', RD k Z' H' d' v o' → RS k sx Z' H' (r.set i (some d')) σ (A ++ (o' ++ B)) := by
  induction h generalizing i with
  | nil => simp [slot] at e
  | @emp x r s os h ih =>
    cases i with
    | zero => simp [slot] at e
    | succ i =>
      obtain ⟨v, A, o, B, e1, e2, e3, e0, e4⟩ := ih (i := i) e
      exact ⟨v, A, o, B, e1, e2, e3, .emp e0, fun Z' H' hZ hH d' o' q => .emp (e4 Z' H' hZ hH d' o' q)⟩
  | @val d0 v0 r s o0 os h1 h ih =>
    cases i with
    | zero =>
      have e : d0 = d := by simpa [slot] using e
      subst e
      exact ⟨v0, [], o0, os, rfl, rfl, h1, .emp h, fun Z' H' hZ hH d' o' q => show RS k sx Z' H' (some d' :: r) (some v0 :: s) (o' ++ os) from .val q (h.mono hZ fun a o e z => hH a o e (z.imp id .inr))⟩
    | succ i =>
      obtain ⟨v, A, o, B, e1, e2, e3, e0, e4⟩ := ih (i := i) e
      subst e2
      refine ⟨v, o0 ++ A, o, B, e1, by rw [List.append_assoc], e3, by rw [List.append_assoc]; exact .val h1 e0, fun Z' H' hZ hH d' o' q => ?_⟩
      rw [List.append_assoc]
      exact .val (RD.mono hZ _ _ _ (fun a o e z => hH a o e (z.imp id fun m => .inl (List.mem_append_left _ m))) h1) (e4 Z' H' hZ (fun a o e z => hH a o e (z.imp id (Or.imp (List.mem_append_right _) id))) d' o' q)
  | @ex c w a dd v0 r s os ex z hd h1 h ih =>
    cases i with
    | zero =>
      have e : D.exn c w = d := by simpa [slot] using e
      exact absurd e.symm (ne c w)
    | succ i =>
      obtain ⟨v, A, o, B, e1, e2, e3, e0, e4⟩ := ih (i := i) e
      exact ⟨v, A, o, B, e1, e2, e3, .ex ex z hd h1 e0, fun Z' H' hZ hH d' o' q => .ex ex (hZ _ z) (hH _ _ hd (.inl z)) (RD.mono hZ _ _ _ (fun a o e z => hH a o e (z.elim .inl fun m => by cases m)) h1) (e4 Z' H' hZ hH d' o' q)⟩

theorem RS.focus {i : Nat} {d : D} (h : RS k sx Z H r σ os) (e : slot r i = some d) (ne : ∀ c w, d ≠ .exn c w) :
    ∃ v A o B, σ[i]? = some (some v) ∧ os = A ++ (o ++ B) ∧ RD k Z H d v o ∧ ∀ Z' H', (∀ a, Z a → Z' a) → (∀ a o, H a = some o → (Z a ∨ a ∈ A ∨ a ∈ B) → H' a = some o) → ∀ d' o', RD k Z' H' d' v o' → RS k sx Z' H' (r.set i (some d')) σ (A ++ (o' ++ B)) := by
  obtain ⟨v, A, o, B, e1, e2, e3, _, e4⟩ := h.focusN e ne
  exact ⟨v, A, o, B, e1, e2, e3, e4⟩

theorem lookup_zip : ∀ {os : List Addr} {ks : List Nat} {ds : List D} {fs : List (Str × V)} {f : Nat} {d : D}, RDs k Z H ds (fs.map (·.2)) os → fs.map (·.1) = ks.map k.aN ∧ (∀ x ∈ ks, x < k.n) → (ks.zip ds).lookup f = some d →
    ∃ (j : Nat) (v : V), ds[j]? = some d ∧ (fs.map (·.2))[j]? = some v ∧ fs.lookup (k.aN f) = some v ∧ idxOf f ks = some j ∧ f < k.n := by
  intro os ks
  induction ks generalizing os with
  | nil => intro ds fs f d _ _ h; simp at h
  | cons x ks ih =>
    intro ds fs f d T e h
    obtain ⟨e, lt⟩ := e
    cases fs with
    | nil => simp at e
    | cons fv fs =>
      obtain ⟨n, v⟩ := fv
      cases ds with
      | nil => simp at h
      | cons d0 ds =>
        cases T with
        | cons h1 h2 =>
          simp only [List.map_cons, List.cons.injEq] at e
          by_cases c : x = f
          · subst c
            have h' : d0 = d := by simpa using h
            subst h'
            refine ⟨0, v, rfl, rfl, ?_, by simp [idxOf], lt _ List.mem_cons_self⟩
            rw [e.1]
            simp
          · have c1 : (f == x) = false := by simpa using fun z => c z.symm
            have h' : (ks.zip ds).lookup f = some d := by simpa [List.lookup_cons, c1] using h
            obtain ⟨j, w, q1, q2, q3, q4, q5⟩ := ih h2 ⟨e.2, fun a m => lt a (List.mem_cons_of_mem _ m)⟩ h'
            refine ⟨j + 1, w, q1, q2, ?_, by simp [idxOf, c, q4], q5⟩
            have c2 : (k.aN f == n) = false := by
              rw [e.1]
              simpa using fun z : k.aN f = k.aN x => c (k.inj x f (lt _ List.mem_cons_self) q5 z.symm)
            rw [List.lookup_cons, c2]
            exact q3

theorem itemD_int {d d1 : D} {i : Int} (q : itemD d (.int i) = some d1) : (∃ kd ds j, d = .lst kd ds ∧ ixN ds.length i = some j ∧ ds[j]? = some d1) ∨ ∃ ds j, d = .tup ds ∧ ixN ds.length i = some j ∧ ds[j]? = some d1 := by
  cases d with
  | lst kd ds =>
    obtain ⟨j, q3, q4⟩ := Option.bind_eq_some_iff.mp (show (ixN ds.length i).bind (fun j => ds[j]?) = some d1 from q)
    exact .inl ⟨kd, ds, j, rfl, q3, q4⟩
  | tup ds =>
    obtain ⟨j, q3, q4⟩ := Option.bind_eq_some_iff.mp (show (ixN ds.length i).bind (fun j => ds[j]?) = some d1 from q)
    exact .inr ⟨ds, j, rfl, q3, q4⟩
  | _ => cases q
theorem fldD_of {d d1 : D} {f : Nat} (q : fldD d f = some d1) : ∃ kd c ks ds, d = .obj kd c ks ds ∧ (ks.zip ds).lookup f = some d1 := by
  cases d with
  | obj kd c ks ds => exact ⟨kd, c, ks, ds, rfl, q⟩
  | _ => cases q
/-- the thing at the end of a way -/
theorem RD.way : ∀ (p : List St1) (d : D) (v : V) (os : List Addr) (e : D), RD k Z H d v os → getP d p = some e →
    ∃ w A o B, CP k H v p w ∧ os = A ++ (o ++ B) ∧ RD k Z H e w o ∧
      ∀ (g : D → Option D) (d' : D), updP g d p = some d' → ∃ e', g e = some e' ∧
        ∀ Z' H', (∀ a, Z a → Z' a) → (∀ a o, H a = some o → (Z a ∨ a ∈ A ∨ a ∈ B) → H' a = some o) → ∀ o', RD k Z' H' e' w o' → RD k Z' H' d' v (A ++ (o' ++ B)) := by
  intro p
  induction p with
  | nil =>
    intro d v os e h q
    cases q
    exact ⟨v, [], os, [], .nil, by simp, h, fun g d' q => ⟨d', q, fun Z' H' _ _ o' r => by simpa using r⟩⟩
  | cons s p ih =>
    intro d v os e h q
    have q : (getS d s).bind (fun e => getP e p) = some e := q
    obtain ⟨d1, q1, q2⟩ := Option.bind_eq_some_iff.mp q
    cases s with
    | ix i =>
      have q1 : itemD d (.int i) = some d1 := q1
      rcases itemD_int q1 with ⟨kd, ds, j, rfl, q3, q4⟩ | ⟨ds, j, rfl, q3, q4⟩
      · have key : ∀ {a : Addr} {vs : List V} {os : List Addr}, SqL k.K H a vs → RDs k Z H ds vs os → ∃ w A o B, CP k H (.ref a) (.ix i :: p) w ∧ os = A ++ (o ++ B) ∧ RD k Z H e w o ∧
            ∀ (g : D → Option D) (d1' : D), updP g d1 p = some d1' → ∃ e', g e = some e' ∧
              ∀ Z' H', (∀ a, Z a → Z' a) → (∀ a o, H a = some o → (Z a ∨ a ∈ A ∨ a ∈ B) → H' a = some o) → ∀ o', RD k Z' H' e' w o' → RDs k Z' H' (ds.set j d1') vs (A ++ (o' ++ B)) := by
          intro a vs os hs T
          obtain ⟨u, A1, o1, B1, f1, f2, f3, f4⟩ := T.focus q4
          obtain ⟨w, A2, o2, B2, g1, g2, g3, g4⟩ := ih d1 u o1 e f3 q2
          subst f2
          subst g2
          refine ⟨w, A1 ++ A2, o2, B2 ++ B1, .ixl hs (by rw [T.length]; exact q3) f1 g1, by simp [List.append_assoc], g3, fun g d1' qq => ?_⟩
          obtain ⟨e', he, hr⟩ := g4 g d1' qq
          refine ⟨e', he, fun Z' H' hZ hH o' rd => ?_⟩
          have r1 := hr Z' H' hZ (fun a o e z => hH a o e (z.imp id (Or.imp (List.mem_append_right _) (List.mem_append_left _)))) o' rd
          have r2 := f4 Z' H' hZ (fun a o e z => hH a o e (z.imp id (Or.imp (List.mem_append_left _) (List.mem_append_right _)))) d1' _ r1
          simpa [List.append_assoc] using r2
        cases h with
        | @own a vs _ os h1 T =>
          obtain ⟨w, A, o, B, c1, c2, c3, c4⟩ := key (SqL.of h1) T
          subst c2
          refine ⟨w, a :: A, o, B, c1, rfl, c3, fun g d' qq => ?_⟩
          have qq : ((ixN ds.length i).bind fun j => (ds[j]?).bind fun e => (updP g e p).map fun e' => D.lst .own (ds.set j e')) = some d' := qq
          rw [q3] at qq
          simp only [Option.bind_some, q4, Option.map_eq_some_iff] at qq
          obtain ⟨d1', z1, rfl⟩ := qq
          obtain ⟨e', he, hr⟩ := c4 g d1' z1
          exact ⟨e', he, fun Z' H' hZ hH o' rd => .own (hH _ _ h1 (.inr (.inl List.mem_cons_self))) (hr Z' H' hZ (fun b o e z => hH b o e (z.imp id (Or.imp (List.mem_cons_of_mem _) id))) o' rd)⟩
        | @shr a vs _ z h1 T =>
          obtain ⟨w, A, o, B, c1, c2, c3, c4⟩ := key (SqL.of h1) T
          exact ⟨w, A, o, B, c1, c2, c3, fun g d' qq => nomatch qq⟩
        | @giv a vs _ h1 T =>
          obtain ⟨w, A, o, B, c1, c2, c3, c4⟩ := key h1.sq T
          exact ⟨w, A, o, B, c1, c2, c3, fun g d' qq => nomatch qq⟩
      · cases h with
        | @tup a vs _ h1 T =>
          obtain ⟨u, A1, o1, B1, f1, f2, f3, f4⟩ := T.focus q4
          obtain ⟨w, A2, o2, B2, g1, g2, g3, g4⟩ := ih d1 u o1 e f3 q2
          subst g2
          exact ⟨w, A1 ++ A2, o2, B2 ++ B1, .ixt h1.sq (by rw [T.length]; exact q3) f1 g1, by simpa [List.append_assoc] using f2, g3, fun g d' qq => nomatch qq⟩
    | fl f =>
      have q1 : fldD d f = some d1 := q1
      obtain ⟨kd, c, ks, ds, rfl, q1⟩ := fldD_of q1
      · cases h with
        | @oown a dx _ fs _ _ os h1 en T =>
          obtain ⟨j, u0, l1, l2, l3, l4, l5⟩ := lookup_zip T en.1 q1
          obtain ⟨u, A1, o1, B1, f1, f2, f3, f4⟩ := T.focus l1
          rw [l2] at f1
          have eu : u = u0 := (Option.some.inj f1).symm
          subst eu
          obtain ⟨w, A2, o2, B2, g1, g2, g3, g4⟩ := ih d1 u o1 e f3 q2
          subst f2
          subst g2
          refine ⟨w, a :: (A1 ++ A2), o2, B2 ++ B1, .fl h1 ⟨en.2, l5⟩ l3 g1, by simp [List.append_assoc], g3, fun g d' qq => ?_⟩
          have qq : ((idxOf f ks).bind fun j => (ds[j]?).bind fun e => (updP g e p).map fun e' => D.obj .own c ks (ds.set j e')) = some d' := qq
          rw [l4] at qq
          simp only [Option.bind_some, l1, Option.map_eq_some_iff] at qq
          obtain ⟨d1', z1, rfl⟩ := qq
          obtain ⟨e', he, hr⟩ := g4 g d1' z1
          refine ⟨e', he, fun Z' H' hZ hH o' rd => ?_⟩
          have r1 := hr Z' H' hZ (fun a o e z => hH a o e (z.imp id (Or.imp (fun m => List.mem_cons_of_mem _ (List.mem_append_right _ m)) (List.mem_append_left _)))) o' rd
          have r2 := f4 Z' H' hZ (fun a o e z => hH a o e (z.imp id (Or.imp (fun m => List.mem_cons_of_mem _ (List.mem_append_left _ m)) (List.mem_append_right _)))) d1' _ r1
          have r3 := RD.oown (hH _ _ h1 (.inr (.inl List.mem_cons_self))) en r2
          simpa [List.append_assoc] using r3
        | @oshr a dx _ fs _ _ z h1 en T =>
          obtain ⟨j, u0, l1, l2, l3, l4, l5⟩ := lookup_zip T en.1 q1
          obtain ⟨u, A1, o1, B1, f1, f2, f3, f4⟩ := T.focus l1
          rw [l2] at f1
          have eu : u = u0 := (Option.some.inj f1).symm
          subst eu
          obtain ⟨w, A2, o2, B2, g1, g2, g3, g4⟩ := ih d1 u o1 e f3 q2
          subst g2
          exact ⟨w, A1 ++ A2, o2, B2 ++ B1, .fl h1 ⟨en.2, l5⟩ l3 g1, by simpa [List.append_assoc] using f2, g3, fun g d' qq => nomatch qq⟩
end
end Mv

namespace Mv
open PySem L2

section
variable {k : Kc} {sx : Option (Addr × Addr)} {W : WX} {Z Z' Z0 Z1 Z2 : Addr → Prop} {H H' H0 H1 H2 : Hp} {σ : St} {r r1 r2 : En} {os os' os0 os1 os2 od : List Addr}

theorem getP_snoc : ∀ (p : List St1) (d : D) (s : St1), getP d (p ++ [s]) = (getP d p).bind fun e => getS e s
  | [], d, s => by show (getS d s).bind (fun e => some e) = getS d s; cases getS d s <;> rfl
  | t :: p, d, s => by
    show (getS d t).bind (fun e => getP e (p ++ [s])) = ((getS d t).bind fun e => getP e p).bind fun e => getS e s
    cases getS d t with
    | none => rfl
    | some e => exact getP_snoc p e s
theorem updP_snoc (g : D → Option D) (s : St1) : ∀ (p : List St1) (d : D), updP g d (p ++ [s]) = updP (fun e => updP g e [s]) d p
  | [], d => rfl
  | t :: p, d => by
    cases d with
    | lst kd ds => cases kd <;> cases t <;> first | rfl | simp only [List.cons_append, updP, updP_snoc g s p]
    | obj kd c ks ds => cases kd <;> cases t <;> first | rfl | simp only [List.cons_append, updP, updP_snoc g s p]
    | _ => simp [updP]

/-- a place of the frame, as it lies: the thing e there, at w; what a change there does -/
structure WayAt (k : Kc) (sx : Option (Addr × Addr)) (Z : Addr → Prop) (r : En) (σ : St) (H : Hp) (os : List Addr) (x : Nat) (p : List St1) (e : D) (w : V) : Prop where
  inn : ∃ d v A0 B0 A o B, slot r x = some d ∧ (∀ c w, d ≠ .exn c w) ∧ σ[x]? = some (some v) ∧ getP d p = some e ∧ os = A0 ++ ((A ++ (o ++ B)) ++ B0) ∧ RD k Z H d v (A ++ (o ++ B)) ∧ RD k Z H e w o ∧
    (∀ g d', updP g d p = some d' → ∃ e', g e = some e' ∧
      ∀ Z' H', (∀ a, Z a → Z' a) → (∀ a o, H a = some o → (Z a ∨ a ∈ A ∨ a ∈ B) → H' a = some o) → ∀ o', RD k Z' H' e' w o' → RD k Z' H' d' v (A ++ (o' ++ B))) ∧
    (∀ Z' H', (∀ a, Z a → Z' a) → (∀ a o, H a = some o → (Z a ∨ a ∈ A0 ∨ a ∈ B0) → H' a = some o) → ∀ d' o', RD k Z' H' d' v o' → RS k sx Z' H' (r.set x (some d')) σ (A0 ++ (o' ++ B0))) ∧
    RS k sx Z H (r.set x none) σ (A0 ++ B0)
theorem WayAt.ex {x : Nat} {p : List St1} {e : D} {w : V} (h : WayAt k sx Z r σ H os x p e w) :
    ∃ d A o B, slot r x = some d ∧ (∀ c w, d ≠ .exn c w) ∧ getP d p = some e ∧ os = A ++ (o ++ B) ∧ RD k Z H e w o ∧ ∀ g d', updP g d p = some d' → ∃ e', g e = some e' ∧
      ∀ Z' H', (∀ a, Z a → Z' a) → (∀ a o, H a = some o → (Z a ∨ a ∈ A ∨ a ∈ B) → H' a = some o) → ∀ o', RD k Z' H' e' w o' → RS k sx Z' H' (r.set x (some d')) σ (A ++ (o' ++ B)) := by
  obtain ⟨d, v, A0, B0, A, o, B, e1, ne, e2, e3, e4, e5, e6, e7, e8, _⟩ := h.inn
  subst e4
  refine ⟨d, A0 ++ A, o, B ++ B0, e1, ne, e3, by simp [List.append_assoc], e6, fun g d' q => ?_⟩
  obtain ⟨e', z1, z2⟩ := e7 g d' q
  refine ⟨e', z1, fun Z' H' hZ hH o' rd => ?_⟩
  have r1 := z2 Z' H' hZ (fun a o e z => hH a o e (z.imp id (Or.imp (List.mem_append_right _) (List.mem_append_left _)))) o' rd
  have r2 := e8 Z' H' hZ (fun a o e z => hH a o e (z.imp id (Or.imp (List.mem_append_left _) (List.mem_append_right _)))) d' _ r1
  simpa [List.append_assoc] using r2
theorem WayAt.nil {x : Nat} {d : D} (h : RS k sx Z H r σ os) (e : slot r x = some d) (ne : ∀ c w, d ≠ .exn c w) : ∃ v, σ[x]? = some (some v) ∧ WayAt k sx Z r σ H os x [] d v := by
  obtain ⟨v, A, o, B, e1, e2, e3, e0, e4⟩ := h.focusN e ne
  exact ⟨v, e1, ⟨d, v, A, B, [], o, [], e, ne, e1, rfl, by simpa using e2, by simpa using e3, e3, fun g d' q => ⟨d', q, fun Z' H' _ _ o' rd => by simpa using rd⟩, e4, e0⟩⟩
theorem WayAt.snoc {x : Nat} {p : List St1} {s : St1} {e e' : D} {u : V} (h : WayAt k sx Z r σ H os x p e u) (q : getS e s = some e') : ∃ w, CP k H u [s] w ∧ WayAt k sx Z r σ H os x (p ++ [s]) e' w := by
  obtain ⟨d, v, A0, B0, A, o, B, e1, ne, e2, e3, e4, e5, e6, e7, e8, e9⟩ := h.inn
  have gs : getP e [s] = some e' := by show (getS e s).bind (fun e => some e) = some e'; rw [q]; rfl
  obtain ⟨w, A2, o2, B2, c1, c2, c3, c4⟩ := RD.way [s] e u o e' e6 gs
  subst c2
  subst e4
  refine ⟨w, c1, ⟨d, v, A0, B0, A ++ A2, o2, B2 ++ B, e1, ne, e2, by rw [getP_snoc, e3]; exact q, by simp [List.append_assoc], by simpa [List.append_assoc] using e5, c3, fun g d' z => ?_, e8, e9⟩⟩
  rw [updP_snoc] at z
  obtain ⟨e1', z1, z2⟩ := e7 _ d' z
  obtain ⟨e2', y1, y2⟩ := c4 g e1' z1
  refine ⟨e2', y1, fun Z' H' hZ hH o' rd => ?_⟩
  have r1 := y2 Z' H' hZ (fun a o e z => hH a o e (z.imp id (Or.imp (List.mem_append_right _) (List.mem_append_left _)))) o' rd
  have r2 := z2 Z' H' hZ (fun a o e z => hH a o e (z.imp id (Or.imp (List.mem_append_left _) (List.mem_append_right _)))) _ r1
  simpa [List.append_assoc] using r2
theorem nodup_mid {A o B : List Addr} (h : (A ++ (o ++ B)).Nodup) : (A ++ B).Nodup ∧ o.Nodup ∧ (∀ a ∈ o, a ∉ A ∧ a ∉ B) := by
  obtain ⟨h1, h2, h3⟩ := List.nodup_append.mp h
  obtain ⟨h4, h5, h6⟩ := List.nodup_append.mp h2
  exact ⟨List.nodup_append.mpr ⟨h1, h5, fun a m b n => h3 a m b (List.mem_append_right _ n)⟩, h4, fun a m => ⟨fun n => h3 a n a (List.mem_append_left _ m) rfl, fun n => h6 a m a n rfl⟩⟩
/-- a place is read -/
theorem readP_ok {Zb : Addr → Prop} {Hb : Hp} {osb : List Addr} {x : Nat} {p : List St1} {e : D} {w : V} {Q : VK} (R : Rel k sx Z r σ H os) (wy : WayAt k sx Z r σ H os x p e w) (h : Sat k sx W Zb Hb osb σ (readP r x p) (PostV k sx Z0 H0 os0 σ Q)) {t : List Addr} (S : Step Z0 Z H0 H os0 (t ++ os)) : Q w H := by
  obtain ⟨d, A, o, B, e1, ne, e2, e3, e4, e5⟩ := wy.ex
  unfold readP at h
  rw [e1] at h
  simp only [e2] at h
  have nx : ∀ c w, e ≠ .exn c w := fun c w z => by rw [z] at e4; cases e4
  have h : Sat k sx W Zb Hb osb σ (if e.owned then (match updP (fun x => some x.frz) d p with
        | some d' => .ok e.frz (r.set x (some d'))
        | none => .bad) else .ok e r) (PostV k sx Z0 H0 os0 σ Q) := by
    cases e <;> first | exact h | exact absurd rfl (nx _ _)
  have S0 : Step Z0 Z H0 H os0 os := S.less fun x m => List.mem_append_right _ m
  split at h
  · rename_i ow
    split at h
    · rename_i d' q
      obtain ⟨e', z1, z2⟩ := e5 _ d' q
      cases z1
      subst e3
      obtain ⟨n1, n2, n3⟩ := nodup_mid R.nd
      have dm := RD.dom _ _ _ e4
      have rd : RD k (fun a => Z a ∨ a ∈ o) H e.frz w [] := RD.frz (fun a z => .inl z) e w o (fun a m => .inr m) e4
      have rs := z2 (fun a => Z a ∨ a ∈ o) H (fun a z => .inl z) (fun a o e _ => e) [] rd
      refine h w H (fun a => Z a ∨ a ∈ o) [] (A ++ B) ⟨rs, n1, fun a m z => ?_, fun a z => ?_⟩ rd n1 (fun _ m => by cases m) (S0.trans ⟨fun a o e _ => e, fun a z => .inl z, fun a z => ?_, fun a m => .inl ?_⟩)
      · rcases z with z | z
        · exact R.nz a (by rcases List.mem_append.mp m with m | m <;> simp [m]) z
        · rcases List.mem_append.mp m with m | m
          · exact (n3 a z).1 m
          · exact (n3 a z).2 m
      · rcases z with z | z
        · exact R.zd a z
        · exact dm a z
      · rcases z with z | z
        · exact .inl z
        · exact .inr (.inl (by simp [z]))
      · rcases List.mem_append.mp (show a ∈ A ++ B from m) with m | m <;> simp [m]
    · exact h.elim
  · rename_i ow
    have z : o = [] := e4.noOwn (by simpa using ow)
    subst z
    exact h w H Z [] os R e4 R.nd (fun _ m => by cases m) S0
end
end Mv

namespace Mv
open PySem L2

section
variable {k : Kc} {sx : Option (Addr × Addr)} {W : WX} {Z Z' Z0 Z1 Z2 : Addr → Prop} {H H' H0 H1 H2 : Hp} {σ : St} {r r1 r2 : En} {os os' os0 os1 os2 od : List Addr}

/-- arguments as they lie -/
inductive ArV (k : Kc) (Z : Addr → Prop) (H : Hp) (σ : St) : Ar → V → List Addr → Prop
  | v {d : D} {v : V} {o : List Addr} : RD k Z H d v o → ArV k Z H σ (.v d) v o
  | r {i : Nat} {v : V} : σ[i]? = some (some v) → ArV k Z H σ (.r i) v []
inductive ArVs (k : Kc) (Z : Addr → Prop) (H : Hp) (σ : St) : List Ar → List V → List Addr → Prop
  | nil : ArVs k Z H σ [] [] []
  | cons {a : Ar} {as : List Ar} {v : V} {vs : List V} {o os : List Addr} : ArV k Z H σ a v o → ArVs k Z H σ as vs os → ArVs k Z H σ (a :: as) (v :: vs) (o ++ os)
def PostA (k : Kc) (sx : Option (Addr × Addr)) (Z : Addr → Prop) (H : Hp) (os : List Addr) (σ : St) (Q : VK) (a : Ar) (r : En) : Prop :=
  ∀ v H' Z' od os', Rel k sx Z' r σ H' os' → ArV k Z' H' σ a v od → (od ++ os').Nodup → (∀ a ∈ od, ¬ Z' a) → Step Z Z' H H' os (od ++ os') → Q v H'
def PostAs (k : Kc) (sx : Option (Addr × Addr)) (Z : Addr → Prop) (H : Hp) (os : List Addr) (σ : St) (Q : List V → Hp → Prop) (as : List Ar) (r : En) : Prop :=
  ∀ vs H' Z' od os', Rel k sx Z' r σ H' os' → ArVs k Z' H' σ as vs od → (od ++ os').Nodup → (∀ a ∈ od, ¬ Z' a) → Step Z Z' H H' os (od ++ os') → Q vs H'
def tAr (k : Kc) (sx : Option (Addr × Addr)) (W : WX) (e : En → Out Ar) : TE := fun σ H Q => ∃ Z r os, Rel k sx Z r σ H os ∧ Sat k sx W Z H os σ (e r) (PostA k sx Z H os σ Q)
def tAs (k : Kc) (sx : Option (Addr × Addr)) (W : WX) (e : En → Out (List Ar)) : TA := fun σ H Q => ∃ Z r os, Rel k sx Z r σ H os ∧ Sat k sx W Z H os σ (e r) (PostAs k sx Z H os σ Q)
/-- a place, looked up alone -/
def tPl (k : Kc) (sx : Option (Addr × Addr)) (a : E) : TE := fun σ H Q => ∃ Z r os x p e, Rel k sx Z r σ H os ∧ path a r = some (x, p) ∧ peekP r x p = some e ∧ (∀ c w, slot r x ≠ some (.exn c w)) ∧ ∀ w, WayAt k sx Z r σ H os x p e w → Q w H
def tI (k : Kc) (sx : Option (Addr × Addr)) (a : E) : TE := fun σ H Q => ∃ Z r os n, Rel k sx Z r σ H os ∧ evI a r = some n ∧ Q (.int n) H

theorem ArV.carry {a : Ar} {v : V} (h : ArV k Z H σ a v od) (nd : (od ++ os).Nodup) (nz : ∀ a ∈ od, ¬ Z a) (R : Rel k sx Z r σ H os) (S : Step Z Z' H H' os os') (nd' : os'.Nodup) :
    ArV k Z' H' σ a v od ∧ (od ++ os').Nodup ∧ ∀ a ∈ od, ¬ Z' a := by
  cases h with
  | v h => obtain ⟨a, b, c⟩ := h.carry nd nz R S nd'; exact ⟨.v a, b, c⟩
  | r h => exact ⟨.r h, nd', fun _ m => by cases m⟩
theorem nodup3 {a b c : List Addr} (h : (a ++ (b ++ c)).Nodup) : ((a ++ b) ++ c).Nodup := by rwa [List.append_assoc]

theorem tAr_then {β : Type} {e : En → Out Ar} {f : Ar → En → Out β} {OK : β → En → Prop} {Q : VK} (R : Rel k sx Z r σ H os) (h : Sat k sx W Z H os σ ((e r).bind f) OK)
    (next : ∀ d r1 v H1 Z1 od os1, Rel k sx Z1 r1 σ H1 os1 → ArV k Z1 H1 σ d v od → (od ++ os1).Nodup → (∀ a ∈ od, ¬ Z1 a) → Step Z Z1 H H1 os (od ++ os1) → Sat k sx W Z H os σ (f d r1) OK → Q v H1) : tAr k sx W e σ H Q :=
  ⟨Z, r, os, R, (Sat.bind.mp h).imp fun d r1 q v H1 Z1 od os1 R1 rd nd nz S => next d r1 v H1 Z1 od os1 R1 rd nd nz S q⟩
theorem tAs_then {β : Type} {e : En → Out (List Ar)} {f : List Ar → En → Out β} {OK : β → En → Prop} {Q : List V → Hp → Prop} (R : Rel k sx Z r σ H os) (h : Sat k sx W Z H os σ ((e r).bind f) OK)
    (next : ∀ d r1 v H1 Z1 od os1, Rel k sx Z1 r1 σ H1 os1 → ArVs k Z1 H1 σ d v od → (od ++ os1).Nodup → (∀ a ∈ od, ¬ Z1 a) → Step Z Z1 H H1 os (od ++ os1) → Sat k sx W Z H os σ (f d r1) OK → Q v H1) : tAs k sx W e σ H Q :=
  ⟨Z, r, os, R, (Sat.bind.mp h).imp fun d r1 q v H1 Z1 od os1 R1 rd nd nz S => next d r1 v H1 Z1 od os1 R1 rd nd nz S q⟩
end

theorem truD_ok {k : Kc} {Z : Addr → Prop} {H : Hp} {d : D} {v : V} {od : List Addr} {b : Bool} (e : truD d = some b) (h : RD k Z H d v od) : TruV k.K v H b := by
  unfold truD at e
  cases h with
  | non => cases e; rfl
  | bl _ => cases e; rfl
  | int _ => cases e; rfl
  | str s =>
    simp only at e
    split at e
    · rename_i c
      cases e
      exact ⟨by rw [slE]; exact c, rfl⟩
    · cases e
  | tup h1 T =>
    cases e
    refine .inr (.inl ⟨_, h1.sq, ?_⟩)
    have := T.length
    rw [Bool.eq_iff_iff]
    simp only [Bool.not_eq_true', List.isEmpty_eq_false_iff, ← List.length_pos_iff]
    omega
  | own h1 T =>
    cases e
    refine .inl ⟨_, SqL.of h1, ?_⟩
    have := T.length
    rw [Bool.eq_iff_iff]
    simp only [Bool.not_eq_true', List.isEmpty_eq_false_iff, ← List.length_pos_iff]
    omega
  | shr _ h1 T =>
    cases e
    refine .inl ⟨_, SqL.of h1, ?_⟩
    have := T.length
    rw [Bool.eq_iff_iff]
    simp only [Bool.not_eq_true', List.isEmpty_eq_false_iff, ← List.length_pos_iff]
    omega
  | giv h1 T =>
    cases e
    refine .inl ⟨_, h1.sq, ?_⟩
    have := T.length
    rw [Bool.eq_iff_iff]
    simp only [Bool.not_eq_true', List.isEmpty_eq_false_iff, ← List.length_pos_iff]
    omega
  | oown _ _ _ => cases e
  | oshr _ _ _ _ => cases e

/-- all that is shown of an expression -/
structure Snd (X : Cx) (k : Kc) (sx : Option (Addr × Addr)) (W : WX) (P : Pg) (F : Nat → List D → FOut) (e : Expr) (a : E) : Prop where
  v : PE X e (tV k sx W (ev P F a).v)
  t : PT X e (tT k sx W (ev P F a).t)
  ar : PE X e (tAr k sx W (ev P F a).a)
  pl : PE X e (tPl k sx a)
  it : PE X e (tI k sx a)

section
variable {X : Cx} {k : Kc} {sx : Option (Addr × Addr)} {W : WX} {P : Pg} {F : Nat → List D → FOut} {pos : Pos} {e : Expr} {a : E}
theorem pe_no {t : TE} (h : ∀ σ H Q, ¬ t σ H Q) : PE X e t := ⟨fun _ _ σ H Q _ q => absurd q (h σ H Q)⟩
theorem pl_no (h : ∀ r, path a r = none) : PE X e (tPl k sx a) := pe_no fun σ H Q ⟨Z, r, os, x, p, d, _, q, _⟩ => by rw [h] at q; cases q
theorem it_no (h : ∀ r, evI a r = none) : PE X e (tI k sx a) := pe_no fun σ H Q ⟨Z, r, os, n, _, q, _⟩ => by rw [h] at q; cases q
/-- an expression whose test is its value's truth -/
theorem tst {f : En → Out D} (hK : X.K = k.K) (h : PE X e (tV k sx W f)) (he : ∀ whole, isTrue e X.env whole = (do let v ← whole; standAt e.pos; holding [v] (truthy v))) : PT X e (tT k sx W fun r => (f r).bind fun d r => .of (truD d) r) := by
  refine (pt_truth h he).weak fun σ H Q ⟨Z, r, os, R, q⟩ => ?_
  refine tV_then R q fun d r1 v H1 Z1 od os1 R1 rd nd nz S1 q1 => ?_
  obtain ⟨b, e1, q2⟩ := q1.of
  exact ⟨b, by rw [hK]; exact truD_ok e1 rd, q2 H1 Z1 os1 R1 (S1.less fun x m => List.mem_append_right _ m)⟩
theorem arg {f : En → Out D} (h : PE X e (tV k sx W f)) : PE X e (tAr k sx W fun r => (f r).bind fun d r => .ok (.v d) r) := by
  refine h.weak fun σ H Q ⟨Z, r, os, R, q⟩ => ?_
  exact tV_then R q fun d r1 v H1 Z1 od os1 R1 rd nd nz S1 q1 => q1 v H1 Z1 od os1 R1 (.v rd) nd nz S1
theorem snd1 {f : En → Out D} (hK : X.K = k.K) (h : PE X e (tV k sx W f)) (he : ∀ whole, isTrue e X.env whole = (do let v ← whole; standAt e.pos; holding [v] (truthy v))) (ha : ev P F a = .mk1 f) (hp : PE X e (tPl k sx a)) (hi : PE X e (tI k sx a)) : Snd X k sx W P F e a :=
  ⟨by rw [ha]; exact h, by rw [ha]; exact tst hK h he, by rw [ha]; exact arg h, hp, hi⟩

/-! ### the forms -/
theorem s_int {i : Int} {j : Nat} (hK : X.K = k.K) : Snd X k sx W P F (.Constant (.int i) j pos) (.int i) :=
  snd1 hK (sv_tC pe_int fun _ _ => .int _) (fun _ => rfl) rfl (pl_no fun _ => rfl) (pe_int.weak fun σ H Q ⟨Z, r, os, n, _, q, h⟩ => by cases q; exact h)
theorem s_bl {b : Bool} {j : Nat} (hK : X.K = k.K) : Snd X k sx W P F (.Constant (.bool b) j pos) (.bl b) := snd1 hK (sv_tC pe_bl fun _ _ => .bl _) (fun _ => rfl) rfl (pl_no fun _ => rfl) (it_no fun _ => rfl)
theorem s_str {b : Str} {j : Nat} (hK : X.K = k.K) : Snd X k sx W P F (.Constant (.str b) j pos) (.str b) := snd1 hK (sv_tC pe_str fun _ _ => .str _) (fun _ => rfl) rfl (pl_no fun _ => rfl) (it_no fun _ => rfl)
theorem s_non {j : Nat} (hK : X.K = k.K) : Snd X k sx W P F (.Constant .none j pos) .non := snd1 hK (sv_tC pe_non fun _ _ => .non) (fun _ => rfl) rfl (pl_no fun _ => rfl) (it_no fun _ => rfl)
theorem s_glob {x : Str} {i : Int} {u : Value} (hK : X.K = k.K) (hg : Gl X x) (hm : X.mg x = some u) (hr : RelV (.int i) u) (hd : (x == ("__debug__" : Str)) = false) : Snd X k sx W P F (.Name x pos) (.int i) :=
  snd1 hK (sv_tC (pe_glob hg hm hr hd) fun _ _ => .int _) (fun _ => rfl) rfl (pl_no fun _ => rfl) ((pe_glob hg hm hr hd).weak fun σ H Q ⟨Z, r, os, n, _, q, h⟩ => by cases q; exact h)

theorem has_of {r : En} {i : Nat} (h : has r i = true) : ∃ d, slot r i = some d ∧ ∀ c w, d ≠ .exn c w := by
  unfold has Ar.peek at h
  cases q : slot r i with
  | none => simp [q] at h
  | some d =>
    refine ⟨d, rfl, fun c w z => ?_⟩
    subst z
    simp [q] at h
theorem s_var {x : Str} {i : Nat} (hK : X.K = k.K) (hN : X.N[i]? = some x) (hv : Vis X.env.scope x) (hd : (x == ("__debug__" : Str)) = false) (hcd : (x == ("__classdict__" : Str)) = false) : Snd X k sx W P F (.Name x pos) (.var i) := by
  have h := pe_var (pos := pos) hN hv hd hcd
  refine ⟨h.weak fun σ H Q ⟨Z, r, os, R, q⟩ => ?_, (pt_truth h fun _ => rfl).weak fun σ H Q ⟨Z, r, os, R, q⟩ => ?_, h.weak fun σ H Q ⟨Z, r, os, R, q⟩ => ?_, h.weak fun σ H Q ⟨Z, r, os, y, p, d, R, q, pk, ne, g⟩ => ?_, h.weak fun σ H Q ⟨Z, r, os, n, R, q, g⟩ => ?_⟩
  · have q : Sat k sx W Z H os σ (readP r i []) (PostV k sx Z H os σ Q) := q
    cases s : slot r i with
    | none => simp only [readP, s] at q; exact q.elim
    | some d =>
      have ne : ∀ c w, d ≠ .exn c w := fun c w z => by subst z; simp only [readP, s, getP] at q; exact q.elim
      obtain ⟨v, e1, wy⟩ := WayAt.nil R.rs s ne
      exact ⟨v, e1, readP_ok R wy q (t := []) Step.refl⟩
  · have q : Sat k sx W Z H os σ (Out.of ((slot r i).bind truD) r) (PostT k sx Z H os σ Q) := q
    obtain ⟨b, e1, q2⟩ := q.of
    obtain ⟨d, s, e2⟩ := Option.bind_eq_some_iff.mp e1
    have ne : ∀ c w, d ≠ .exn c w := fun c w z => by subst z; cases e2
    obtain ⟨v, A, o, B, e3, e4, rd, _⟩ := R.rs.focus s ne
    exact ⟨v, e3, b, by rw [hK]; exact truD_ok e2 rd, q2 H Z os R Step.refl⟩
  · have q : Sat k sx W Z H os σ (if has r i then .ok (.r i) r else .bad) (PostA k sx Z H os σ Q) := q
    split at q
    · rename_i c
      obtain ⟨d, s, ne⟩ := has_of c
      obtain ⟨v, A, o, B, e3, e4, rd, _⟩ := R.rs.focus s ne
      exact ⟨v, e3, q v H Z [] os R (.r e3) R.nd (fun _ m => by cases m) Step.refl⟩
    · exact q.elim
  · cases q
    have pk : (slot r i).bind (fun d => getP d []) = some d := pk
    obtain ⟨d', s, e2⟩ := Option.bind_eq_some_iff.mp pk
    cases e2
    obtain ⟨v, e1, wy⟩ := WayAt.nil R.rs s (fun c w z => ne c w (by rw [s, z]))
    exact ⟨v, e1, g v wy⟩
  · have q : (match slot r i with | some (.int n) => some n | _ => none) = some n := q
    split at q
    · rename_i m s
      cases q
      obtain ⟨v, A, o, B, e3, e4, rd, _⟩ := R.rs.focus s (fun c w z => by cases z)
      cases rd
      exact ⟨_, e3, g⟩
    · cases q
theorem s_bin {op : Operator} {e1 e2 : Expr} {a1 a2 : E} (hK : X.K = k.K) (h1 : Snd X k sx W P F e1 a1) (h2 : Snd X k sx W P F e2 a2) : Snd X k sx W P F (.BinOp e1 op e2 pos) (.bin op a1 a2) := by
  refine snd1 (f := fun r => ((ev P F a1).v r).bind fun x r => ((ev P F a2).v r).bind fun y r => .of (binD op x y) r) hK ((pe_op (opr_bin op) h1.v h2.v).weak fun σ H Q ⟨Z, r, os, R, q⟩ => ?_) (fun _ => rfl) rfl (pl_no fun _ => rfl) ?_
  · refine tV_then R q fun d1 r1 v1 H1 Z1 o1 os1 R1 rd1 nd1 nz1 S1 q1 => ?_
    refine tV_then R1 (q1.base S1) fun d2 r2 v2 H2 Z2 o2 os2 R2 rd2 nd2 nz2 S2 q2 => ?_
    obtain ⟨d, e1, q3⟩ := q2.of
    obtain ⟨rd1', nd1', _⟩ := rd1.carry nd1 nz1 R1 S2 nd2
    rw [hK]
    exact binD_ok e1 R2 rd1' rd2 nd1' (S1.trans (S2.wide o1)) q3
  · cases op <;> first
      | (refine (pe_add h1.it h2.it).weak fun σ H Q ⟨Z, r, os, n, R, q, g⟩ => ?_
         obtain ⟨x, x1, x2⟩ := Option.bind_eq_some_iff.mp (show ((evI a1 r).bind fun x => (evI a2 r).map fun y => x + y) = some n from q)
         obtain ⟨y, y1, rfl⟩ := Option.map_eq_some_iff.mp x2
         exact (show t2I (tI k sx a1) (tI k sx a2) (fun i j H2 => Q (.int (i + j)) H2) σ H from ⟨Z, r, os, x, R, x1, Z, r, os, y, R, y1, x, y, rfl, rfl, g⟩))
      | (refine (pe_sub h1.it h2.it).weak fun σ H Q ⟨Z, r, os, n, R, q, g⟩ => ?_
         obtain ⟨x, x1, x2⟩ := Option.bind_eq_some_iff.mp (show ((evI a1 r).bind fun x => (evI a2 r).map fun y => x - y) = some n from q)
         obtain ⟨y, y1, rfl⟩ := Option.map_eq_some_iff.mp x2
         exact (show t2I (tI k sx a1) (tI k sx a2) (fun i j H2 => Q (.int (i - j)) H2) σ H from ⟨Z, r, os, x, R, x1, Z, r, os, y, R, y1, x, y, rfl, rfl, g⟩))
      | exact it_no fun _ => by simp [evI]
theorem s_neg {e1 : Expr} {a1 : E} (hK : X.K = k.K) (h1 : Snd X k sx W P F e1 a1) : Snd X k sx W P F (.UnaryOp .USub e1 pos) (.neg a1) := by
  refine snd1 (f := fun r => ((ev P F a1).v r).bind fun x r => match x with
    | .int i => .ok (.int (-i)) r
    | _ => .bad) hK ((pe_un un_neg h1.v).weak fun σ H Q ⟨Z, r, os, R, q⟩ => ?_) (fun _ => rfl) rfl (pl_no fun _ => rfl) ?_
  · refine tV_then R q fun d1 r1 v1 H1 Z1 o1 os1 R1 rd1 nd1 nz1 S1 q1 => ?_
    show ∃ i, v1 = .int i ∧ Q (.int (-i)) H1
    cases rd1 <;> first
      | exact ⟨_, rfl, PostV.atom q1 S1 R1 (.int _)⟩
      | exact q1.elim
  · refine (pe_un un_neg h1.it).weak fun σ H Q ⟨Z, r, os, n, R, q, g⟩ => ?_
    obtain ⟨x, x1, rfl⟩ := Option.map_eq_some_iff.mp (show (evI a1 r).map (fun x => -x) = some n from q)
    exact ⟨Z, r, os, x, R, x1, x, rfl, g⟩
theorem s_not {e1 : Expr} {a1 : E} (hK : X.K = k.K) (h1 : Snd X k sx W P F e1 a1) : Snd X k sx W P F (.UnaryOp .Not e1 pos) (.notE a1) := by
  have hv : PE X (.UnaryOp .Not e1 pos) (tV k sx W fun r => ((ev P F a1).v r).bind fun x r => match x with
    | .bl b => .ok (.bl (!b)) r
    | _ => .bad) := by
    refine (pe_not h1.v).weak fun σ H Q ⟨Z, r, os, R, q⟩ => ?_
    refine tV_then R q fun d1 r1 v1 H1 Z1 o1 os1 R1 rd1 nd1 nz1 S1 q1 => ?_
    show ∃ c, v1 = .bl c ∧ Q (.bl (!c)) H1
    cases rd1 <;> first
      | exact ⟨_, rfl, PostV.atom q1 S1 R1 (.bl _)⟩
      | exact q1.elim
  refine ⟨hv, (pt_not h1.t).weak fun σ H Q ⟨Z, r, os, R, q⟩ => ?_, arg hv, pl_no fun _ => rfl, it_no fun _ => rfl⟩
  exact tT_then R q fun b r1 H1 Z1 os1 R1 S1 q1 => q1 H1 Z1 os1 R1 S1
theorem s_ite {c e1 e2 : Expr} {b a1 a2 : E} (hK : X.K = k.K) (h0 : Snd X k sx W P F c b) (h1 : Snd X k sx W P F e1 a1) (h2 : Snd X k sx W P F e2 a2) : Snd X k sx W P F (.IfExp c e1 e2 pos) (.ite b a1 a2) := by
  have hv : PE X (.IfExp c e1 e2 pos) (tV k sx W fun r => ((ev P F b).t r).bind fun k r => if k then (ev P F a1).v r else (ev P F a2).v r) := by
    refine (pe_ifExp h0.t h1.v h2.v).weak fun σ H Q ⟨Z, r, os, R, q⟩ => ?_
    refine tT_then R q fun b r1 H1 Z1 os1 R1 S1 q1 => ?_
    have q1' : Sat k sx W Z1 H1 os1 σ _ _ := q1.base (od := []) S1
    cases b with
    | true => exact iteT ⟨Z1, r1, os1, R1, q1'.imp fun d r2 g v H2 Z2 od os2 R2 rd nd nz S2 => g v H2 Z2 od os2 R2 rd nd nz (S1.trans S2)⟩
    | false => exact iteF ⟨Z1, r1, os1, R1, q1'.imp fun d r2 g v H2 Z2 od os2 R2 rd nd nz S2 => g v H2 Z2 od os2 R2 rd nd nz (S1.trans S2)⟩
  refine ⟨hv, ⟨fun pins s σ H Q I ⟨Z, r, os, R, q⟩ => ?_⟩, arg hv, pl_no fun _ => rfl, it_no fun _ => rfl⟩
  have g : tT k sx W (ev P F b).t σ H fun c H1 => if c = true then tT k sx W (ev P F a1).t σ H1 Q else tT k sx W (ev P F a2).t σ H1 Q := by
    refine tT_then R q fun b r1 H1 Z1 os1 R1 S1 q1 => ?_
    have q1' : Sat k sx W Z1 H1 os1 σ _ _ := q1.base (od := []) S1
    cases b with
    | true => exact iteT ⟨Z1, r1, os1, R1, q1'.imp fun d r2 g H2 Z2 os2 R2 S2 => g H2 Z2 os2 R2 (S1.trans S2)⟩
    | false => exact iteF ⟨Z1, r1, os1, R1, q1'.imp fun d r2 g H2 Z2 os2 R2 S2 => g H2 Z2 os2 R2 (S1.trans S2)⟩
  show wpAny _ _ (do if ← isTrue c X.env (eval c X.env) then isTrue e1 X.env (eval e1 X.env) else isTrue e2 X.env (eval e2 X.env)) _ _ _
  refine wpAny_bind (thn (h0.t.run pins s σ H _ I g) fun d s1 ⟨H1, I1, q1⟩ => ?_)
  cases d with
  | true => exact h1.t.run pins s1 σ H1 Q I1 q1
  | false => exact h2.t.run pins s1 σ H1 Q I1 q1
end
end Mv

namespace Mv
open PySem L2

/-! ### data -/
section
variable {k : Kc} {Z : Addr → Prop} {H : Hp}
mutual
theorem RD.dp : ∀ (d : D) (v : V) (os : List Addr) (x : PyData), RD k Z H d v os → d.py = some x → Dp k.K H v x
  | .non, _, _, _, h, e => by cases h; cases e; exact .non
  | .bl _, _, _, _, h, e => by cases h; cases e; exact .bl _
  | .int _, _, _, _, h, e => by cases h; cases e; exact .int _
  | .str _, _, _, _, h, e => by cases h; cases e; exact .str _
  | .tup ds, _, _, x, h, e => by
    obtain ⟨xs, e1, rfl⟩ := Option.map_eq_some_iff.mp (show (D.pys ds).map PyData.tuple = some x from e)
    cases h with
    | tup h1 T => exact .tup h1.sq (RDs.dp ds _ _ xs T e1)
  | .lst _ ds, _, _, x, h, e => by
    obtain ⟨xs, e1, rfl⟩ := Option.map_eq_some_iff.mp (show (D.pys ds).map PyData.list = some x from e)
    cases h with
    | own h1 T => exact .lst (SqL.of h1) (RDs.dp ds _ _ xs T e1)
    | shr _ h1 T => exact .lst (SqL.of h1) (RDs.dp ds _ _ xs T e1)
    | giv h1 T => exact .lst h1.sq (RDs.dp ds _ _ xs T e1)
  | .obj _ _ _ _, _, _, _, _, e => by cases e
  | .exn _ _, _, _, _, _, e => by cases e
theorem RDs.dp : ∀ (ds : List D) (vs : List V) (os : List Addr) (xs : List PyData), RDs k Z H ds vs os → D.pys ds = some xs → DpAll k.K H vs xs
  | [], _, _, _, h, e => by cases h; cases e; exact .nil
  | d :: ds, _, _, xs, h, e => by
    unfold D.pys at e
    cases e1 : D.py d with
    | none => rw [e1] at e; cases e
    | some x =>
      cases e2 : D.pys ds with
      | none => rw [e1, e2] at e; cases e
      | some ys =>
        rw [e1, e2] at e
        cases e
        cases h with
        | cons h1 h2 => exact .cons (RD.dp d _ _ x h1 e1) (RDs.dp ds _ _ ys h2 e2)
end
theorem intsOf_vs : ∀ {ds : List D} {vs : List V} {os : List Addr} {ns : List Int}, RDs k Z H ds vs os → intsOf ds = some ns → vs = ns.map V.int ∧ ds = ns.map D.int
  | [], _, _, _, h, e => by cases h; cases e; exact ⟨rfl, rfl⟩
  | d :: ds, _, _, ns, h, e => by
    cases d with
    | int i =>
      obtain ⟨ms, e1, rfl⟩ := Option.map_eq_some_iff.mp (show (intsOf ds).map (fun x => i :: x) = some ns from e)
      cases h with
      | cons h1 h2 =>
        cases h1
        obtain ⟨q1, q2⟩ := intsOf_vs h2 e1
        subst q1
        exact ⟨rfl, by rw [List.map_cons, ← q2]⟩
    | _ => cases e
end

section
variable {X : Cx}
/-- x in a list or tuple of data -/
def rInG (K : PySem.W.Frag) (f : Bool → Bool) : R2 := fun x y H Q => ∃ d ds, Dp K H x d ∧ ((Dp K H y (.list ds) ∧ SeqAt.shaped (.list ds) = true) ∨ (Dp K H y (.tuple ds) ∧ SeqAt.shaped (.tuple ds) = true)) ∧ SeqAt.shaped d = true ∧ Q (.bl (f (ds.any fun z => PyData.eqv z d))) H
theorem op_inG (hu : X.A.units + 65 < cLine) : OpR X (compareOp .In) (rInG X.K id) := by
  intro pins s σ H x y v u Q I rx ry h
  obtain ⟨d, ds, hd, he, sd, q⟩ := h
  obtain ⟨as, r1⟩ := Dp.reads I d x v hd rx
  rcases he with ⟨he, se⟩ | ⟨he, se⟩
  · obtain ⟨bs, r2⟩ := Dp.reads I (.list ds) y u he ry
    exact SeqAt.in_list_reads r2 r1 (SeqAt.canLay_of_shaped se) (SeqAt.canLay_of_shaped sd) (PyProof.Rows.room_in_shaped sd hu) ⟨.bl _, H, I, rfl, q⟩
  · obtain ⟨bs, r2⟩ := Dp.reads I (.tuple ds) y u he ry
    exact SeqAt.in_tuple_reads r2 r1 (SeqAt.canLay_of_shaped se) (SeqAt.canLay_of_shaped sd) (PyProof.Rows.room_in_shaped sd hu) ⟨.bl _, H, I, rfl, q⟩
theorem op_notInG (hu : X.A.units + 65 < cLine) : OpR X (compareOp .NotIn) (rInG X.K (!·)) := by
  intro pins s σ H x y v u Q I rx ry h
  obtain ⟨d, ds, hd, he, sd, q⟩ := h
  obtain ⟨as, r1⟩ := Dp.reads I d x v hd rx
  rcases he with ⟨he, se⟩ | ⟨he, se⟩
  · obtain ⟨bs, r2⟩ := Dp.reads I (.list ds) y u he ry
    exact SeqAt.notIn_list_reads r2 r1 (SeqAt.canLay_of_shaped se) (SeqAt.canLay_of_shaped sd) (PyProof.Rows.room_in_shaped sd hu) ⟨.bl _, H, I, rfl, q⟩
  · obtain ⟨bs, r2⟩ := Dp.reads I (.tuple ds) y u he ry
    exact SeqAt.notIn_tuple_reads r2 r1 (SeqAt.canLay_of_shaped se) (SeqAt.canLay_of_shaped sd) (PyProof.Rows.room_in_shaped sd hu) ⟨.bl _, H, I, rfl, q⟩
def rCmp (K : PySem.W.Frag) (op : CmpOp) : R2 := match op with
  | .Eq => rEqD K
  | .NotEq => rNeD K
  | .Lt => fun x y H Q => rI0 (fun i j => .bl (decide (i < j))) x y H Q ∨ rLtT K x y H Q
  | .LtE => rI0 fun i j => .bl (decide (i ≤ j))
  | .Gt => rI0 fun i j => .bl (decide (j < i))
  | .GtE => rI0 fun i j => .bl (decide (j ≤ i))
  | .Is => fun x y H Q => y = .non ∧ Q (.bl (decide (x = .non))) H
  | .IsNot => fun x y H Q => y = .non ∧ Q (.bl (!decide (x = .non))) H
  | .In => rInG K id
  | .NotIn => rInG K (!·)
theorem opr_cmp (op : CmpOp) (hu : X.A.units + 100 < cLine) : OpR X (compareOp op) (rCmp X.K op) := by
  have h1 : X.A.units + 64 < cLine := by omega
  have h2 : X.A.units + 65 < cLine := by omega
  have h3 : X.A.units < cLine := by omega
  cases op <;> first
    | exact op_eqD h1
    | exact op_neD h1
    | exact op_lt.or (op_ltT h3)
    | exact op_le
    | exact op_gt
    | exact op_ge
    | exact op_isN
    | exact op_notN
    | exact op_inG h2
    | exact op_notInG h2
theorem inD_ok {k : Kc} {Z : Addr → Prop} {H : Hp} {da db : D} {x y : V} {oa ob : List Addr} {b : Bool} {f : Bool → Bool} {Q : VK} (e : inD da db = some b) (ra : RD k Z H da x oa) (rb : RD k Z H db y ob) (h : Q (.bl (f b)) H) : rInG k.K f x y H Q := by
  unfold inD at e
  split at e
  · rename_i u w e1 e2
    split at e
    · split at e
      · rename_i c
        cases e
        obtain ⟨c1, c2⟩ := Bool.and_eq_true_iff.mp c
        exact ⟨u, _, RD.dp _ _ _ _ ra e1, .inl ⟨RD.dp _ _ _ _ rb e2, c2⟩, c1, h⟩
      · cases e
    · split at e
      · rename_i c
        cases e
        obtain ⟨c1, c2⟩ := Bool.and_eq_true_iff.mp c
        exact ⟨u, _, RD.dp _ _ _ _ ra e1, .inr ⟨RD.dp _ _ _ _ rb e2, c2⟩, c1, h⟩
      · cases e
    · cases e
  · cases e
theorem eqD_ok {k : Kc} {Z : Addr → Prop} {H : Hp} {da db : D} {x y : V} {oa ob : List Addr} {b : Bool} (e : eqD da db = some b) (ra : RD k Z H da x oa) (rb : RD k Z H db y ob) :
    ∃ d e, Dp k.K H x d ∧ Dp k.K H y e ∧ SeqAt.shaped d = true ∧ SeqAt.shaped e = true ∧ PyData.eqv d e = b := by
  unfold eqD at e
  split at e
  · rename_i u w e1 e2
    split at e
    · rename_i c
      cases e
      obtain ⟨c1, c2⟩ := Bool.and_eq_true_iff.mp c
      exact ⟨u, w, RD.dp _ _ _ _ ra e1, RD.dp _ _ _ _ rb e2, c1, c2, rfl⟩
    · cases e
  · cases e
theorem RD.non_iff {k : Kc} {Z : Addr → Prop} {H : Hp} {d : D} {v : V} {os : List Addr} (h : RD k Z H d v os) : decide (v = .non) = match d with | .non => true | _ => false := by
  cases h <;> simp
theorem cmpD_ok {k : Kc} {Z : Addr → Prop} {H : Hp} {op : CmpOp} {da db : D} {x y : V} {oa ob : List Addr} {b : Bool} {Q : VK} (e : cmpD op da db = some b) (ra : RD k Z H da x oa) (rb : RD k Z H db y ob) (h : Q (.bl b) H) : rCmp k.K op x y H Q := by
  cases op with
  | Eq =>
    obtain ⟨u, w, h1, h2, h3, h4, rfl⟩ := eqD_ok e ra rb
    exact ⟨u, w, h1, h2, h3, h4, h⟩
  | NotEq =>
    obtain ⟨c, e1, rfl⟩ := Option.map_eq_some_iff.mp (show (eqD da db).map (!·) = some b from e)
    obtain ⟨u, w, h1, h2, h3, h4, rfl⟩ := eqD_ok e1 ra rb
    exact ⟨u, w, h1, h2, h3, h4, h⟩
  | In => exact inD_ok (f := id) e ra rb h
  | NotIn =>
    obtain ⟨c, e1, rfl⟩ := Option.map_eq_some_iff.mp (show (inD da db).map (!·) = some b from e)
    exact inD_ok (f := (!·)) e1 ra rb h
  | Is =>
    cases rb <;> first
      | (refine ⟨rfl, ?_⟩
         rw [ra.non_iff]
         cases da <;> first | (cases e; exact h) | cases e)
      | (cases da <;> cases e)
  | IsNot =>
    cases rb <;> first
      | (refine ⟨rfl, ?_⟩
         rw [ra.non_iff]
         cases da <;> first | (cases e; exact h) | cases e)
      | (cases da <;> cases e)
  | Lt =>
    cases ra <;> first
      | (cases rb <;> first
          | (cases e; exact .inl ⟨_, _, rfl, rfl, h⟩)
          | (cases e; done)
          | (rename_i a vs ds h1 T a2 vs2 ds2 h2 T2
             have e : (match intsOf ds, intsOf ds2 with | some u, some v => some (HT.lexLt u v) | _, _ => none) = some b := e
             split at e
             · rename_i u w e1 e2
               cases e
               obtain ⟨q1, _⟩ := intsOf_vs T e1
               obtain ⟨q2, _⟩ := intsOf_vs T2 e2
               subst q1 q2
               exact .inr ⟨_, _, _, _, rfl, rfl, h1.sq, h2.sq, h⟩
             · cases e))
      | (cases e; done)
  | LtE => cases ra <;> first
      | (cases rb <;> first
          | (cases e; exact ⟨_, _, rfl, rfl, h⟩)
          | (cases e; done))
      | (cases e; done)
  | Gt => cases ra <;> first
      | (cases rb <;> first
          | (cases e; exact ⟨_, _, rfl, rfl, h⟩)
          | (cases e; done))
      | (cases e; done)
  | GtE => cases ra <;> first
      | (cases rb <;> first
          | (cases e; exact ⟨_, _, rfl, rfl, h⟩)
          | (cases e; done))
      | (cases e; done)
end
end Mv

namespace Mv
open PySem L2

def nst : Expr → Bool
  | .Starred _ _ => false
  | _ => true
theorem star_cons {e : Expr} (h : nst e = true) (es : List Expr) (env : Env) : starEach (e :: es) env = (false, eval e env) :: starEach es env := by
  cases e <;> first | rfl | cases h
inductive SndL (X : Cx) (k : Kc) (sx : Option (Addr × Addr)) (W : WX) (P : Pg) (F : Nat → List D → FOut) : List Expr → List E → Prop
  | nil : SndL X k sx W P F [] []
  | cons {e : Expr} {a : E} {es : List Expr} {as : List E} : nst e = true → Snd X k sx W P F e a → SndL X k sx W P F es as → SndL X k sx W P F (e :: es) (a :: as)

section
variable {X : Cx} {k : Kc} {sx : Option (Addr × Addr)} {W : WX} {P : Pg} {F : Nat → List D → FOut} {pos : Pos} {es : List Expr} {as : List E}
theorem SndL.plain (h : SndL X k sx W P F es as) (pos : Pos) : (backTo pos (starEach es X.env)).any (·.1) = false := by
  induction h with
  | nil => rfl
  | cons n _ _ ih =>
    rw [star_cons n]
    show (false || (backTo pos _).any (·.1)) = false
    rw [ih]; rfl
theorem SndL.plainA (h : SndL X k sx W P F es as) (pos : Pos) : (backTo pos (starEach es X.env)).all (fun x => !x.1) = true := by
  induction h with
  | nil => rfl
  | cons n _ _ ih =>
    rw [star_cons n]
    show (true && (backTo pos _).all (fun x => !x.1)) = true
    rw [ih]; rfl
theorem SndL.length (h : SndL X k sx W P F es as) : as.length = es.length := by
  induction h with
  | nil => rfl
  | cons _ _ _ ih => simp [ih]
theorem pa_es (h : SndL X k sx W P F es as) : PA X es (tL k sx W (evEs (evs P F as))) := by
  induction h with
  | nil => exact pa_nil.weak fun σ H Q ⟨Z, r, os, R, q⟩ => q [] H Z [] os R .nil R.nd (fun _ m => by cases m) Step.refl
  | cons n h1 _ ih =>
    refine (pa_cons h1.v ih (star_cons n _ _)).weak fun σ H Q ⟨Z, r, os, R, q⟩ => ?_
    refine tV_then R q fun d r1 v H1 Z1 o1 os1 R1 rd nd nz S1 q1 => ?_
    refine tL_then R1 (q1.base S1) fun ds r2 vs H2 Z2 o2 os2 R2 T nd2 nz2 S2 q2 => ?_
    obtain ⟨rd', nd', nz'⟩ := rd.carry nd nz R1 S2 nd2
    exact q2 (v :: vs) H2 Z2 (o1 ++ o2) os2 R2 (.cons rd' T) (nodup3 nd') (fun a m => (List.mem_append.mp m).elim (nz' a) (nz2 a)) (by rw [List.append_assoc]; exact S1.trans (S2.wide o1))
theorem pa_as (h : SndL X k sx W P F es as) : PA X es (tAs k sx W (evAs (evs P F as))) := by
  induction h with
  | nil => exact pa_nil.weak fun σ H Q ⟨Z, r, os, R, q⟩ => q [] H Z [] os R .nil R.nd (fun _ m => by cases m) Step.refl
  | cons n h1 _ ih =>
    refine (pa_cons h1.ar ih (star_cons n _ _)).weak fun σ H Q ⟨Z, r, os, R, q⟩ => ?_
    refine tAr_then R q fun d r1 v H1 Z1 o1 os1 R1 rd nd nz S1 q1 => ?_
    refine tAs_then R1 (q1.base S1) fun ds r2 vs H2 Z2 o2 os2 R2 T nd2 nz2 S2 q2 => ?_
    obtain ⟨rd', nd', nz'⟩ := rd.carry nd nz R1 S2 nd2
    exact q2 (v :: vs) H2 Z2 (o1 ++ o2) os2 R2 (.cons rd' T) (nodup3 nd') (fun a m => (List.mem_append.mp m).elim (nz' a) (nz2 a)) (by rw [List.append_assoc]; exact S1.trans (S2.wide o1))

/-! ### and, or -/
theorem pv_and (h : SndL X k sx W P F es as) (ne : es ≠ []) : PE X (.BoolOp .And es pos) (tV k sx W (evAnd (evs P F as))) := by
  induction h with
  | nil => exact absurd rfl ne
  | @cons e a es as n h1 h2 ih =>
    cases h2 with
    | nil => exact pe_one h1.v
    | @cons e' a' es as n' h1' h2' =>
      refine (pe_and h1.v (ih (by simp))).weak fun σ H Q ⟨Z, r, os, R, q⟩ => ?_
      refine tV_then R q fun d r1 v H1 Z1 o1 os1 R1 rd nd nz S1 q1 => ?_
      cases rd with
      | bl b =>
        refine ⟨b, rfl, ?_⟩
        cases b with
        | true => exact iteT ⟨Z1, r1, os1, R1, (Sat.base q1 S1).imp fun d r2 g v H2 Z2 od os2 R2 rd nd nz S2 => g v H2 Z2 od os2 R2 rd nd nz (S1.trans S2)⟩
        | false => exact iteF (PostV.atom q1 S1 R1 (.bl _))
      | _ => exact q1.elim
theorem pv_or (h : SndL X k sx W P F es as) (ne : es ≠ []) : PE X (.BoolOp .Or es pos) (tV k sx W (evOr (evs P F as))) := by
  induction h with
  | nil => exact absurd rfl ne
  | @cons e a es as n h1 h2 ih =>
    cases h2 with
    | nil => exact pe_one h1.v
    | @cons e' a' es as n' h1' h2' =>
      refine (pe_or h1.v (ih (by simp))).weak fun σ H Q ⟨Z, r, os, R, q⟩ => ?_
      refine tV_then R q fun d r1 v H1 Z1 o1 os1 R1 rd nd nz S1 q1 => ?_
      cases rd with
      | bl b =>
        refine ⟨b, rfl, ?_⟩
        cases b with
        | true => exact iteT (PostV.atom q1 S1 R1 (.bl _))
        | false => exact iteF ⟨Z1, r1, os1, R1, (Sat.base q1 S1).imp fun d r2 g v H2 Z2 od os2 R2 rd nd nz S2 => g v H2 Z2 od os2 R2 rd nd nz (S1.trans S2)⟩
      | _ => exact q1.elim
theorem pw_and' (h : SndL X k sx W P F es as) (ne : es ≠ []) : PW X (.BoolOp .And es pos) (tT k sx W (evTAnd (evs P F as))) := by
  induction h with
  | nil => exact absurd rfl ne
  | @cons e a es as n h1 h2 ih =>
    cases h2 with
    | nil =>
      refine (pw_and1 h1.t).weak fun σ H Q ⟨Z, r, os, R, q⟩ => ?_
      exact tT_then R q fun b r1 H1 Z1 os1 R1 S1 q1 => by cases b <;> exact q1 H1 Z1 os1 R1 S1
    | @cons e' a' es as n' h1' h2' =>
      refine (pw_and h1.t (ih (by simp))).weak fun σ H Q ⟨Z, r, os, R, q⟩ => ?_
      refine tT_then R q fun b r1 H1 Z1 os1 R1 S1 q1 => ?_
      cases b with
      | true => exact iteT ⟨Z1, r1, os1, R1, (Sat.base (od := []) q1 S1).imp fun d r2 g H2 Z2 os2 R2 S2 => g H2 Z2 os2 R2 (S1.trans S2)⟩
      | false => exact iteF (q1 H1 Z1 os1 R1 S1)
theorem pw_or' (h : SndL X k sx W P F es as) (ne : es ≠ []) : PW X (.BoolOp .Or es pos) (tT k sx W (evTOr (evs P F as))) := by
  induction h with
  | nil => exact absurd rfl ne
  | @cons e a es as n h1 h2 ih =>
    cases h2 with
    | nil =>
      refine (pw_or1 h1.t).weak fun σ H Q ⟨Z, r, os, R, q⟩ => ?_
      exact tT_then R q fun b r1 H1 Z1 os1 R1 S1 q1 => by cases b <;> exact q1 H1 Z1 os1 R1 S1
    | @cons e' a' es as n' h1' h2' =>
      refine (pw_or h1.t (ih (by simp))).weak fun σ H Q ⟨Z, r, os, R, q⟩ => ?_
      refine tT_then R q fun b r1 H1 Z1 os1 R1 S1 q1 => ?_
      cases b with
      | true => exact iteT (q1 H1 Z1 os1 R1 S1)
      | false => exact iteF ⟨Z1, r1, os1, R1, (Sat.base (od := []) q1 S1).imp fun d r2 g H2 Z2 os2 R2 S2 => g H2 Z2 os2 R2 (S1.trans S2)⟩
theorem s_and (h : SndL X k sx W P F es as) (ne : es ≠ []) : Snd X k sx W P F (.BoolOp .And es pos) (.andE as) :=
  ⟨pv_and h ne, (pw_and' h ne).pt, arg (pv_and h ne), pl_no fun _ => rfl, it_no fun _ => rfl⟩
theorem s_or (h : SndL X k sx W P F es as) (ne : es ≠ []) : Snd X k sx W P F (.BoolOp .Or es pos) (.orE as) :=
  ⟨pv_or h ne, (pw_or' h ne).pt, arg (pv_or h ne), pl_no fun _ => rfl, it_no fun _ => rfl⟩

/-! ### comparisons -/
theorem peek_ok {Z : Addr → Prop} {H : Hp} {σ : St} {r : En} {os : List Addr} {a : Ar} {d : D} {v : V} {o : List Addr} (R : Rel k sx Z r σ H os) (h : ArV k Z H σ a v o) (e : a.peek r = some d) : ∃ o', RD k Z H d v o' := by
  cases h with
  | v h => cases e; exact ⟨_, h⟩
  | @r i v h =>
    unfold Ar.peek at e
    simp only at e
    have e' : slot r i = some d ∧ ∀ c w, d ≠ .exn c w := by
      split at e
      · cases e
      · rename_i n
        exact ⟨e, fun c w z => n c w (by rw [e, z])⟩
    obtain ⟨v', A, o, B, q1, q2, q3, _⟩ := R.rs.focus e'.1 e'.2
    rw [h] at q1
    cases q1
    exact ⟨o, q3⟩
def nset : Expr → Bool
  | .Set _ _ _ => false
  | _ => true
theorem mark_no {op : CmpOp} {e : Expr} (h : nset e = true) : behindInMarks op e = false := by cases e <;> first | rfl | cases h
theorem lastMarks_no : ∀ (ops : List CmpOp) (es : List Expr), (∀ e ∈ es, nset e = true) → lastMarks ops es = false
  | [], _, _ => by cases ‹List Expr› <;> rfl
  | [_], [], _ => rfl
  | [_], [e], h => mark_no (h e (by simp))
  | [_], _ :: e :: es, h => by unfold lastMarks; rfl
  | _ :: o :: ops, [], _ => rfl
  | _ :: o :: ops, e :: es, h => by
    unfold lastMarks
    exact lastMarks_no (o :: ops) es fun e m => h e (List.mem_cons_of_mem _ m)
theorem chainV (hu : X.A.units + 100 < cLine) (hK : X.K = k.K) (h : SndL X k sx W P F es as) : ∀ {ops : List CmpOp} {x : Ar} {u : V} {v : Value} {pins : List (Addr × Obj)} {s : Shared} {σ : St} {H : Hp} {Z : Addr → Prop} {r : En} {os ox : List Addr} {Q : VK}, ops.length = es.length → es ≠ [] →
    Inv X pins σ H s → RelV u v → Rel k sx Z r σ H os → ArV k Z H σ x u ox → (ox ++ os).Nodup → (∀ a ∈ ox, ¬ Z a) → Sat k sx W Z H os σ (evC x ops (evs P F as) r) (fun b r1 => ∀ H1 Z1 os1, Rel k sx Z1 r1 σ H1 os1 → Step Z Z1 H H1 os os1 → Q (.bl b) H1) →
    wpAny (model X.prog X.w) X.A (compareChain pos v ops (evalEach es X.env)) (EP X pins σ Q) X.xe s := by
  induction h with
  | nil => intro _ _ _ _ _ _ _ _ _ _ _ _ _ _ ne; exact absurd rfl ne
  | @cons e a es as n h1 h2 ih =>
    intro ops x u v pins s σ H Z r os ox Q hl ne I ru R rx nd nz q
    obtain ⟨op, ops, rfl⟩ : ∃ op o, ops = op :: o := by cases ops with | nil => simp at hl | cons a b => exact ⟨a, b, rfl⟩
    cases h2 with
    | nil =>
      have hl : ops = [] := by simpa using hl
      subst hl
      refine PyProof.Rows.chain_last (thn (h1.ar.run pins s σ H (fun y H1 => rCmp X.K op u y H1 Q) I ?_) fun w s1 ⟨y, H1, I1, r1, q1⟩ => opr_cmp op hu pins s1 σ H1 u y v w Q I1 ru r1 q1)
      have q : Sat k sx W Z H os σ (((ev P F a).a r).bind fun y r => .of (cmpA op x y r) r) _ := q
      refine tAr_then R q fun y r1 w H1 Z1 oy os1 R1 ry nd1 nz1 S1 q1 => ?_
      obtain ⟨b, e1, q2⟩ := q1.of
      obtain ⟨dx, p1, e2⟩ := Option.bind_eq_some_iff.mp e1
      obtain ⟨dy, p2, e3⟩ := Option.bind_eq_some_iff.mp e2
      obtain ⟨rx', _, _⟩ := rx.carry nd nz R S1 nd1
      obtain ⟨o1, d1⟩ := peek_ok R1 rx' p1
      obtain ⟨o2, d2⟩ := peek_ok R1 ry p2
      rw [hK]
      exact cmpD_ok e3 d1 d2 (q2 H1 Z1 os1 R1 (S1.less fun x m => List.mem_append_right _ m))
    | @cons e' a' es as n' h1' h2' =>
      obtain ⟨op', ops, rfl⟩ : ∃ op o, ops = op :: o := by cases ops with | nil => simp at hl | cons a b => exact ⟨a, b, rfl⟩
      refine PyProof.Rows.chain_link (thn (h1.ar.run pins s σ H (fun y H1 => ∃ Z1 r1 os1 oy yr b, Rel k sx Z1 r1 σ H1 os1 ∧ ArV k Z1 H1 σ yr y oy ∧ (oy ++ os1).Nodup ∧ (∀ a ∈ oy, ¬ Z1 a) ∧ Step Z Z1 H H1 os (oy ++ os1) ∧ rCmp X.K op u y H1 (fun z H2 => z = .bl b ∧ H2 = H1) ∧
          Sat k sx W Z H os σ (if b then evC yr (op' :: ops) (evs P F (a' :: as)) r1 else .ok false r1) (fun b r1 => ∀ H1 Z1 os1, Rel k sx Z1 r1 σ H1 os1 → Step Z Z1 H H1 os os1 → Q (.bl b) H1)) I ?_) fun w s1 ⟨y, H1, I1, ry, Z1, r1, os1, oy, yr, b, R1, ay, nd1, nz1, S1, cm, q1⟩ => ?_)
      · have q : Sat k sx W Z H os σ (((ev P F a).a r).bind fun y r => match cmpA op x y r with
          | some b => if b then evC y (op' :: ops) (evs P F (a' :: as)) r else .ok false r
          | none => .bad) _ := q
        refine tAr_then R q fun y r1 w H1 Z1 oy os1 R1 ry nd1 nz1 S1 q1 => ?_
        cases e1 : cmpA op x y r1 with
        | none => rw [e1] at q1; exact q1.elim
        | some b =>
          rw [e1] at q1
          obtain ⟨dx, p1, e2⟩ := Option.bind_eq_some_iff.mp e1
          obtain ⟨dy, p2, e3⟩ := Option.bind_eq_some_iff.mp e2
          obtain ⟨rx', _, _⟩ := rx.carry nd nz R S1 nd1
          obtain ⟨o1, d1⟩ := peek_ok R1 rx' p1
          obtain ⟨o2, d2⟩ := peek_ok R1 ry p2
          exact ⟨Z1, r1, os1, oy, y, b, R1, ry, nd1, nz1, S1, by rw [hK]; exact cmpD_ok e3 d1 d2 ⟨rfl, rfl⟩, q1⟩
      · refine thn (opr_cmp op hu pins s1 σ H1 u y v w _ I1 ru ry cm) fun c s2 ⟨z, H2, I2, rz, ez, eh⟩ => ?_
        subst ez eh
        cases rz
        refine wpAny_truthy_bool ?_
        cases b with
        | false => exact PyProof.Rows.ite_ff ⟨.bl false, H2, I2, rfl, q1 H2 Z1 os1 R1 (S1.less fun x m => List.mem_append_right _ m)⟩
        | true =>
          refine PyProof.Rows.ite_tt ?_
          have q1 : Sat k sx W Z H os σ (evC yr (op' :: ops) (evs P F (a' :: as)) r1) _ := q1
          exact ih (by simpa using hl) (by simp) I2 ry R1 ay nd1 nz1 ((q1.base S1).imp fun b r2 g H3 Z3 os3 R3 S3 => g H3 Z3 os3 R3 ((S1.trans (S3.wide oy)).less fun x m => List.mem_append_right _ m))
theorem chainT (hu : X.A.units + 100 < cLine) (hK : X.K = k.K) (h : SndL X k sx W P F es as) : ∀ {ops : List CmpOp} {x : Ar} {u : V} {v : Value} {pins : List (Addr × Obj)} {s : Shared} {σ : St} {H : Hp} {Z : Addr → Prop} {r : En} {os ox : List Addr} {Q : Bool → Hp → Prop}, ops.length = es.length → es ≠ [] →
    Inv X pins σ H s → RelV u v → Rel k sx Z r σ H os → ArV k Z H σ x u ox → (ox ++ os).Nodup → (∀ a ∈ ox, ¬ Z a) → Sat k sx W Z H os σ (evC x ops (evs P F as) r) (fun b r1 => ∀ H1 Z1 os1, Rel k sx Z1 r1 σ H1 os1 → Step Z Z1 H H1 os os1 → Q b H1) →
    wpAny (model X.prog X.w) X.A (testChain pos v ops (evalEach es X.env)) (TP X pins σ Q) X.xe s := by
  induction h with
  | nil => intro _ _ _ _ _ _ _ _ _ _ _ _ _ _ ne; exact absurd rfl ne
  | @cons e a es as n h1 h2 ih =>
    intro ops x u v pins s σ H Z r os ox Q hl ne I ru R rx nd nz q
    obtain ⟨op, ops, rfl⟩ : ∃ op o, ops = op :: o := by cases ops with | nil => simp at hl | cons a b => exact ⟨a, b, rfl⟩
    cases h2 with
    | nil =>
      have hl : ops = [] := by simpa using hl
      subst hl
      refine PyProof.Rows.test_last (thn (h1.ar.run pins s σ H (fun y H1 => rCmp X.K op u y H1 fun z H2 => ∃ b, z = .bl b ∧ Q b H2) I ?_) fun w s1 ⟨y, H1, I1, r1, q1⟩ => thn (opr_cmp op hu pins s1 σ H1 u y v w _ I1 ru r1 q1) fun c s2 ⟨z, H2, I2, rz, b, ez, g⟩ => ?_)
      · have q : Sat k sx W Z H os σ (((ev P F a).a r).bind fun y r => .of (cmpA op x y r) r) _ := q
        refine tAr_then R q fun y r1 w H1 Z1 oy os1 R1 ry nd1 nz1 S1 q1 => ?_
        obtain ⟨b, e1, q2⟩ := q1.of
        obtain ⟨dx, p1, e2⟩ := Option.bind_eq_some_iff.mp e1
        obtain ⟨dy, p2, e3⟩ := Option.bind_eq_some_iff.mp e2
        obtain ⟨rx', _, _⟩ := rx.carry nd nz R S1 nd1
        obtain ⟨o1, d1⟩ := peek_ok R1 rx' p1
        obtain ⟨o2, d2⟩ := peek_ok R1 ry p2
        rw [hK]
        exact cmpD_ok e3 d1 d2 ⟨b, rfl, q2 H1 Z1 os1 R1 (S1.less fun x m => List.mem_append_right _ m)⟩
      · subst ez
        cases rz
        exact wpAny_truthy_bool ⟨H2, I2, g⟩
    | @cons e' a' es as n' h1' h2' =>
      obtain ⟨op', ops, rfl⟩ : ∃ op o, ops = op :: o := by cases ops with | nil => simp at hl | cons a b => exact ⟨a, b, rfl⟩
      refine PyProof.Rows.test_link (thn (h1.ar.run pins s σ H (fun y H1 => ∃ Z1 r1 os1 oy yr b, Rel k sx Z1 r1 σ H1 os1 ∧ ArV k Z1 H1 σ yr y oy ∧ (oy ++ os1).Nodup ∧ (∀ a ∈ oy, ¬ Z1 a) ∧ Step Z Z1 H H1 os (oy ++ os1) ∧ rCmp X.K op u y H1 (fun z H2 => z = .bl b ∧ H2 = H1) ∧
          Sat k sx W Z H os σ (if b then evC yr (op' :: ops) (evs P F (a' :: as)) r1 else .ok false r1) (fun b r1 => ∀ H1 Z1 os1, Rel k sx Z1 r1 σ H1 os1 → Step Z Z1 H H1 os os1 → Q b H1)) I ?_) fun w s1 ⟨y, H1, I1, ry, Z1, r1, os1, oy, yr, b, R1, ay, nd1, nz1, S1, cm, q1⟩ => ?_)
      · have q : Sat k sx W Z H os σ (((ev P F a).a r).bind fun y r => match cmpA op x y r with
          | some b => if b then evC y (op' :: ops) (evs P F (a' :: as)) r else .ok false r
          | none => .bad) _ := q
        refine tAr_then R q fun y r1 w H1 Z1 oy os1 R1 ry nd1 nz1 S1 q1 => ?_
        cases e1 : cmpA op x y r1 with
        | none => rw [e1] at q1; exact q1.elim
        | some b =>
          rw [e1] at q1
          obtain ⟨dx, p1, e2⟩ := Option.bind_eq_some_iff.mp e1
          obtain ⟨dy, p2, e3⟩ := Option.bind_eq_some_iff.mp e2
          obtain ⟨rx', _, _⟩ := rx.carry nd nz R S1 nd1
          obtain ⟨o1, d1⟩ := peek_ok R1 rx' p1
          obtain ⟨o2, d2⟩ := peek_ok R1 ry p2
          exact ⟨Z1, r1, os1, oy, y, b, R1, ry, nd1, nz1, S1, by rw [hK]; exact cmpD_ok e3 d1 d2 ⟨rfl, rfl⟩, q1⟩
      · refine thn (opr_cmp op hu pins s1 σ H1 u y v w _ I1 ru ry cm) fun c s2 ⟨z, H2, I2, rz, ez, eh⟩ => ?_
        subst ez eh
        cases rz
        refine wpAny_truthy_bool ?_
        cases b with
        | false => exact PyProof.Rows.ite_ff ⟨H2, I2, q1 H2 Z1 os1 R1 (S1.less fun x m => List.mem_append_right _ m)⟩
        | true =>
          refine PyProof.Rows.ite_tt ?_
          have q1 : Sat k sx W Z H os σ (evC yr (op' :: ops) (evs P F (a' :: as)) r1) _ := q1
          exact ih (by simpa using hl) (by simp) I2 ry R1 ay nd1 nz1 ((q1.base S1).imp fun b r2 g H3 Z3 os3 R3 S3 => g H3 Z3 os3 R3 ((S1.trans (S3.wide oy)).less fun x m => List.mem_append_right _ m))
theorem s_cmp {e : Expr} {a : E} {ops : List CmpOp} (hu : X.A.units + 100 < cLine) (hK : X.K = k.K) (h0 : Snd X k sx W P F e a) (h : SndL X k sx W P F es as) (hl : ops.length = es.length) (ne : es ≠ []) (ns : ∀ e ∈ es, nset e = true) : Snd X k sx W P F (.Compare e ops es pos) (.cmp a ops as) := by
  have lm := lastMarks_no ops es ns
  have hv : PE X (.Compare e ops es pos) (tV k sx W fun r => ((ev P F a).a r).bind fun x r => (evC x ops (evs P F as) r).bind fun b r => .ok (.bl b) r) := by
    refine ⟨fun pins s σ H Q I ⟨Z, r, os, R, q⟩ => ?_⟩
    show wpAny _ _ (do compareChain pos (← eval e X.env) ops (markedEach ops es (evalEach es X.env))) _ _ _
    rw [PyProof.Rows.markedEach_of_false _ _ _ lm]
    refine wpAny_bind (thn (h0.ar.run pins s σ H (fun u H1 => ∃ Z1 r1 os1 ox x, Rel k sx Z1 r1 σ H1 os1 ∧ ArV k Z1 H1 σ x u ox ∧ (ox ++ os1).Nodup ∧ (∀ a ∈ ox, ¬ Z1 a) ∧ Step Z Z1 H H1 os (ox ++ os1) ∧
      Sat k sx W Z H os σ ((evC x ops (evs P F as) r1).bind fun b r => .ok (.bl b) r) (PostV k sx Z H os σ Q)) I ?_) fun v s1 ⟨u, H1, I1, ru, Z1, r1, os1, ox, x, R1, ax, nd1, nz1, S1, q1⟩ => ?_)
    · exact tAr_then R q fun y r1 w H1 Z1 oy os1 R1 ry nd1 nz1 S1 q1 => ⟨Z1, r1, os1, oy, y, R1, ry, nd1, nz1, S1, q1⟩
    · exact chainV hu hK h hl ne I1 ru R1 ax nd1 nz1 (((Sat.bind.mp q1).base S1).imp fun b r2 g H2 Z2 os2 R2 S2 => PostV.atom g (t := ox) (S1.trans (S2.wide ox)) R2 (.bl _))
  refine ⟨hv, ⟨fun pins s σ H Q I ⟨Z, r, os, R, q⟩ => ?_⟩, arg hv, pl_no fun _ => rfl, it_no fun _ => rfl⟩
  show wpAny _ _ (do testChain pos (← eval e X.env) ops (markedEach ops es (evalEach es X.env))) _ _ _
  rw [PyProof.Rows.markedEach_of_false _ _ _ lm]
  refine wpAny_bind (thn (h0.ar.run pins s σ H (fun u H1 => ∃ Z1 r1 os1 ox x, Rel k sx Z1 r1 σ H1 os1 ∧ ArV k Z1 H1 σ x u ox ∧ (ox ++ os1).Nodup ∧ (∀ a ∈ ox, ¬ Z1 a) ∧ Step Z Z1 H H1 os (ox ++ os1) ∧
    Sat k sx W Z H os σ (evC x ops (evs P F as) r1) (PostT k sx Z H os σ Q)) I ?_) fun v s1 ⟨u, H1, I1, ru, Z1, r1, os1, ox, x, R1, ax, nd1, nz1, S1, q1⟩ => ?_)
  · exact tAr_then R q fun y r1 w H1 Z1 oy os1 R1 ry nd1 nz1 S1 q1 => ⟨Z1, r1, os1, oy, y, R1, ry, nd1, nz1, S1, q1⟩
  · exact chainT hu hK h hl ne I1 ru R1 ax nd1 nz1 ((Sat.base q1 S1).imp fun b r2 g H2 Z2 os2 R2 S2 => g H2 Z2 os2 R2 ((S1.trans (S2.wide ox)).less fun x m => List.mem_append_right _ m))
end
end Mv

namespace Mv
open PySem L2

theorem pe_or {X : Cx} {e : Expr} {t u : TE} (h : PE X e t) (g : PE X e u) : PE X e (fun σ H Q => t σ H Q ∨ u σ H Q) := ⟨fun pins s σ H Q I q => q.elim (h.run pins s σ H Q I) (g.run pins s σ H Q I)⟩

section
variable {X : Cx} {k : Kc} {sx : Option (Addr × Addr)} {W : WX} {P : Pg} {F : Nat → List D → FOut} {pos : Pos} {es : List Expr} {as : List E}
theorem s_tup {n : Nat} (hK : X.K = k.K) (h : SndL X k sx W P F es as) : Snd X k sx W P F (.Tuple es n pos) (.tup as) := by
  refine snd1 (f := fun r => (evEs (evs P F as) r).bind fun ds r => if fits ds then .ok (.tup (D.frzs ds)) r else .bad) hK ((pe_tup (pa_es h)).weak fun σ H Q ⟨Z, r, os, R, q⟩ => ?_) (fun _ => rfl) rfl (pl_no fun _ => rfl) (it_no fun _ => rfl)
  refine tL_then R q fun ds r1 vs H1 Z1 od os1 R1 T nd nz S1 q1 => ?_
  show vs.length ≤ sizeLine ∧ ∀ p, H1 p = none → Q (.ref p) (upd H1 p (.tup vs))
  split at q1
  · rename_i c
    refine ⟨by rw [slE, T.length]; exact of_decide_eq_true c, fun p hp => ?_⟩
    obtain ⟨Z2, R2, rd, S2⟩ := new_tup R1 T nd hp
    exact q1 _ _ Z2 [] os1 R2 rd R2.nd (fun _ m => by cases m) (S1.trans S2)
  · exact q1.elim
theorem s_lst (hK : X.K = k.K) (h : SndL X k sx W P F es as) : Snd X k sx W P F (.List es pos) (.lst as) := by
  refine snd1 (f := fun r => (evEs (evs P F as) r).bind fun ds r => if fits ds then .ok (.lst .own ds) r else .bad) hK ((pe_lst (pa_es h)).weak fun σ H Q ⟨Z, r, os, R, q⟩ => ?_) (fun _ => rfl) rfl (pl_no fun _ => rfl) (it_no fun _ => rfl)
  refine tL_then R q fun ds r1 vs H1 Z1 od os1 R1 T nd nz S1 q1 => ?_
  show vs.length ≤ sizeLine ∧ ∀ p, H1 p = none → Q (.ref p) (upd H1 p (.lst vs))
  split at q1
  · rename_i c
    refine ⟨by rw [slE, T.length]; exact of_decide_eq_true c, fun p hp => ?_⟩
    obtain ⟨R2, rd, n2, z2, S2⟩ := new_lst R1 T nd nz hp
    exact q1 _ _ Z1 (p :: od) os1 R2 rd n2 z2 (S1.trans S2)
  · exact q1.elim

/-! ### a[i] -/
theorem atI_of {α : Type} {xs : List α} {i : Int} {j : Nat} {v : α} (h : Mv.ixN xs.length i = some j) (e : xs[j]? = some v) : atI xs i = some v := by
  have h : L2.ixN xs.length i = some j := h
  unfold atI
  rw [h]
  exact e
theorem cp_ix {K : PySem.W.Frag} {H : Hp} {u w : V} {n : Int} {Q : VK} (h : CP k H u [.ix n] w) (hK : K = k.K) (q : Q w H) : rIx K u (.int n) H Q := by
  subst hK
  cases h with
  | ixl h1 h2 h3 h4 => cases h4; exact .inl ⟨_, _, n, _, rfl, rfl, h1, atI_of h2 h3, q⟩
  | ixt h1 h2 h3 h4 => cases h4; exact .inr (.inl ⟨_, _, n, _, rfl, rfl, h1, atI_of h2 h3, q⟩)
theorem plain_ix {b : Expr} (h : ∀ l u s p, b ≠ .Slice l u s p) : PlainIx b := by
  intro o i
  cases b <;> first | rfl | exact absurd rfl (h _ _ _ _)
theorem readP_some {Z : Addr → Prop} {H : Hp} {os : List Addr} {σ : St} {r : En} {x : Nat} {p : List St1} {Q : D → En → Prop} (h : Sat k sx W Z H os σ (readP r x p) Q) : ∃ d e, slot r x = some d ∧ getP d p = some e ∧ ∀ c w, e ≠ .exn c w := by
  unfold readP at h
  cases s : slot r x with
  | none => rw [s] at h; exact h.elim
  | some d =>
    rw [s] at h
    cases g : getP d p with
    | none => simp only [g] at h; exact h.elim
    | some e =>
      refine ⟨d, e, rfl, g, fun c w z => ?_⟩
      subst z
      simp only [g] at h
      exact h
theorem getP_exn {c : Nat} {w e : D} {s : St1} {p : List St1} : getP (.exn c w) (s :: p) ≠ some e := by
  intro h
  cases s <;> cases h
theorem way_of {Z : Addr → Prop} {H : Hp} {os : List Addr} {σ : St} {r : En} {x : Nat} {d : D} (R : Rel k sx Z r σ H os) (s : slot r x = some d) : ∀ (p : List St1) (e : D), getP d p = some e → (∀ c w, d ≠ .exn c w) → ∃ w, WayAt k sx Z r σ H os x p e w := by
  intro p
  induction hp : p.length generalizing p with
  | zero =>
    intro e g ne
    cases p with
    | nil =>
      cases g
      obtain ⟨v, _, wy⟩ := WayAt.nil R.rs s ne
      exact ⟨v, wy⟩
    | cons _ _ => simp at hp
  | succ n ih =>
    intro e g ne
    obtain ⟨q, t, rfl⟩ : ∃ q t, p = q ++ [t] := ⟨p.dropLast, p.getLast (by intro z; subst z; simp at hp), (List.dropLast_concat_getLast _).symm⟩
    rw [getP_snoc] at g
    obtain ⟨e1, g1, g2⟩ := Option.bind_eq_some_iff.mp g
    obtain ⟨w, wy⟩ := ih q (by simpa using hp) e1 g1 ne
    obtain ⟨w', _, wy'⟩ := wy.snoc g2
    exact ⟨w', wy'⟩
/-- a place with one more index -/
theorem pl_idx {e1 e2 : Expr} {a1 a2 : E} (hK : X.K = k.K) (h1 : PE X e1 (tPl k sx a1)) (h2 : PE X e2 (tI k sx a2)) (hi : PlainIx e2) : PE X (.Subscript e1 e2 pos) (tPl k sx (.idx a1 a2)) := by
  refine (pe_ix ix_seq h1 h2 hi).weak fun σ H Q ⟨Z, r, os, x, p, e, R, q, pk, ne, g⟩ => ?_
  obtain ⟨⟨x1, p1⟩, q1, q2⟩ := Option.bind_eq_some_iff.mp (show ((path a1 r).bind fun p => (evI a2 r).map fun n => (p.1, p.2 ++ [.ix n])) = some (x, p) from q)
  obtain ⟨n, q3, q4⟩ := Option.map_eq_some_iff.mp q2
  cases q4
  obtain ⟨d, s, pk⟩ := Option.bind_eq_some_iff.mp (show (slot r x1).bind (fun d => getP d (p1 ++ [.ix n])) = some e from pk)
  rw [getP_snoc] at pk
  obtain ⟨e1', g1, g2⟩ := Option.bind_eq_some_iff.mp pk
  refine ⟨Z, r, os, x1, p1, e1', R, q1, by show (slot r x1).bind (fun d => getP d p1) = some e1'; rw [s]; exact g1, ne, fun u wy => ⟨Z, r, os, n, R, q3, ?_⟩⟩
  obtain ⟨w, c, wy'⟩ := wy.snoc g2
  exact cp_ix c hK (g w wy')
theorem it_idx {e1 e2 : Expr} {a1 a2 : E} (hp : PE X (.Subscript e1 e2 pos) (tPl k sx (.idx a1 a2))) : PE X (.Subscript e1 e2 pos) (tI k sx (.idx a1 a2)) := by
  refine hp.weak fun σ H Q ⟨Z, r, os, n, R, q, g⟩ => ?_
  obtain ⟨⟨x1, p1⟩, q1, q2⟩ := Option.bind_eq_some_iff.mp (show ((path a1 r).bind fun p => (evI a2 r).bind fun n => match peekP r p.1 (p.2 ++ [.ix n]) with
    | some (.int m) => some m
    | _ => none) = some n from q)
  obtain ⟨m, q3, q4⟩ := Option.bind_eq_some_iff.mp q2
  dsimp only at q4
  split at q4
  · rename_i j pk
    cases q4
    refine ⟨Z, r, os, x1, p1 ++ [.ix m], .int n, R, ?_, pk, fun c w z => ?_, fun w wy => ?_⟩
    · show ((path a1 r).bind fun p => (evI a2 r).map fun n => (p.1, p.2 ++ [.ix n])) = _
      rw [q1]
      show (evI a2 r).map (fun n => (x1, p1 ++ [.ix n])) = _
      rw [q3]
      rfl
    · obtain ⟨d, s, pk⟩ := Option.bind_eq_some_iff.mp (show (slot r x1).bind (fun d => getP d (p1 ++ [.ix m])) = _ from pk)
      rw [z] at s
      cases s
      cases p1 with
      | nil => exact getP_exn pk
      | cons _ _ => exact getP_exn pk
    · obtain ⟨d, A, o, B, _, _, _, _, rd, _⟩ := wy.ex
      cases rd
      exact g
  · cases q4
theorem RD.item {Z : Addr → Prop} {H : Hp} {d e : D} {v : V} {od : List Addr} {n : Int} (h : RD k Z H d v od) (q : itemD d (.int n) = some e) : ∃ w o, CP k H v [.ix n] w ∧ RD k Z H e w o ∧ ∀ a ∈ o, a ∈ od := by
  obtain ⟨w, A, o, B, c1, c2, c3, _⟩ := RD.way [.ix n] d v od e h (by show (itemD d (.int n)).bind (fun e => some e) = some e; rw [q]; rfl)
  subst c2
  exact ⟨w, o, c1, c3, fun a m => by simp [m]⟩
/-- a thing out of a value that is dropped: shared -/
theorem give_frz {Z Z1 : Addr → Prop} {H H1 : Hp} {σ : St} {r : En} {os os1 t o : List Addr} {Q : VK} {e : D} {w : V} (R : Rel k sx Z1 r σ H1 os1) (nd : (t ++ os1).Nodup) (dm : ∀ a ∈ t, ∃ x, H1 a = some x) (rd : RD k Z1 H1 e w o) (sub : ∀ a ∈ o, a ∈ t) (S : Step Z Z1 H H1 os (t ++ os1)) (h : PostV k sx Z H os σ Q e.frz r) : Q w H1 := by
  obtain ⟨R2, S2⟩ := R.share nd dm
  exact h w H1 _ [] os1 R2 (RD.frz (fun a z => .inl z) e w o (fun a m => .inr (sub a m)) rd) R2.nd (fun _ m => by cases m) (S.trans S2)
theorem s_idx {e1 e2 : Expr} {a1 a2 : E} (hK : X.K = k.K) (h1 : Snd X k sx W P F e1 a1) (h2 : Snd X k sx W P F e2 a2) (hi : PlainIx e2) : Snd X k sx W P F (.Subscript e1 e2 pos) (.idx a1 a2) := by
  have hp := pl_idx (pos := pos) hK h1.pl h2.it hi
  -- by the value
  have val : PE X (.Subscript e1 e2 pos) (tV k sx W fun r => ((ev P F a1).v r).bind fun d r => ((ev P F a2).v r).bind fun k r => .of ((itemD d k).map D.frz) r) := by
    refine (pe_ix ix_seq h1.v h2.v hi).weak fun σ H Q ⟨Z, r, os, R, q⟩ => ?_
    refine tV_then R q fun d1 r1 v1 H1 Z1 o1 os1 R1 rd1 nd1 nz1 S1 q1 => ?_
    refine tV_then R1 (q1.base S1) fun d2 r2 v2 H2 Z2 o2 os2 R2 rd2 nd2 nz2 S2 q2 => ?_
    obtain ⟨e, e1, q3⟩ := q2.of
    obtain ⟨e, e2, rfl⟩ := Option.map_eq_some_iff.mp e1
    obtain ⟨rd1', nd1', _⟩ := rd1.carry nd1 nz1 R1 S2 nd2
    cases d2 with
    | int n =>
      cases rd2
      obtain ⟨w, o, c1, c2, c3⟩ := RD.item rd1' e2
      exact cp_ix c1 hK (give_frz R2 nd1' (RD.dom _ _ _ rd1') c2 c3 (S1.trans (S2.wide o1)) q3)
    | _ => cases d1 <;> cases e2
  -- by the place
  have plc : PE X (.Subscript e1 e2 pos) (tV k sx W fun r => match path (.idx a1 a2) r with
      | some (x, p) => readP r x p
      | none => .bad) := by
    refine hp.weak fun σ H Q ⟨Z, r, os, R, q⟩ => ?_
    cases z : path (.idx a1 a2) r with
    | none => simp only [z] at q; exact q.elim
    | some xp =>
      obtain ⟨x, p⟩ := xp
      simp only [z] at q
      obtain ⟨d, e, s, g, ne⟩ := readP_some q
      have pe : p ≠ [] := by
        obtain ⟨⟨x1, p1⟩, q1, q2⟩ := Option.bind_eq_some_iff.mp (show ((path a1 r).bind fun p => (evI a2 r).map fun n => (p.1, p.2 ++ [.ix n])) = some (x, p) from z)
        obtain ⟨n, q3, q4⟩ := Option.map_eq_some_iff.mp q2
        cases q4
        simp
      refine ⟨Z, r, os, x, p, e, R, z, by show (slot r x).bind (fun d => getP d p) = some e; rw [s]; exact g, fun c w y => ?_, fun w wy => readP_ok R wy q (t := []) Step.refl⟩
      rw [s] at y
      cases y
      cases p with
      | nil => exact pe rfl
      | cons _ _ => exact getP_exn g
  have both : PE X (.Subscript e1 e2 pos) (tV k sx W fun r => match path (.idx a1 a2) r with
      | some (x, p) => readP r x p
      | none => ((ev P F a1).v r).bind fun d r => ((ev P F a2).v r).bind fun k r => .of ((itemD d k).map D.frz) r) := by
    refine (pe_or plc val).weak fun σ H Q ⟨Z, r, os, R, q⟩ => ?_
    cases z : path (.idx a1 a2) r with
    | none => simp only [z] at q; exact .inr ⟨Z, r, os, R, q⟩
    | some xp => simp only [z] at q; exact .inl ⟨Z, r, os, R, by simp only [z]; exact q⟩
  by_cases hv : ∃ x, a1 = .var x
  · obtain ⟨x, rfl⟩ := hv
    refine snd1 (f := fun r => if has r x then (((ev P F a2).v r).bind fun k r => match k with
      | .int n => readP r x [.ix n]
      | _ => .bad) else .bad) hK ((pe_ix ix_seq h1.ar h2.v hi).weak fun σ H Q ⟨Z, r, os, R, q⟩ => ?_) (fun _ => rfl) rfl hp (it_idx hp)
    dsimp only at q
    split at q
    · rename_i c
      refine ⟨Z, r, os, R, ?_⟩
      show Sat k sx W Z H os σ (if has r x = true then Out.ok (Ar.r x) r else Out.bad) (PostA k sx Z H os σ _)
      rw [if_pos c]
      intro v H1 Z1 od os1 R1 av nd nz S1
      cases av with
      | r hv =>
        refine tV_then R1 (q.base S1) fun d2 r2 v2 H2 Z2 o2 os2 R2 rd2 nd2 nz2 S2 q2 => ?_
        cases d2 with
        | int n =>
          cases rd2
          obtain ⟨d, e, s, g, ne⟩ := readP_some q2
          obtain ⟨e', g1, g2⟩ := Option.bind_eq_some_iff.mp (show (itemD d (.int n)).bind (fun e => some e) = some e from g)
          cases g2
          obtain ⟨v', hv', wy⟩ := WayAt.nil R2.rs s (fun c w z => by subst z; cases g1)
          rw [hv] at hv'
          cases hv'
          obtain ⟨w, c1, wy'⟩ := wy.snoc (s := .ix n) g1
          exact cp_ix c1 hK (readP_ok R2 wy' q2 (t := []) ((S1.trans (S2.wide [])).less fun x m => List.mem_append_right _ m))
        | _ => exact q2.elim
    · exact q.elim
  · refine snd1 hK both (fun _ => rfl) ?_ hp (it_idx hp)
    cases a1 <;> first | rfl | exact absurd ⟨_, rfl⟩ hv
/-! ### fields -/
theorem cp_fl {H : Hp} {u w : V} {f : Nat} {Q : VK} {te : TE} (h : CP k H u [.fl f] w) (q : Q w H) : ∃ a C dx fs v, u = .ref a ∧ H a = some (.ins C dx fs) ∧ Cls k.K C ∧ NoAttr k.K C (k.aN f) ∧ fs.lookup (k.aN f) = some v ∧ Q v H := by
  cases h with
  | fl h1 h2 h3 h4 =>
    cases h4
    obtain ⟨c1, c2⟩ := k.cls _ h2.1
    exact ⟨_, _, _, _, _, rfl, h1, c1, c2 _ h2.2, h3, q⟩
theorem s_attr {e1 : Expr} {a1 : E} {f : Nat} {x : Str} (hK : X.K = k.K) (h1 : Snd X k sx W P F e1 a1) (hf : k.aN f = x) (hb : attributeBase e1 x X.env (eval e1 X.env) = eval e1 X.env) : Snd X k sx W P F (.Attribute e1 x pos) (.attr a1 f) := by
  subst hf
  have hp : PE X (.Attribute e1 (k.aN f) pos) (tPl k sx (.attr a1 f)) := by
    refine (pe_fld h1.pl hb).weak fun σ H Q ⟨Z, r, os, x, p, e, R, q, pk, ne, g⟩ => ?_
    obtain ⟨⟨x1, p1⟩, q1, q4⟩ := Option.map_eq_some_iff.mp (show ((path a1 r).map fun p => (p.1, p.2 ++ [.fl f])) = some (x, p) from q)
    cases q4
    obtain ⟨d, s, pk⟩ := Option.bind_eq_some_iff.mp (show (slot r x1).bind (fun d => getP d (p1 ++ [.fl f])) = some e from pk)
    rw [getP_snoc] at pk
    obtain ⟨e1', g1, g2⟩ := Option.bind_eq_some_iff.mp pk
    refine ⟨Z, r, os, x1, p1, e1', R, q1, by show (slot r x1).bind (fun d => getP d p1) = some e1'; rw [s]; exact g1, ne, fun u wy => ?_⟩
    obtain ⟨w, c, wy'⟩ := wy.snoc g2
    rw [hK]
    exact cp_fl (te := tVar 0) c (g w wy')
  refine snd1 (f := fun r => match path (.attr a1 f) r with
    | some (x, p) => readP r x p
    | none => ((ev P F a1).v r).bind fun d r => .of ((fldD d f).map D.frz) r) hK ?_ (fun _ => rfl) rfl hp (it_no fun _ => rfl)
  have val : PE X (.Attribute e1 (k.aN f) pos) (tV k sx W fun r => ((ev P F a1).v r).bind fun d r => .of ((fldD d f).map D.frz) r) := by
    refine (pe_fld h1.v hb).weak fun σ H Q ⟨Z, r, os, R, q⟩ => ?_
    refine tV_then R q fun d1 r1 v1 H1 Z1 o1 os1 R1 rd1 nd1 nz1 S1 q1 => ?_
    obtain ⟨e, e1, q3⟩ := q1.of
    obtain ⟨e, e2, rfl⟩ := Option.map_eq_some_iff.mp e1
    obtain ⟨w, A, o, B, c1, c2, c3, _⟩ := RD.way [.fl f] d1 v1 o1 e rd1 (by show (fldD d1 f).bind (fun e => some e) = some e; rw [e2]; rfl)
    rw [hK]
    exact cp_fl (te := tVar 0) c1 (give_frz R1 nd1 (RD.dom _ _ _ rd1) c3 (fun a m => by rw [c2]; simp [m]) S1 q3)
  have plc : PE X (.Attribute e1 (k.aN f) pos) (tV k sx W fun r => match path (.attr a1 f) r with
      | some (x, p) => readP r x p
      | none => .bad) := by
    refine hp.weak fun σ H Q ⟨Z, r, os, R, q⟩ => ?_
    cases z : path (.attr a1 f) r with
    | none => simp only [z] at q; exact q.elim
    | some xp =>
      obtain ⟨x, p⟩ := xp
      simp only [z] at q
      obtain ⟨d, e, s, g, ne⟩ := readP_some q
      have pe : p ≠ [] := by
        obtain ⟨⟨x1, p1⟩, q1, q4⟩ := Option.map_eq_some_iff.mp (show ((path a1 r).map fun p => (p.1, p.2 ++ [.fl f])) = some (x, p) from z)
        cases q4
        simp
      refine ⟨Z, r, os, x, p, e, R, z, by show (slot r x).bind (fun d => getP d p) = some e; rw [s]; exact g, fun c w y => ?_, fun w wy => readP_ok R wy q (t := []) Step.refl⟩
      rw [s] at y
      cases y
      cases p with
      | nil => exact pe rfl
      | cons _ _ => exact getP_exn g
  refine (pe_or plc val).weak fun σ H Q ⟨Z, r, os, R, q⟩ => ?_
  cases z : path (.attr a1 f) r with
  | none => simp only [z] at q; exact .inr ⟨Z, r, os, R, q⟩
  | some xp => simp only [z] at q; exact .inl ⟨Z, r, os, R, by simp only [z]; exact q⟩
end
end Mv

namespace Mv
open PySem L2

/-! ### built-ins -/
def btV : Bt → Value
  | .len => .builtin "len" | .int => .type "int" | .bool => .type "bool" | .tuple => .type "tuple" | .list => .type "list" | .sum => .builtin "sum" | .max => .builtin "max" | .min => .builtin "min"
  | .sorted => .builtin "sorted" | .abs => .builtin "abs" | .str => .type "str" | .all => .builtin "all" | .any => .builtin "any"
theorem lookup_mem {α : Type} : ∀ {l : List (Str × α)} {x : Str} {b : α}, l.lookup x = some b → (x, b) ∈ l
  | [], _, _, h => by cases h
  | (y, c) :: l, x, b, h => by
    rw [List.lookup_cons] at h
    split at h
    · rename_i e
      cases h
      rw [beq_iff_eq.mp e]
      exact List.mem_cons_self
    · exact List.mem_cons_of_mem _ (lookup_mem h)
theorem bt_tab : ∀ p ∈ btTab, bootBuiltins p.1 = some (btV p.2) := by decide +kernel
theorem btOf_ok {x : Str} {b : Bt} (h : btOf x = some b) : bootBuiltins x = some (btV b) := bt_tab (x, b) (lookup_mem h)
/-! ### the sum of a tuple of ints -/
section
variable {prog : Program} {w : World} {A : Around} {E : Value → Shared → Prop} {s : Shared} {l : Addr} {its : List Value} {ns : List Int} {Q : Value → Shared → Prop}
theorem sum_tup (hh : A.handled = none) (hl : s.heap.IsTuple l its.toArray) (hi : PyProof.Rows.IntsAre its ns)
    (h : ∀ h' tk t', (∀ b o, s.heap.get? b = some o → h'.get? b = some o) → Q (.int ns.sum t') { s with heap := h', toks := tk }) : wpAny (model prog w) A (call (.builtin "sum") [.ref l]) Q E s := by
  obtain ⟨xs, e⟩ := hi.allInts.items
  have hn : numsOf (intItems xs).toList = ns := by rw [← e]; exact hi.numsOf
  rw [nums_intItems] at hn
  rw [e] at hl
  have hlt : l < s.heap.objs.size := by obtain ⟨_, e, _⟩ := hl; exact Heap.lt_size e
  refine call_sum_walkG (wpAny_pyIter_tuple hl ?_)
  refine ⟨_, [s.heap.objs.size, l], [s.heap.objs.size], _, _, _, numAt xs, rfl, Walks.tuple (A := A.in1) hh _ l (Nat.ne_of_lt hlt) (intItems xs), ⟨⟨_, Heap.get?_push_size _ rfl, rfl, rfl⟩, hl.push _⟩, fun b hb => ?_, fun _ _ => intItems_at, fun h' tk t' hk => ?_⟩
  · show b < (s.heap.push _).objs.size
    rw [Heap.size_push]
    rcases List.mem_cons.mp hb with rfl | hb
    · exact Nat.lt_succ_self _
    · rcases List.mem_cons.mp hb with rfl | hb
      · exact Nat.lt_succ_of_lt hlt
      · cases hb
  · have := h h' tk t' fun b o e => hk b o (fun hm => absurd (Heap.lt_size e) ((List.mem_singleton.mp hm) ▸ Nat.lt_irrefl _)) (Heap.get?_push_of_some _ e)
    rw [← hn] at this
    rw [preSum_eq, List.take_of_length_le (by simp [intItems])]
    exact this
end
theorem cr_sumT {X : Cx} (hc : X.calm = true) : CallR X (.builtin "sum") (fun xs H Q => ∃ (a : Addr) (ns : List Int), xs = [V.ref a] ∧ SqT X.K H a (ns.map V.int) ∧ Q (.int ns.sum) H) := by
  intro pins s σ H vs us Q I r h
  obtain ⟨a, ns, rfl, hs, q⟩ := h
  obtain ⟨its, rv, hl, _⟩ := I.tuple hs
  rw [Vals.ref1 r]
  exact sum_tup (I.ok.hd hc) (show s.heap.IsTuple a its.toArray from hl) rv.ints fun h' tk t' hk => ⟨.int _, H, I.kept hk, ⟨_, rfl⟩, q⟩
theorem cr_or {X : Cx} {f : Value} {r r' : List V → Hp → VK → Prop} (h : CallR X f r) (h' : CallR X f r') : CallR X f (fun xs H Q => r xs H Q ∨ r' xs H Q) := fun pins s σ H vs us Q I rv q => q.elim (h pins s σ H vs us Q I rv) (h' pins s σ H vs us Q I rv)
def rBt (K : PySem.W.Frag) : Bt → List V → Hp → VK → Prop
  | .len => fun xs H Q => ∃ x n, xs = [x] ∧ LenV K x H n ∧ Q (.int n) H
  | .int => fun xs H Q => (∃ i, xs = [.int i] ∧ Q (.int i) H) ∨ ∃ k, xs = [.bl k] ∧ Q (.int (if k then 1 else 0)) H
  | .bool => fun xs H Q => (∃ i, xs = [.int i] ∧ Q (.bl (i != 0)) H) ∨ ∃ k, xs = [.bl k] ∧ Q (.bl k) H
  | .tuple => fun xs H Q => ∃ p ys, xs = [.ref p] ∧ ((SqL K H p ys ∧ ∀ l, H l = none → Q (.ref l) (upd H l (.tup ys))) ∨ (SqT K H p ys ∧ Q (.ref p) H))
  | .list => fun xs H Q => ∃ p ys, xs = [.ref p] ∧ (SqL K H p ys ∨ SqT K H p ys) ∧ ∀ l, H l = none → Q (.ref l) (upd H l (.lst ys))
  | .sum => fun xs H Q => rSum K xs H Q ∨ ∃ (a : Addr) (ns : List Int), xs = [V.ref a] ∧ SqT K H a (ns.map V.int) ∧ Q (.int ns.sum) H
  | .max => fun xs H Q => ∃ i j, xs = [.int i, .int j] ∧ Q (.int (if j > i then j else i)) H
  | .min => fun xs H Q => ∃ i j, xs = [.int i, .int j] ∧ Q (.int (if j < i then j else i)) H
  | .sorted => rSortedI K
  | .abs => fun xs H Q => ∃ i, xs = [.int i] ∧ Q (.int (if i < 0 then -i else i)) H
  | .all => rAll K
  | .any => rAny K
  | .str => fun _ _ _ => False
section
variable {X : Cx}
theorem CallR.no {f : Value} : CallR X f (fun _ _ _ => False) := fun _ _ _ _ _ _ _ _ _ q => q.elim
theorem cr_bt (hc : X.calm = true) (b : Bt) : CallR X (btV b) (rBt X.K b) := by
  cases b <;> first
    | exact call_len
    | exact call_int1
    | exact call_bool1
    | exact call_tuple_of
    | exact call_list_of
    | exact cr_or (cr_sum hc) (cr_sumT hc)
    | exact call_max2 hc
    | exact call_min2 hc
    | exact cr_sortedI
    | exact call_abs
    | exact cr_all hc
    | exact cr_any hc
    | exact cr_all
    | exact cr_any
    | exact CallR.no
theorem sortI_ok (l l' : List Int) (h : l'.Perm l) (s : l'.Pairwise (· ≤ ·)) : l' = sortI l := by
  refine PySem.W.ksm_same (h.trans (List.mergeSort_perm l _).symm) s ?_
  have q := List.pairwise_mergeSort (le := fun a b : Int => decide (a ≤ b)) (by intro a b c h1 h2; simp at *; omega) (by intro a b; simp; omega) l
  exact q.imp fun h => of_decide_eq_true h
end

section
variable {X : Cx} {k : Kc} {sx : Option (Addr × Addr)} {W : WX} {P : Pg} {F : Nat → List D → FOut} {pos : Pos} {es : List Expr} {as : List E}
variable {Z Z' Z0 Z1 Z2 : Addr → Prop} {H H' H0 H1 H2 : Hp} {σ : St} {r r1 r2 : En} {os os' os0 os1 os2 od : List Addr}
/-- values that are looked at -/
inductive Lk (k : Kc) (Z : Addr → Prop) (H : Hp) : List D → List V → Prop
  | nil : Lk k Z H [] []
  | cons {d : D} {v : V} {o : List Addr} {ds : List D} {vs : List V} : RD k Z H d v o → Lk k Z H ds vs → Lk k Z H (d :: ds) (v :: vs)
theorem peekA_ok {a : List Ar} {vs : List V} (R : Rel k sx Z r σ H os) (h : ArVs k Z H σ a vs od) : ∀ {ds : List D}, peekA r a = some ds → Lk k Z H ds vs := by
  induction h with
  | nil => intro ds e; cases e; exact .nil
  | @cons a as v vs o os' h1 h2 ih =>
    intro ds e
    obtain ⟨d, e1, e2⟩ := Option.bind_eq_some_iff.mp (show ((a.peek r).bind fun d => (peekA r as).map fun ds => d :: ds) = some ds from e)
    obtain ⟨ds', e3, rfl⟩ := Option.map_eq_some_iff.mp e2
    obtain ⟨o', rd⟩ := peek_ok R h1 e1
    exact .cons rd (ih e3)
theorem Lk.one {d : D} {vs : List V} (h : Lk k Z H [d] vs) : ∃ v o, vs = [v] ∧ RD k Z H d v o := by
  cases h with
  | cons h1 h2 => cases h2; exact ⟨_, _, rfl, h1⟩
theorem Lk.two {d e : D} {vs : List V} (h : Lk k Z H [d, e] vs) : ∃ v w o p, vs = [v, w] ∧ RD k Z H d v o ∧ RD k Z H e w p := by
  cases h with
  | cons h1 h2 => cases h2 with | cons h2 h3 => cases h3; exact ⟨_, _, _, _, rfl, h1, h2⟩
/-- a list of any kind, read -/
theorem lst_rd {kd : Kd} {ds : List D} {v : V} (h : RD k Z H (.lst kd ds) v od) : ∃ a vs o2, v = .ref a ∧ SqL k.K H a vs ∧ RDs k Z H ds vs o2 := by
  cases h with
  | own h1 h2 => exact ⟨_, _, _, rfl, SqL.of h1, h2⟩
  | shr _ h1 h2 => exact ⟨_, _, _, rfl, SqL.of h1, h2⟩
  | giv h1 h2 => exact ⟨_, _, _, rfl, h1.sq, h2⟩
theorem blsOf_vs : ∀ {ds : List D} {vs : List V} {os : List Addr} {ns : List Bool}, RDs k Z H ds vs os → blsOf ds = some ns → vs = ns.map V.bl
  | [], _, _, _, h, e => by cases h; cases e; rfl
  | d :: ds, _, _, ns, h, e => by
    cases d with
    | bl i =>
      obtain ⟨ms, e1, rfl⟩ := Option.map_eq_some_iff.mp (show (blsOf ds).map (fun x => i :: x) = some ns from e)
      cases h with
      | cons h1 h2 =>
        cases h1
        rw [blsOf_vs h2 e1]
        rfl
    | _ => cases e
theorem ints_rd (ns : List Int) : RDs k Z H (ns.map D.int) (ns.map V.int) [] := by
  induction ns with
  | nil => exact .nil
  | cons n ns ih => exact .cons (o := []) (.int n) ih
theorem bltD_ok {b : Bt} {ds : List D} {d : D} {vs : List V} {t : List Addr} {Q : VK} (e : bltD b ds = some d) (R : Rel k sx Z1 r σ H1 os1) (h : Lk k Z1 H1 ds vs) (S : Step Z Z1 H H1 os (t ++ os1)) (q : PostV k sx Z H os σ Q d r) : rBt k.K b vs H1 Q := by
  have fresh : ∀ {ds : List D} {us : List V} {p : Addr}, PostV k sx Z H os σ Q (.lst .own ds) r → RDs k Z1 H1 ds us [] → H1 p = none → Q (.ref p) (upd H1 p (.lst us)) := fun {ds us p} h t hp => by
    obtain ⟨R2, rd, n2, z2, S2⟩ := new_lst (od := []) R t R.nd (fun _ m => by cases m) hp
    exact h _ _ _ _ _ R2 rd n2 z2 ((S.less fun x m => List.mem_append_right _ m).trans S2)
  unfold bltD at e
  split at e
  · obtain ⟨v, o, rfl, rd⟩ := h.one
    cases e
    obtain ⟨a, us, o2, rfl, hs, T⟩ := lst_rd rd
    exact ⟨_, _, rfl, .inl ⟨us, hs, T.length.symm⟩, q.atom S R (.int _)⟩
  · obtain ⟨v, o, rfl, rd⟩ := h.one
    cases e
    cases rd with
    | @tup a us _ hs T => exact ⟨_, _, rfl, .inr ⟨us, hs.sq, T.length.symm⟩, q.atom S R (.int _)⟩
  · obtain ⟨v, o, rfl, rd⟩ := h.one
    split at e
    · rename_i c
      cases e
      cases rd
      exact ⟨_, _, rfl, ⟨by rw [slE]; exact c, rfl⟩, q.atom S R (.int _)⟩
    · cases e
  · obtain ⟨v, o, rfl, rd⟩ := h.one
    cases e
    cases rd
    exact .inl ⟨_, rfl, q.atom S R (.int _)⟩
  · obtain ⟨v, o, rfl, rd⟩ := h.one
    cases e
    cases rd
    exact .inr ⟨_, rfl, q.atom S R (.int _)⟩
  · obtain ⟨v, o, rfl, rd⟩ := h.one
    cases e
    cases rd
    exact .inl ⟨_, rfl, q.atom S R (.bl _)⟩
  · obtain ⟨v, o, rfl, rd⟩ := h.one
    cases e
    cases rd
    exact .inr ⟨_, rfl, q.atom S R (.bl _)⟩
  · obtain ⟨v, o, rfl, rd⟩ := h.one
    split at e
    · rename_i c
      cases e
      obtain ⟨a, us, o2, rfl, hs, T⟩ := lst_rd rd
      have z := T.noOwn c
      subst z
      refine ⟨_, us, rfl, .inl ⟨hs, fun p hp => ?_⟩⟩
      obtain ⟨Z2, R2, rd2, S2⟩ := new_tup (od := []) R T R.nd hp
      rw [RDs.frz_id _ _ T] at rd2
      exact q _ _ _ _ _ R2 rd2 R2.nd (fun _ m => by cases m) ((S.less fun x m => List.mem_append_right _ m).trans S2)
    · cases e
  · obtain ⟨v, o, rfl, rd⟩ := h.one
    cases e
    cases rd with
    | @tup a us _ hs T => exact ⟨a, us, rfl, .inr ⟨hs.sq, q.atom S R (.tup hs T)⟩⟩
  · obtain ⟨v, o, rfl, rd⟩ := h.one
    split at e
    · rename_i c
      cases e
      obtain ⟨a, us, o2, rfl, hs, T⟩ := lst_rd rd
      have z := T.noOwn c
      subst z
      exact ⟨a, us, rfl, .inl hs, fun p hp => fresh q T hp⟩
    · cases e
  · obtain ⟨v, o, rfl, rd⟩ := h.one
    cases e
    cases rd with
    | @tup a us _ hs T => exact ⟨a, us, rfl, .inr hs.sq, fun p hp => fresh q T hp⟩
  · obtain ⟨v, o, rfl, rd⟩ := h.one
    obtain ⟨l, e1, rfl⟩ := Option.map_eq_some_iff.mp e
    obtain ⟨a, us, o2, rfl, hs, T⟩ := lst_rd rd
    obtain ⟨z, _⟩ := intsOf_vs T e1
    subst z
    exact .inl ⟨a, l, rfl, hs, q.atom S R (.int _)⟩
  · obtain ⟨v, o, rfl, rd⟩ := h.one
    obtain ⟨l, e1, rfl⟩ := Option.map_eq_some_iff.mp e
    cases rd with
    | @tup a us _ hs T =>
      obtain ⟨z, _⟩ := intsOf_vs T e1
      subst z
      exact .inr ⟨a, l, rfl, hs.sq, q.atom S R (.int _)⟩
  · obtain ⟨v, w, o, p, rfl, rd, rd2⟩ := h.two
    cases e
    cases rd
    cases rd2
    exact ⟨_, _, rfl, q.atom S R (.int _)⟩
  · obtain ⟨v, w, o, p, rfl, rd, rd2⟩ := h.two
    cases e
    cases rd
    cases rd2
    exact ⟨_, _, rfl, q.atom S R (.int _)⟩
  · obtain ⟨v, o, rfl, rd⟩ := h.one
    cases e
    cases rd
    exact ⟨_, rfl, q.atom S R (.int _)⟩
  · obtain ⟨v, o, rfl, rd⟩ := h.one
    obtain ⟨l, e1, rfl⟩ := Option.map_eq_some_iff.mp e
    obtain ⟨a, us, o2, rfl, hs, T⟩ := lst_rd rd
    have z := blsOf_vs T e1
    subst z
    exact ⟨a, l, rfl, hs, q.atom S R (.bl _)⟩
  · obtain ⟨v, o, rfl, rd⟩ := h.one
    obtain ⟨l, e1, rfl⟩ := Option.map_eq_some_iff.mp e
    obtain ⟨a, us, o2, rfl, hs, T⟩ := lst_rd rd
    have z := blsOf_vs T e1
    subst z
    exact ⟨a, l, rfl, hs, q.atom S R (.bl _)⟩
  · obtain ⟨v, o, rfl, rd⟩ := h.one
    obtain ⟨l, e1, rfl⟩ := Option.map_eq_some_iff.mp e
    obtain ⟨a, us, o2, rfl, hs, T⟩ := lst_rd rd
    obtain ⟨z, _⟩ := intsOf_vs T e1
    subst z
    refine ⟨a, l, rfl, hs, fun ns p h1 h2 hp => ?_⟩
    rw [sortI_ok l ns h1 h2]
    exact fresh q (ints_rd _) hp
  · cases e
theorem s_blt {x : Str} {b : Bt} {p : Pos} (hK : X.K = k.K) (hc : X.calm = true) (hb : btOf x = some b) (hg : Gl X x) (hm : X.mg x = none) (hn : x ≠ "__name__") (hd : (x == ("__debug__" : Str)) = false) (h : SndL X k sx W P F es as) (ne : es ≠ []) :
    Snd X k sx W P F (.Call (.Name x p) es [] pos) (.blt b as) := by
  have hv := btOf_ok hb
  cases h with
  | nil => exact absurd rfl ne
  | @cons e a es as n h1 h2 =>
    have hl : SndL X k sx W P F (e :: es) (a :: as) := .cons n h1 h2
    have pe : PE X (.Call (.Name x p) (e :: es) [] pos) (tCB (rBt X.K b) (tAs k sx W (evAs (evs P F (a :: as))))) := by
      have cr := cr_bt hc b
      cases b <;> first
        | exact pe_callB cr hg hm hv (pa_as hl) hn hd (star_cons n _ _) (h2.plain pos)
        | exact pe_callTy cr hg hm hv (pa_as hl) hn hd (star_cons n _ _) (h2.plain pos)
    refine snd1 (f := fun r => (evAs (evs P F (a :: as)) r).bind fun as r => .of ((peekA r as).bind fun ds => bltD b ds) r) hK (pe.weak fun σ H Q ⟨Z, r, os, R, q⟩ => ?_) (fun _ => rfl) rfl (pl_no fun _ => rfl) (it_no fun _ => rfl)
    refine tAs_then R q fun ar r1 vs H1 Z1 o1 os1 R1 av nd nz S1 q1 => ?_
    obtain ⟨d, e1, q2⟩ := q1.of
    obtain ⟨ds, e2, e3⟩ := Option.bind_eq_some_iff.mp e1
    rw [hK]
    exact bltD_ok e3 R1 (peekA_ok R1 av e2) S1 q2

/-! ### isinstance -/
def tyS : Ty → String
  | .int => "int" | .bool => "bool" | .str => "str" | .tuple => "tuple" | .list => "list" | .none => "NoneType"
theorem ty_tab : ∀ p ∈ tyTab, bootBuiltins p.1 = some (.type (tyS p.2)) ∧ p.2 ≠ .none := by decide +kernel
theorem tyOf_ok {x : Str} {t : Ty} (h : tyOf x = some t) : bootBuiltins x = some (.type (tyS t)) ∧ t ≠ .none := ty_tab (x, t) (lookup_mem h)
theorem isTy_ok {d : D} {v : V} {t : Ty} {b : Bool} (e : isTy d t = some b) (h : RD k Z H d v od) (ht : t ≠ .none) : ∃ u, TyX k.K H v u ∧ PySem.W.kitOne k.K u (.type (tyS t)) = some b := by
  cases h with
  | non => exact ⟨_, .base .non, kit_ty (by cases e; cases t <;> first | decide +kernel | exact absurd rfl ht)⟩
  | bl x => exact ⟨_, .base (.bl x), kit_ty (by cases e; cases t <;> first | decide +kernel | exact absurd rfl ht)⟩
  | int x => exact ⟨_, .base (.int x), kit_ty (by cases e; cases t <;> first | decide +kernel | exact absurd rfl ht)⟩
  | str x => exact ⟨_, .base (.str x), kit_ty (by cases e; cases t <;> first | decide +kernel | exact absurd rfl ht)⟩
  | @tup a _ _ h1 _ =>
    have q : TyX k.K H (.ref a) (.type "tuple") := by
      rcases h1 with ⟨_, h1 | ⟨o, h1⟩⟩ | ⟨o, its, n, h1, h2, _⟩
      · exact .base (.tup h1)
      · exact .fTuple h1
      · exact .kTuple h1 h2
    exact ⟨_, q, kit_ty (by cases e; cases t <;> first | decide +kernel | exact absurd rfl ht)⟩
  | own h1 _ => exact ⟨_, .base (.lst h1), kit_ty (by cases e; cases t <;> first | decide +kernel | exact absurd rfl ht)⟩
  | shr _ h1 _ => exact ⟨_, .base (.lst h1), kit_ty (by cases e; cases t <;> first | decide +kernel | exact absurd rfl ht)⟩
  | @giv a _ _ h1 _ =>
    have q : TyX k.K H (.ref a) (.type "list") := by
      rcases h1 with ⟨_, h1 | ⟨o, h1⟩⟩ | ⟨o, its, n, h1, h2, _⟩
      · exact .base (.lst h1)
      · exact .base (.frz h1)
      · exact .kList h1 h2
    exact ⟨_, q, kit_ty (by cases e; cases t <;> first | decide +kernel | exact absurd rfl ht)⟩
  | oown _ _ _ => cases e
  | oshr _ _ _ _ => cases e
theorem s_isi {x : Str} {t : Ty} {p p2 : Pos} {e : Expr} {a : E} (hK : X.K = k.K) (ht : tyOf x = some t) (hg : Gl X "isinstance") (hm : X.mg "isinstance" = none) (hg2 : Gl X x) (hm2 : X.mg x = none) (hn : x ≠ "__name__") (hd : (x == ("__debug__" : Str)) = false) (n : nst e = true) (h : Snd X k sx W P F e a) :
    Snd X k sx W P F (.Call (.Name "isinstance" p) [e, .Name x p2] [] pos) (.isi a t) := by
  obtain ⟨hv, hne⟩ := tyOf_ok ht
  have pe : PE X (.Call (.Name "isinstance" p) [e, .Name x p2] [] pos) (tCB (rIsi X.K) (tCons (tAr k sx W (ev P F a).a) (tCons (tC (.ty (tyS t))) tNil))) :=
    pe_callB call_isi hg hm PyProof.Rows.boot_isinstance (pa_cons h.ar (pa_cons (pe_bltn hg2 hm2 hv rfl hn hd) pa_nil) (star_cons n _ _)) (by decide) (by decide) (star_cons n _ _) rfl
  refine snd1 (f := fun r => ((ev P F a).a r).bind fun x r => .of (((x.peek r).bind fun d => isTy d t).map D.bl) r) hK (pe.weak fun σ H Q ⟨Z, r, os, R, q⟩ => ?_) (fun _ => rfl) rfl (pl_no fun _ => rfl) (it_no fun _ => rfl)
  refine tAr_then R q fun y r1 w H1 Z1 oy os1 R1 ry nd1 nz1 S1 q1 => ?_
  obtain ⟨d, e1, q2⟩ := q1.of
  obtain ⟨b, e2, rfl⟩ := Option.map_eq_some_iff.mp e1
  obtain ⟨d, e3, e4⟩ := Option.bind_eq_some_iff.mp e2
  obtain ⟨o', rd⟩ := peek_ok R1 ry e3
  obtain ⟨u, tx, kt⟩ := isTy_ok e4 rd hne
  exact ⟨w, _, u, _, b, rfl, .ty _, by rw [hK]; exact tx, by rw [hK]; exact kt, q2.atom S1 R1 (.bl _)⟩
end
end Mv

namespace Mv
open PySem L2

section
variable {X : Cx} {k : Kc} {sx : Option (Addr × Addr)} {W : WX} {P : Pg} {F : Nat → List D → FOut} {pos apos cpos : Pos} {es : List Expr} {as : List E}
variable {Z Z' Z0 Z1 Z2 : Addr → Prop} {H H' H0 H1 H2 : Hp} {σ : St} {r r1 r2 : En} {os os' os0 os1 os2 od : List Addr}

theorem nd_sub {P P' R : List Addr} (h : (P ++ R).Nodup) (n : P'.Nodup) (s : ∀ a ∈ P', a ∈ P) : (P' ++ R).Nodup := by
  obtain ⟨h1, h2, h3⟩ := List.nodup_append.mp h
  exact List.nodup_append.mpr ⟨n, h2, fun a m b mb => h3 a (s a m) b mb⟩
theorem nd_perm {P R : List Addr} (h : P.Nodup) (p : R.Perm P) : R.Nodup := p.nodup_iff.mpr h
/-- an empty slot is filled -/
theorem RS.fill {i : Nat} (h : RS k sx Z H r σ os) (hi : i < r.length) (e : slot r i = none) : ∃ A B, os = A ++ B ∧ ∀ d v o', RD k Z H d v o' → RS k sx Z H (r.set i (some d)) (σ.set i (some v)) (A ++ (o' ++ B)) := by
  induction h generalizing i with
  | nil => simp at hi
  | @emp x r s os h ih =>
    cases i with
    | zero => exact ⟨[], os, rfl, fun d' v' o' q => show RS k sx Z H (some d' :: r) (some v' :: s) (o' ++ os) from .val q h⟩
    | succ i =>
      obtain ⟨A, B, e2, e5⟩ := ih (i := i) (by simpa using hi) e
      exact ⟨A, B, e2, fun d' v' o' q => .emp (e5 d' v' o' q)⟩
  | @val d0 v0 r s o0 os h1 h ih =>
    cases i with
    | zero => simp [slot] at e
    | succ i =>
      obtain ⟨A, B, e2, e5⟩ := ih (i := i) (by simpa using hi) e
      subst e2
      exact ⟨o0 ++ A, B, by rw [List.append_assoc], fun d' v' o' q => by rw [List.append_assoc]; exact .val h1 (e5 d' v' o' q)⟩
  | @ex c w a dd v0 r s os ex z hd h1 h ih =>
    cases i with
    | zero => simp [slot] at e
    | succ i =>
      obtain ⟨A, B, e2, e5⟩ := ih (i := i) (by simpa using hi) e
      exact ⟨A, B, e2, fun d' v' o' q => .ex ex z hd h1 (e5 d' v' o' q)⟩
theorem set_self {α : Type} : ∀ {l : List α} {i : Nat} {x : α}, l[i]? = some x → l.set i x = l
  | [], _, _, h => by simp at h
  | _ :: _, 0, _, h => by simp at h; simp [h]
  | _ :: l, i + 1, _, h => by simp at h; simp [set_self h]
/-- a slot's thing is taken out, and held -/
theorem Rel.take {x : Nat} {d : D} (R : Rel k sx Z r σ H os) (e : slot r x = some d) (ne : ∀ c w, d ≠ .exn c w) : ∃ v o os', σ[x]? = some (some v) ∧ RD k Z H d v o ∧ os.Perm (o ++ os') ∧ Rel k sx Z (r.set x none) σ H os' := by
  obtain ⟨v, A, o, B, e1, e2, rd, e3, _⟩ := R.rs.get e ne
  subst e2
  have rs := e3 (some v)
  rw [set_self e1] at rs
  have pm : (A ++ (o ++ B)).Perm (o ++ (A ++ B)) := by rw [List.perm_iff_count]; intro a; simp only [List.count_append]; omega
  refine ⟨v, o, A ++ B, e1, rd, pm, rs, ?_, fun a m => R.nz a (pm.mem_iff.mpr (List.mem_append_right _ m)), R.zd⟩
  exact (List.nodup_append.mp (pm.nodup_iff.mp R.nd)).2.1
/-- .. and comes back -/
theorem Rel.give {x : Nat} {d : D} {v : V} {o : List Addr} (R : Rel k sx Z r σ H os) (e : slot r x = none) (hx : x < r.length) (hv : σ[x]? = some (some v)) (rd : RD k Z H d v o) (nd : (o ++ os).Nodup) (nz : ∀ a ∈ o, ¬ Z a) :
    ∃ os', os'.Perm (o ++ os) ∧ Rel k sx Z (r.set x (some d)) σ H os' := by
  obtain ⟨A, B, e2, e3⟩ := R.rs.fill hx e
  subst e2
  have rs := e3 d v o rd
  rw [set_self hv] at rs
  have pm : (A ++ (o ++ B)).Perm (o ++ (A ++ B)) := by rw [List.perm_iff_count]; intro a; simp only [List.count_append]; omega
  refine ⟨_, pm, rs, pm.nodup_iff.mpr nd, fun a m => ?_, R.zd⟩
  rcases List.mem_append.mp (pm.mem_iff.mp m) with m | m
  · exact nz a m
  · exact R.nz a m
theorem Step.perm {o1 o2 o3 : List Addr} (S : Step Z Z1 H H1 o1 o2) (p : o3.Perm o2) : Step Z Z1 H H1 o1 o3 := S.less fun x m => p.mem_iff.mp m

theorem RDs.split1 {d : D} {ds : List D} {vs : List V} (h : RDs k Z H (d :: ds) vs []) : ∃ v us, vs = v :: us ∧ RD k Z H d v [] ∧ RDs k Z H ds us [] := by
  generalize hz : ([] : List Addr) = z at h
  cases h with
  | cons h1 h2 =>
    obtain ⟨rfl, rfl⟩ := List.append_eq_nil_iff.mp hz.symm
    exact ⟨_, _, rfl, h1, h2⟩
theorem RDs.rev : ∀ {ds : List D} {vs : List V}, RDs k Z H ds vs [] → RDs k Z H ds.reverse vs.reverse []
  | [], _, h => by cases h; exact .nil
  | d :: ds, vs, h => by
    obtain ⟨v, us, rfl, h1, h2⟩ := h.split1
    rw [List.reverse_cons, List.reverse_cons]
    exact RDs.app (RDs.rev h2) (RDs.one h1)
def rLm : Lm → V → List V → Hp → VK → Prop
  | .append => rAppend
  | .pop => rPop
  | .extend => rExtend
  | .reverse => rReverse
  | _ => fun _ _ _ _ => False
theorem lm_fin {rb : En} {xs ds ys : List D} {us vs : List V} {dr d' : D} {l : Addr} {v : V} {A B o2 oa osb : List Addr} {x : Nat} {Q : VK} {m : Lm}
    (R : Rel k sx Z2 rb σ H2 osb) (hlt : x < rb.length) (hs : slot rb x = none) (hv : σ[x]? = some (some v)) (hl : H2 l = some (.lst vs)) (T : RDs k Z2 H2 xs vs o2) (Ta : RDs k Z2 H2 ds us oa)
    (nd : (((A ++ ((l :: o2) ++ B)) ++ oa) ++ osb).Nodup) (nz : ∀ a ∈ (A ++ ((l :: o2) ++ B)) ++ oa, ¬ Z2 a)
    (bk : ∀ Z' H', (∀ a, Z2 a → Z' a) → (∀ a o, H2 a = some o → (Z2 a ∨ a ∈ A ∨ a ∈ B) → H' a = some o) → ∀ o', RD k Z' H' (.lst .own ys) (.ref l) o' → RD k Z' H' d' v (A ++ (o' ++ B)))
    (e : lmD m xs ds = some (dr, ys)) (q : PostV k sx Z H os σ Q dr (rb.set x (some d'))) (S : Step Z Z2 H H2 os (((A ++ ((l :: o2) ++ B)) ++ oa) ++ osb)) : rLm m (.ref l) us H2 Q := by
  have zl : ¬ Z2 l := nz l (by simp)
  have pm0 : (((A ++ ((l :: o2) ++ B)) ++ oa) ++ osb).Perm ((o2 ++ oa) ++ ((A ++ l :: B) ++ osb)) := by
    rw [List.perm_iff_count]; intro a; simp only [List.count_append, List.count_cons]; omega
  have nd0 := pm0.nodup_iff.mp nd
  have dj : ∀ a, (a ∈ o2 ∨ a ∈ oa ∨ a ∈ A ∨ a ∈ B ∨ a ∈ osb) → a ≠ l := by
    intro a m e
    subst e
    have c := (List.nodup_iff_count.mp nd0) a
    simp only [List.count_append, List.count_cons, beq_self_eq_true, if_true] at c
    have pos : 0 < List.count a o2 ∨ 0 < List.count a oa ∨ 0 < List.count a A ∨ 0 < List.count a B ∨ 0 < List.count a osb := by
      simpa only [List.count_pos_iff] using m
    omega
  have fin : ∀ (vs' : List V) (o' orr : List Addr) (ret : V), RDs k Z2 H2 ys vs' o' → RD k Z2 H2 dr ret orr → (orr ++ o').Nodup → (∀ a ∈ orr ++ o', a ∈ o2 ++ oa) → Q ret (upd H2 l (.lst vs')) := by
    intro vs' o' orr ret h1 h2 h3 h4
    have ne : ∀ a, (Z2 a ∨ a ∈ o2 ∨ a ∈ oa ∨ a ∈ A ∨ a ∈ B ∨ a ∈ osb) → a ≠ l := fun a m => m.elim (fun z e => zl (e ▸ z)) (dj a)
    have kp : ∀ a o, H2 a = some o → (Z2 a ∨ a ∈ o2 ∨ a ∈ oa ∨ a ∈ A ∨ a ∈ B ∨ a ∈ osb) → upd H2 l (.lst vs') a = some o := fun a o e m => by rw [upd_ne (ne a m)]; exact e
    have h1' : RDs k Z2 (upd H2 l (.lst vs')) ys vs' o' := RDs.mono (fun _ z => z) _ _ _ (fun a o e z => kp a o e (by
      rcases z with z | z
      · exact .inl z
      · rcases List.mem_append.mp (h4 a (List.mem_append_right _ z)) with m | m
        · exact .inr (.inl m)
        · exact .inr (.inr (.inl m)))) h1
    have h2' : RD k Z2 (upd H2 l (.lst vs')) dr ret orr := RD.mono (fun _ z => z) _ _ _ (fun a o e z => kp a o e (by
      rcases z with z | z
      · exact .inl z
      · rcases List.mem_append.mp (h4 a (List.mem_append_left _ z)) with m | m
        · exact .inr (.inl m)
        · exact .inr (.inr (.inl m)))) h2
    have R' : Rel k sx Z2 rb σ (upd H2 l (.lst vs')) osb := ⟨R.rs.mono (fun _ z => z) fun a o e z => kp a o e (by
      rcases z with z | z
      · exact .inl z
      · exact .inr (.inr (.inr (.inr (.inr z))))), R.nd, R.nz, fun a z => by
        obtain ⟨o, e⟩ := R.zd a z
        exact ⟨o, kp a o e (.inl z)⟩⟩
    have rd' := bk Z2 (upd H2 l (.lst vs')) (fun _ z => z) (fun a o e z => kp a o e (by
      rcases z with z | z | z
      · exact .inl z
      · exact .inr (.inr (.inr (.inl z)))
      · exact .inr (.inr (.inr (.inr (.inl z)))))) (l :: o') (.own upd_same h1')
    have nd1 : ((orr ++ o') ++ ((A ++ l :: B) ++ osb)).Nodup := nd_sub nd0 h3 h4
    have pm1 : (orr ++ ((A ++ ((l :: o') ++ B)) ++ osb)).Perm ((orr ++ o') ++ ((A ++ l :: B) ++ osb)) := by
      rw [List.perm_iff_count]; intro a; simp only [List.count_append, List.count_cons]; omega
    have nd2 := pm1.nodup_iff.mpr nd1
    obtain ⟨n1, n2, n3⟩ := List.nodup_append.mp nd2
    have mm : ∀ a ∈ orr ++ ((A ++ ((l :: o') ++ B)) ++ osb), a ∈ ((A ++ ((l :: o2) ++ B)) ++ oa) ++ osb := fun a m => by
      refine pm0.mem_iff.mpr ?_
      rcases List.mem_append.mp (pm1.mem_iff.mp m) with m | m
      · exact List.mem_append_left _ (h4 a m)
      · exact List.mem_append_right _ m
    obtain ⟨os3, p3, R3⟩ := R'.give hs hlt hv rd' n2 fun a m => by
      have : a ∈ orr ++ o' ∨ a ∈ A ++ l :: B := by
        simp only [List.mem_append, List.mem_cons] at m ⊢
        rcases m with m | (m | m) | m
        · exact .inr (.inl m)
        · exact .inr (.inr (.inl m))
        · exact .inl (.inr m)
        · exact .inr (.inr (.inr m))
      refine nz a ?_
      rcases this with m | m
      · have := h4 a m
        simp only [List.mem_append, List.mem_cons] at this ⊢
        rcases this with m | m <;> simp [m]
      · simp only [List.mem_append, List.mem_cons] at m ⊢
        rcases m with m | m | m <;> simp [m]
    refine q ret _ Z2 orr os3 R3 h2' ?_ (fun a m => ?_) ?_
    · exact (List.Perm.append_left orr p3).nodup_iff.mpr nd2
    · refine nz a ?_
      have := h4 a (List.mem_append_left _ m)
      simp only [List.mem_append, List.mem_cons] at this ⊢
      rcases this with m | m <;> simp [m]
    · refine S.trans ⟨fun a o e n => ?_, fun _ z => z, fun _ z => .inl z, fun a m => .inl (mm a ?_)⟩
      · have : a ≠ l := fun e => n (by rw [e]; simp)
        rw [upd_ne this]
        exact e
      · exact (List.Perm.append_left orr p3).mem_iff.mp m
  have nn : (o2 ++ oa).Nodup := (List.nodup_append.mp nd0).1
  obtain ⟨n1, n2, _⟩ := List.nodup_append.mp nn
  unfold lmD at e
  split at e
  · rename_i d
    split at e
    · rename_i c
      cases e
      obtain ⟨u, rfl, rd⟩ := RDs.of1 Ta
      refine ⟨l, vs, u, rfl, rfl, hl, by rw [slE, T.length]; exact c, fin _ (o2 ++ oa) [] .non (T.app (RDs.one rd)) .non (by simpa using nn) fun a m => by simpa using m⟩
    · cases e
  · cases Ta
    obtain ⟨z, e1, e2⟩ := Option.map_eq_some_iff.mp e
    cases e2
    rcases List.eq_nil_or_concat xs with rfl | ⟨xi, y, rfl⟩
    · simp at e1
    · rw [List.concat_eq_append] at e1 T fin
      have ey : dr = y := by
        have : (xi ++ [y])[(xi ++ [y]).length - 1]? = some y := by simp
        rw [this] at e1
        exact (Option.some.inj e1).symm
      subst ey
      obtain ⟨u1, u2, p1, p2, rfl, rfl, g1, g2⟩ := T.split
      obtain ⟨w, rfl, rd⟩ := RDs.of1 g2
      have dl : (u1 ++ [w]).dropLast = u1 := by simp
      have dd : (xi ++ [dr]).dropLast = xi := by simp
      refine ⟨l, u1 ++ [w], w, rfl, rfl, hl, by simp, ?_⟩
      rw [dl]
      refine fin u1 p1 p2 w (by rw [dd]; exact g1) rd ?_ fun a m => ?_
      · have pm : (p2 ++ p1).Perm (p1 ++ p2) := List.perm_append_comm
        exact pm.nodup_iff.mpr n1
      · simp only [List.mem_append] at m ⊢
        rcases m with m | m <;> simp [m]
  · rename_i kd es2
    split at e
    · rename_i c
      cases e
      simp only [Bool.and_eq_true, decide_eq_true_eq, bne_iff_ne, ne_eq] at c
      obtain ⟨⟨c1, c2⟩, c3⟩ := c
      obtain ⟨u, rfl, rd⟩ := RDs.of1 Ta
      obtain ⟨b, zs, ob, rfl, hb, Tb, sub⟩ := lst_at rd c1
      have z := Tb.noOwn c2
      subst z
      refine ⟨l, b, vs, zs, rfl, rfl, hl, hb, by rw [slE, T.length, Tb.length]; exact c3, fin _ (o2 ++ []) [] .non (T.app Tb) .non (by simpa using n1) fun a m => ?_⟩
      simp only [List.nil_append, List.append_nil] at m
      exact List.mem_append_left _ m
    · cases e
  · cases Ta
    split at e
    · rename_i c
      cases e
      have z := T.noOwn c
      subst z
      refine ⟨l, vs, rfl, rfl, hl, fin vs.reverse [] [] .non ?_ .non List.nodup_nil fun a m => by cases m⟩
      exact T.rev
    · cases e
  · cases e
theorem lm_tab : ∀ p ∈ lmTab, (p.2 = .append ∧ p.1 = "append") ∨ (p.2 = .pop ∧ p.1 = "pop") ∨ (p.2 = .extend ∧ p.1 = "extend") ∨ (p.2 = .reverse ∧ p.1 = "reverse") := by decide +kernel
theorem lm_pe {to : TE} {e1 : Expr} {x : Str} {m : Lm} (hm : lmOf x = some m) (ho : PE X e1 to) (h : SndL X k sx W P F es as) (few : es.length < 29) (line : (apos.endLine == cpos.line) = true) (hb : ∀ x, attributeBase e1 x X.env (eval e1 X.env) = eval e1 X.env) :
    PE X (.Call (.Attribute e1 x apos) es [] cpos) (fun σ H Q => to σ H fun y H1 => tyV X.K "list" y H1 ∧ tL k sx W (evEs (evs P F as)) σ H1 fun ys H2 => rLm m y ys H2 Q) := by
  have key : ∀ {id : String} {r : V → List V → Hp → VK → Prop}, Slot "list" x id → typeOf (.builtin id) = pure (.type "method_descriptor") → MtR X id r →
      PE X (.Call (.Attribute e1 x apos) es [] cpos) (fun σ H Q => to σ H fun y H1 => tyV X.K "list" y H1 ∧ tL k sx W (evEs (evs P F as)) σ H1 fun ys H2 => r y ys H2 Q) := by
    intro id r sl ty mt
    cases h with
    | nil =>
      refine ⟨fun pins s σ H Q I q => ?_⟩
      refine wpAny_Call_method0_late (hb x) line (thn (ho.run pins s σ H _ I q) fun v s1 ⟨y, H1, I1, r1, ty1, q1⟩ => ?_)
      obtain ⟨h1, h2⟩ := tyV_is I1 r1 ty1
      obtain ⟨Z, r0, os, R, q1⟩ := q1
      exact ⟨"list", id, PySem.F.plainAttrs_list, sl, ty, h1, h2, Calls.callWith_builtin rfl (PySem.evalArgs_none (mt pins s1 σ H1 y [] v [] Q I1 r1 .nil (q1 [] H1 Z [] os R .nil R.nd (fun _ m => by cases m) Step.refl)))⟩
    | @cons e a es as n h1 h2 =>
      refine pe_bm PySem.F.plainAttrs_list sl ty mt ho (pa_es (.cons n h1 h2)) (hb x) ?_ line (star_cons n _ _) (h2.plain cpos)
      rw [SndL.plainA (.cons n h1 h2)]
      show (true && true && decide ((e :: es).length + 0 + 0 < 30)) = true
      simp only [Bool.and_self, Bool.true_and, decide_eq_true_eq]
      omega
  rcases lm_tab (x, m) (lookup_mem hm) with ⟨e, e2⟩ | ⟨e, e2⟩ | ⟨e, e2⟩ | ⟨e, e2⟩
  · have e : m = .append := e
    have e2 : x = "append" := e2
    subst e e2
    exact key PySem.F.slot_list_append PySem.F.type_list_append mt_append
  · have e : m = .pop := e
    have e2 : x = "pop" := e2
    subst e e2
    exact key PySem.F.slot_list_pop PySem.F.type_list_pop mt_pop
  · have e : m = .extend := e
    have e2 : x = "extend" := e2
    subst e e2
    exact key PySem.F.slot_list_extend PySem.F.type_list_extend mt_extend
  · have e : m = .reverse := e
    have e2 : x = "reverse" := e2
    subst e e2
    exact key PySem.F.slot_list_reverse PySem.F.type_list_reverse mt_reverse
theorem slot_set_none {r : En} {x : Nat} : slot (r.set x none) x = none := by
  unfold slot
  rcases h : (r.set x none)[x]? with _ | v
  · rfl
  · rw [List.getElem?_set] at h
    simp only [if_true] at h
    split at h
    · cases h; rfl
    · cases h
theorem lst_ty {kd : Kd} {ds : List D} {v : V} (hK : X.K = k.K) (h : RD k Z H (.lst kd ds) v od) : tyV X.K "list" v H := by
  obtain ⟨a, vs, o2, rfl, hs, _⟩ := lst_rd h
  rw [hK]
  exact .inl ⟨rfl, vs, hs⟩
theorem own_lst {ds : List D} {v : V} (h : RD k Z H (.lst .own ds) v od) : ∃ l vs o2, v = .ref l ∧ od = l :: o2 ∧ H l = some (.lst vs) ∧ RDs k Z H ds vs o2 := by
  cases h with
  | own h1 h2 => exact ⟨_, _, _, rfl, rfl, h1, h2⟩
/-- what a list method does, opened -/
theorem lmP_ok {m : Lm} {o : Option D} {r : En} {x : Nat} {p : List St1} {ds : List D} {OK : D → En → Prop} (h : Sat k sx W Z H os σ (lmP m o r x p ds) OK) :
    ∃ d xs v ys d', o = some d ∧ getP d p = some (.lst .own xs) ∧ lmD m xs ds = some (v, ys) ∧ updP (fun _ => some (.lst .own ys)) d p = some d' ∧ x < r.length ∧ OK v (r.set x (some d')) := by
  unfold lmP at h
  split at h
  · split at h
    · split at h
      · split at h
        · split at h
          · exact ⟨_, _, _, _, _, rfl, by assumption, by assumption, by assumption, by assumption, h⟩
          · exact h.elim
        · exact h.elim
      · exact h.elim
    · exact h.elim
  · exact h.elim
theorem s_lm {e1 : Expr} {a1 : E} {x : Str} {m : Lm} (hK : X.K = k.K) (hm : lmOf x = some m) (h0 : Snd X k sx W P F e1 a1) (h : SndL X k sx W P F es as) (few : es.length < 29) (line : (apos.endLine == cpos.line) = true) (hb : ∀ x, attributeBase e1 x X.env (eval e1 X.env) = eval e1 X.env) :
    Snd X k sx W P F (.Call (.Attribute e1 x apos) es [] cpos) (.lm m a1 as) := by
  by_cases hv : ∃ y, a1 = .var y
  · obtain ⟨y, rfl⟩ := hv
    refine snd1 (f := fun r => match slot r y with
      | some (.lst _ _) => (evEs (evs P F as) r).bind fun ds r => lmP m (slot r y) (r.set y none) y [] ds
      | _ => .bad) hK ((lm_pe hm h0.ar h few line hb).weak fun σ H Q ⟨Z, r, os, R, q⟩ => ?_) (fun _ => rfl) rfl (pl_no fun _ => rfl) (it_no fun _ => rfl)
    dsimp only at q
    split at q
    · rename_i kd ds s
      have hh : has r y = true := by simp [has, Ar.peek, s]
      refine ⟨Z, r, os, R, ?_⟩
      show Sat k sx W Z H os σ (if has r y = true then Out.ok (Ar.r y) r else Out.bad) (PostA k sx Z H os σ _)
      rw [if_pos hh]
      intro v H1 Z1 od os1 R1 av nd nz S1
      cases av with
      | r hv =>
        obtain ⟨v0, A0, o0, B0, f1, f2, f3, _⟩ := R1.rs.focus s (fun c w z => by cases z)
        rw [hv] at f1
        cases f1
        refine ⟨lst_ty hK f3, tL_then R1 (q.base S1) fun ds2 r2 us H2 Z2 oa os2 R2 Ta nd2 nz2 S2 q2 => ?_⟩
        obtain ⟨d, xs, rv, ys, d', g1, g2, g3, g4, g5, g6⟩ := lmP_ok q2
        cases g2
        cases g4
        obtain ⟨v', o, osb, t1, t2, t3, t4⟩ := R2.take g1 (fun c w z => by cases z)
        rw [hv] at t1
        cases t1
        obtain ⟨l, vs, o2, rfl, rfl, hl, T⟩ := own_lst t2
        have pm : (oa ++ os2).Perm ((([] ++ ((l :: o2) ++ [])) ++ oa) ++ osb) := by
          refine (List.Perm.append_left oa t3).trans ?_
          rw [List.perm_iff_count]; intro a; simp only [List.count_append, List.count_cons, List.count_nil]; omega
        refine lm_fin (A := []) (B := []) t4 g5 slot_set_none hv hl T Ta (pm.nodup_iff.mp nd2) (fun a m => ?_) (fun Z' H' hZ hH o' rd => by simpa using rd) g3 g6 ((S1.trans (S2.wide _)).perm ?_)
        · simp only [List.nil_append, List.append_nil] at m
          rcases List.mem_append.mp m with m | m
          · exact R2.nz a (t3.mem_iff.mpr (List.mem_append_left _ m))
          · exact nz2 a m
        · exact pm.symm
    · exact q.elim
  · refine snd1 (f := fun r => match path a1 r with
      | some (x, p) => match peekP r x p with
        | some (.lst _ _) => (evEs (evs P F as) (r.set x none)).bind fun ds r2 => if slot r2 x = none then lmP m (slot r x) r2 x p ds else .bad
        | _ => .bad
      | none => .bad) hK ((lm_pe hm h0.pl h few line hb).weak fun σ H Q ⟨Z, r, os, R, q⟩ => ?_) (fun _ => rfl) ?_ (pl_no fun _ => rfl) (it_no fun _ => rfl)
    · dsimp only at q
      cases z : path a1 r with
      | none => simp only [z] at q; exact q.elim
      | some xp =>
        obtain ⟨y, p⟩ := xp
        simp only [z] at q
        split at q
        · rename_i kd ds pk
          have nx : ∀ c w, slot r y ≠ some (.exn c w) ∨ p = [] := fun c w => by
            cases p with
            | nil => exact .inr rfl
            | cons s p =>
              refine .inl fun e => ?_
              have pk' : (slot r y).bind (fun d => getP d (s :: p)) = some (.lst kd ds) := pk
              rw [e] at pk'
              exact getP_exn pk'
          have nx2 : ∀ c w, slot r y ≠ some (.exn c w) := fun c w e => by
            rcases nx c w with n | n
            · exact n e
            · subst n
              have pk' : (slot r y).bind (fun d => getP d []) = some (.lst kd ds) := pk
              rw [e] at pk'
              cases pk'
          refine ⟨Z, r, os, y, p, _, R, z, pk, nx2, fun w wy => ?_⟩
          obtain ⟨d, v, A0, B0, A, o, B, f1, f2, f3, f4, f5, f6, f7, f8, _, f9⟩ := wy.inn
          subst f5
          have pm : (A0 ++ ((A ++ (o ++ B)) ++ B0)).Perm ((A ++ (o ++ B)) ++ (A0 ++ B0)) := by rw [List.perm_iff_count]; intro a; simp only [List.count_append]; omega
          have nd := pm.nodup_iff.mp R.nd
          have R0 : Rel k sx Z (r.set y none) σ H (A0 ++ B0) := ⟨f9, (List.nodup_append.mp nd).2.1, fun a m => R.nz a (pm.mem_iff.mpr (List.mem_append_right _ m)), R.zd⟩
          have nz0 : ∀ a ∈ A ++ (o ++ B), ¬ Z a := fun a m => R.nz a (pm.mem_iff.mpr (List.mem_append_left _ m))
          have S0 : Step Z Z H H (A0 ++ ((A ++ (o ++ B)) ++ B0)) ((A ++ (o ++ B)) ++ (A0 ++ B0)) := Step.refl.perm pm.symm
          refine ⟨lst_ty hK f7, tL_then R0 (q.base S0) fun ds2 r2 us H2 Z2 oa os2 R2 Ta nd2 nz2 S2 q2 => ?_⟩
          split at q2
          · rename_i s2
            obtain ⟨d0, xs, rv, ys, d', g1, g2, g3, g4, g5, g6⟩ := lmP_ok q2
            obtain rfl : d = d0 := by rw [f1] at g1; exact Option.some.inj g1
            rw [f4] at g2
            cases Option.some.inj g2
            obtain ⟨l, vs, o2, rfl, rfl, hl, T⟩ := own_lst f7
            obtain ⟨e', h1, bk⟩ := f8 _ d' g4
            obtain rfl := Option.some.inj h1
            obtain ⟨m1, m2, m3⟩ := List.nodup_append.mp nd2
            have out : ∀ a ∈ A ++ ((l :: o2) ++ B), a ∉ A0 ++ B0 := fun a m n => (List.nodup_append.mp nd).2.2 a m a n rfl
            have kp : ∀ a o, H a = some o → (Z a ∨ a ∈ A ++ ((l :: o2) ++ B)) → H2 a = some o := fun a o e z => S2.keep a o e (z.elim (fun z n => R0.nz a n z) (out a))
            have T' := RDs.mono S2.zs _ _ _ (fun a o e z => kp a o e (z.imp id fun m => by simp [m])) T
            have dm : ∀ a ∈ A ++ ((l :: o2) ++ B), ∃ o, H a = some o := RD.dom _ _ _ f6
            have n2 : ((A ++ ((l :: o2) ++ B)) ++ (oa ++ os2)).Nodup := List.nodup_append.mpr ⟨(List.nodup_append.mp nd).1, nd2, fun a m b mb e => by
              subst e
              rcases S2.on a mb with x | x
              · exact out a m x
              · obtain ⟨o, q⟩ := dm a m; rw [q] at x; cases x⟩
            have z2 : ∀ a ∈ A ++ ((l :: o2) ++ B), ¬ Z2 a := fun a m z => by
              rcases S2.zn a z with x | x | x
              · exact nz0 a m x
              · exact out a m x
              · obtain ⟨o, q⟩ := dm a m; rw [q] at x; cases x
            refine lm_fin R2 g5 s2 f3 (kp l _ hl (.inr (by simp))) T' Ta (by rw [List.append_assoc]; exact n2) (fun a m => (List.mem_append.mp m).elim (z2 a) (nz2 a))
              (fun Z' H' hZ hH o' rd => bk Z' H' (fun a z => hZ a (S2.zs a z)) (fun a o e z => hH a o (kp a o e (z.imp id fun m => by rcases m with m | m <;> simp [m])) (z.imp (S2.zs a) id)) o' rd) g3 g6 ?_
            exact (S0.trans (S2.wide _)).perm (List.Perm.of_eq (List.append_assoc _ _ _))
          · exact q2.elim
        · exact q.elim
    · cases a1 <;> first | rfl | exact absurd ⟨_, rfl⟩ hv
end
end Mv

namespace Mv
open PySem L2

section
variable {X : Cx} {k : Kc} {sx : Option (Addr × Addr)} {W : WX} {P : Pg} {F : Nat → List D → FOut} {pos apos cpos : Pos} {es : List Expr} {as : List E}
variable {Z Z' Z0 Z1 Z2 : Addr → Prop} {H H' H0 H1 H2 : Hp} {σ : St} {r r1 r2 : En} {os os' os0 os1 os2 od : List Addr}

/-- what a def promises, run to the depth n -/
def spO (k : Kc) (f : List D → Out D) : Sp := fun vs H Q E => ∃ Z ds od, Rel k none Z (ds.map some) (vs.map some) H od ∧ Sat k none (fun cls d _ H => E cls d H) Z H od (vs.map some) (f ds) (PostV k none Z H od (vs.map some) Q)

theorem RDs.rs {ds : List D} {vs : List V} (h : RDs k Z H ds vs od) : RS k sx Z H (ds.map some) (vs.map some) od := by
  induction ds generalizing vs od with
  | nil => cases h; exact .nil
  | cons d ds ih =>
    cases h with
    | cons h1 h2 => exact .val h1 (ih h2)

theorem lend_ok {ra : List Ar} : ∀ {vs : List V} {od os : List Addr} {r : En} {ds : List D} {r1 : En}, ArVs k Z H σ ra vs od → Rel k sx Z r σ H os → lend ra r = some (ds, r1) → (od ++ os).Nodup → (∀ a ∈ od, ¬ Z a) →
    ∃ od' os1, RDs k Z H ds vs od' ∧ Rel k sx Z r1 σ H os1 ∧ (od' ++ os1).Perm (od ++ os) := by
  induction ra with
  | nil =>
    intro vs od os r ds r1 h R e nd nz
    cases h
    cases e
    exact ⟨[], os, .nil, R, List.Perm.refl _⟩
  | cons a ra ih =>
    intro vs od os r ds r1 h R e nd nz
    cases h with
    | @cons _ _ v vs o ot h1 h2 =>
    cases h1 with
    | @v d _ _ rd =>
      obtain ⟨⟨ds', r1'⟩, e1, e2⟩ := Option.map_eq_some_iff.mp (show (lend ra r).map (fun x => (d :: x.1, x.2)) = some (ds, r1) from e)
      cases e2
      rw [List.append_assoc] at nd
      obtain ⟨n1, n2, n3⟩ := List.nodup_append.mp nd
      obtain ⟨od', os1, T, R1, pm⟩ := ih h2 R e1 n2 fun a m => nz a (List.mem_append_right _ m)
      exact ⟨o ++ od', os1, .cons rd T, R1, by rw [List.append_assoc, List.append_assoc]; exact List.Perm.append_left o pm⟩
    | @r i _ hv =>
      obtain ⟨d, e1, e2⟩ := Option.bind_eq_some_iff.mp (show (((Ar.r i).peek r).bind fun d => if d.owned then (lend ra (r.set i none)).map (fun x => (d :: x.1, x.2)) else (lend ra r).map fun x => (d :: x.1, x.2)) = some (ds, r1) from e)
      have s : slot r i = some d ∧ ∀ c w, d ≠ .exn c w := by
        unfold Ar.peek at e1
        cases q : slot r i with
        | none => simp [q] at e1
        | some d' => cases d' <;> simp [q] at e1 <;> subst e1 <;> exact ⟨rfl, fun c w z => by cases z⟩
      split at e2
      · obtain ⟨⟨ds', r1'⟩, e3, e4⟩ := Option.map_eq_some_iff.mp e2
        cases e4
        obtain ⟨v', o, os', t1, rd, t3, R'⟩ := R.take s.1 s.2
        rw [hv] at t1
        cases t1
        have pm0 : (o ++ (ot ++ os')).Perm (([] ++ ot) ++ os) := by
          refine List.Perm.trans ?_ (List.Perm.append_left _ t3.symm)
          rw [List.perm_iff_count]; intro a; simp only [List.count_append, List.count_nil]; omega
        have nd0 := pm0.nodup_iff.mpr nd
        obtain ⟨od', os1, T, R1, pm⟩ := ih h2 R' e3 (List.nodup_append.mp nd0).2.1 fun a m => nz a (by simpa using m)
        exact ⟨o ++ od', os1, .cons rd T, R1, by rw [List.append_assoc]; exact (List.Perm.append_left o pm).trans pm0⟩
      · rename_i ow
        obtain ⟨⟨ds', r1'⟩, e3, e4⟩ := Option.map_eq_some_iff.mp e2
        cases e4
        obtain ⟨v', A, o, B, t1, t2, rd, _⟩ := R.rs.focus s.1 s.2
        rw [hv] at t1
        cases t1
        have z : o = [] := rd.noOwn (by simpa using ow)
        subst z
        obtain ⟨od', os1, T, R1, pm⟩ := ih h2 R e3 (by simpa using nd) fun a m => nz a (by simpa using m)
        exact ⟨[] ++ od', os1, .cons rd T, R1, by simpa using pm⟩

theorem back_ok {ra : List Ar} : ∀ {vs : List V} {od osp os1 : List Addr} {ds : List D} {ps r r2 : En} {Zb : Addr → Prop} {Hb : Hp}, ArVs k Zb Hb σ ra vs od → Rel k sx Z r σ H os1 → RS k none Z H ps (vs.map some) osp → back ra ds ps r = some r2 → (osp ++ os1).Nodup → (∀ a ∈ osp, ¬ Z a) →
    ∃ os2, Rel k sx Z r2 σ H os2 ∧ ∀ a ∈ os2, a ∈ osp ++ os1 := by
  induction ra with
  | nil =>
    intro vs od osp os1 ds ps r r2 Zb Hb h R T e nd nz
    cases h
    have e : r = r2 := by
      cases ds with
      | nil =>
        cases ps with
        | nil => exact Option.some.inj e
        | cons _ _ => cases T
      | cons _ _ => cases e
    subst e
    exact ⟨os1, R, fun a m => List.mem_append_right _ m⟩
  | cons a ra ih =>
    intro vs od osp os1 ds ps r r2 Zb Hb h R T e nd nz
    cases h with
    | @cons _ _ v vs o ot h1 h2 =>
    cases ps with
    | nil => cases T
    | cons p ps =>
    cases ds with
    | nil => cases h1 <;> cases e
    | cons d ds =>
    have skip : back ra ds ps r = some r2 → ∃ os2, Rel k sx Z r2 σ H os2 ∧ ∀ a ∈ os2, a ∈ osp ++ os1 := by
      clear e
      intro e
      cases T with
      | emp T' => exact ih h2 R T' e nd nz
      | @val _ _ _ _ o1 osq rd T' =>
        rw [List.append_assoc] at nd
        obtain ⟨os2, q1, q2⟩ := ih h2 R T' e (List.nodup_append.mp nd).2.1 fun a m => nz a (List.mem_append_right _ m)
        exact ⟨os2, q1, fun a m => by rw [List.append_assoc]; exact List.mem_append_right _ (q2 a m)⟩
      | ex ex _ _ _ _ => cases ex
    cases h1 with
    | v rd => exact skip e
    | @r i _ hv =>
      have e : (if d.owned then p.bind fun p' => back ra ds ps (r.set i (some p')) else back ra ds ps r) = some r2 := e
      split at e
      · obtain ⟨p', rfl, e1⟩ := Option.bind_eq_some_iff.mp e
        cases T with
        | @val _ _ _ _ o1 osq rd T' =>
          have hi : i < r.length := by
            rw [← R.rs.length]
            exact (List.getElem?_eq_some_iff.mp hv).1
          obtain ⟨A, o0, B, t1, _, t2⟩ := R.rs.put hi
          have rs := t2 p' v o1 rd
          rw [set_self hv] at rs
          subst t1
          have pm : (osq ++ (A ++ (o1 ++ B))).Perm ((o1 ++ osq) ++ (A ++ B)) := by rw [List.perm_iff_count]; intro a; simp only [List.count_append]; omega
          have sub : ((o1 ++ osq) ++ (A ++ B)).Sublist ((o1 ++ osq) ++ (A ++ (o0 ++ B))) := List.Sublist.append (List.Sublist.refl _) (List.Sublist.append (List.Sublist.refl _) (List.sublist_append_right _ _))
          have nd1 := pm.nodup_iff.mpr (sub.nodup nd)
          obtain ⟨os2, q1, q2⟩ := ih h2 (r := r.set i (some p')) ⟨rs, (List.nodup_append.mp nd1).2.1, fun a m => by
            simp only [List.mem_append] at m
            rcases m with m | m | m
            · exact R.nz a (by simp [m])
            · exact nz a (by simp [m])
            · exact R.nz a (by simp [m]), R.zd⟩ T' e1 nd1 fun a m => nz a (List.mem_append_right _ m)
          refine ⟨os2, q1, fun a m => ?_⟩
          have := q2 a m
          simp only [List.mem_append] at this ⊢
          rcases this with m | m | m | m <;> simp [m]
        | ex ex _ _ _ _ => cases ex
      · exact skip e
/-- the caller's frame over a callee -/
theorem Rel.over {op : List Addr} (R : Rel k sx Z r σ H os) (nd : (od ++ os).Nodup) (nz : ∀ a ∈ od, ¬ Z a) (S : Step Z Z' H H' od op) (zd : ∀ a, Z' a → ∃ o, H' a = some o) : Rel k sx Z' r σ H' os ∧ ∀ a ∈ op, a ∉ os := by
  obtain ⟨n1, n2, n3⟩ := List.nodup_append.mp nd
  have dr := R.rs.dom
  refine ⟨⟨R.rs.mono S.zs fun a o e z => S.keep a o e ?_, n2, fun a m z => ?_, zd⟩, fun a m n => ?_⟩
  · rcases z with z | z
    · exact fun m => nz a m z
    · exact fun m => n3 a m a z rfl
  · rcases S.zn a z with x | x | x
    · exact R.nz a m x
    · exact n3 a x a m rfl
    · obtain ⟨o, q⟩ := dr a m; rw [q] at x; cases x
  · rcases S.on a m with x | x
    · exact n3 a x a n rfl
    · obtain ⟨o, q⟩ := dr a n; rw [q] at x; cases x

/-- behind a callee: the lent things are back -/
theorem after_ok {ra : List Ar} {vs : List V} {ds : List D} {ps rb r2 : En} {od' os1 osp oa odr : List Addr} {Zb : Addr → Prop} {Hb : Hp} (av : ArVs k Zb Hb σ ra vs oa) (R1 : Rel k sx Z1 rb σ H1 os1) (nd1 : (od' ++ os1).Nodup) (nz1 : ∀ a ∈ od', ¬ Z1 a)
    (Rp : RS k none Z2 H2 ps (vs.map some) osp) (zd : ∀ a, Z2 a → ∃ o, H2 a = some o) (nd2 : (odr ++ osp).Nodup) (nz2 : ∀ a ∈ odr ++ osp, ¬ Z2 a) (S : Step Z1 Z2 H1 H2 od' (odr ++ osp)) (e : back ra ds ps rb = some r2) :
    ∃ os2, Rel k sx Z2 r2 σ H2 os2 ∧ (odr ++ os2).Nodup ∧ Step Z1 Z2 H1 H2 (od' ++ os1) (odr ++ os2) := by
  obtain ⟨Rb, out⟩ := R1.over nd1 nz1 S zd
  obtain ⟨n1, n2, n3⟩ := List.nodup_append.mp nd2
  obtain ⟨os2, R2, sub⟩ := back_ok av Rb Rp e (List.nodup_append.mpr ⟨n2, R1.nd, fun a m b mb e => out a (List.mem_append_right _ m) (e ▸ mb)⟩) fun a m => nz2 a (List.mem_append_right _ m)
  refine ⟨os2, R2, List.nodup_append.mpr ⟨n1, R2.nd, fun a m b mb e => ?_⟩, S.more (fun a m => List.mem_append_left _ m) |>.keep, S.zs, fun a z => (S.zn a z).imp id (Or.imp (List.mem_append_left _) id), fun a m => ?_⟩
  · subst e
    rcases List.mem_append.mp (sub a mb) with x | x
    · exact n3 a m a x rfl
    · exact out a (List.mem_append_left _ m) x
  · rcases List.mem_append.mp m with m | m
    · exact (S.on a (List.mem_append_left _ m)).imp (List.mem_append_left _) id
    · rcases List.mem_append.mp (sub a m) with x | x
      · exact (S.on a (List.mem_append_right _ x)).imp (List.mem_append_left _) id
      · exact .inl (List.mem_append_right _ x)
theorem callA_ok {f : List D → Out D} {ra : List Ar} {vs : List V} {ds : List D} {rb : En} {od' os1 oa : List Addr} {Q : VK} {Zb : Addr → Prop} {Hb : Hp} {osb : List Addr} (av : ArVs k Z1 H1 σ ra vs oa) (T : RDs k Z1 H1 ds vs od') (R1 : Rel k sx Z1 rb σ H1 os1) (nd1 : (od' ++ os1).Nodup) (nz1 : ∀ a ∈ od', ¬ Z1 a) (S1 : Step Z Z1 H H1 os (od' ++ os1))
    (Sb : Step Zb Z1 Hb H1 osb (od' ++ os1)) (q : Sat k sx W Zb Hb osb σ (backO ra ds rb (f ds)) (PostV k sx Z H os σ Q)) : spO k f vs H1 Q (fun cls d H => W cls d σ H) := by
  refine ⟨Z1, ds, od', ⟨T.rs, (List.nodup_append.mp nd1).1, nz1, R1.zd⟩, ?_⟩
  cases h : f ds with
  | bad => rw [h] at q; exact q.elim
  | ok d ps =>
    rw [h] at q
    have q : Sat k sx W Zb Hb osb σ (match back ra ds ps rb with | some r2 => .ok d r2 | none => .bad) (PostV k sx Z H os σ Q) := q
    intro v H2 Z2 odr osp Rp rd nd2 nz2 S2
    split at q
    · rename_i r2 e
      obtain ⟨os2, R2, nd3, S3⟩ := after_ok av R1 nd1 nz1 Rp.rs Rp.zd nd2 (fun a m => (List.mem_append.mp m).elim (nz2 a) (Rp.nz a)) S2 e
      exact q v H2 Z2 odr os2 R2 rd nd3 nz2 (S1.trans S3)
    · exact q.elim
  | exc c w ps =>
    rw [h] at q
    have q : Sat k sx W Zb Hb osb σ (match back ra ds ps rb with | some r2 => .exc c w r2 | none => .bad) (PostV k sx Z H os σ Q) := q
    intro cls d H2 Z2 osp Rp ex S2
    split at q
    · rename_i r2 e
      obtain ⟨os2, R2, nd3, S3⟩ := after_ok (odr := []) av R1 nd1 nz1 Rp.rs Rp.zd Rp.nd (fun a m => Rp.nz a m) S2 e
      exact q cls d H2 Z2 os2 R2 ex (Sb.trans S3)
    · exact q.elim
/-- a new instance's __init__ -/
theorem made_ok {f : List D → Out D} {c : Nat} {ra : List Ar} {vs : List V} {ds : List D} {rb : En} {od' os1 oa : List Addr} {Q : VK} (hc : k.oc c) (av : ArVs k Z1 H1 σ ra vs oa) (T : RDs k Z1 H1 ds vs od') (R1 : Rel k sx Z1 rb σ H1 os1) (nd1 : (od' ++ os1).Nodup) (nz1 : ∀ a ∈ od', ¬ Z1 a) (S1 : Step Z Z1 H H1 os (od' ++ os1))
    (q : Sat k sx W Z H os σ (backO ra ds rb (made (f (.obj .own c [] [] :: ds)))) (PostV k sx Z H os σ Q)) (x dx : Addr) (hx : H1 x = none) (hdx : H1 dx = none) (ne : dx ≠ x) :
    spO k f (.ref x :: vs) (upd (upd H1 dx (.own x)) x (.ins (k.cA c) dx [])) (fun v H2 => v = .non ∧ Q (.ref x) H2) (fun cls d H => W cls d σ H) := by
  have kp : ∀ a o, H1 a = some o → upd (upd H1 dx (.own x)) x (.ins (k.cA c) dx []) a = some o := fun a o e => by rw [upd_ne (ne_of_none e hx), upd_ne (ne_of_none e hdx)]; exact e
  have zx : ¬ Z1 x := fun z => by obtain ⟨o, e⟩ := R1.zd x z; rw [hx] at e; cases e
  have nx : x ∉ od' ++ os1 := fun m => by
    rcases List.mem_append.mp m with m | m
    · obtain ⟨o, e⟩ := RDs.dom _ _ _ T x m; rw [hx] at e; cases e
    · obtain ⟨o, e⟩ := R1.rs.dom x m; rw [hx] at e; cases e
  have T0 : RDs k Z1 (upd (upd H1 dx (.own x)) x (.ins (k.cA c) dx [])) (.obj .own c [] [] :: ds) (.ref x :: vs) ((x :: []) ++ od') :=
    .cons (.oown (fs := []) upd_same ⟨⟨rfl, fun _ m => by cases m⟩, hc⟩ .nil) (RDs.mono (fun _ z => z) _ _ _ (fun a o e _ => kp a o e) T)
  have R0 : Rel k sx Z1 rb σ (upd (upd H1 dx (.own x)) x (.ins (k.cA c) dx [])) os1 := ⟨R1.rs.mono (fun _ z => z) fun a o e _ => kp a o e, R1.nd, R1.nz, fun a z => by obtain ⟨o, e⟩ := R1.zd a z; exact ⟨o, kp a o e⟩⟩
  have nd0 : (((x :: []) ++ od') ++ os1).Nodup := by
    show (x :: (od' ++ os1)).Nodup
    exact List.nodup_cons.mpr ⟨nx, nd1⟩
  have nz0 : ∀ a ∈ (x :: []) ++ od', ¬ Z1 a := fun a m => by
    rcases List.mem_append.mp m with m | m
    · cases List.mem_singleton.mp m; exact zx
    · exact nz1 a m
  have S0 : Step Z1 Z1 H1 (upd (upd H1 dx (.own x)) x (.ins (k.cA c) dx [])) (od' ++ os1) (((x :: []) ++ od') ++ os1) := ⟨fun a o e _ => kp a o e, fun _ z => z, fun _ z => .inl z, fun a m => by
    rcases List.mem_cons.mp (show a ∈ x :: (od' ++ os1) from m) with m | m
    · rw [m]; exact .inr hx
    · exact .inl m⟩
  refine ⟨Z1, .obj .own c [] [] :: ds, (x :: []) ++ od', ⟨T0.rs, (List.nodup_append.mp nd0).1, nz0, R0.zd⟩, ?_⟩
  cases h : f (.obj .own c [] [] :: ds) with
  | bad => rw [h] at q; exact q.elim
  | ok d ps =>
    rw [h] at q
    unfold made at q
    split at q
    · rename_i o ps' e
      cases e
      have q : Sat k sx W Z H os σ (match back ra ds ps' rb with | some r2 => .ok o.frz r2 | none => .bad) (PostV k sx Z H os σ Q) := q
      intro v H2 Z2 odr osp Rp rd nd2 nz2 S2
      cases rd
      refine ⟨rfl, ?_⟩
      split at q
      · rename_i r2 e
        cases hr : Rp.rs with
        | @val _ _ _ _ ox osq rdx Tx =>
          have Ry : Rel k none Z2 ps' (vs.map some) H2 osq := ⟨Tx, (List.nodup_append.mp Rp.nd).2.1, fun a m => Rp.nz a (List.mem_append_right _ m), Rp.zd⟩
          obtain ⟨R3, S3⟩ := Ry.share Rp.nd (RD.dom _ _ _ rdx)
          have rd3 : RD k (fun a => Z2 a ∨ a ∈ ox) H2 o.frz (.ref x) [] := RD.frz (fun a z => .inl z) _ _ _ (fun a m => .inr m) rdx
          have S23 := S2.trans S3
          obtain ⟨os2, R4, nd4, S4⟩ := after_ok (odr := []) av R0 nd0 nz0 R3.rs R3.zd R3.nd (fun a m => R3.nz a m) S23 e
          exact q (.ref x) H2 _ [] os2 R4 rd3 nd4 (fun _ m => by cases m) ((S1.trans S0).trans S4)
        | ex ex _ _ _ _ => cases ex
      · exact q.elim
    · rename_i e; cases e
    · exact q.elim
  | exc e w ps =>
    rw [h] at q
    unfold made at q
    split at q
    · rename_i e; cases e
    · rename_i p0 ps' e
      cases e
      have q : Sat k sx W Z H os σ (match back ra ds ps' rb with | some r2 => .exc _ w r2 | none => .bad) (PostV k sx Z H os σ Q) := q
      intro cls d H2 Z2 osp Rp ex S2
      split at q
      · rename_i r2 e
        have fin : ∀ {ox osq : List Addr}, osp = ox ++ osq → RS k none Z2 H2 ps' (vs.map some) osq → W cls d σ H2 := by
          intro ox osq eq Tx
          subst eq
          have S2' : Step Z1 Z2 (upd (upd H1 dx (.own x)) x (.ins (k.cA c) dx [])) H2 ((x :: []) ++ od') osq := S2.less fun a m => List.mem_append_right _ m
          obtain ⟨os2, R4, nd4, S4⟩ := after_ok (odr := []) av R0 nd0 nz0 Tx Rp.zd (List.nodup_append.mp Rp.nd).2.1 (fun a m => Rp.nz a (List.mem_append_right _ m)) S2' e
          exact q cls d H2 Z2 os2 R4 ex ((S1.trans S0).trans S4)
        cases hr : Rp.rs with
        | val rdx Tx => exact fin rfl Tx
        | emp Tx => exact fin (ox := []) rfl Tx
        | ex ex _ _ _ _ => cases ex
      · exact q.elim
    · exact q.elim

/-- a def as it may be called -/
structure DefAt (X : Cx) (k : Kc) (j : Nat) (fa : Addr) (f : List D → Out D) : Prop where
  ex : ∃ (fd : FuncData) (ps : List Str), FnOk X.prog X.w X.K X.mg X.base (L2.CX X.prog X.w) j fa fd ps (spO k f) ∧ Binds X.K fd ps []
  kp : PySem.W.keepIn X.K (.ref fa) = true
theorem tAs_nil {σ : St} {H : Hp} {Q : List V → Hp → Prop} (q : tAs k sx W (evAs (evs P F [])) σ H Q) : Q [] H := by
  obtain ⟨Z, r, os, R, q⟩ := q
  exact q [] H Z [] os R .nil R.nd (fun _ m => by cases m) Step.refl
theorem tL_nil {σ : St} {H : Hp} {Q : List V → Hp → Prop} (q : tL k sx W (evEs (evs P F [])) σ H Q) : Q [] H := by
  obtain ⟨Z, r, os, R, q⟩ := q
  exact q [] H Z [] os R .nil R.nd (fun _ m => by cases m) Step.refl
/-- f(..) of a def of the module -/
theorem s_call {x : Str} {p : Pos} {fa : Addr} {f j : Nat} (hK : X.K = k.K) (hF : DefAt X k j fa fun ds => (F f ds).out) (hr : Room j X.A) (hg : Gl X x) (hm : X.mg x = some (.ref fa)) (hd : (x == ("__debug__" : Str)) = false) (tk : Takes X W) (h : SndL X k sx W P F es as) :
    Snd X k sx W P F (.Call (.Name x p) es [] pos) (.call f as) := by
  obtain ⟨⟨fd, ps, FO, hb⟩, hk⟩ := hF
  have pe : PE X (.Call (.Name x p) es [] pos) (tCallS (spO k fun ds => (F f ds).out) (WE W) (tAs k sx W (evAs (evs P F as)))) := by
    cases h with
    | nil =>
      refine ⟨fun pins s σ H Q I q => ?_⟩
      refine wpAny_Call_Name_kw (ld_glob I hg hm ?_ hd)
      exact PySem.W.callWith_K0 I.kIn hk (run_fnS (us := []) FO hr hb (passAt tk σ) I .nil (tAs_nil q))
    | cons n h1 h2 => exact pe_callS FO hr hg hm hk hb (fun σ => passAt tk σ) (pa_as (.cons n h1 h2)) hd (star_cons n _ _) (h2.plain pos)
  refine snd1 (f := fun r => (evAs (evs P F as) r).bind fun as r => callA F f as r) hK (pe.weak fun σ H Q ⟨Z, r, os, R, q⟩ => ?_) (fun _ => rfl) rfl (pl_no fun _ => rfl) (it_no fun _ => rfl)
  refine tAs_then R q fun ra r1 vs H1 Z1 o1 os1 R1 av nd nz S1 q1 => ?_
  unfold callA at q1
  split at q1
  · rename_i ds rb e
    obtain ⟨od', os2, T, R2, pm⟩ := lend_ok av R1 e nd nz
    have nz' : ∀ a ∈ od', ¬ Z1 a := fun a m => by
      rcases List.mem_append.mp (pm.mem_iff.mp (List.mem_append_left _ m)) with m | m
      · exact nz a m
      · exact R1.nz a m
    exact callA_ok av T R2 (pm.nodup_iff.mpr nd) nz' (S1.perm pm) (S1.perm pm) q1
  · exact q1.elim

/-- the class c as it may be made -/
structure MkAt (X : Cx) (k : Kc) (j c : Nat) (f : List D → Out D) : Prop where
  ex : ∃ (fa : Addr) (fd : FuncData) (ps : List Str), Mk X.K (k.cA c) fa ∧ FnOk X.prog X.w X.K X.mg X.base (L2.CX X.prog X.w) j fa fd ps (spO k f) ∧ Binds X.K fd ps []
  oc : k.oc c
theorem run_makeS {pins : List (Addr × Obj)} {H : Hp} {s : Shared} {Q : VK} {us : List Value} {vs : List V} {C fa : Addr} {fd : FuncData} {ps : List Str} {sp : Sp} {CX : CXT} {E : St → XK} {j : Nat} (M : Mk X.K C fa) (FO : FnOk X.prog X.w X.K X.mg X.base CX j fa fd ps sp) (hr : Room (j + 1) X.A) (hb : Binds X.K fd ps [])
    (hx : PassesAt CX X σ (E σ)) (I : Inv X pins σ H s) (r : Vals vs us)
    (h : ∀ x dx, H x = none → H dx = none → dx ≠ x → sp (.ref x :: vs) (upd (upd H dx (.own x)) x (.ins C dx [])) (fun v H2 => v = .non ∧ Q (.ref x) H2) (E σ)) :
    wpAny (model X.prog X.w) X.A (call (.ref C) us) (EP X pins σ Q) X.xe s := by
  have hq := h (s.heap.objs.size + 1) s.heap.objs.size (I.hok.fresh (Nat.le_succ _)) (I.hok.fresh (Nat.le_refl _)) (Nat.ne_of_lt (Nat.lt_succ_self _))
  have I2 := Inv.made (C := C) I
  have r2 : Vals (V.ref (s.heap.objs.size + 1) :: vs) (Value.ref (s.heap.objs.size + 1) :: us) := .cons rfl r
  have hl : (Value.ref (s.heap.objs.size + 1) :: us).length = ps.length := by
    have e := r2.length
    rw [FO.len _ _ _ _ hq] at e
    exact e.symm
  have b := hb _ (Value.ref (s.heap.objs.size + 1) :: us) I2.kIn (by rw [List.append_nil]; exact hl)
  rw [List.append_nil] at b
  refine wpAny_call (make_map (f := fa) I.kIn M.makes M.init (beq_iff_eq.mp M.fn) (codeAny_mono (FO.run _ X.stack _ _ ⟨Value.ref (s.heap.objs.size + 1) :: us, []⟩ (Value.ref (s.heap.objs.size + 1) :: us) _ _ (E σ) (hr.make C us [])
    (I2.env0.make C us []) b r2 hq) fun r s' hq' => ?_))
  cases r with
  | error e => exact hx pins _ _ e s' I2 hq'
  | ok fl =>
    cases fl with
    | ret u =>
      obtain ⟨v, H', I3, rv, ev, q3⟩ := I2.after hq'
      subst ev
      exact ⟨rv, ⟨V.ref (s.heap.objs.size + 1), H', I3, rfl, q3⟩⟩
    | next => exact False.elim hq'
    | brk => exact False.elim hq'
    | cont => exact False.elim hq'
def tMk (C : Addr) (sp : Sp) (E : St → XK) (t : TA) : TE := fun σ H Q => t σ H fun vs H1 => ∀ x dx, H1 x = none → H1 dx = none → dx ≠ x →
  sp (.ref x :: vs) (upd (upd H1 dx (.own x)) x (.ins C dx [])) (fun v H2 => v = .non ∧ Q (.ref x) H2) (E σ)
theorem s_mk {x : Str} {p : Pos} {c j : Nat} {cl : Cl} (hK : X.K = k.K) (hc : P.cls[c]? = some cl) (hF : MkAt X k j c fun ds => (F cl.init ds).out) (hr : Room (j + 1) X.A) (hg : Gl X x) (hm : X.mg x = some (.ref (k.cA c))) (hd : (x == ("__debug__" : Str)) = false) (tk : Takes X W) (h : SndL X k sx W P F es as) :
    Snd X k sx W P F (.Call (.Name x p) es [] pos) (.mk c as) := by
  obtain ⟨⟨fa, fd, ps, M, FO, hb⟩, oc⟩ := hF
  have pe : PE X (.Call (.Name x p) es [] pos) (tMk (k.cA c) (spO k fun ds => (F cl.init ds).out) (WE W) (tAs k sx W (evAs (evs P F as)))) := by
    refine ⟨fun pins s σ H Q I q => ?_⟩
    refine wpAny_Call_Name_kw (ld_glob I hg hm ?_ hd)
    cases h with
    | nil => exact PySem.W.callWith_K0 I.kIn M.kp (run_makeS (us := []) M FO hr hb (passAt tk σ) I .nil (tAs_nil q))
    | cons n h1 h2 =>
      refine PySem.W.callWith_K (h₀ := X.base) I.ok.mod.kin M.kp (thn ((pa_as (.cons n h1 h2)).run pos pins s σ H _ I q) fun us s1 ⟨vs, H1, I1, r, q⟩ => ⟨I1.kIn, ?_⟩) (star_cons n _ _) (h2.plain pos)
      exact run_makeS M FO hr hb (passAt tk σ) I1 r q
  refine snd1 (f := fun r => (evAs (evs P F as) r).bind fun as r => callC P F c as r) hK (pe.weak fun σ H Q ⟨Z, r, os, R, q⟩ => ?_) (fun _ => rfl) rfl (pl_no fun _ => rfl) (it_no fun _ => rfl)
  refine tAs_then R q fun ra r1 vs H1 Z1 o1 os1 R1 av nd nz S1 q1 => ?_
  unfold callC at q1
  rw [hc] at q1
  dsimp only at q1
  split at q1
  · rename_i ds rb e
    obtain ⟨od', os2, T, R2, pm⟩ := lend_ok av R1 e nd nz
    have nz' : ∀ a ∈ od', ¬ Z1 a := fun a m => by
      rcases List.mem_append.mp (pm.mem_iff.mp (List.mem_append_left _ m)) with m | m
      · exact nz a m
      · exact R1.nz a m
    exact fun x dx hx hdx ne => made_ok (f := fun ds => (F cl.init ds).out) oc av T R2 (pm.nodup_iff.mpr nd) nz' (S1.perm pm) q1 x dx hx hdx ne
  · exact q1.elim

/-- the method x of the class c -/
structure MethAt (X : Cx) (k : Kc) (j c : Nat) (x : Str) (f : List D → Out D) : Prop where
  ex : ∃ (fa : Addr) (fd : FuncData) (ps : List Str), Meth X.K (k.cA c) x fa ∧ FnOk X.prog X.w X.K X.mg X.base (L2.CX X.prog X.w) j fa fd ps (spO k f) ∧ Binds X.K fd ps []
def tMt (X : Cx) (k : Kc) (j : Nat) (x : Str) (P : Pg) (F : Nat → List D → FOut) (m : Nat) (E : St → XK) (ta : TE) (t : TA) : TE := fun σ H Q => ta σ H fun y H1 => ∃ a c dx fs cl f, y = .ref a ∧ H1 a = some (.ins (k.cA c) dx fs) ∧ k.oc c ∧ (fs.map (·.1)).all (fun n => decide (n ≠ x)) = true ∧
  P.cls[c]? = some cl ∧ cl.ms.lookup m = some f ∧ t σ H1 fun vs H2 => spO k (fun ds => (F f ds).out) (.ref a :: vs) H2 Q (E σ)
theorem no_lookup {fs : List (Str × V)} {x : Str} (h : (fs.map (·.1)).all (fun n => decide (n ≠ x)) = true) : fs.lookup x = none := by
  induction fs with
  | nil => rfl
  | cons p fs ih =>
    obtain ⟨n, v⟩ := p
    simp only [List.map_cons, List.all_cons, Bool.and_eq_true, decide_eq_true_eq] at h
    rw [List.lookup_cons, show (x == n) = false from beq_eq_false_iff_ne.mpr (Ne.symm h.1)]
    exact ih h.2
theorem s_meth {e1 : Expr} {a1 : E} {x : Str} {m j : Nat} (hK : X.K = k.K) (h0 : Snd X k sx W P F e1 a1) (h : SndL X k sx W P F es as) (hx : ∀ f, f < k.n → k.aN f ≠ x)
    (hF : ∀ c cl f, k.oc c → P.cls[c]? = some cl → cl.ms.lookup m = some f → MethAt X k j c x fun ds => (F f ds).out) (hr : Room j X.A) (tk : Takes X W)
    (ht : ∃ pl : Sem Bool, eval (.Call (.Attribute e1 x apos) es [] cpos) X.env = (do
      let ov ← eval e1 X.env
      standAt apos.atName
      let (f, first) ← holding [ov] (getMethod ov x pl)
      callWith cpos f first (backTo cpos (starEach es X.env)) (backToKw cpos (keywordEach [] X.env)))) :
    Snd X k sx W P F (.Call (.Attribute e1 x apos) es [] cpos) (.meth m a1 as) := by
  obtain ⟨pl, ht⟩ := ht
  have pe : PE X (.Call (.Attribute e1 x apos) es [] cpos) (tMt X k j x P F m (WE W) (tAr k sx W (ev P F a1).a) (tAs k sx W (evAs (evs P F as)))) := by
    refine ⟨fun pins s σ H Q I q => ?_⟩
    refine PySem.W.methodCall_KW (pl := pl) (thn (h0.ar.run pins s σ H _ I q) fun u s1 ⟨y, H1, I1, rx, a, c, dx, fs, cl, f, ey, ea, oc, hl, hc, hf, q⟩ => ?_) ht
    subst ey
    obtain rfl : u = Value.ref a := rx
    obtain ⟨fa, fd, ps, hm, FO, hb⟩ := (hF c cl f oc hc hf).ex
    refine getmeth_ok I1 ea (by rw [hK]; exact (k.cls c oc).1) hm (no_lookup hl) ?_
    cases h with
    | nil => exact PySem.W.callWith_K0 (first := [.ref a]) I1.kIn hm.kp (run_fnS (us := [.ref a]) (vs := [.ref a]) FO hr hb (passAt tk σ) I1 (.cons rfl .nil) (tAs_nil q))
    | cons n h1 h2 =>
      refine PySem.W.callWith_K (first := [.ref a]) (h₀ := X.base) I.ok.mod.kin hm.kp (thn ((pa_as (.cons n h1 h2)).run cpos pins s1 σ H1 _ I1 q) fun us s2 ⟨vs, H2, I2, r, q2⟩ => ⟨I2.kIn, ?_⟩) (star_cons n _ _) (h2.plain cpos)
      exact run_fnS (us := .ref a :: us) (vs := .ref a :: vs) FO hr hb (passAt tk σ) I2 (.cons rfl r) q2
  refine snd1 (f := fun r => ((ev P F a1).a r).bind fun x r => match x.peek r with
    | some (.obj _ c _ _) => match methOf P m c with
      | some f => (evAs (evs P F as) r).bind fun as r => callA F f (x :: as) r
      | none => .bad
    | _ => .bad) hK (pe.weak fun σ H Q ⟨Z, r, os, R, q⟩ => ?_) (fun _ => rfl) rfl (pl_no fun _ => rfl) (it_no fun _ => rfl)
  refine tAr_then R q fun y r1 w H1 Z1 oy os1 R1 ry nd1 nz1 S1 q1 => ?_
  split at q1
  · rename_i kd c ks ds pk
    obtain ⟨o', rd⟩ := peek_ok R1 ry pk
    have opn : ∃ a dx fs, w = .ref a ∧ H1 a = some (.ins (k.cA c) dx fs) ∧ (fs.map (·.1) = ks.map k.aN ∧ ∀ x ∈ ks, x < k.n) ∧ k.oc c := by
      cases rd with
      | oown h1 e _ => exact ⟨_, _, _, rfl, h1, e.1, e.2⟩
      | oshr _ h1 e _ => exact ⟨_, _, _, rfl, h1, e.1, e.2⟩
    obtain ⟨a, dx, fs, rfl, ea, en, oc⟩ := opn
    split at q1
    · rename_i f hf
      obtain ⟨cl, hc, hl⟩ := Option.bind_eq_some_iff.mp hf
      refine ⟨a, c, dx, fs, cl, f, rfl, ea, oc, List.all_eq_true.mpr fun n hn => ?_, hc, hl, ⟨Z1, r1, os1, R1, ((Sat.bind.mp q1).base S1).imp fun ra r2 q2 vs H2 Z2 o2 os2 R2 av nd2 nz2 S2 => ?_⟩⟩
      · rw [en.1] at hn
        obtain ⟨z, z1, rfl⟩ := List.mem_map.mp hn
        exact decide_eq_true (hx z (en.2 z z1))
      · unfold callA at q2
        split at q2
        · rename_i ds2 rb e
          obtain ⟨ry', nd3, nz3⟩ := ry.carry nd1 nz1 R1 S2 nd2
          have nz4 : ∀ a ∈ oy ++ o2, ¬ Z2 a := fun a m => (List.mem_append.mp m).elim (nz3 a) (nz2 a)
          obtain ⟨od', os3, T, R3, pm⟩ := lend_ok (.cons ry' av) R2 e (nodup3 nd3) nz4
          have nz' : ∀ a ∈ od', ¬ Z2 a := fun a m => by
            rcases List.mem_append.mp (pm.mem_iff.mp (List.mem_append_left _ m)) with m | m
            · exact nz4 a m
            · exact R2.nz a m
          have S3 := (S1.trans (S2.wide oy)).perm (pm.trans (List.Perm.of_eq (List.append_assoc _ _ _)))
          exact callA_ok (f := fun ds => (F f ds).out) (.cons ry' av) T R3 (pm.nodup_iff.mpr (nodup3 nd3)) nz' S3 S3 q2
        · exact q2.elim
    · exact q1.elim
  · exact q1.elim
end
end Mv

namespace Mv
open PySem L2
section
variable {X : Cx} {k : Kc} {sx : Option (Addr × Addr)} {W : WX} {P : Pg} {F : Nat → List D → FOut} {pos apos cpos kpos : Pos} {es : List Expr} {as bs : List E} {kws : List Keyword} {ks : List Str}
variable {Z Z' Z0 Z1 Z2 : Addr → Prop} {H H' H0 H1 H2 : Hp} {σ : St} {r r1 r2 : En} {os os' os0 os1 os2 od : List Addr}
/-- keywords, each by its name -/
inductive SndK (X : Cx) (k : Kc) (sx : Option (Addr × Addr)) (W : WX) (P : Pg) (F : Nat → List D → FOut) : List Keyword → List Str → List E → Prop
  | nil : SndK X k sx W P F [] [] []
  | cons {nm : Str} {e : Expr} {p : Pos} {a : E} {kws : List Keyword} {ks : List Str} {as : List E} : Snd X k sx W P F e a → SndK X k sx W P F kws ks as → SndK X k sx W P F (⟨some nm, e, p⟩ :: kws) (nm :: ks) (a :: as)
theorem SndK.all (h : SndK X k sx W P F kws ks bs) (pos : Pos) : (backToKw pos (keywordEach kws X.env)).all (·.1.isSome) = true := by
  induction h with
  | nil => rfl
  | cons _ _ ih => exact ih
theorem SndK.names (h : SndK X k sx W P F kws ks bs) (pos : Pos) : (backToKw pos (keywordEach kws X.env)).filterMap (·.1) = ks := by
  induction h with
  | nil => rfl
  | @cons nm e p a kws ks as _ _ ih => exact congrArg (nm :: ·) ih
theorem SndK.noneAny (h : SndK X k sx W P F kws ks bs) (pos : Pos) : (backToKw pos (keywordEach kws X.env)).any (·.1.isNone) = false := by
  induction h with
  | nil => rfl
  | cons _ _ ih => exact ih
theorem pk_es (h : SndK X k sx W P F kws ks bs) : PK X kws (tL k sx W (evEs (evs P F bs))) := by
  induction h with
  | nil => exact ⟨fun pos pins s σ H Q I ⟨Z, r, os, R, q⟩ => pk_nil.run pos pins s σ H Q I (q [] H Z [] os R .nil R.nd (fun _ m => by cases m) Step.refl)⟩
  | cons h1 _ ih =>
    refine ⟨fun pos pins s σ H Q I ⟨Z, r, os, R, q⟩ => (pk_cons h1.v ih).run pos pins s σ H Q I ?_⟩
    refine tV_then R q fun d r1 v H1 Z1 o1 os1 R1 rd nd nz S1 q1 => ?_
    refine tL_then R1 (q1.base S1) fun ds r2 vs H2 Z2 o2 os2 R2 T nd2 nz2 S2 q2 => ?_
    obtain ⟨rd', nd', nz'⟩ := rd.carry nd nz R1 S2 nd2
    exact q2 (v :: vs) H2 Z2 (o1 ++ o2) os2 R2 (.cons rd' T) (nodup3 nd') (fun a m => (List.mem_append.mp m).elim (nz' a) (nz2 a)) (by rw [List.append_assoc]; exact S1.trans (S2.wide o1))
/-- all values of a call, the keywords' behind the others -/
theorem evEs_app (as bs : List E) : ∀ r, evEs (evs P F (as ++ bs)) r = (evEs (evs P F as) r).bind fun ds r => (evEs (evs P F bs) r).bind fun zs r => .ok (ds ++ zs) r := by
  induction as with
  | nil =>
    intro r
    show evEs (evs P F bs) r = (evEs (evs P F bs) r).bind fun zs r => .ok zs r
    cases evEs (evs P F bs) r <;> rfl
  | cons a as ih =>
    intro r
    show ((ev P F a).v r).bind (fun d r => (evEs (evs P F (as ++ bs)) r).bind fun ds r => .ok (d :: ds) r) = (((ev P F a).v r).bind fun d r => (evEs (evs P F as) r).bind fun ds r => .ok (d :: ds) r).bind _
    cases (ev P F a).v r with
    | ok d r1 =>
      simp only [Out.bind_ok]
      rw [ih]
      cases evEs (evs P F as) r1 with
      | ok ds r2 =>
        simp only [Out.bind_ok]
        cases evEs (evs P F bs) r2 <;> rfl
      | exc _ _ _ => rfl
      | bad => rfl
    | exc _ _ _ => rfl
    | bad => rfl
theorem pick_rel {vs : List V} {us : List Value} (h : Vals vs us) (perm : List Nat) : Vals (pick .non perm vs) (pick .none perm us) := by
  have h2 : Vals (vs ++ [.non]) (us ++ [.none]) := h.append (.cons rfl .nil)
  unfold pick
  induction perm with
  | nil => exact .nil
  | cons i perm ih =>
    rw [List.filterMap_cons, List.filterMap_cons]
    cases e : (vs ++ [V.non])[i]? with
    | none =>
      have : (us ++ [Value.none])[i]? = none := List.getElem?_eq_none (by rw [← h2.length]; exact List.getElem?_eq_none_iff.mp e)
      rw [this]; exact ih
    | some v =>
      obtain ⟨u, eu, r⟩ := h2.get e
      rw [eu]; exact .cons r ih
theorem pick_rd {ds : List D} {vs : List V} (h : RDs k Z H ds vs []) (perm : List Nat) : RDs k Z H (pick .non perm ds) (pick .non perm vs) [] := by
  have h2 : RDs k Z H (ds ++ [.non]) (vs ++ [.non]) [] := RDs.app h (RDs.one .non)
  unfold pick
  induction perm with
  | nil => exact .nil
  | cons i perm ih =>
    rw [List.filterMap_cons, List.filterMap_cons]
    cases e : (ds ++ [D.non])[i]? with
    | none =>
      have : (vs ++ [V.non])[i]? = none := List.getElem?_eq_none (by rw [h2.length]; exact List.getElem?_eq_none_iff.mp e)
      rw [this]; exact ih
    | some d =>
      obtain ⟨v, A, o, B, ev, eo, rd, _⟩ := h2.get e
      obtain ⟨rfl, eo2⟩ := List.append_eq_nil_iff.mp eo.symm
      obtain ⟨rfl, rfl⟩ := List.append_eq_nil_iff.mp eo2
      rw [ev]; exact .cons (o := []) rd ih
theorem lend_v : ∀ (ds : List D) (r : En), lend (ds.map .v) r = some (ds, r)
  | [], r => rfl
  | d :: ds, r => by show (lend (ds.map .v) r).map _ = _; rw [lend_v ds r]; rfl
theorem arvs_v {ds : List D} {vs : List V} (h : RDs k Z H ds vs od) : ArVs k Z H σ (ds.map .v) vs od := by
  induction ds generalizing vs od with
  | nil => cases h; exact .nil
  | cons d ds ih =>
    cases h with
    | cons h1 h2 => exact .cons (.v h1) (ih h2)
/-- how a call binds: n values, the keywords ks, put by perm in the parameters' order -/
def KS (K : PySem.W.Frag) (fd : FuncData) (ps : List Str) (n : Nat) (ks : List Str) (perm : List Nat) : Prop := ∀ (s : Shared) (us ws : List Value), K.In s.heap → us.length = n → ws.length = ks.length → BindsTo s fd ⟨us, ks.zip ws⟩ (ps.zip (pick .none perm (us ++ ws)))
def KSm (K : PySem.W.Frag) (fd : FuncData) (ps : List Str) (n : Nat) (ks : List Str) (perm : List Nat) : Prop := ∀ (s : Shared) (u : Value) (us ws : List Value), K.In s.heap → us.length = n → ws.length = ks.length → BindsTo s fd ⟨u :: us, ks.zip ws⟩ (ps.zip (u :: pick .none perm (us ++ ws)))
structure KwAt (X : Cx) (k : Kc) (j : Nat) (fa : Addr) (n : Nat) (ks : List Str) (perm : List Nat) (f : List D → Out D) : Prop where
  ex : ∃ (fd : FuncData) (ps : List Str), FnOk X.prog X.w X.K X.mg X.base (L2.CX X.prog X.w) j fa fd ps (spO k f) ∧ KS X.K fd ps n ks perm
  kp : PySem.W.keepIn X.K (.ref fa) = true
structure KmAt (X : Cx) (k : Kc) (j c : Nat) (n : Nat) (ks : List Str) (perm : List Nat) (f : List D → Out D) : Prop where
  ex : ∃ (fa : Addr) (fd : FuncData) (ps : List Str), Mk X.K (k.cA c) fa ∧ FnOk X.prog X.w X.K X.mg X.base (L2.CX X.prog X.w) j fa fd ps (spO k f) ∧ KSm X.K fd ps n ks perm
  oc : k.oc c
/-- the values of a call come, then the callee -/
theorem kw_run {f : Addr} {Q : VK} {g : List V → Hp → Prop} (hk : PySem.W.keepIn X.K (.ref f) = true) (h : SndL X k sx W P F es as) (hk2 : SndK X k sx W P F kws ks bs) {pins : List (Addr × Obj)} {s : Shared} (I : L2.Inv X pins σ H s)
    (q : tL k sx W (evEs (evs P F (as ++ bs))) σ H g) (go : ∀ s2 vs us zs ws H2, L2.Inv X pins σ H2 s2 → Vals vs us → Vals zs ws → us.length = as.length → ws.length = ks.length → g (vs ++ zs) H2 → wpAny (model X.prog X.w) X.A (call (.ref f) us (ks.zip ws)) (EP X pins σ Q) X.xe s2) :
    wpAny (model X.prog X.w) X.A (callWith pos (.ref f) [] (backTo pos (starEach es X.env)) (backToKw pos (keywordEach kws X.env))) (EP X pins σ Q) X.xe s := by
  have len : ∀ {as : List E} {r : En} {ds : List D} {r1 : En}, evEs (evs P F as) r = .ok ds r1 → ds.length = as.length := by
    intro as
    induction as with
    | nil => intro r ds r1 e; cases e; rfl
    | cons a as ih =>
      intro r ds r1 e
      have e : ((ev P F a).v r).bind (fun d r => (evEs (evs P F as) r).bind fun ds r => Out.ok (d :: ds) r) = .ok ds r1 := e
      cases h1 : (ev P F a).v r with
      | ok d r2 =>
        rw [h1, Out.bind_ok] at e
        cases h2 : evEs (evs P F as) r2 with
        | ok ds2 r3 => rw [h2, Out.bind_ok] at e; cases e; simp [ih h2]
        | exc _ _ _ => rw [h2] at e; cases e
        | bad => rw [h2] at e; cases e
      | exc _ _ _ => rw [h1] at e; cases e
      | bad => rw [h1] at e; cases e
  have lks : ks.length = bs.length := by
    clear q go
    induction hk2 with
    | nil => rfl
    | cons _ _ ih => simp [ih]
  obtain ⟨Z, r, os, R, q⟩ := q
  rw [evEs_app] at q
  have first : tL k sx W (evEs (evs P F as)) σ H fun vs H1 => vs.length = as.length ∧ tL k sx W (evEs (evs P F bs)) σ H1 fun zs H2 => zs.length = bs.length ∧ ∀ (us : List Value), Vals vs us → g (vs ++ zs) H2 := by
    refine ⟨Z, r, os, R, ?_⟩
    cases h1 : evEs (evs P F as) r with
    | ok ds r1 =>
      rw [h1, Out.bind_ok] at q
      intro vs H1 Z1 o1 os1 R1 T nd nz S1
      refine ⟨by rw [T.length]; exact len h1, Z1, r1, os1, R1, ?_⟩
      cases h2 : evEs (evs P F bs) r1 with
      | ok zs r2 =>
        rw [h2, Out.bind_ok] at q
        intro zv H2 Z2 o2 os2 R2 T2 nd2 nz2 S2
        refine ⟨by rw [T2.length]; exact len h2, fun us _ => ?_⟩
        obtain ⟨T', nd', nz'⟩ := T.carry nd nz R1 S2 nd2
        exact q (vs ++ zv) H2 Z2 (o1 ++ o2) os2 R2 (T'.app T2) (nodup3 nd') (fun a m => (List.mem_append.mp m).elim (nz' a) (nz2 a)) (by rw [List.append_assoc]; exact S1.trans (S2.wide o1))
      | exc c w r2 =>
        rw [h2] at q
        exact PostX.base (show PostX k sx W Z H os σ c w r2 from q) S1
      | bad => rw [h2] at q; exact q.elim
    | exc c w r1 => rw [h1] at q; exact q
    | bad => rw [h1] at q; exact q.elim
  cases h with
  | nil =>
    have q0 := tL_nil first
    refine PySem.W.callWith_KW0 (h₀ := X.base) I.ok.mod.kin hk (hk2.all pos) (thn ((pk_es hk2).run pos pins s σ H _ I q0.2) fun ws s2 ⟨zs, H2, I2, rz, l2, q2⟩ => ⟨I2.kIn, ?_⟩) (by rw [hk2.noneAny]; rfl)
    rw [hk2.names]
    exact go s2 [] [] zs ws H2 I2 .nil rz rfl (by rw [← rz.length, l2, lks]) (q2 [] .nil)
  | cons n h1 h2 =>
    refine PySem.W.callWith_KW (h₀ := X.base) I.ok.mod.kin hk (hk2.all pos) (thn ((pa_es (.cons n h1 h2)).run pos pins s σ H _ I first) fun us s1 ⟨vs, H1, I1, rv, l1, q1⟩ => ?_) (by rw [SndL.plain (.cons n h1 h2), hk2.noneAny]; rfl) (star_cons n _ _)
    refine thn ((pk_es hk2).run pos pins s1 σ H1 _ I1 q1) fun ws s2 ⟨zs, H2, I2, rz, l2, q2⟩ => ⟨I2.kIn, ?_⟩
    rw [hk2.names]
    exact go s2 vs us zs ws H2 I2 rv rz (by rw [← rv.length, l1]) (by rw [← rz.length, l2, lks]) (q2 us rv)
end
end Mv
namespace Mv
open PySem L2
section
variable {X : Cx} {k : Kc} {sx : Option (Addr × Addr)} {W : WX} {P : Pg} {F : Nat → List D → FOut} {pos apos cpos kpos : Pos} {es : List Expr} {as bs : List E} {kws : List Keyword} {ks : List Str}
variable {Z Z' Z0 Z1 Z2 : Addr → Prop} {H H' H0 H1 H2 : Hp} {σ : St} {r r1 r2 : En} {os os' os0 os1 os2 od : List Addr}
theorem run_kw {pins : List (Addr × Obj)} {s : Shared} {Q : VK} {us ws : List Value} {vs zs : List V} {fa : Addr} {fd : FuncData} {ps : List Str} {sp : Sp} {CX : CXT} {E : St → XK} {j n : Nat} {perm : List Nat} (FO : FnOk X.prog X.w X.K X.mg X.base CX j fa fd ps sp) (hr : Room j X.A) (hb : KS X.K fd ps n ks perm)
    (hx : PassesAt CX X σ (E σ)) (I : L2.Inv X pins σ H s) (r : Vals vs us) (rz : Vals zs ws) (l1 : us.length = n) (l2 : ws.length = ks.length) (h : sp (pick .non perm (vs ++ zs)) H Q (E σ)) :
    wpAny (model X.prog X.w) X.A (call (.ref fa) us (ks.zip ws)) (EP X pins σ Q) X.xe s := by
  have b := hb s us ws I.kIn l1 l2
  refine wpAny_call (codeAny_mono (FO.run X.A X.stack s H _ _ _ Q (E σ) hr I.env0 b (pick_rel (r.append rz) perm) h) fun o s' hq => ?_)
  rcases o with e | fl
  · exact hx pins H s e s' I hq
  · cases fl <;> first | exact I.after hq | exact False.elim hq
theorem run_kwm {pins : List (Addr × Obj)} {s : Shared} {Q : VK} {us ws : List Value} {vs zs : List V} {C fa : Addr} {fd : FuncData} {ps : List Str} {sp : Sp} {CX : CXT} {E : St → XK} {j n : Nat} {perm : List Nat} (M : Mk X.K C fa) (FO : FnOk X.prog X.w X.K X.mg X.base CX j fa fd ps sp) (hr : Room (j + 1) X.A) (hb : KSm X.K fd ps n ks perm)
    (hx : PassesAt CX X σ (E σ)) (I : L2.Inv X pins σ H s) (r : Vals vs us) (rz : Vals zs ws) (l1 : us.length = n) (l2 : ws.length = ks.length)
    (h : ∀ x dx, H x = none → H dx = none → dx ≠ x → sp (.ref x :: pick .non perm (vs ++ zs)) (upd (upd H dx (.own x)) x (.ins C dx [])) (fun v H2 => v = .non ∧ Q (.ref x) H2) (E σ)) :
    wpAny (model X.prog X.w) X.A (call (.ref C) us (ks.zip ws)) (EP X pins σ Q) X.xe s := by
  have hq := h (s.heap.objs.size + 1) s.heap.objs.size (I.hok.fresh (Nat.le_succ _)) (I.hok.fresh (Nat.le_refl _)) (Nat.ne_of_lt (Nat.lt_succ_self _))
  have I2 := Inv.made (C := C) I
  have r2 : Vals (V.ref (s.heap.objs.size + 1) :: pick .non perm (vs ++ zs)) (Value.ref (s.heap.objs.size + 1) :: pick .none perm (us ++ ws)) := .cons rfl (pick_rel (r.append rz) perm)
  have b := hb _ (Value.ref (s.heap.objs.size + 1)) us ws I2.kIn l1 l2
  refine wpAny_call (make_map (f := fa) I.kIn M.makes M.init (beq_iff_eq.mp M.fn) (codeAny_mono (FO.run _ X.stack _ _ _ _ _ _ (E σ) (hr.make C us (ks.zip ws)) (I2.env0.make C us (ks.zip ws)) b r2 hq) fun o s' hq' => ?_))
  rcases o with e | fl
  · exact hx pins _ _ e s' I2 hq'
  · cases fl with
    | ret u =>
      obtain ⟨v, H', I3, rv, ev, q3⟩ := I2.after hq'
      subst ev
      exact ⟨rv, ⟨V.ref (s.heap.objs.size + 1), H', I3, rfl, q3⟩⟩
    | next => exact hq'.elim
    | brk => exact hq'.elim
    | cont => exact hq'.elim
theorem kw_len (h : SndL X k sx W P F es as) : as.length = es.length := by
  induction h with
  | nil => rfl
  | cons _ _ _ ih => simp [ih]
/-- f(.., k = v, ..) -/
theorem s_callk {x : Str} {p : Pos} {fa : Addr} {f j n : Nat} {perm : List Nat} (hK : X.K = k.K) (hF : KwAt X k j fa n ks perm fun ds => (F f ds).out) (hr : Room j X.A) (hg : Gl X x) (hm : X.mg x = some (.ref fa)) (hd : (x == ("__debug__" : Str)) = false) (tk : Takes X W) (h : SndL X k sx W P F es as) (h2 : SndK X k sx W P F kws ks bs) (hn : es.length = n) :
    Snd X k sx W P F (.Call (.Name x p) es kws pos) (.callk f perm (as ++ bs)) := by
  obtain ⟨⟨fd, ps, FO, hb⟩, hk⟩ := hF
  have pe : PE X (.Call (.Name x p) es kws pos) (fun σ H Q => tL k sx W (evEs (evs P F (as ++ bs))) σ H fun vs H1 => spO k (fun ds => (F f ds).out) (pick .non perm vs) H1 Q (WE W σ)) := by
    refine ⟨fun pins s σ H Q I q => ?_⟩
    refine wpAny_Call_Name_kw (ld_glob I hg hm ?_ hd)
    exact kw_run hk h h2 I q fun s2 vs us zs ws H2 I2 rv rz l1 l2 g => run_kw FO hr hb (passAt tk σ) I2 rv rz (by rw [l1, kw_len h]; exact hn) l2 g
  refine snd1 (f := fun r => (evEs (evs P F (as ++ bs)) r).bind fun ds r => if noOwn ds then callA F f ((pick .non perm ds).map .v) r else .bad) hK (pe.weak fun σ H Q ⟨Z, r, os, R, q⟩ => ?_) (fun _ => rfl) rfl (pl_no fun _ => rfl) (it_no fun _ => rfl)
  refine tL_then R q fun ds r1 vs H1 Z1 o1 os1 R1 T nd nz S1 q1 => ?_
  split at q1
  · rename_i no
    have z := T.noOwn no
    subst z
    have T' := pick_rd T perm
    unfold callA at q1
    rw [lend_v] at q1
    exact callA_ok (arvs_v T') T' R1 nd nz S1 S1 q1
  · exact q1.elim
theorem s_mkk {x : Str} {p : Pos} {c j n : Nat} {cl : Cl} {perm : List Nat} (hK : X.K = k.K) (hc : P.cls[c]? = some cl) (hF : KmAt X k j c n ks perm fun ds => (F cl.init ds).out) (hr : Room (j + 1) X.A) (hg : Gl X x) (hm : X.mg x = some (.ref (k.cA c))) (hd : (x == ("__debug__" : Str)) = false) (tk : Takes X W) (h : SndL X k sx W P F es as) (h2 : SndK X k sx W P F kws ks bs) (hn : es.length = n) :
    Snd X k sx W P F (.Call (.Name x p) es kws pos) (.mkk c perm (as ++ bs)) := by
  obtain ⟨⟨fa, fd, ps, M, FO, hb⟩, oc⟩ := hF
  have pe : PE X (.Call (.Name x p) es kws pos) (fun σ H Q => tL k sx W (evEs (evs P F (as ++ bs))) σ H fun vs H1 => ∀ x dx, H1 x = none → H1 dx = none → dx ≠ x → spO k (fun ds => (F cl.init ds).out) (.ref x :: pick .non perm vs) (upd (upd H1 dx (.own x)) x (.ins (k.cA c) dx [])) (fun v H2 => v = .non ∧ Q (.ref x) H2) (WE W σ)) := by
    refine ⟨fun pins s σ H Q I q => ?_⟩
    refine wpAny_Call_Name_kw (ld_glob I hg hm ?_ hd)
    exact kw_run M.kp h h2 I q fun s2 vs us zs ws H2 I2 rv rz l1 l2 g => run_kwm M FO hr hb (passAt tk σ) I2 rv rz (by rw [l1, kw_len h]; exact hn) l2 g
  refine snd1 (f := fun r => (evEs (evs P F (as ++ bs)) r).bind fun ds r => if noOwn ds then callC P F c ((pick .non perm ds).map .v) r else .bad) hK (pe.weak fun σ H Q ⟨Z, r, os, R, q⟩ => ?_) (fun _ => rfl) rfl (pl_no fun _ => rfl) (it_no fun _ => rfl)
  refine tL_then R q fun ds r1 vs H1 Z1 o1 os1 R1 T nd nz S1 q1 => ?_
  split at q1
  · rename_i no
    have z := T.noOwn no
    subst z
    have T' := pick_rd T perm
    unfold callC at q1
    rw [hc] at q1
    dsimp only at q1
    rw [lend_v] at q1
    exact fun x dx hx hdx ne => made_ok (f := fun ds => (F cl.init ds).out) oc (arvs_v T') T' R1 nd nz S1 q1 x dx hx hdx ne
  · exact q1.elim
end
end Mv

namespace Mv
open PySem L2

section
variable {X : Cx} {k : Kc} {sx : Option (Addr × Addr)} {W : WX} {P : Pg} {F : Nat → List D → FOut} {pos apos cpos : Pos} {es : List Expr} {as : List E}
variable {Z Z' Z0 Z1 Z2 : Addr → Prop} {H H' H0 H1 H2 : Hp} {σ σ' σ0 σ1 σ2 : St} {r r1 r2 : En} {os os' os0 os1 os2 od : List Addr}

/-- the same but for slots of L -/
def Agr (L : List Nat) (σ σ' : St) : Prop := ∀ i, i ∉ L → σ'[i]? = σ[i]?
theorem Agr.refl {L : List Nat} : Agr L σ σ := fun _ _ => rfl
theorem Agr.trans {L : List Nat} (a : Agr L σ σ1) (b : Agr L σ1 σ2) : Agr L σ σ2 := fun i h => (b i h).trans (a i h)
theorem Agr.mono {L M : List Nat} (a : Agr L σ σ') (h : ∀ i ∈ L, i ∈ M) : Agr M σ σ' := fun i n => a i fun m => n (h i m)

/-! ### targets -/
def tG (k : Kc) (sx : Option (Addr × Addr)) (tg : Tg) : TG := fun v σ H Q => ∃ Z r os d od, Rel k sx Z r σ H os ∧ RD k Z H d v od ∧ (od ++ os).Nodup ∧ (∀ a ∈ od, ¬ Z a) ∧ ∃ r1, asgT tg d r = some r1 ∧
  ∀ σ' os', Rel k sx Z r1 σ' H os' → (∀ a ∈ os', a ∈ od ++ os) → Agr (stT tg) σ σ' → Q σ' H
def tGs (k : Kc) (sx : Option (Addr × Addr)) (ts : List Tg) : TGs := fun vs σ H Q => ∃ Z r os ds, Rel k sx Z r σ H os ∧ RDs k Z H ds vs [] ∧ ∃ r1, asgT.asgs ts ds r = some r1 ∧
  ∀ σ' os', Rel k sx Z r1 σ' H os' → (∀ a ∈ os', a ∈ os) → Agr (stTs ts) σ σ' → Q σ' H
theorem _root_.L2.PG.weak {e : Expr} {t t' : TG} (h : PG X e t) (w : ∀ v σ H Q, t' v σ H Q → t v σ H Q) : PG X e t' := ⟨fun pins s σ H v u Q I r hq => h.run pins s σ H v u Q I r (w v σ H Q hq)⟩
theorem _root_.L2.PGs.weak {e : List Expr} {t t' : TGs} (h : PGs X e t) (w : ∀ v σ H Q, t' v σ H Q → t v σ H Q) : PGs X e t' := ⟨fun pins s σ H v u Q I r hq => h.run pins s σ H v u Q I r (w v σ H Q hq)⟩
theorem set_agr {i : Nat} {x : Option V} : Agr [i] σ (σ.set i x) := fun j h => by
  have : i ≠ j := fun e => h (by simp [e])
  rw [List.getElem?_set_ne this]
/-- a slot is set -/
theorem Rel.put {i : Nat} {d : D} {v : V} (R : Rel k sx Z r σ H os) (hi : i < r.length) (rd : RD k Z H d v od) (nd : (od ++ os).Nodup) (nz : ∀ a ∈ od, ¬ Z a) : ∃ os', Rel k sx Z (r.set i (some d)) (σ.set i (some v)) H os' ∧ ∀ a ∈ os', a ∈ od ++ os := by
  obtain ⟨A, o0, B, e, _, h⟩ := R.rs.put hi
  subst e
  have pm : (A ++ (od ++ B)).Perm (od ++ (A ++ B)) := by rw [List.perm_iff_count]; intro a; simp only [List.count_append]; omega
  have sub : (od ++ (A ++ B)).Sublist (od ++ (A ++ (o0 ++ B))) := List.Sublist.append (List.Sublist.refl _) (List.Sublist.append (List.Sublist.refl _) (List.sublist_append_right _ _))
  have mm : ∀ a ∈ A ++ (od ++ B), a ∈ od ++ (A ++ (o0 ++ B)) := fun a m => sub.subset (pm.mem_iff.mp m)
  refine ⟨A ++ (od ++ B), ⟨h d v od rd, pm.nodup_iff.mpr (sub.nodup nd), fun a m => ?_, R.zd⟩, mm⟩
  rcases List.mem_append.mp (mm a m) with m | m
  · exact nz a m
  · exact R.nz a m
theorem g_name {i : Nat} {x : Str} (hN : X.N.Nodup) (hi : X.N[i]? = some x) (hx : Loc X.env.scope x) (hf : X.fn x = true ∨ X.env.scope.names.lookup x = some .local) : PG X (.Name x pos) (tG k sx (.nm i)) :=
  (pg_name hN hi hx hf).weak fun v σ H Q ⟨Z, r, os, d, od, R, rd, nd, nz, r1, e, q⟩ => by
    have e : (if i < r.length then some (r.set i (some d)) else none) = some r1 := e
    split at e
    · rename_i c
      cases e
      obtain ⟨os', R', sub⟩ := R.put c rd nd nz
      exact q _ os' R' sub set_agr
    · cases e
inductive SGs (X : Cx) (k : Kc) (sx : Option (Addr × Addr)) : List Expr → List Tg → Prop
  | nil : SGs X k sx [] []
  | cons {e : Expr} {t : Tg} {es : List Expr} {ts : List Tg} : nst e = true → PG X e (tG k sx t) → SGs X k sx es ts → SGs X k sx (e :: es) (t :: ts)
theorem asgEach_cons {e : Expr} (h : nst e = true) (es : List Expr) (env : Env) : assignEach (e :: es) env = (false, assign e env) :: assignEach es env := by
  cases e <;> first | rfl | cases h
theorem SGs.len {ts : List Tg} (h : SGs X k sx es ts) : (assignEach es X.env).length = ts.length := by
  induction h with
  | nil => rfl
  | cons n _ _ ih => rw [asgEach_cons n]; simp [ih]
theorem SGs.idx {ts : List Tg} (h : SGs X k sx es ts) : (assignEach es X.env).findIdx? (·.1) = none := by
  induction h with
  | nil => rfl
  | cons n _ _ ih => rw [asgEach_cons n, List.findIdx?_cons]; simp [ih]
theorem pgs_of {ts : List Tg} (h : SGs X k sx es ts) : PGs X es (tGs k sx ts) := by
  induction h with
  | nil =>
      refine pgs_nil.weak fun vs σ H Q ⟨Z, r, os, ds, R, T, r1, e, q⟩ => ?_
      cases ds with
      | nil =>
        cases T
        cases e
        exact ⟨rfl, q σ os R (fun _ m => m) Agr.refl⟩
      | cons _ _ => cases e
  | @cons e t es ts n h1 h2 ih =>
    refine (pgs_cons h1 ih (by rw [asgEach_cons n] <;> rfl)).weak fun vs σ H Q ⟨Z, r, os, ds, R, T, r1, e, q⟩ => ?_
    cases ds with
    | nil => cases e
    | cons d ds =>
      obtain ⟨v, us, rfl, rd, T'⟩ := T.split1
      obtain ⟨r', e1, e2⟩ := Option.bind_eq_some_iff.mp (show ((asgT t d r).bind fun r' => asgT.asgs ts ds r') = some r1 from e)
      refine ⟨v, us, rfl, Z, r, os, d, [], R, rd, R.nd, (fun _ m => by cases m), r', e1, fun σ' os' R' sub ag => ?_⟩
      refine ⟨Z, r', os', ds, R', T', r1, e2, fun σ2 os2 R2 sub2 ag2 => q σ2 os2 R2 (fun a m => sub a (sub2 a m)) ?_⟩
      exact (ag.mono fun i m => by show i ∈ stT t ++ stTs ts; exact List.mem_append_left _ m).trans (ag2.mono fun i m => by show i ∈ stT t ++ stTs ts; exact List.mem_append_right _ m)
theorem asgs_len : ∀ {ts : List Tg} {ds : List D} {r r1 : En}, asgT.asgs ts ds r = some r1 → ds.length = ts.length
  | [], [], _, _, _ => rfl
  | [], _ :: _, _, _, h => by cases h
  | _ :: _, [], _, _, h => by cases h
  | t :: ts, d :: ds, r, r1, h => by
    obtain ⟨r', _, e2⟩ := Option.bind_eq_some_iff.mp (show ((asgT t d r).bind fun r' => asgT.asgs ts ds r') = some r1 from h)
    simp [asgs_len e2]
theorem g_tup {n : Nat} {ts : List Tg} (hK : X.K = k.K) (hc : X.calm = true) (h : SGs X k sx es ts) : PG X (.Tuple es n pos) (tG k sx (.tp ts)) :=
  (pg_tup hc (pgs_of h) h.len h.idx).weak fun v σ H Q ⟨Z, r, os, d, od, R, rd, nd, nz, r1, e, q⟩ => by
    cases d with
    | tup ds =>
      cases rd with
      | @tup a vs _ h1 T =>
        exact ⟨a, vs, rfl, by rw [hK]; exact h1.sq, T.length.trans (asgs_len e), Z, r, os, ds, R, T, r1, e, fun σ' os' R' sub ag => q σ' os' R' (fun a m => List.mem_append_right _ (sub a m)) ag⟩
    | _ => cases e

/-! ### what a loop walks -/
theorem ArVs.mono {ra : List Ar} {vs : List V} (h : ArVs k Z H σ ra vs od) (hz : ∀ a, Z a → Z' a) : ArVs k Z' H σ ra vs od := by
  induction h with
  | nil => exact .nil
  | cons g1 g2 ih =>
    refine .cons ?_ ih
    cases g1 with
    | v g => exact .v (RD.mono hz _ _ _ (fun a o e _ => e) g)
    | r g => exact .r g
theorem prep_ok {ra : List Ar} : ∀ {vs : List V} {od os : List Addr} {r : En} {ra1 : List Ar} {r1 : En} {Z : Addr → Prop}, ArVs k Z H σ ra vs od → Rel k sx Z r σ H os → prep ra r = some (ra1, r1) → (od ++ os).Nodup → (∀ a ∈ od, ¬ Z a) →
    ∃ Z' os', ArVs k Z' H σ ra1 vs [] ∧ Rel k sx Z' r1 σ H os' ∧ Step Z Z' H H (od ++ os) os' := by
  induction ra with
  | nil =>
    intro vs od os r ra1 r1 Z h R e nd nz
    cases h
    cases e
    exact ⟨Z, os, .nil, R, Step.refl⟩
  | cons a ra ih =>
    intro vs od os r ra1 r1 Z h R e nd nz
    cases h with
    | @cons _ _ v vs o ot h1 h2 =>
    cases h1 with
    | @v d _ _ rd =>
      obtain ⟨⟨ra', r1'⟩, e1, e2⟩ := Option.map_eq_some_iff.mp (show (prep ra r).map (fun x => (Ar.v d.frz :: x.1, x.2)) = some (ra1, r1) from e)
      cases e2
      rw [List.append_assoc] at nd
      obtain ⟨n1, n2, n3⟩ := List.nodup_append.mp nd
      have ndo : (o ++ os).Nodup := by
        refine List.Sublist.nodup ?_ nd
        exact List.Sublist.append (List.Sublist.refl _) (List.sublist_append_right _ _)
      obtain ⟨R1, _⟩ := R.share ndo (RD.dom _ _ _ rd)
      have av : ArVs k (fun a => Z a ∨ a ∈ o) H σ ra vs ot := by
        exact h2.mono fun a z => .inl z
      obtain ⟨Z', os', a1, R2, S2⟩ := ih av R1 e1 n2 fun a m z => z.elim (nz a (List.mem_append_right _ m)) fun m2 => n3 a m2 a (List.mem_append_left _ m) rfl
      refine ⟨Z', os', .cons (o := []) (.v (RD.frz (fun a z => S2.zs a (.inl z)) _ _ _ (fun a m => S2.zs a (.inr m)) rd)) a1, R2, fun a o e _ => e, fun a z => S2.zs a (.inl z), fun a z => ?_, fun a m => ?_⟩
      · rcases S2.zn a z with (z | z) | z | z
        · exact .inl z
        · exact .inr (.inl (by simp [z]))
        · refine .inr (.inl ?_)
          rw [List.append_assoc]
          exact List.mem_append_right _ z
        · exact .inr (.inr z)
      · refine (S2.on a m).imp (fun m => ?_) id
        rw [List.append_assoc]
        exact List.mem_append_right _ m
    | @r i _ hv =>
      have key : ∀ {Z1 : Addr → Prop} {r' : En} {os1 : List Addr}, Rel k sx Z1 r' σ H os1 → (prep ra r').map (fun x => (Ar.r i :: x.1, x.2)) = some (ra1, r1) → (∀ a, Z a → Z1 a) → (∀ a, Z1 a → Z a ∨ a ∈ os) → (∀ a ∈ os1, a ∈ os) →
          ∃ Z' os', ArVs k Z' H σ ra1 (v :: vs) [] ∧ Rel k sx Z' r1 σ H os' ∧ Step Z Z' H H (([] ++ ot) ++ os) os' := by
        intro Z1 r' os1 R1 e0 hz hzn sub
        obtain ⟨⟨ra', r1'⟩, e1, e2⟩ := Option.map_eq_some_iff.mp e0
        cases e2
        have av : ArVs k Z1 H σ ra vs ot := h2.mono hz
        have nd' : (ot ++ os).Nodup := by simpa using nd
        obtain ⟨n1, n2, n3⟩ := List.nodup_append.mp nd'
        obtain ⟨Z', os', a1, R2, S2⟩ := ih av R1 e1 (List.nodup_append.mpr ⟨n1, R1.nd, fun a m b mb e => n3 a m b (sub b mb) e⟩) fun a m z => by
          rcases hzn a z with z | z
          · exact nz a (by simpa using m) z
          · exact n3 a m a z rfl
        refine ⟨Z', os', .cons (o := []) (.r hv) a1, R2, fun a o e _ => e, fun a z => S2.zs a (hz a z), fun a z => ?_, fun a m => ?_⟩
        · rcases S2.zn a z with z | z | z
          · exact (hzn a z).imp id fun m => .inl (by simp [m])
          · rcases List.mem_append.mp z with m | m
            · exact .inr (.inl (by simp [m]))
            · exact .inr (.inl (by simp [sub a m]))
          · exact .inr (.inr z)
        · rcases S2.on a m with m | m
          · rcases List.mem_append.mp m with m | m
            · exact .inl (by simp [m])
            · exact .inl (by simp [sub a m])
          · exact .inr m
      unfold prep at e
      split at e
      · rename_i ds s
        obtain ⟨v', A, o, B, t1, t2, rd, _, plug⟩ := R.rs.focusN s (fun c w z => by cases z)
        rw [hv] at t1
        cases t1
        subst t2
        obtain ⟨l, ws, o2, rfl, rfl, hl, T⟩ := own_lst rd
        obtain ⟨n1, n2, n3⟩ := nodup_mid R.nd
        have rs := plug (fun a => Z a ∨ a ∈ o2) H (fun a z => .inl z) (fun a o e _ => e) (.lst .own (D.frzs ds)) [l] (.own hl (RDs.frz (fun a z => .inl z) _ _ _ (fun a m => .inr m) T))
        have sub : (A ++ ([l] ++ B)).Sublist (A ++ ((l :: o2) ++ B)) := List.Sublist.append (List.Sublist.refl _) (List.Sublist.cons₂ l (List.sublist_append_right _ _))
        refine key (Z1 := fun a => Z a ∨ a ∈ o2) (os1 := A ++ ([l] ++ B)) ⟨rs, sub.nodup R.nd, fun a m z => ?_, fun a z => ?_⟩ e (fun a z => .inl z) (fun a z => z.imp id fun m => by simp [m]) (fun a m => sub.subset m)
        · rcases z with z | z
          · exact R.nz a (sub.subset m) z
          · have nn := n3 a (List.mem_cons_of_mem _ z)
            have nl : a ≠ l := fun e => (List.nodup_cons.mp n2).1 (e ▸ z)
            simp only [List.mem_append, List.mem_singleton] at m
            rcases m with m | m | m
            · exact nn.1 m
            · exact nl m
            · exact nn.2 m
        · rcases z with z | z
          · exact R.zd a z
          · exact RDs.dom _ _ _ T a z
      · cases e
      · exact key R e (fun a z => z) (fun a z => .inl z) (fun a m => m)
      · cases e
end
end Mv

namespace Mv
open PySem L2

section
variable {X : Cx} {k : Kc} {sx : Option (Addr × Addr)} {W : WX} {P : Pg} {F : Nat → List D → FOut} {pos apos cpos : Pos} {es : List Expr} {as : List E}
variable {Z Z' Z0 Z1 Z2 : Addr → Prop} {H H' H0 H1 H2 : Hp} {σ σ' σ0 σ1 σ2 : St} {r r1 r2 : En} {os os' os0 os1 os2 od : List Addr}

/-- the iterator's steps give the items ds while C holds -/
structure ItOk (k : Kc) (J : It) (C : (Addr → Prop) → Hp → Prop) (ds : List D) : Prop where
  go : ∀ (i : Nat) (Z : Addr → Prop) (H : Hp), C Z H → i < ds.length → J.go i H
  stop : ∀ (i : Nat) (Z : Addr → Prop) (H : Hp), C Z H → ds.length ≤ i → J.stop i H
  yld : ∀ (i : Nat) (Z : Addr → Prop) (H : Hp) (x : V) (H' : Hp) (d : D), C Z H → (∀ a, Z a → ∃ o, H a = some o) → ds[i]? = some d → J.yld i H x H' →
    ∃ Z', RD k Z' H' d x [] ∧ (∀ a o, H a = some o → H' a = some o) ∧ (∀ a, Z a → Z' a) ∧ (∀ a, Z' a → Z a ∨ H a = none) ∧ ∀ a, Z' a → ∃ o, H' a = some o
def rIt (K : PySem.W.Frag) : ItK → Nat → List V → Hp → (It → Hp → Prop) → Prop
  | .val, _, vs, H, R => ∃ a, vs = [.ref a] ∧ (((∃ xs, SqL K H a xs) ∧ R (Itl K a) H) ∨ ((∃ xs, SqT K H a xs) ∧ R (Itt K a) H))
  | .rng, 1, vs, H, R => ∃ j : Int, vs = [.int j] ∧ -(2 ^ 62) ≤ j ∧ j < 2 ^ 62 ∧ R (Itr 0 j.toNat) H
  | .rng, 2, vs, H, R => ∃ i j : Int, vs = [.int i, .int j] ∧ (-(2 ^ 62) ≤ i ∧ i < 2 ^ 62 ∧ -(2 ^ 62) ≤ j ∧ j < 2 ^ 62) ∧ R (Itr i (j - i).toNat) H
  | .rng, 3, vs, H, R => ∃ (i j c : Int) (n : Nat), vs = [.int i, .int j, .int c] ∧ RgC i j c n ∧ R (Itc i c n) H
  | .rng, _, _, _, _ => False
  | .enm, _, vs, H, R => ∃ a xs, vs = [.ref a] ∧ SqL K H a xs ∧ R (Ite K a) H
  | .zp, _, vs, H, R => ∃ a b xs ys, vs = [.ref a, .ref b] ∧ SqL K H a xs ∧ SqL K H b ys ∧ R (Itz K a b) H
  | .rev, _, vs, H, R => ∃ (a : Addr) (xs : List V), vs = [.ref a] ∧ SqL K H a xs ∧ R (Itv K a xs.length) H

/-- a list without owned items, read -/
theorem lst_no {kd : Kd} {ds : List D} {v : V} (h : RD k Z H (.lst kd ds) v od) (n : noOwn ds = true) : ∃ a vs, v = .ref a ∧ SqL k.K H a vs ∧ RDs k Z H ds vs [] := by
  obtain ⟨a, vs, o2, rfl, hs, T⟩ := lst_rd h
  have z := T.noOwn n
  subst z
  exact ⟨a, vs, rfl, hs, T⟩
theorem RDs.at {ds : List D} {vs : List V} {i : Nat} {d : D} (T : RDs k Z H ds vs []) (e : ds[i]? = some d) : ∃ v, vs[i]? = some v ∧ RD k Z H d v [] := by
  obtain ⟨v, A, o, B, e1, e2, rd, _⟩ := T.get e
  obtain ⟨rfl, h⟩ := List.append_eq_nil_iff.mp e2.symm
  obtain ⟨rfl, rfl⟩ := List.append_eq_nil_iff.mp h
  exact ⟨v, e1, rd⟩
theorem SqL.at_lt {K : PySem.W.Frag} {a : Addr} {vs : List V} {i : Nat} (h : SqL K H a vs) (l : i < vs.length) : ∃ xs x, SqL K H a xs ∧ xs[i]? = some x := ⟨vs, vs[i], h, List.getElem?_eq_getElem l⟩
abbrev stay (Z : Addr → Prop) (H : Hp) : (∀ a o, H a = some o → H a = some o) ∧ (∀ a, Z a → Z a) ∧ (∀ a, Z a → Z a ∨ H a = none) := ⟨fun _ _ e => e, fun _ z => z, fun _ z => .inl z⟩
theorem it_lst {a : Addr} {C : (Addr → Prop) → Hp → Prop} {ds : List D} (h : ∀ Z H, C Z H → ∃ vs, SqL k.K H a vs ∧ RDs k Z H ds vs []) : ItOk k (Itl k.K a) C ds where
  go i Z H c l := by obtain ⟨vs, h1, T⟩ := h Z H c; exact SqL.at_lt h1 (by rw [T.length]; exact l)
  stop i Z H c l := by obtain ⟨vs, h1, T⟩ := h Z H c; exact ⟨vs, h1, by rw [T.length]; exact l⟩
  yld i Z H x H' d c zd e y := by
    obtain ⟨vs, h1, T⟩ := h Z H c
    obtain ⟨rfl, y⟩ := y
    obtain ⟨v, e1, rd⟩ := T.at e
    have e2 := y vs h1
    rw [e1] at e2
    cases e2
    exact ⟨Z, rd, (stay Z H').1, (stay Z H').2.1, (stay Z H').2.2, zd⟩
theorem it_tup {a : Addr} {C : (Addr → Prop) → Hp → Prop} {ds : List D} (h : ∀ Z H, C Z H → ∃ vs, SqT k.K H a vs ∧ RDs k Z H ds vs []) : ItOk k (Itt k.K a) C ds where
  go i Z H c l := by
    obtain ⟨vs, h1, T⟩ := h Z H c
    have l' : i < vs.length := by rw [T.length]; exact l
    exact ⟨vs, vs[i], h1, List.getElem?_eq_getElem l'⟩
  stop i Z H c l := by obtain ⟨vs, h1, T⟩ := h Z H c; exact ⟨vs, h1, by rw [T.length]; exact l⟩
  yld i Z H x H' d c zd e y := by
    obtain ⟨vs, h1, T⟩ := h Z H c
    obtain ⟨rfl, y⟩ := y
    obtain ⟨v, e1, rd⟩ := T.at e
    have e2 := y vs h1
    rw [e1] at e2
    cases e2
    exact ⟨Z, rd, (stay Z H').1, (stay Z H').2.1, (stay Z H').2.2, zd⟩
theorem it_rng {lo : Int} {n : Nat} {C : (Addr → Prop) → Hp → Prop} : ItOk k (Itr lo n) C ((List.range n).map fun (j : Nat) => D.int (lo + j)) where
  go i Z H c l := by have l : i < n := by simpa using l
                     exact l
  stop i Z H c l := by have l : n ≤ i := by simpa using l
                       exact l
  yld i Z H x H' d c zd e y := by
    obtain ⟨rfl, rfl⟩ := y
    have : d = .int (lo + i) := by
      simp only [List.getElem?_map, Option.map_eq_some_iff] at e
      obtain ⟨j, e1, rfl⟩ := e
      rw [List.getElem?_range] at e1
      · cases e1; rfl
      · exact (List.getElem?_eq_some_iff.mp e1).1 |> fun h => by simpa using h
    subst this
    exact ⟨Z, .int _, (stay Z H').1, (stay Z H').2.1, (stay Z H').2.2, zd⟩
theorem it_rngC {lo s : Int} {n : Nat} {C : (Addr → Prop) → Hp → Prop} : ItOk k (Itc lo s n) C ((List.range n).map fun (j : Nat) => D.int (lo + j * s)) where
  go i Z H c l := by have l : i < n := by simpa using l
                     exact l
  stop i Z H c l := by have l : n ≤ i := by simpa using l
                       exact l
  yld i Z H x H' d c zd e y := by
    obtain ⟨rfl, rfl⟩ := y
    have : d = .int (lo + i * s) := by
      simp only [List.getElem?_map, Option.map_eq_some_iff] at e
      obtain ⟨j, e1, rfl⟩ := e
      rw [List.getElem?_range] at e1
      · cases e1; rfl
      · exact (List.getElem?_eq_some_iff.mp e1).1 |> fun h => by simpa using h
    subst this
    exact ⟨Z, .int _, (stay Z H').1, (stay Z H').2.1, (stay Z H').2.2, zd⟩
/-- a new tuple of things that are shared -/
theorem new_pair {T : Addr} {ds : List D} {vs : List V} (hT : H T = none) (zd : ∀ a, Z a → ∃ o, H a = some o) (rd : RDs k Z H ds vs []) :
    ∃ Z', RD k Z' (upd H T (.tup vs)) (.tup ds) (.ref T) [] ∧ (∀ a o, H a = some o → upd H T (.tup vs) a = some o) ∧ (∀ a, Z a → Z' a) ∧ (∀ a, Z' a → Z a ∨ H a = none) ∧ ∀ a, Z' a → ∃ o, upd H T (.tup vs) a = some o := by
  have kp : ∀ a o, H a = some o → upd H T (.tup vs) a = some o := fun a o e => by rw [upd_ne (ne_of_none e hT)]; exact e
  refine ⟨fun a => Z a ∨ a = T, .tup (.inl ⟨.inr rfl, .inl upd_same⟩) (RDs.mono (fun a z => .inl z) _ _ _ (fun a o e _ => kp a o e) rd), kp, fun a z => .inl z, fun a z => z.imp id (fun e => by rw [e]; exact hT), fun a z => ?_⟩
  rcases z with z | z
  · obtain ⟨o, e⟩ := zd a z; exact ⟨o, kp a o e⟩
  · rw [z]; exact ⟨_, upd_same⟩
theorem it_enm {a : Addr} {C : (Addr → Prop) → Hp → Prop} {ds : List D} (h : ∀ Z H, C Z H → ∃ vs, SqL k.K H a vs ∧ RDs k Z H ds vs []) : ItOk k (Ite k.K a) C (ds.mapIdx fun j d => .tup [.int j, d]) where
  go i Z H c l := by obtain ⟨vs, h1, T⟩ := h Z H c; exact SqL.at_lt h1 (by rw [T.length]; simpa using l)
  stop i Z H c l := by obtain ⟨vs, h1, T⟩ := h Z H c; exact ⟨vs, h1, by rw [T.length]; simpa using l⟩
  yld i Z H x H' d c zd e y := by
    obtain ⟨vs, h1, T⟩ := h Z H c
    obtain ⟨t, x', rfl, ht, rfl, y⟩ := y
    rw [List.getElem?_mapIdx] at e
    obtain ⟨d', e1, rfl⟩ := Option.map_eq_some_iff.mp e
    obtain ⟨v, e2, rd⟩ := T.at e1
    have e3 := y vs h1
    rw [e2] at e3
    cases e3
    exact new_pair ht zd (.cons (o := []) (.int _) (RDs.one rd))
theorem it_zp {a b : Addr} {C : (Addr → Prop) → Hp → Prop} {ds es : List D} (h : ∀ Z H, C Z H → ∃ vs us, SqL k.K H a vs ∧ RDs k Z H ds vs [] ∧ SqL k.K H b us ∧ RDs k Z H es us []) : ItOk k (Itz k.K a b) C ((ds.zip es).map fun x => .tup [x.1, x.2]) where
  go i Z H c l := by
    obtain ⟨vs, us, h1, T, h2, U⟩ := h Z H c
    have l : i < ds.length ∧ i < es.length := by simpa [Nat.lt_min] using l
    have l1 : i < vs.length := by rw [T.length]; exact l.1
    have l2 : i < us.length := by rw [U.length]; exact l.2
    exact ⟨vs, us, vs[i], us[i], h1, h2, List.getElem?_eq_getElem l1, List.getElem?_eq_getElem l2⟩
  stop i Z H c l := by
    obtain ⟨vs, us, h1, T, h2, U⟩ := h Z H c
    refine ⟨vs, us, h1, h2, ?_⟩
    rw [T.length, U.length]
    simp only [List.length_map, List.length_zip] at l
    omega
  yld i Z H x H' d c zd e y := by
    obtain ⟨vs, us, h1, T, h2, U⟩ := h Z H c
    obtain ⟨t, x', y', rfl, ht, rfl, y1, y2⟩ := y
    simp only [List.getElem?_map, Option.map_eq_some_iff] at e
    obtain ⟨⟨d1, d2⟩, e1, rfl⟩ := e
    rw [List.getElem?_zip_eq_some] at e1
    obtain ⟨v, e2, rd⟩ := T.at e1.1
    obtain ⟨u, e3, rd2⟩ := U.at e1.2
    have e4 := y1 vs h1
    have e5 := y2 us h2
    rw [e2] at e4
    rw [e3] at e5
    cases e4
    cases e5
    exact new_pair ht zd (.cons (o := []) rd (RDs.one rd2))
theorem it_rev {a : Addr} {C : (Addr → Prop) → Hp → Prop} {ds : List D} {n : Nat} (hn : n = ds.length) (h : ∀ Z H, C Z H → ∃ vs, SqL k.K H a vs ∧ RDs k Z H ds vs []) : ItOk k (Itv k.K a n) C ds.reverse where
  go i Z H c l := by
    obtain ⟨vs, h1, T⟩ := h Z H c
    have l : i < ds.length := by simpa using l
    obtain ⟨xs, x, g1, g2⟩ := SqL.at_lt (i := n - 1 - i) h1 (by rw [T.length]; omega)
    exact ⟨by omega, xs, x, g1, g2⟩
  stop i Z H c l := by
    have l : ds.length ≤ i := by simpa using l
    show n ≤ i
    omega
  yld i Z H x H' d c zd e y := by
    obtain ⟨vs, h1, T⟩ := h Z H c
    obtain ⟨rfl, y⟩ := y
    have l : i < ds.length := by
      have := (List.getElem?_eq_some_iff.mp e).1
      simpa using this
    rw [List.getElem?_reverse l] at e
    obtain ⟨v, e1, rd⟩ := T.at e
    have e2 := y vs h1
    rw [hn, e1] at e2
    cases e2
    exact ⟨Z, rd, (stay Z H').1, (stay Z H').2.1, (stay Z H').2.2, zd⟩
theorem it_rd {kd : ItK} {n : Nat} {src ds : List D} {vs : List V} {R : It → Hp → Prop} (e : itemsN kd n src = some ds) (h : Lk k Z H src vs) (q : ∀ J, ItOk k J (fun Z H => Lk k Z H src vs) ds → R J H) : rIt k.K kd n vs H R := by
  unfold itemsN at e
  split at e
  · rename_i hn
    unfold itemsOf at e
    split at e
    · split at e
      · rename_i c
        cases e
        obtain ⟨v, o, rfl, rd⟩ := h.one
        obtain ⟨a, us, rfl, hs, T⟩ := lst_no rd c
        refine ⟨a, rfl, .inl ⟨⟨us, hs⟩, q _ (it_lst fun Z H c' => ?_)⟩⟩
        obtain ⟨v, o, e1, rd⟩ := c'.one
        cases e1
        obtain ⟨a', us', e2, hs', T'⟩ := lst_no rd c
        cases e2
        exact ⟨us', hs', T'⟩
      · cases e
    · cases e
      obtain ⟨v, o, rfl, rd⟩ := h.one
      cases rd with
      | @tup a us _ h1 T =>
        refine ⟨a, rfl, .inr ⟨⟨us, h1.sq⟩, q _ (it_tup fun Z H c' => ?_)⟩⟩
        obtain ⟨v, o, e1, rd⟩ := c'.one
        cases e1
        cases rd with
        | @tup _ us' _ h1' T' => exact ⟨us', h1'.sq, T'⟩
    · split at e
      · rename_i c
        cases e
        obtain ⟨v, o, rfl, rd⟩ := h.one
        cases rd
        subst hn
        refine ⟨_, rfl, c.1, c.2, q _ ?_⟩
        have e : ∀ n : Nat, (List.range n).map (fun (j : Nat) => D.int (j : Int)) = (List.range n).map fun (j : Nat) => D.int ((0 : Int) + j) := fun n => by simp
        rw [e]
        exact it_rng
      · cases e
    · split at e
      · rename_i c
        cases e
        obtain ⟨v, w, o, p, rfl, rd, rd2⟩ := h.two
        cases rd
        cases rd2
        subst hn
        exact ⟨_, _, rfl, c, q _ it_rng⟩
      · cases e
    · subst hn
      have three : ∀ {i j c : Int}, Lk k Z H [.int i, .int j, .int c] vs → vs = [.int i, .int j, .int c] := fun h => by
        cases h with
        | cons h1 h2 => cases h2 with | cons h2 h3 => cases h3 with | cons h3 h4 => cases h4; cases h1; cases h2; cases h3; rfl
      have e3 := three h
      subst e3
      split at e
      · rename_i c
        cases e
        obtain ⟨rfl, c1, c2, c3, c4⟩ := c
        exact ⟨_, _, _, _, rfl, RgC.neg c1 c2 c3 c4, q _ it_rngC⟩
      · split at e
        · rename_i c
          cases e
          obtain ⟨c1, c2, c3, c4⟩ := c
          exact ⟨_, _, _, _, rfl, ⟨c1, c2, c3, (Int.toNat_of_nonneg c4).symm⟩, q _ it_rngC⟩
        · cases e
    · split at e
      · rename_i c
        cases e
        obtain ⟨v, o, rfl, rd⟩ := h.one
        obtain ⟨a, us, rfl, hs, T⟩ := lst_no rd c
        refine ⟨a, us, rfl, hs, q _ (it_enm fun Z H c' => ?_)⟩
        obtain ⟨v, o, e1, rd⟩ := c'.one
        cases e1
        obtain ⟨a', us', e2, hs', T'⟩ := lst_no rd c
        cases e2
        exact ⟨us', hs', T'⟩
      · cases e
    · split at e
      · rename_i c
        cases e
        simp only [Bool.and_eq_true] at c
        obtain ⟨v, w, o, p, rfl, rd, rd2⟩ := h.two
        obtain ⟨a, us, rfl, hs, T⟩ := lst_no rd c.1
        obtain ⟨b, ws, rfl, ht, U⟩ := lst_no rd2 c.2
        refine ⟨a, b, us, ws, rfl, hs, ht, q _ (it_zp fun Z H c' => ?_)⟩
        obtain ⟨v, w, o, p, e1, rd, rd2⟩ := c'.two
        cases e1
        obtain ⟨a', us', e2, hs', T'⟩ := lst_no rd c.1
        obtain ⟨b', ws', e3, ht', U'⟩ := lst_no rd2 c.2
        cases e2
        cases e3
        exact ⟨us', ws', hs', T', ht', U'⟩
      · cases e
    · split at e
      · rename_i c
        cases e
        obtain ⟨v, o, rfl, rd⟩ := h.one
        obtain ⟨a, us, rfl, hs, T⟩ := lst_no rd c
        refine ⟨a, us, rfl, hs, q _ (it_rev T.length fun Z H c' => ?_)⟩
        obtain ⟨v, o, e1, rd⟩ := c'.one
        cases e1
        obtain ⟨a', us', e2, hs', T'⟩ := lst_no rd c
        cases e2
        exact ⟨us', hs', T'⟩
      · cases e
    · cases e
  · cases e
end
end Mv

namespace Mv
open PySem L2

section
variable {X : Cx} {k : Kc} {sx : Option (Addr × Addr)} {W : WX} {P : Pg} {F : Nat → List D → FOut} {pos apos cpos : Pos} {es : List Expr} {as : List E} {L M : List Nat}
variable {Z Z' Z0 Z1 Z2 : Addr → Prop} {H H' H0 H1 H2 : Hp} {σ σ' σ0 σ1 σ2 : St} {r r1 r2 : En} {os os' os0 os1 os2 od : List Addr}

/-! ### statements -/
def PostN (k : Kc) (sx : Option (Addr × Addr)) (L : List Nat) (Z : Addr → Prop) (H : Hp) (os : List Addr) (σ : St) (N : St → Hp → Prop) (r : En) : Prop :=
  ∀ σ' H' Z' os', Rel k sx Z' r σ' H' os' → Agr L σ σ' → Step Z Z' H H' os os' → N σ' H'
def PostR (k : Kc) (sx : Option (Addr × Addr)) (L : List Nat) (Z : Addr → Prop) (H : Hp) (os : List Addr) (σ : St) (Q : VK) (d : D) (r : En) : Prop :=
  ∀ σ' v H' Z' od os', Rel k sx Z' r σ' H' os' → Agr L σ σ' → RD k Z' H' d v od → (od ++ os').Nodup → (∀ a ∈ od, ¬ Z' a) → Step Z Z' H H' os (od ++ os') → Q v H'
def PostXS (k : Kc) (sx : Option (Addr × Addr)) (W : WX) (L : List Nat) (Z : Addr → Prop) (H : Hp) (os : List Addr) (σ : St) (c : Nat) (w : D) (r : En) : Prop :=
  ∀ σ' cls d H' Z' os', Rel k sx Z' r σ' H' os' → Agr L σ σ' → ExV k Z' H' c w cls d → Step Z Z' H H' os os' → W cls d σ' H'
def SatS (k : Kc) (sx : Option (Addr × Addr)) (W : WX) (L : List Nat) (Z : Addr → Prop) (H : Hp) (os : List Addr) (σ : St) (o : Out Fl) (D : Ends) : Prop := match o with
  | .ok .next r => PostN k sx L Z H os σ D.nx r
  | .ok .brk r => PostN k sx L Z H os σ D.bk r
  | .ok .cont r => PostN k sx L Z H os σ D.ct r
  | .ok (.ret d) r => PostR k sx L Z H os σ D.rt d r
  | .exc c w r => PostXS k sx W L Z H os σ c w r
  | .bad => False
def tS (k : Kc) (sx : Option (Addr × Addr)) (W : WX) (L : List Nat) (f : En → Out Fl) : TS := fun D σ H => ∃ Z r os, Rel k sx Z r σ H os ∧ SatS k sx W L Z H os σ (f r) D
theorem PostN.base {N : St → Hp → Prop} (h : PostN k sx L Z H os σ N r) (S : Step Z Z1 H H1 os os1) (a : Agr L σ σ1) : PostN k sx L Z1 H1 os1 σ1 N r :=
  fun σ' H' Z' os' R b T => h σ' H' Z' os' R (a.trans b) (S.trans T)
theorem PostN.mono {N : St → Hp → Prop} (h : PostN k sx L Z H os σ N r) (s : ∀ i ∈ M, i ∈ L) : PostN k sx M Z H os σ N r :=
  fun σ' H' Z' os' R b T => h σ' H' Z' os' R (b.mono s) T
theorem SatS.base {o : Out Fl} {D : Ends} (h : SatS k sx W L Z H os σ o D) (S : Step Z Z1 H H1 os os1) (a : Agr L σ σ1) : SatS k sx W L Z1 H1 os1 σ1 o D := by
  cases o with
  | ok f r =>
    cases f with
    | next => exact PostN.base h S a
    | brk => exact PostN.base h S a
    | cont => exact PostN.base h S a
    | ret d => exact fun σ' v H' Z' od os' R b rd nd nz T => h σ' v H' Z' od os' R (a.trans b) rd nd nz (S.trans T)
  | exc c w r => exact fun σ' cls d H' Z' os' R b e T => h σ' cls d H' Z' os' R (a.trans b) e (S.trans T)
  | bad => exact h
theorem SatS.mono {o : Out Fl} {D : Ends} (h : SatS k sx W L Z H os σ o D) (s : ∀ i ∈ M, i ∈ L) : SatS k sx W M Z H os σ o D := by
  cases o with
  | ok f r =>
    cases f with
    | next => exact PostN.mono h s
    | brk => exact PostN.mono h s
    | cont => exact PostN.mono h s
    | ret d => exact fun σ' v H' Z' od os' R b rd nd nz T => h σ' v H' Z' od os' R (b.mono s) rd nd nz T
  | exc c w r => exact fun σ' cls d H' Z' os' R b e T => h σ' cls d H' Z' os' R (b.mono s) e T
  | bad => exact h
theorem SatS.bind {α : Type} {x : Out α} {f : α → En → Out Fl} {D : Ends} (h : SatS k sx W L Z H os σ (x.bind f) D) : Sat k sx W Z H os σ x fun a r => SatS k sx W L Z H os σ (f a r) D := by
  cases x with
  | ok a r => exact h
  | exc c w r => exact fun cls d H' Z' os' R e S => h σ cls d H' Z' os' R Agr.refl e S
  | bad => exact h
/-- nothing held stays behind -/
theorem Step.drop (S : Step Z Z1 H H1 os (od ++ os1)) : Step Z Z1 H H1 os os1 := S.less fun x m => List.mem_append_right _ m

/-- all that is shown of a statement -/
def SS (X : Cx) (k : Kc) (sx : Option (Addr × Addr)) (W : WX) (P : Pg) (F : Nat → List D → FOut) (s : Stmt) (a : S) : Prop := ∀ L, (∀ i ∈ stS a, i ∈ L) → PS X s (tS k sx W L (evS P F a))
def SSs (X : Cx) (k : Kc) (sx : Option (Addr × Addr)) (W : WX) (P : Pg) (F : Nat → List D → FOut) (s : List Stmt) (a : List S) : Prop := ∀ L, (∀ i ∈ stB a, i ∈ L) → PSs X s (tS k sx W L (evB P F a))

theorem ss_nil : SSs X k sx W P F [] [] := fun L _ => pss_nil.weak fun D σ H ⟨Z, r, os, R, q⟩ => q σ H Z os R Agr.refl Step.refl
theorem ss_cons {s : Stmt} {a : S} {ss : List Stmt} {as : List S} (h1 : SS X k sx W P F s a) (h2 : SSs X k sx W P F ss as) : SSs X k sx W P F (s :: ss) (a :: as) := fun L hL => by
  refine (pss_cons (h1 L fun i m => hL i (List.mem_append_left _ m)) (h2 L fun i m => hL i (List.mem_append_right _ m))).weak fun D σ H ⟨Z, r, os, R, q⟩ => ?_
  refine ⟨Z, r, os, R, ?_⟩
  have q : SatS k sx W L Z H os σ (match evS P F a r with
    | .ok .next r1 => evB P F as r1
    | x => x) D := q
  split at q
  · rename_i r1 e
    rw [e]
    exact fun σ' H' Z' os' R' ag S => ⟨Z', r1, os', R', q.base S ag⟩
  · rename_i n
    cases e : evS P F a r with
    | ok f r1 =>
      rw [e] at q
      cases f with
      | next => exact absurd e (n r1)
      | brk => exact q
      | cont => exact q
      | ret d => exact q
    | exc c w r1 => rw [e] at q; exact q
    | bad => rw [e] at q; exact q
theorem ss_pass : SS X k sx W P F (.Pass pos) .pass := fun L _ => ps_pass.weak fun D σ H ⟨Z, r, os, R, q⟩ => q σ H Z os R Agr.refl Step.refl
theorem ss_doc {x : Str} {j : Nat} : SS X k sx W P F (.Expr (.Constant (.str x) j apos) pos) .pass := fun L _ => ps_doc.weak fun D σ H ⟨Z, r, os, R, q⟩ => q σ H Z os R Agr.refl Step.refl
theorem ss_brk : SS X k sx W P F (.Break pos) .brk := fun L _ => ps_break.weak fun D σ H ⟨Z, r, os, R, q⟩ => q σ H Z os R Agr.refl Step.refl
theorem ss_cont : SS X k sx W P F (.Continue pos) .cont := fun L _ => ps_continue.weak fun D σ H ⟨Z, r, os, R, q⟩ => q σ H Z os R Agr.refl Step.refl
theorem ss_expr {e : Expr} {a : E} (h : Snd X k sx W P F e a) (hs : swapsWith e none pos.line X.env = pure false) : SS X k sx W P F (.Expr e pos) (.expr a) := fun L _ =>
  (ps_expr h.v hs).weak fun D σ H ⟨Z, r, os, R, q⟩ => ⟨Z, r, os, R, (SatS.bind q).imp fun d r1 q1 v H1 Z1 od os1 R1 rd nd nz S1 => q1 σ H1 Z1 os1 R1 Agr.refl S1.drop⟩
theorem ss_ret {e : Expr} {a : E} (h : Snd X k sx W P F e a) : SS X k sx W P F (.Return (some e) pos) (.ret a) := fun L _ =>
  (ps_ret h.v).weak fun D σ H ⟨Z, r, os, R, q⟩ => ⟨Z, r, os, R, (SatS.bind q).imp fun d r1 q1 v H1 Z1 od os1 R1 rd nd nz S1 => q1 σ v H1 Z1 od os1 R1 Agr.refl rd nd nz S1⟩
theorem ss_retN : SS X k sx W P F (.Return none pos) (.ret .non) := fun L _ =>
  ps_retN.weak fun D σ H ⟨Z, r, os, R, q⟩ => q σ .non H Z [] os R Agr.refl .non R.nd (fun _ m => by cases m) Step.refl
/-- a local name's thing goes out as it is -/
theorem ss_retV {x : Str} {i : Nat} {p : Pos} (hN : X.N[i]? = some x) (hv : Vis X.env.scope x) (hd : (x == ("__debug__" : Str)) = false) (hcd : (x == ("__classdict__" : Str)) = false) : SS X k sx W P F (.Return (some (.Name x p)) pos) (.retV i) := fun L _ => by
  refine (ps_ret (pe_var (pos := p) hN hv hd hcd)).weak fun D σ H ⟨Z, r, os, R, q⟩ => ?_
  have q : SatS k sx W L Z H os σ (match slot r i with
    | some (.exn _ _) => .bad
    | some d => .ok (.ret d) (r.set i none)
    | none => .bad) D := q
  split at q
  · exact q.elim
  · rename_i d ne s
    obtain ⟨v, o, os', e1, rd, pm, R'⟩ := R.take s ne
    refine ⟨v, e1, q σ v H Z o os' R' Agr.refl rd (pm.nodup_iff.mp R.nd) (fun a m => R.nz a (pm.mem_iff.mpr (List.mem_append_left _ m))) (Step.refl.perm pm.symm)⟩
  · exact q.elim
/-- target = value -/
theorem ss_asg {tg e : Expr} {t : Tg} {a : E} (hg : PG X tg (tG k sx t)) (h : Snd X k sx W P F e a) (hs : swapsWithSole [tg] e pos.line X.env = pure false) (hw : swappedStores [tg] e X.env = pure none) (h1 : (assignEach [tg] X.env).map (·.2) = [assign tg X.env]) :
    SS X k sx W P F (.Assign [tg] e pos) (.asg t a) := fun L hL => by
  refine (ps_asg h.v hg hs hw h1).weak fun D σ H ⟨Z, r, os, R, q⟩ => ⟨Z, r, os, R, (SatS.bind q).imp fun d r1 q1 v H1 Z1 od os1 R1 rd nd nz S1 => ?_⟩
  split at q1
  · rename_i r2 e2
    exact ⟨Z1, r1, os1, d, od, R1, rd, nd, nz, r2, e2, fun σ' os' R2 sub ag => q1 σ' H1 Z1 os' R2 (ag.mono hL) (S1.less sub)⟩
  · exact q1.elim
theorem ss_if {c : Expr} {ca : E} {b1 b2 : List Stmt} {a1 a2 : List S} (hc : Snd X k sx W P F c ca) (h1 : SSs X k sx W P F b1 a1) (h2 : SSs X k sx W P F b2 a2) : SS X k sx W P F (.If c b1 b2 pos) (.ifS ca a1 a2) := fun L hL => by
  refine (ps_if hc.t (h1 L fun i m => hL i (List.mem_append_left _ m)) (h2 L fun i m => hL i (List.mem_append_right _ m))).weak fun D σ H ⟨Z, r, os, R, q⟩ => ⟨Z, r, os, R, (SatS.bind q).imp fun b r1 q1 H1 Z1 os1 R1 S1 => ?_⟩
  cases b with
  | true => exact iteT ⟨Z1, r1, os1, R1, SatS.base q1 S1 Agr.refl⟩
  | false => exact iteF ⟨Z1, r1, os1, R1, SatS.base q1 S1 Agr.refl⟩
theorem ss_whl {c : Expr} {ca : E} {b : List Stmt} {a : List S} (hp : PassesOwn (model X.prog X.w) X.A X.env X.xe) (hc : Snd X k sx W P F c ca) (h : SSs X k sx W P F b a) : SS X k sx W P F (.While c b [] pos) (.whl ca a) := fun L hL => by
  refine (ps_while hp hc.t (h L hL)).weak fun D σ H ⟨Z, r, os, R, q⟩ => ?_
  refine ⟨fun m σ H => ∃ Z r os, Rel k sx Z r σ H os ∧ SatS k sx W L Z H os σ (whlL (ev P F ca).t (fun r => evB P F a r) m r) D, ⟨LF, Z, r, os, R, q⟩, fun m σ H ⟨Z, r, os, R, q⟩ => ?_⟩
  cases m with
  | zero => exact q.elim
  | succ m =>
    refine ⟨Z, r, os, R, (SatS.bind q).imp fun b r1 q1 H1 Z1 os1 R1 S1 => ?_⟩
    have q2 := SatS.base q1 S1 Agr.refl
    cases b with
    | false =>
      refine iteF ?_
      exact q2 σ H1 Z1 os1 R1 Agr.refl Step.refl
    | true =>
      refine iteT ⟨fun σ' H' => ∃ Z r os, Rel k sx Z r σ' H' os ∧ SatS k sx W L Z H' os σ' (whlL (ev P F ca).t (fun r => evB P F a r) m r) D, fun σ' H' h => ⟨m, Nat.lt_succ_self _, h⟩, Z1, r1, os1, R1, ?_⟩
      have q2 : SatS k sx W L Z1 H1 os1 σ (match evB P F a r1 with
        | .ok .next r2 => whlL (ev P F ca).t (fun r => evB P F a r) m r2
        | .ok .cont r2 => whlL (ev P F ca).t (fun r => evB P F a r) m r2
        | .ok .brk r2 => .ok .next r2
        | .ok (.ret v) r2 => .ok (.ret v) r2
        | .exc c w r2 => .exc c w r2
        | .bad => .bad) D := q2
      cases e : evB P F a r1 with
      | ok f r2 =>
        rw [e] at q2
        cases f with
        | next => exact fun σ' H' Z' os' R' ag S => ⟨Z', r2, os', R', SatS.base q2 S ag⟩
        | cont => exact fun σ' H' Z' os' R' ag S => ⟨Z', r2, os', R', SatS.base q2 S ag⟩
        | brk => exact q2
        | ret d => exact q2
      | exc c w r2 => rw [e] at q2; exact q2
      | bad => rw [e] at q2; exact q2
end
end Mv

namespace Mv
open PySem L2

section
variable {X : Cx} {k : Kc} {sx : Option (Addr × Addr)} {W : WX} {P : Pg} {F : Nat → List D → FOut} {pos apos cpos : Pos} {es : List Expr} {as : List E} {L M : List Nat}
variable {Z Z' Z0 Z1 Z2 : Addr → Prop} {H H' H0 H1 H2 : Hp} {σ σ' σ0 σ1 σ2 : St} {r r1 r2 : En} {os os' os0 os1 os2 od : List Addr}

theorem chks_mem {i : Nat} : ∀ {ra : List Ar}, Ar.r i ∈ ra → (i, slot r i) ∈ chks ra r
  | [], h => by cases h
  | .v d :: ra, h => by
    rcases List.mem_cons.mp h with e | h
    · cases e
    · exact chks_mem (ra := ra) h
  | .r j :: ra, h => by
    rcases List.mem_cons.mp h with e | h
    · cases e; exact List.mem_cons_self
    · exact List.mem_cons_of_mem _ (chks_mem (ra := ra) h)
theorem still_peek {ra : List Ar} (h : still r (chks ra r0) = true) : peekA r ra = peekA r0 ra := by
  induction ra with
  | nil => rfl
  | cons a ra ih =>
    cases a with
    | v d =>
      have h : still r (chks ra r0) = true := h
      simp only [peekA, Ar.peek, ih h]
    | r i =>
      have h : (decide (slot r i = slot r0 i) && still r (chks ra r0)) = true := h
      simp only [Bool.and_eq_true, decide_eq_true_eq] at h
      simp only [peekA, Ar.peek, ih h.2, h.1]
theorem ArVs.keep {ra : List Ar} {vs : List V} (h : ArVs k Z H σ ra vs []) (hz : ∀ a, Z a → Z' a) (hh : ∀ a o, H a = some o → Z a → H' a = some o) (hs : ∀ i, Ar.r i ∈ ra → σ'[i]? = σ[i]?) : ArVs k Z' H' σ' ra vs [] := by
  generalize hn : ([] : List Addr) = n at h
  induction h with
  | nil => exact .nil
  | @cons a ra v vs o ot g1 g2 ih =>
    obtain ⟨rfl, rfl⟩ := List.append_eq_nil_iff.mp hn.symm
    refine .cons (o := []) (os := []) ?_ (ih (fun i m => hs i (List.mem_cons_of_mem _ m)) rfl)
    cases g1 with
    | v g => exact .v (RD.mono hz _ _ _ (fun a o e z => hh a o e (z.elim id fun m => by cases m)) g)
    | r g => exact .r (by rw [hs _ List.mem_cons_self]; exact g)
/-- things came that are shared -/
theorem Rel.grow (R : Rel k sx Z r σ H os) (kp : ∀ a o, H a = some o → H' a = some o) (hz : ∀ a, Z a → Z' a) (hn : ∀ a, Z' a → Z a ∨ H a = none) (zd : ∀ a, Z' a → ∃ o, H' a = some o) : Rel k sx Z' r σ H' os ∧ Step Z Z' H H' os os := by
  refine ⟨⟨R.rs.mono hz fun a o e _ => kp a o e, R.nd, fun a m z => ?_, zd⟩, fun a o e _ => kp a o e, hz, fun a z => (hn a z).imp id .inr, fun a m => .inl m⟩
  rcases hn a z with z | z
  · exact R.nz a m z
  · obtain ⟨o, e⟩ := R.rs.dom a m; rw [z] at e; cases e
def tIt (k : Kc) (sx : Option (Addr × Addr)) (W : WX) (P : Pg) (F : Nat → List D → FOut) (kd : ItK) (as : List E) : TI := fun σ H R => tAs k sx W (evAs (evs P F as)) σ H fun vs H1 => rIt k.K kd as.length vs H1 R
/-- what a turn finds -/
theorem drop_cons {α : Type} {l : List α} {i : Nat} (h : i < l.length) : l.drop i = l[i] :: l.drop (i + 1) := List.drop_eq_getElem_cons h
theorem ss_for {tg iter : Expr} {t : Tg} {kd : ItK} {b : List Stmt} {a : List S} (hp : PassesOwn (model X.prog X.w) X.A X.env X.xe) (hc : X.calm = true) (hi : PI X tg iter (tIt k sx W P F kd as)) (hg : PG X tg (tG k sx t)) (h : SSs X k sx W P F b a)
    (hs : ∀ x, foldedSetIterable iter X.env x = pure x) : SS X k sx W P F (.For tg iter b [] pos) (.forS t kd as a) := fun L hL => by
  have hLb : ∀ i ∈ stT t ++ stB a, i ∈ L := hL
  refine (ps_for hp hc hi hg (h (stT t ++ stB a) fun i m => List.mem_append_right _ m) hs).weak fun D σ H ⟨Z, r, os, R, q⟩ => ?_
  refine ⟨Z, r, os, R, (SatS.bind q).imp fun ra r1 q1 vs H1 Z1 od os1 R1 av nd nz S1 => ?_⟩
  split at q1
  · rename_i ra1 rp ep
    obtain ⟨Z2, os2, av2, R2, S2⟩ := prep_ok av R1 ep nd nz
    split at q1
    · rename_i ds ed
      obtain ⟨src, e1, e2⟩ := Option.bind_eq_some_iff.mp ed
      split at q1
      · rename_i cc
        have out : ∀ i, Ar.r i ∈ ra1 → i ∉ stT t ++ stB a := fun i m n => by
          have := List.all_eq_true.mp cc _ (chks_mem (r := rp) m)
          simp only [List.contains_eq_mem, Bool.not_eq_true', decide_eq_false_iff_not] at this
          exact this n
        have q2 := SatS.base q1 (S1.trans S2) Agr.refl
        refine it_rd e2 (peekA_ok R2 av2 e1) fun J ok => ?_
        refine ⟨fun i m σ' H' => ∃ Z r os, Rel k sx Z r σ' H' os ∧ ArVs k Z H' σ' ra1 vs [] ∧ m + i = ds.length ∧ SatS k sx W L Z H' os σ' (forL (chks ra1 rp) t (fun r => evB P F a r) (ds.drop i) r) D,
          ⟨ds.length, Z2, rp, os2, R2, av2, rfl, q2⟩, fun i m σ3 H3 ⟨Z3, r3, os3, R3, av3, hm, q3⟩ => ?_⟩
        have lk : still r3 (chks ra1 rp) = true → Lk k Z3 H3 src vs := fun st => peekA_ok R3 av3 (by rw [still_peek st]; exact e1)
        by_cases hlt : i < ds.length
        · rw [drop_cons hlt] at q3
          have q3 : SatS k sx W L Z3 H3 os3 σ3 (if still r3 (chks ra1 rp) then (match asgT t ds[i] r3 with
            | some r1 => match evB P F a r1 with
              | .ok .next r2 => forL (chks ra1 rp) t (fun r => evB P F a r) (ds.drop (i + 1)) r2
              | .ok .cont r2 => forL (chks ra1 rp) t (fun r => evB P F a r) (ds.drop (i + 1)) r2
              | .ok .brk r2 => .ok .next r2
              | .ok (.ret v) r2 => .ok (.ret v) r2
              | .exc c w r2 => .exc c w r2
              | .bad => .bad
            | none => .bad) else .bad) D := q3
          split at q3
          · rename_i st
            have C := lk st
            split at q3
            · rename_i r4 e4
              refine .inr ⟨ok.go i Z3 H3 C hlt, fun σ' H' => ∃ Z r os, Rel k sx Z r σ' H' os ∧ ArVs k Z H' σ' ra1 vs [] ∧ (m - 1) + (i + 1) = ds.length ∧ SatS k sx W L Z H' os σ' (forL (chks ra1 rp) t (fun r => evB P F a r) (ds.drop (i + 1)) r) D,
                fun σ' H' h => ⟨m - 1, by omega, h⟩, fun x H4 y => ?_⟩
              obtain ⟨Z4, rd, kp, hz, hn, zd⟩ := ok.yld i Z3 H3 x H4 ds[i] C R3.zd (List.getElem?_eq_getElem hlt) y
              obtain ⟨R4, S4⟩ := R3.grow kp hz hn zd
              refine ⟨Z4, r3, os3, ds[i], [], R4, rd, R4.nd, (fun _ m => by cases m), r4, e4, fun σ5 os5 R5 sub5 ag5 => ⟨Z4, r4, os5, R5, ?_⟩⟩
              have S45 := S4.less (o2 := os5) sub5
              have q5 := SatS.base q3 S45 (ag5.mono fun i m => hLb i (List.mem_append_left _ m))
              have again : ∀ {r6 : En}, SatS k sx W L Z4 H4 os5 σ5 (forL (chks ra1 rp) t (fun r => evB P F a r) (ds.drop (i + 1)) r6) D →
                  PostN k sx (stT t ++ stB a) Z4 H4 os5 σ5 (fun σ' H' => ∃ Z r os, Rel k sx Z r σ' H' os ∧ ArVs k Z H' σ' ra1 vs [] ∧ (m - 1) + (i + 1) = ds.length ∧ SatS k sx W L Z H' os σ' (forL (chks ra1 rp) t (fun r => evB P F a r) (ds.drop (i + 1)) r) D) r6 := fun {r6} q6 σ7 H7 Z7 os7 R7 ag7 S7 => by
                refine ⟨Z7, r6, os7, R7, av3.keep (fun a z => S7.zs a (hz a z)) (fun a o e z => S7.keep a o (kp a o e) fun m => R5.nz a m (hz a z)) (fun i m => ?_), by omega, q6.base S7 (ag7.mono hLb)⟩
                have n := out i m
                rw [ag7 i n, ag5 i fun m => n (List.mem_append_left _ m)]
              cases e : evB P F a r4 with
              | ok f r6 =>
                rw [e] at q5
                cases f with
                | next => exact again q5
                | cont => exact again q5
                | brk => exact PostN.mono q5 hLb
                | ret d => exact SatS.mono (o := .ok (.ret d) r6) q5 hLb
              | exc c w r6 => rw [e] at q5; exact SatS.mono (o := .exc c w r6) q5 hLb
              | bad => rw [e] at q5; exact q5
            · exact q3.elim
          · exact q3.elim
        · have hd : ds.drop i = [] := List.drop_eq_nil_of_le (by omega)
          rw [hd] at q3
          have q3 : SatS k sx W L Z3 H3 os3 σ3 (if still r3 (chks ra1 rp) then .ok .next r3 else .bad) D := q3
          split at q3
          · rename_i st
            exact .inl ⟨ok.stop i Z3 H3 (lk st) (by omega), q3 σ3 H3 Z3 os3 R3 Agr.refl Step.refl⟩
          · exact q3.elim
      · exact q1.elim
    · exact q1.elim
  · exact q1.elim
end
end Mv

namespace Mv
open PySem L2

section
variable {X : Cx} {k : Kc} {sx : Option (Addr × Addr)} {W : WX} {P : Pg} {F : Nat → List D → FOut} {pos apos cpos p : Pos} {es : List Expr} {as : List E} {L M : List Nat}
variable {Z Z' Z0 Z1 Z2 : Addr → Prop} {H H' H0 H1 H2 : Hp} {σ σ' σ0 σ1 σ2 : St} {r r1 r2 : En} {os os' os0 os1 os2 od : List Addr}

theorem _root_.L2.PI.weak {tg iter : Expr} {t t' : TI} (h : PI X tg iter t) (w : ∀ σ H R, t' σ H R → t σ H R) : PI X tg iter t' := ⟨fun pins s σ H R I hq => h.run pins s σ H R I (w σ H R hq)⟩
theorem _root_.L2.PTs.weak {ifs : List Expr} {t t' : TT} (h : PTs X ifs t) (w : ∀ σ H R, t' σ H R → t σ H R) : PTs X ifs t' := ⟨fun pins s σ H R I hq => h.run pins s σ H R I (w σ H R hq)⟩
theorem tAs_one {a : E} {Q : List V → Hp → Prop} (q : tAs k sx W (evAs (evs P F [a])) σ H Q) : tAr k sx W (ev P F a).a σ H fun v H1 => Q [v] H1 := by
  obtain ⟨Z, r, os, R, q⟩ := q
  refine ⟨Z, r, os, R, (Sat.bind.mp q).imp fun ar r1 q1 v H1 Z1 od os1 R1 av nd nz S1 => ?_⟩
  have c := ArVs.cons av .nil
  rw [List.append_nil] at c
  exact q1 [v] H1 Z1 od os1 R1 c nd nz S1
/-- over a list or a tuple -/
theorem pi_val {tg e : Expr} {a : E} (hK : X.K = k.K) (h : Snd X k sx W P F e a) : PI X tg e (tIt k sx W P F .val [a]) := by
  refine ⟨fun pins s σ H R I q => ?_⟩
  refine thn (h.ar.run pins s σ H _ I (tAs_one q)) fun v s1 ⟨x, H1, I1, r1, q1⟩ => ?_
  obtain ⟨p, e, q1⟩ := q1
  cases e
  rw [← hK] at q1
  cases r1
  rcases q1 with ⟨⟨xs, hq⟩, q⟩ | ⟨⟨xs, hq⟩, q⟩
  · obtain ⟨its, rv, p', hz⟩ := I1.list hq
    refine wpAny_pyIter_list p'.isList ?_
    refine ⟨s1.heap.objs.size, [s1.heap.objs.size], _, _, H1, rfl, I1.kept (t' := s1.toks) fun b o e => Heap.get?_push_of_some _ e, turn_list p _, ⟨_, Heap.get?_push_size _ rfl, rfl, rfl⟩, fun b hb => ?_, q⟩
    have e : b = s1.heap.objs.size := by simpa using hb
    subst e
    exact I1.fpOk (Nat.le_refl _) (I1.hok.fresh (Nat.le_refl _))
  · obtain ⟨its, rv, p', hz⟩ := I1.tuple hq
    refine wpAny_pyIter_tuple (show s1.heap.IsTuple p its.toArray from p') ?_
    refine ⟨s1.heap.objs.size, [s1.heap.objs.size], _, _, H1, rfl, I1.kept (t' := s1.toks) fun b o e => Heap.get?_push_of_some _ e, turn_tuple p _, ⟨_, Heap.get?_push_size _ rfl, rfl, rfl⟩, fun b hb => ?_, q⟩
    have e : b = s1.heap.objs.size := by simpa using hb
    subst e
    exact I1.fpOk (Nat.le_refl _) (I1.hok.fresh (Nat.le_refl _))
theorem pi_rng {tg : Expr} (h : SndL X k sx W P F es as) (hl : 1 ≤ es.length ∧ es.length ≤ 3) (hg : Gl X "range") (hm : X.mg "range" = none) : PI X tg (.Call (.Name "range" p) es [] pos) (tIt k sx W P F .rng as) := by
  have pa := pa_as h
  cases h with
  | nil => exact absurd hl.1 (by decide)
  | cons n1 h1 t1 =>
    cases t1 with
    | nil => exact (pi_range1 hg hm pa (by rw [star_cons n1] <;> rfl)).weak fun _ _ _ q => q
    | cons n2 h2 t2 =>
      cases t2 with
      | nil => exact (pi_range2 hg hm pa (by rw [star_cons n1, star_cons n2] <;> rfl) (by rw [star_cons n2] <;> rfl)).weak fun _ _ _ q => q
      | cons n3 h3 t3 =>
        cases t3 with
        | nil => exact (pi_range3 hg hm pa (star_cons n1 _ _) (by rw [star_cons n2, star_cons n3] <;> rfl)).weak fun _ _ _ q => q
        | cons _ _ _ => exact absurd hl.2 (by simp)
theorem pi_en {elts : List Expr} {kk : Nat} {tpos : Pos} (hK : X.K = k.K) (h : SndL X k sx W P F es as) (hl : es.length = 1) (hg : Gl X "enumerate") (hm : X.mg "enumerate" = none) : PI X (.Tuple elts kk tpos) (.Call (.Name "enumerate" p) es [] pos) (tIt k sx W P F .enm as) := by
  have pa := pa_as h
  cases h with
  | nil => cases hl
  | cons n1 h1 t1 =>
    cases t1 with
    | nil => exact (pi_enum hg hm pa (by rw [star_cons n1] <;> rfl)).weak fun σ H R q => by rw [hK]; exact q
    | cons _ _ _ => exact absurd hl (by simp)
theorem pi_rv {tg : Expr} (hK : X.K = k.K) (h : SndL X k sx W P F es as) (hl : es.length = 1) (hg : Gl X "reversed") (hm : X.mg "reversed" = none) : PI X tg (.Call (.Name "reversed" p) es [] pos) (tIt k sx W P F .rev as) := by
  have pa := pa_as h
  cases h with
  | nil => cases hl
  | cons n1 h1 t1 =>
    cases t1 with
    | nil => exact (pi_reversed hg hm pa (by rw [star_cons n1] <;> rfl)).weak fun σ H R q => by rw [hK]; exact q
    | cons _ _ _ => exact absurd hl (by simp)
theorem pi_zp {elts : List Expr} {kk : Nat} {tpos : Pos} (hK : X.K = k.K) (h : SndL X k sx W P F es as) (hl : es.length = 2) (hg : Gl X "zip") (hm : X.mg "zip" = none) : PI X (.Tuple elts kk tpos) (.Call (.Name "zip" p) es [] pos) (tIt k sx W P F .zp as) := by
  have pa := pa_as h
  cases h with
  | nil => cases hl
  | cons n1 h1 t1 =>
    cases t1 with
    | nil => exact absurd hl (by simp)
    | cons n2 h2 t2 =>
      cases t2 with
      | nil => exact (pi_zip hg hm pa (star_cons n1 _ _) (by rw [star_cons n2] <;> rfl)).weak fun σ H R q => by rw [hK]; exact q
      | cons _ _ _ => exact absurd hl (by simp)

/-! ### comprehensions -/
theorem asgT_len : ∀ (t : Tg) (d : D) (r r1 : En), asgT t d r = some r1 → r1.length = r.length
  | .nm i, d, r, r1, h => by
    have h : (if i < r.length then some (r.set i (some d)) else none) = some r1 := h
    split at h
    · cases h; simp
    · cases h
  | .tp ts, d, r, r1, h => by
    cases d with
    | tup ds => exact asgs_len' ts ds r r1 h
    | _ => cases h
where asgs_len' : ∀ (ts : List Tg) (ds : List D) (r r1 : En), asgT.asgs ts ds r = some r1 → r1.length = r.length
  | [], [], r, r1, h => by cases h; rfl
  | [], _ :: _, _, _, h => by cases h
  | _ :: _, [], _, _, h => by cases h
  | t :: ts, d :: ds, r, r1, h => by
    obtain ⟨r', e1, e2⟩ := Option.bind_eq_some_iff.mp (show ((asgT t d r).bind fun r' => asgT.asgs ts ds r') = some r1 from h)
    rw [asgs_len' ts ds r' r1 e2, asgT_len t d r r' e1]
theorem wipe_in {i : Nat} : ∀ {vs : List Nat}, i ∈ vs → ∀ x, (wipe σ vs)[i]? ≠ some (some x)
  | v :: vs, h, x => fun e => (wipe_some e).2 h
theorem wipe_get (own : List Nat) (i : Nat) : (wipe σ own)[i]? = if i ∈ own then (if i < σ.length then some none else none) else σ[i]? := by
  split
  · rename_i h
    have hl := wipe_length σ own
    cases e : (wipe σ own)[i]? with
    | none =>
      rw [List.getElem?_eq_none_iff, hl] at e
      rw [if_neg (by omega)]
    | some v =>
      have lt := (List.getElem?_eq_some_iff.mp e).1
      rw [hl] at lt
      rw [if_pos lt]
      cases v with
      | none => rfl
      | some x => exact absurd e (wipe_in h x)
  · rename_i h
    exact wipe_out h
theorem wipe_ext {own : List Nat} (h : ∀ i, i ∉ own → σ1[i]? = σ[i]?) (hl : σ1.length = σ.length) : wipe σ1 own = wipe σ own := by
  refine List.ext_getElem? fun i => ?_
  rw [wipe_get, wipe_get, hl]
  split
  · rfl
  · rename_i n; exact h i n
theorem wipe_wipe {own : List Nat} : wipe (wipe σ own) own = wipe σ own := wipe_ext (fun i n => wipe_out n) (wipe_length σ own)
theorem slot_set_eq {i : Nat} {x : Option D} (h : i < r.length) : slot (r.set i x) i = x := by simp [slot, h]
theorem slot_set_ne {i j : Nat} {x : Option D} (h : i ≠ j) : slot (r.set i x) j = slot r j := by simp [slot, h]
theorem wipeE_len (own : List Nat) : (wipeE r own).length = r.length := by
  induction own with
  | nil => rfl
  | cons v vs ih => simp [wipeE, ih]
theorem wipeE_in {own : List Nat} {i : Nat} (h : i ∈ own) : slot (wipeE r own) i = none := by
  induction own with
  | nil => cases h
  | cons v vs ih =>
    by_cases e : v = i
    · subst e; exact slot_set_none
    · rcases List.mem_cons.mp h with e' | h
      · exact absurd e'.symm e
      · show slot ((wipeE r vs).set v none) i = none
        rw [slot_set_ne e]
        exact ih h
theorem RS.drop1 {i : Nat} (h : RS k sx Z H r σ os) : ∃ os', RS k sx Z H (r.set i none) (σ.set i none) os' ∧ os'.Sublist os := by
  by_cases hi : i < r.length
  · obtain ⟨A, o, B, e, h1, _⟩ := h.put hi
    subst e
    exact ⟨A ++ B, h1 none, List.Sublist.append (List.Sublist.refl _) (List.sublist_append_right _ _)⟩
  · have l := h.length
    rw [List.set_eq_of_length_le (by omega), List.set_eq_of_length_le (by omega)]
    exact ⟨os, h, List.Sublist.refl _⟩
theorem RS.wipe {own : List Nat} (h : RS k sx Z H r σ os) : ∃ os', RS k sx Z H (wipeE r own) (wipe σ own) os' ∧ os'.Sublist os := by
  induction own with
  | nil => exact ⟨os, h, List.Sublist.refl _⟩
  | cons v vs ih =>
    obtain ⟨os1, h1, s1⟩ := ih
    obtain ⟨os2, h2, s2⟩ := h1.drop1 (i := v)
    exact ⟨os2, h2, s2.trans s1⟩
theorem Rel.wipe {own : List Nat} (R : Rel k sx Z r σ H os) : ∃ os', Rel k sx Z (wipeE r own) (L2.wipe σ own) H os' ∧ ∀ a ∈ os', a ∈ os := by
  obtain ⟨os', h, s⟩ := R.rs.wipe (own := own)
  exact ⟨os', ⟨h, s.nodup R.nd, fun a m => R.nz a (s.subset m), R.zd⟩, fun a m => s.subset m⟩
/-- an empty slot fits whatever stands there -/
theorem RS.any (h : RS k sx Z H r σ os) (hl : σ1.length = σ.length) (hs : ∀ i, slot r i ≠ none → σ1[i]? = σ[i]?) : RS k sx Z H r σ1 os := by
  induction h generalizing σ1 with
  | nil =>
    have : σ1 = [] := List.length_eq_zero_iff.mp hl
    subst this
    exact .nil
  | @emp x r s os h ih =>
    cases σ1 with
    | nil => cases hl
    | cons y σ1 => exact .emp (ih (by simpa using hl) fun i n => hs (i + 1) n)
  | @val d v r s o os h1 h ih =>
    cases σ1 with
    | nil => cases hl
    | cons y σ1 =>
      have e := hs 0 (by simp [slot])
      have e : y = some v := by simpa using e
      subst e
      exact .val h1 (ih (by simpa using hl) fun i n => hs (i + 1) n)
  | @ex c w a dd v r s os ex z hd h1 h ih =>
    cases σ1 with
    | nil => cases hl
    | cons y σ1 =>
      have e := hs 0 (by simp [slot])
      have e : y = some (.ref a) := by simpa using e
      subst e
      exact .ex ex z hd h1 (ih (by simpa using hl) fun i n => hs (i + 1) n)
theorem Rel.unwipe {own : List Nat} (R : Rel k sx Z r (L2.wipe σ own) H os) (h : ∀ i ∈ own, slot r i = none) : Rel k sx Z r σ H os :=
  ⟨R.rs.any (wipe_length σ own).symm fun i n => by
    rw [wipe_get, if_neg fun m => n (h i m)], R.nd, R.nz, R.zd⟩
/-- the heap is changed at an address of none of the frame's -/
theorem Rel.upd {l : Addr} {u : HO} (R : Rel k sx Z r σ H os) (h1 : l ∉ os) (h2 : ¬ Z l) : Rel k sx Z r σ (L2.upd H l u) os :=
  ⟨R.rs.mono (fun _ z => z) fun a o e z => by
    rw [upd_ne fun (q : a = l) => z.elim (fun z => h2 (q ▸ z)) fun m => h1 (q ▸ m)]; exact e, R.nd, R.nz, fun a z => by
    obtain ⟨o, e⟩ := R.zd a z
    exact ⟨o, by rw [upd_ne fun (q : a = l) => h2 (q ▸ z)]; exact e⟩⟩
theorem pts_of {ifs : List Expr} {ia : List E} (h : SndL X k sx W P F ifs ia) (hl : ifs.length ≤ 1) : PTs X ifs (tT k sx W (evTAnd (evs P F ia))) := by
  cases h with
  | nil => exact pts_nil.weak fun σ H Q ⟨Z, r, os, R, q⟩ => q H Z os R Step.refl
  | cons n h1 t =>
    cases t with
    | nil =>
      refine (pts_one h1.t).weak fun σ H Q ⟨Z, r, os, R, q⟩ => ⟨Z, r, os, R, (Sat.bind.mp q).imp fun b r1 q1 => ?_⟩
      cases b <;> exact q1
    | cons _ _ _ => exact absurd hl (by simp)
end
end Mv

namespace Mv
open PySem L2

section
variable {X : Cx} {k : Kc} {sx : Option (Addr × Addr)} {W : WX} {P : Pg} {F : Nat → List D → FOut} {pos apos cpos p : Pos} {es : List Expr} {as : List E} {L M : List Nat}
variable {Z Z' Z0 Z1 Z2 : Addr → Prop} {H H' H0 H1 H2 : Hp} {σ σ' σ0 σ1 σ2 : St} {r r1 r2 : En} {os os' os0 os1 os2 od : List Addr}

/-- nothing may be raised -/
abbrev WN : WX := fun _ _ _ _ => False
/-- the end of a comprehension's turns -/
def CEnd (o : Out (List D)) (K : List D → En → Prop) : Prop := match o with
  | .ok acc r => K acc r
  | _ => False
/-- what is known at each turn: the list that is made is at l -/
structure CTurn (k : Kc) (sx : Option (Addr × Addr)) (σ : St) (own : List Nat) (ra : List Ar) (vs : List V) (l : Addr) (Z0 : Addr → Prop) (H0 : Hp) (os0 : List Addr) (r : En) (H : Hp) (acc : List D) : Prop where
  ex : ∃ Z os va oa, Rel k sx Z r (L2.wipe σ own) H os ∧ ArVs k Z H σ ra vs [] ∧ H l = some (.lst va) ∧ RDs k Z H acc va oa ∧ ((l :: oa) ++ os).Nodup ∧ (∀ a ∈ l :: oa, ¬ Z a) ∧ Step Z0 Z H0 H os0 ((l :: oa) ++ os)
  own : ∀ i ∈ own, slot r i = none
theorem s_comp {elt tg iter : Expr} {ifs : List Expr} {scope : Scope} {own : List (Str × Nat)} {t : Tg} {kd : ItK} {ia : List E} {a : E} (hK : X.K = k.K) (hc : X.calm = true) (hN : X.N.Nodup) (hi : PI X tg iter (tIt k sx W P F kd as)) (ok : BlkOk X.N X.env.scope scope own)
    (hg : ∀ (s : Shared) (H : Hp) (C : Addr) (cl : List (Str × Addr)) (fp : List Addr), (∀ i ∈ stT t, i ∈ own.map (·.2)) → PG (X.blk s H scope (compEnvC scope cl C X.env) fp) tg (tG k sx t))
    (hl : ifs.length ≤ 1) (ht : ∀ (s : Shared) (H : Hp) (C : Addr) (cl : List (Str × Addr)) (fp : List Addr), SndL (X.blk s H scope (compEnvC scope cl C X.env) fp) k sx WN P F ifs ia)
    (he : ∀ (s : Shared) (H : Hp) (C : Addr) (cl : List (Str × Addr)) (fp : List Addr), Snd (X.blk s H scope (compEnvC scope cl C X.env) fp) k sx WN P F elt a) (hs : ∀ x, foldedSetIterable iter X.env x = pure x)
    (htg : ∀ i ∈ stT t, i ∈ own.map (·.2)) :
    (∀ σ H Q, tV k sx W (ev P F (.comp a t kd as ia (own.map (·.2)))).v σ H Q → tLc (tIt k sx W P F kd as) (tG k sx t) (tT k sx WN (evTAnd (evs P F ia))) (tV k sx WN (ev P F a).v) (own.map (·.2)) σ H Q) := by
  intro σ H Q ⟨Z, r, os, R, q⟩
  have q : Sat k sx W Z H os σ ((evAs (evs P F as) r).bind fun ra r => match prep ra r with
    | some (as1, r1) => match (peekA r1 as1).bind (itemsN kd as.length) with
      | some ds => if (stT t).all (own.map (·.2)).contains then (match compL (chks as1 r1) (own.map (·.2)) t (evTAnd (evs P F ia)) (ev P F a).v ds [] (wipeE r1 (own.map (·.2))) with
        | .ok acc r2 => .ok (.lst .own acc) r2
        | _ => .bad) else .bad
      | none => .bad
    | none => .bad) (PostV k sx Z H os σ Q) := q
  refine ⟨Z, r, os, R, (Sat.bind.mp q).imp fun ra r1 q1 vs H1 Z1 od os1 R1 av nd nz S1 => ?_⟩
  split at q1
  · rename_i ra1 rp ep
    obtain ⟨Z2, os2, av2, R2, S2⟩ := prep_ok av R1 ep nd nz
    split at q1
    · rename_i ds ed
      obtain ⟨src, e1, e2⟩ := Option.bind_eq_some_iff.mp ed
      split at q1
      · have q2 : CEnd (compL (chks ra1 rp) (own.map (·.2)) t (evTAnd (evs P F ia)) (ev P F a).v ds [] (wipeE rp (own.map (·.2)))) fun acc r => PostV k sx Z H os σ Q (.lst .own acc) r := by
          split at q1
          · rename_i acc r2 e
            rw [e]
            exact q1
          · exact q1.elim
        clear q1
        refine it_rd e2 (peekA_ok R2 av2 e1) fun J ok => ?_
        intro l hln
        obtain ⟨os3, R3, sub3⟩ := R2.wipe (own := own.map (·.2))
        obtain ⟨R4, rd4, nd4, nz4, S4⟩ := new_lst (od := []) R3 .nil R3.nd (fun _ m => by cases m) hln
        refine ⟨fun i m H' => ∃ r acc, CTurn k sx σ (own.map (·.2)) ra1 vs l Z H os r H' acc ∧ m + i = ds.length ∧ CEnd (compL (chks ra1 rp) (own.map (·.2)) t (evTAnd (evs P F ia)) (ev P F a).v (ds.drop i) acc r) fun acc r => PostV k sx Z H os σ Q (.lst .own acc) r,
          ⟨ds.length, wipeE rp (own.map (·.2)), [], ⟨⟨Z2, os3, [], [], R4, av2.keep (fun _ z => z) (fun a o e z => S4.keep a o e fun m => R3.nz a m z) (fun _ _ => rfl), upd_same, .nil, nd4, nz4, ((S1.trans S2).less sub3).trans S4⟩, fun i m => wipeE_in m⟩, rfl, q2⟩, fun i m H5 ⟨r5, acc, C5, hm, q5⟩ => ?_⟩
        obtain ⟨⟨Z5, os5, va, oa, R5, av5, hl5, T5, nd5, nz5, S5⟩, own5⟩ := C5
        have lk : still r5 (chks ra1 rp) = true → Lk k Z5 H5 src vs := fun st => by
          refine peekA_ok R5 (av5.keep (fun _ z => z) (fun a o e _ => e) fun i m => ?_) (by rw [still_peek st]; exact e1)
          have mi := List.all_eq_true.mp st _ (chks_mem (r := rp) m)
          simp only [decide_eq_true_eq] at mi
          refine wipe_out fun n => ?_
          rw [own5 i n] at mi
          have av' := av2
          have key : ∀ {ra : List Ar} {ds : List D}, peekA rp ra = some ds → Ar.r i ∈ ra → slot rp i ≠ none := by
            intro ra
            induction ra with
            | nil => intro ds _ m; cases m
            | cons b ra ih =>
              intro ds e m
              obtain ⟨d, z1, z2⟩ := Option.bind_eq_some_iff.mp (show ((b.peek rp).bind fun d => (peekA rp ra).map fun ds => d :: ds) = some ds from e)
              obtain ⟨ds', z3, _⟩ := Option.map_eq_some_iff.mp z2
              rcases List.mem_cons.mp m with m | m
              · subst m
                intro z
                simp [Ar.peek, z] at z1
              · exact ih z3 m
          exact key e1 m mi.symm
        by_cases hlt : i < ds.length
        · rw [drop_cons hlt] at q5
          have q5 : CEnd (if still r5 (chks ra1 rp) then (match asgT t ds[i] r5 with
            | some r1 => match evTAnd (evs P F ia) r1 with
              | .ok true r2 => match (ev P F a).v r2 with
                | .ok v r3 => if acc.length < 16777216 then compL (chks ra1 rp) (own.map (·.2)) t (evTAnd (evs P F ia)) (ev P F a).v (ds.drop (i + 1)) (acc ++ [v]) (wipeE r3 (own.map (·.2))) else .bad
                | _ => .bad
              | .ok false r2 => compL (chks ra1 rp) (own.map (·.2)) t (evTAnd (evs P F ia)) (ev P F a).v (ds.drop (i + 1)) acc (wipeE r2 (own.map (·.2)))
              | _ => .bad
            | none => .bad) else .bad) fun acc r => PostV k sx Z H os σ Q (.lst .own acc) r := q5
          split at q5
          · rename_i st
            have C := lk st
            split at q5
            · rename_i r6 e6
              refine .inr ⟨ok.go i Z5 H5 C hlt, fun H' => ∃ r acc, CTurn k sx σ (own.map (·.2)) ra1 vs l Z H os r H' acc ∧ (m - 1) + (i + 1) = ds.length ∧ CEnd (compL (chks ra1 rp) (own.map (·.2)) t (evTAnd (evs P F ia)) (ev P F a).v (ds.drop (i + 1)) acc r) fun acc r => PostV k sx Z H os σ Q (.lst .own acc) r,
                fun H' h => ⟨m - 1, by omega, h⟩, fun x H6 y => ?_⟩
              obtain ⟨Z6, rd6, kp6, hz6, hn6, zd6⟩ := ok.yld i Z5 H5 x H6 ds[i] C R5.zd (List.getElem?_eq_getElem hlt) y
              obtain ⟨R6, S6⟩ := R5.grow kp6 hz6 hn6 zd6
              refine ⟨Z6, r5, os5, ds[i], [], R6, rd6, R6.nd, (fun _ m => by cases m), r6, e6, fun σ7 os7 R7 sub7 ag7 => ?_⟩
              have ws : L2.wipe σ7 (own.map (·.2)) = L2.wipe σ (own.map (·.2)) := by
                rw [← wipe_wipe (σ := σ)]
                refine wipe_ext (fun i n => ag7 i fun m => n (htg i m)) ?_
                rw [R7.rs.length, R5.rs.length, asgT_len _ _ _ _ e6]
              refine ⟨ws, Z6, r6, os7, R7, ?_⟩
              have S67 := S6.less (o2 := os7) sub7
              -- the turn's end
              have fin : ∀ {r8 : En} {H8 : Hp} {Z8 : Addr → Prop} {os8 : List Addr} {acc' : List D} {va' : List V} {oa' : List Addr}, Rel k sx Z8 r8 σ7 H8 os8 → ArVs k Z8 H8 σ ra1 vs [] → H8 l = some (.lst va') → RDs k Z8 H8 acc' va' oa' → ((l :: oa') ++ os8).Nodup → (∀ a ∈ l :: oa', ¬ Z8 a) → Step Z Z8 H H8 os ((l :: oa') ++ os8) →
                  CEnd (compL (chks ra1 rp) (own.map (·.2)) t (evTAnd (evs P F ia)) (ev P F a).v (ds.drop (i + 1)) acc' (wipeE r8 (own.map (·.2)))) (fun acc r => PostV k sx Z H os σ Q (.lst .own acc) r) →
                  ∃ r acc, CTurn k sx σ (own.map (·.2)) ra1 vs l Z H os r H8 acc ∧ (m - 1) + (i + 1) = ds.length ∧ CEnd (compL (chks ra1 rp) (own.map (·.2)) t (evTAnd (evs P F ia)) (ev P F a).v (ds.drop (i + 1)) acc r) fun acc r => PostV k sx Z H os σ Q (.lst .own acc) r := by
                intro r8 H8 Z8 os8 acc' va' oa' R8 av8 hl8 T8 nd8 nz8 S8 q8
                obtain ⟨os9, R9, sub9⟩ := R8.wipe (own := own.map (·.2))
                rw [ws] at R9
                obtain ⟨n1, n2, n3⟩ := List.nodup_append.mp nd8
                refine ⟨_, acc', ⟨⟨Z8, os9, va', oa', R9, av8, hl8, T8, List.nodup_append.mpr ⟨n1, R9.nd, fun a m b mb => n3 a m b (sub9 b mb)⟩, nz8, S8.less fun a m => ?_⟩, fun i m => wipeE_in m⟩, by omega, q8⟩
                rcases List.mem_append.mp m with m | m
                · exact List.mem_append_left _ m
                · exact List.mem_append_right _ (sub9 a m)
              -- what is held through the turn
              have held : ∀ {H8 : Hp} {Z8 : Addr → Prop} {os8 : List Addr}, os8.Nodup → Step Z5 Z8 H5 H8 os5 os8 → ArVs k Z8 H8 σ ra1 vs [] ∧ ∃ va', H8 l = some (.lst va') ∧ va'.length = acc.length ∧ RDs k Z8 H8 acc va' oa ∧ ((l :: oa) ++ os8).Nodup ∧ (∀ a ∈ l :: oa, ¬ Z8 a) ∧ Step Z Z8 H H8 os ((l :: oa) ++ os8) := by
                intro H8 Z8 os8 nd8 S8
                obtain ⟨rd, nd', nz'⟩ := (RD.own hl5 T5).carry nd5 nz5 R5 S8 nd8
                refine ⟨av5.keep S8.zs (fun a o e z => S8.keep a o e fun m => R5.nz a m z) (fun _ _ => rfl), ?_⟩
                cases rd with
                | @own _ va' _ _ h1 T8 => exact ⟨va', h1, T8.length, T8, nd', nz', S5.trans (S8.wide _)⟩
              have S57 : Step Z5 Z6 H5 H6 os5 os7 := S67
              split at q5
              · rename_i r8 e8
                rw [e8]
                intro H8 Z8 os8 R8 S8
                refine iteT ⟨Z8, r8, os8, R8, ?_⟩
                split at q5
                · rename_i v r9 e9
                  rw [e9]
                  intro y H9 Z9 oy os9 R9 rd9 nd9 nz9 S9
                  split at q5
                  · rename_i ln
                    obtain ⟨av9, va', hl9, len9, T9, ndh, nzh, Sh⟩ := held nd9 ((S57.trans S8).trans S9)
                    refine ⟨va', hl9, by rw [slE, len9]; exact ln, ?_⟩
                    obtain ⟨n1, n2, n3⟩ := List.nodup_append.mp ndh
                    have lo : l ∉ oy ++ os9 := fun m => n3 l List.mem_cons_self l m rfl
                    have zl := nzh l List.mem_cons_self
                    have up : ∀ a o, H9 a = some o → a ≠ l → L2.upd H9 l (.lst (va' ++ [y])) a = some o := fun a o e n => by rw [upd_ne n]; exact e
                    have la : l ∉ oa := (List.nodup_cons.mp n1).1
                    refine fin (oa' := oa ++ oy) (R9.upd (fun m => lo (List.mem_append_right _ m)) zl) (av9.keep (fun _ z => z) (fun a o e z => up a o e fun q => zl (q ▸ z)) (fun _ _ => rfl)) upd_same ((RDs.mono (fun _ z => z) _ _ _ (fun a o e z => up a o e fun q => z.elim (fun z => zl (q ▸ z)) fun m => la (q ▸ m)) T9).app (RDs.one (RD.mono (fun _ z => z) _ _ _ (fun a o e z => up a o e fun q => z.elim (fun z => zl (q ▸ z)) fun m => lo (q ▸ List.mem_append_left _ m)) rd9))) ?_ ?_ ?_ q5
                    · have pm : ((l :: (oa ++ oy)) ++ os9).Perm ((l :: oa) ++ (oy ++ os9)) := List.Perm.of_eq (by simp)
                      exact pm.nodup_iff.mpr ndh
                    · intro a m
                      rcases List.mem_cons.mp m with m | m
                      · rw [m]; exact zl
                      · rcases List.mem_append.mp m with m | m
                        · exact nzh a (List.mem_cons_of_mem _ m)
                        · exact nz9 a m
                    · refine Sh.trans ⟨fun a o e n => up a o e fun q => n (by rw [q]; simp), fun _ z => z, fun _ z => .inl z, fun a m => .inl ?_⟩
                      simp only [List.mem_append, List.mem_cons] at m ⊢
                      rcases m with (m | m | m) | m <;> simp [m]
                  · exact q5.elim
                · exact q5.elim
              · rename_i r8 e8
                rw [e8]
                intro H8 Z8 os8 R8 S8
                refine iteF ?_
                obtain ⟨av9, va', hl9, len9, T9, ndh, nzh, Sh⟩ := held R8.nd (S57.trans S8)
                exact fin R8 av9 hl9 T9 ndh nzh Sh q5
              · exact q5.elim
            · exact q5.elim
          · exact q5.elim
        · have hd : ds.drop i = [] := List.drop_eq_nil_of_le (by omega)
          rw [hd] at q5
          have q5 : CEnd (if still r5 (chks ra1 rp) then .ok acc r5 else .bad) fun acc r => PostV k sx Z H os σ Q (.lst .own acc) r := q5
          split at q5
          · rename_i st
            exact .inl ⟨ok.stop i Z5 H5 (lk st) (by omega), q5 (.ref l) H5 Z5 (l :: oa) os5 (R5.unwipe own5) (.own hl5 T5) nd5 nz5 S5⟩
          · exact q5.elim
      · exact q1.elim
    · exact q1.elim
  · exact q1.elim
end
end Mv

namespace Mv
open PySem L2

section
variable {X : Cx} {k : Kc} {sx : Option (Addr × Addr)} {W : WX} {P : Pg} {F : Nat → List D → FOut} {pos apos cpos p : Pos} {es : List Expr} {as : List E} {L M : List Nat}
variable {Z Z' Z0 Z1 Z2 : Addr → Prop} {H H' H0 H1 H2 : Hp} {σ σ' σ0 σ1 σ2 : St} {r r1 r2 : En} {os os' os0 os1 os2 od : List Addr}

theorem s_lc {elt tg iter : Expr} {ifs : List Expr} {scope : Scope} {own : List (Str × Nat)} {t : Tg} {kd : ItK} {ia : List E} {a : E} (hK : X.K = k.K) (hc : X.calm = true) (hN : X.N.Nodup) (hi : PI X tg iter (tIt k sx W P F kd as)) (ok : BlkOk X.N X.env.scope scope own)
    (hg : ∀ (s : Shared) (H : Hp) (C : Addr) (cl : List (Str × Addr)) (fp : List Addr), PG (X.blk s H scope (compEnvC scope cl C X.env) fp) tg (tG k sx t))
    (hl : ifs.length ≤ 1) (ht : ∀ (s : Shared) (H : Hp) (C : Addr) (cl : List (Str × Addr)) (fp : List Addr), SndL (X.blk s H scope (compEnvC scope cl C X.env) fp) k sx WN P F ifs ia)
    (he : ∀ (s : Shared) (H : Hp) (C : Addr) (cl : List (Str × Addr)) (fp : List Addr), Snd (X.blk s H scope (compEnvC scope cl C X.env) fp) k sx WN P F elt a) (hs : ∀ x, foldedSetIterable iter X.env x = pure x)
    (htg : ∀ i ∈ stT t, i ∈ own.map (·.2)) : Snd X k sx W P F (.ListComp elt [⟨tg, iter, ifs, 0⟩] scope pos) (.comp a t kd as ia (own.map (·.2))) := by
  have h := s_comp (P := P) (F := F) (W := W) (sx := sx) hK hc hN hi ok (fun s H C cl fp _ => hg s H C cl fp) hl ht he hs htg
  have pe := pe_lc (pos := pos) hc hN hi ok hg (fun s H C cl fp => pts_of (ht s H C cl fp) hl) (fun s H C cl fp => (he s H C cl fp).v) hs
  exact snd1 hK (pe.weak h) (fun _ => rfl) (by unfold ev; rfl) (pl_no fun _ => rfl) (it_no fun _ => rfl)
/-- name = [..] on one line, a plain local name -/
theorem ss_lc {i : Nat} {y : Str} {py : Pos} {elt tg iter : Expr} {ifs : List Expr} {scope : Scope} {own : List (Str × Nat)} {t : Tg} {kd : ItK} {ia : List E} {a : E} {spos : Pos} (hK : X.K = k.K) (hc : X.calm = true) (hN : X.N.Nodup) (hy : X.N[i]? = some y) (hyl : X.env.scope.names.lookup y = some .local)
    (hsw : swapsWith (.ListComp elt [⟨tg, iter, ifs, 0⟩] scope pos) (some (.Name y py)) spos.line X.env = pure true) (hi : PI X tg iter (tIt k sx W P F kd as)) (ok : BlkOk X.N X.env.scope scope own)
    (hg : ∀ (s : Shared) (H : Hp) (C : Addr) (cl : List (Str × Addr)) (fp : List Addr), PG (X.blk s H scope (compEnvC scope cl C X.env) fp) tg (tG k sx t))
    (hl : ifs.length ≤ 1) (ht : ∀ (s : Shared) (H : Hp) (C : Addr) (cl : List (Str × Addr)) (fp : List Addr), SndL (X.blk s H scope (compEnvC scope cl C X.env) fp) k sx WN P F ifs ia)
    (he : ∀ (s : Shared) (H : Hp) (C : Addr) (cl : List (Str × Addr)) (fp : List Addr), Snd (X.blk s H scope (compEnvC scope cl C X.env) fp) k sx WN P F elt a) (hs : ∀ x, foldedSetIterable iter X.env x = pure x)
    (htg : ∀ i ∈ stT t, i ∈ own.map (·.2)) : SS X k sx W P F (.Assign [.Name y py] (.ListComp elt [⟨tg, iter, ifs, 0⟩] scope pos) spos) (.asg (.nm i) (.comp a t kd as ia (own.map (·.2)))) := fun L hL => by
  have h := s_comp (P := P) (F := F) (W := W) (sx := sx) hK hc hN hi ok (fun s H C cl fp _ => hg s H C cl fp) hl ht he hs htg
  refine (ps_setLc (pos := pos) hc hN hy hyl hsw hi ok hg (fun s H C cl fp => pts_of (ht s H C cl fp) hl) (fun s H C cl fp => (he s H C cl fp).v) hs).weak fun D σ H ⟨Z, r, os, R, q⟩ => ?_
  refine h σ H _ ⟨Z, r, os, R, (SatS.bind q).imp fun d r1 q1 v H1 Z1 od os1 R1 rd nd nz S1 => ?_⟩
  split at q1
  · rename_i r2 e2
    have e2 : (if i < r1.length then some (r1.set i (some d)) else none) = some r2 := e2
    split at e2
    · rename_i c
      cases e2
      obtain ⟨os', R', sub⟩ := R1.put c rd nd nz
      exact q1 _ H1 Z1 os' R' (set_agr.mono hL) (S1.less sub)
    · cases e2
  · exact q1.elim

/-! ### stores into lists -/
/-- an item of an owned list is set -/
theorem set_fin {x : Nat} {p : List St1} {n : Int} {d d' : D} {v : V} {e : D} {w : V} (R : Rel k sx Z r σ H os) (wy : WayAt k sx Z r σ H os x p e w) (rd : RD k Z H d v od) (nd : (od ++ os).Nodup) (nz : ∀ a ∈ od, ¬ Z a)
    (u : (slot r x).bind (updP (fun _ => some d) · (p ++ [.ix n])) = some d') :
    ∃ l vs j, w = .ref l ∧ H l = some (.lst vs) ∧ Mv.ixN vs.length n = some j ∧ ∃ os', Rel k sx Z (r.set x (some d')) σ (L2.upd H l (.lst (vs.set j v))) os' ∧ Step Z Z H (L2.upd H l (.lst (vs.set j v))) (od ++ os) os' := by
  obtain ⟨d0, A, o, B, f1, f2, f3, f4, f5, plug⟩ := wy.ex
  rw [f1] at u
  have u : updP (fun _ => some d) d0 (p ++ [.ix n]) = some d' := u
  rw [updP_snoc] at u
  obtain ⟨e', g1, g2⟩ := plug _ _ u
  cases e with
  | lst kd ds =>
    cases kd with
    | own =>
      have g1 : ((Mv.ixN ds.length n).bind fun j => (ds[j]?).bind fun e => (some d).map fun e' => D.lst .own (ds.set j e')) = some e' := g1
      obtain ⟨j, h1, h2⟩ := Option.bind_eq_some_iff.mp g1
      obtain ⟨e0, h3, h4⟩ := Option.bind_eq_some_iff.mp h2
      cases h4
      obtain ⟨l, vs, o2, rfl, rfl, hl, T⟩ := own_lst f5
      obtain ⟨v0, A1, o1, B1, t1, rfl, t3, t4⟩ := T.get h3
      subst f4
      have zl : ¬ Z l := R.nz l (by simp)
      have pm0 : (od ++ (A ++ ((l :: (A1 ++ (o1 ++ B1))) ++ B))).Perm (l :: (od ++ (A ++ (A1 ++ (o1 ++ (B1 ++ B)))))) := by rw [List.perm_iff_count]; intro a; simp only [List.count_append, List.count_cons]; omega
      have nd0 := pm0.nodup_iff.mp nd
      have nl : ∀ a, (a ∈ od ∨ a ∈ A ∨ a ∈ A1 ∨ a ∈ B1 ∨ a ∈ B) → a ≠ l := fun a m e => by
        subst e
        refine (List.nodup_cons.mp nd0).1 ?_
        simp only [List.mem_append]
        rcases m with m | m | m | m | m <;> simp [m]
      have up : ∀ a o, H a = some o → a ≠ l → L2.upd H l (.lst (vs.set j v)) a = some o := fun a o e n => by rw [upd_ne n]; exact e
      have T2 := t4 d v od rd
      have T3 : RDs k Z (L2.upd H l (.lst (vs.set j v))) (ds.set j d) (vs.set j v) (A1 ++ (od ++ B1)) := RDs.mono (fun _ z => z) _ _ _ (fun a o e z => up a o e (by
        rcases z with z | m
        · exact fun q => zl (q ▸ z)
        · simp only [List.mem_append] at m
          exact nl a (by rcases m with m | m | m <;> simp [m]))) T2
      have rs := g2 Z (L2.upd H l (.lst (vs.set j v))) (fun _ z => z) (fun a o e z => up a o e (by
        rcases z with z | m | m
        · exact fun q => zl (q ▸ z)
        · exact nl a (by simp [m])
        · exact nl a (by simp [m]))) (l :: (A1 ++ (od ++ B1))) (.own upd_same T3)
      have sub : (l :: (od ++ (A ++ (A1 ++ (B1 ++ B))))).Sublist (l :: (od ++ (A ++ (A1 ++ (o1 ++ (B1 ++ B)))))) := by
        refine List.Sublist.cons₂ l (List.Sublist.append (List.Sublist.refl _) (List.Sublist.append (List.Sublist.refl _) (List.Sublist.append (List.Sublist.refl _) (List.sublist_append_right _ _))))
      have pm1 : (A ++ ((l :: (A1 ++ (od ++ B1))) ++ B)).Perm (l :: (od ++ (A ++ (A1 ++ (B1 ++ B))))) := by rw [List.perm_iff_count]; intro a; simp only [List.count_append, List.count_cons]; omega
      have mm : ∀ a ∈ A ++ ((l :: (A1 ++ (od ++ B1))) ++ B), a ∈ od ++ (A ++ ((l :: (A1 ++ (o1 ++ B1))) ++ B)) := fun a m => pm0.mem_iff.mpr (sub.subset (pm1.mem_iff.mp m))
      refine ⟨l, vs, j, rfl, hl, by rw [T.length]; exact h1, _, ⟨rs, pm1.nodup_iff.mpr (sub.nodup nd0), fun a m => ?_, fun a z => ?_⟩, fun a o e n => up a o e fun q => n (by rw [q]; simp), fun _ z => z, fun _ z => .inl z, fun a m => .inl (mm a m)⟩
      · rcases List.mem_append.mp (mm a m) with m | m
        · exact nz a m
        · exact R.nz a m
      · obtain ⟨o, e⟩ := R.zd a z
        exact ⟨o, up a o e fun q => zl (q ▸ z)⟩
    | shr => cases g1
    | giv => cases g1
  | obj kd c ks ds => cases kd <;> cases g1
  | _ => cases g1
theorem updP_get {g : D → Option D} : ∀ {p : List St1} {d d' : D}, updP g d p = some d' → ∃ e, getP d p = some e
  | [], d, d', _ => ⟨d, rfl⟩
  | s :: p, d, d', h => by
    have inner : ∀ {ds : List D} {j : Nat} {K : List D → D}, ((ds[j]?).bind fun e => (updP g e p).map fun e' => K (ds.set j e')) = some d' → ∃ e1 e, ds[j]? = some e1 ∧ getP e1 p = some e := fun {ds j K} h => by
      obtain ⟨e1, h1, h2⟩ := Option.bind_eq_some_iff.mp h
      obtain ⟨e2, h3, _⟩ := Option.map_eq_some_iff.mp h2
      obtain ⟨e, h4⟩ := updP_get h3
      exact ⟨e1, e, h1, h4⟩
    cases s with
    | ix i =>
      cases d with
      | lst kd ds =>
        cases kd with
        | own =>
          obtain ⟨j, h1, h2⟩ := Option.bind_eq_some_iff.mp (show ((Mv.ixN ds.length i).bind fun j => (ds[j]?).bind fun e => (updP g e p).map fun e' => D.lst .own (ds.set j e')) = some d' from h)
          obtain ⟨e1, e, h3, h4⟩ := inner h2
          refine ⟨e, ?_⟩
          show ((Mv.ixN ds.length i).bind fun j => ds[j]?).bind (fun e => getP e p) = some e
          rw [h1]
          show (ds[j]?).bind (fun e => getP e p) = some e
          rw [h3]
          exact h4
        | shr => cases h
        | giv => cases h
      | obj kd _ _ _ => cases kd <;> cases h
      | _ => cases h
    | fl f =>
      cases d with
      | obj kd c ks ds =>
        cases kd with
        | own =>
          obtain ⟨j, h1, h2⟩ := Option.bind_eq_some_iff.mp (show ((idxOf f ks).bind fun j => (ds[j]?).bind fun e => (updP g e p).map fun e' => D.obj .own c ks (ds.set j e')) = some d' from h)
          obtain ⟨e1, e, h3, h4⟩ := inner h2
          refine ⟨e, ?_⟩
          show ((ks.zip ds).lookup f).bind (fun e => getP e p) = some e
          have lk : ∀ {ks : List Nat} {ds : List D} {j : Nat} {e1 : D}, idxOf f ks = some j → ds[j]? = some e1 → (ks.zip ds).lookup f = some e1 := by
            intro ks
            induction ks with
            | nil => intro ds j e1 h _; cases h
            | cons k0 ks ih =>
              intro ds j e1 h g
              cases ds with
              | nil => simp at g
              | cons d0 ds =>
                unfold idxOf at h
                split at h
                · rename_i c
                  cases h
                  subst c
                  have g : d0 = e1 := by simpa using g
                  subst g
                  simp
                · rename_i c
                  obtain ⟨j', h5, rfl⟩ := Option.map_eq_some_iff.mp h
                  have c1 : (f == k0) = false := by simpa using fun z => c z.symm
                  rw [List.zip_cons_cons, List.lookup_cons, c1]
                  exact ih h5 (by simpa using g)
          rw [lk h1 h3]
          exact h4
        | shr => cases h
        | giv => cases h
      | lst kd _ => cases kd <;> cases h
      | _ => cases h
theorem asg_sub {o i : Expr} (h : ∀ l u s p, i ≠ .Slice l u s p) (v : Value) : assign (.Subscript o i pos) X.env v = (do
      let ov ← holding [v] (eval o X.env)
      let iv ← holding [v, ov] (eval i X.env)
      standAt pos
      holding [v, ov, iv] (setItem ov iv v)
      release [v, ov, iv] []) := by
  cases i <;> first | rfl | exact absurd rfl (h _ _ _ _)
theorem ss_setI {e1 e2 e3 : Expr} {a1 a2 a3 : E} {tp : Pos} (h1 : Snd X k sx W P F e1 a1) (h2 : Snd X k sx W P F e2 a2) (h3 : Snd X k sx W P F e3 a3) (hi : ∀ l u s p, e2 ≠ .Slice l u s p)
    (hs : swapsWithSole [.Subscript e1 e2 tp] e3 pos.line X.env = pure false) : SS X k sx W P F (.Assign [.Subscript e1 e2 tp] e3 pos) (.setI a1 a2 a3) := fun L _ => by
  by_cases hv : ∃ y, a1 = .var y
  · obtain ⟨y, rfl⟩ := hv
    refine (ps_asg h3.v (pg_sub h1.ar h2.v set_list (asg_sub hi)) hs rfl rfl).weak fun D σ H ⟨Z, r, os, R, q⟩ => ⟨Z, r, os, R, (SatS.bind q).imp fun d r1 q1 v H1 Z1 od os1 R1 rd nd nz S1 => ?_⟩
    dsimp only at q1
    split at q1
    · rename_i c
      refine ⟨Z1, r1, os1, R1, ?_⟩
      show Sat k sx W Z1 H1 os1 σ (if has r1 y = true then Out.ok (Ar.r y) r1 else Out.bad) (PostA k sx Z1 H1 os1 σ _)
      rw [if_pos c]
      intro o H2 Z2 o2 os2 R2 av nd2 nz2 S2
      cases av with
      | r hv =>
        have S12 : Step Z Z2 H H2 os (od ++ os2) := S1.trans (S2.wide od)
        refine ⟨Z2, r1, os2, R2, ((SatS.bind q1).base S12).imp fun n r3 q3 w H3 Z3 o3 os3 R3 rd3 nd3 nz3 S3 => ?_⟩
        cases n with
        | int n =>
          cases rd3
          dsimp only at q3
          split at q3
          · rename_i d' u
            obtain ⟨dy, s, u'⟩ := Option.bind_eq_some_iff.mp u
            obtain ⟨rd', nd', nz'⟩ := rd.carry nd nz R1 (S2.trans S3) nd3
            obtain ⟨vy, hy, wy⟩ := WayAt.nil R3.rs s (fun c w z => by subst z; cases u')
            rw [hv] at hy
            cases hy
            obtain ⟨l, vs, j, rfl, hl, hj, os', R4, S4⟩ := set_fin (p := []) R3 wy rd' nd' nz' u
            exact ⟨l, vs, n, j, rfl, rfl, hl, hj, q3 σ _ Z3 os' R4 Agr.refl (((S1.trans ((S2.trans S3).wide od))).trans S4)⟩
          · exact q3.elim
        | _ => exact q3.elim
    · exact q1.elim
  · refine (ps_asg h3.v (pg_sub h1.pl h2.it set_list (asg_sub hi)) hs rfl rfl).weak fun D σ H ⟨Z, r, os, R, q⟩ => ?_
    have q' : SatS k sx W L Z H os σ (((ev P F a3).v r).bind fun d r => match path (.idx a1 a2) r with
      | some (x, p) => match (slot r x).bind (updP (fun _ => some d) · p) with
        | some d' => .ok .next (r.set x (some d'))
        | none => .bad
      | none => .bad) D := by
      cases a1 <;> first | exact q | exact absurd ⟨_, rfl⟩ hv
    refine ⟨Z, r, os, R, (SatS.bind q').imp fun d r1 q1 v H1 Z1 od os1 R1 rd nd nz S1 => ?_⟩
    · cases z : path (.idx a1 a2) r1 with
      | none => simp only [z] at q1; exact q1.elim
      | some xp =>
        obtain ⟨y, p⟩ := xp
        simp only [z] at q1
        obtain ⟨⟨y1, p1⟩, z1, z2⟩ := Option.bind_eq_some_iff.mp (show ((path a1 r1).bind fun p => (evI a2 r1).map fun n => (p.1, p.2 ++ [.ix n])) = some (y, p) from z)
        obtain ⟨n, z3, z4⟩ := Option.map_eq_some_iff.mp z2
        cases z4
        split at q1
        · rename_i d' u
          obtain ⟨d0, s, u'⟩ := Option.bind_eq_some_iff.mp u
          rw [updP_snoc] at u'
          obtain ⟨e, ge⟩ := updP_get u'
          refine ⟨Z1, r1, os1, y1, p1, e, R1, z1, by show (slot r1 y1).bind (fun d => getP d p1) = some e; rw [s]; exact ge, fun c w y => ?_, fun w wy => ⟨Z1, r1, os1, n, R1, z3, ?_⟩⟩
          · rw [s] at y
            cases y
            cases p1 with
            | nil => cases u'
            | cons _ _ => exact getP_exn ge
          · obtain ⟨l, vs, j, rfl, hl, hj, os', R4, S4⟩ := set_fin R1 wy rd nd nz u
            exact ⟨l, vs, n, j, rfl, rfl, hl, hj, q1 σ _ Z1 os' R4 Agr.refl (S1.trans S4)⟩
        · exact q1.elim
end
end Mv

namespace Mv
open PySem L2

section
variable {X : Cx} {k : Kc} {sx : Option (Addr × Addr)} {W : WX} {P : Pg} {F : Nat → List D → FOut} {pos apos cpos p : Pos} {es : List Expr} {as : List E} {L M : List Nat}
variable {Z Z' Z0 Z1 Z2 : Addr → Prop} {H H' H0 H1 H2 : Hp} {σ σ' σ0 σ1 σ2 : St} {r r1 r2 : En} {os os' os0 os1 os2 od : List Addr}

/-- self.f = value: the instance is the frame's own -/
theorem ss_setA {x : Str} {xp tp : Pos} {i f : Nat} {n : Str} {e3 : Expr} {a3 : E} (hK : X.K = k.K) (hN : X.N[i]? = some x) (hv : Vis X.env.scope x) (hd : (x == ("__debug__" : Str)) = false) (hcd : (x == ("__classdict__" : Str)) = false) (hf : k.aN f = n) (hfn : f < k.n) (h3 : Snd X k sx W P F e3 a3)
    (hs : swapsWith e3 (some (.Attribute (.Name x xp) n tp)) pos.line X.env = pure false) : SS X k sx W P F (.Assign [.Attribute (.Name x xp) n tp] e3 pos) (.setA i f a3) := fun L _ => by
  refine (ps_fld (pe_var (pos := xp) hN hv hd hcd) h3.v hs).weak fun Dn σ H ⟨Z, r, os, R, q⟩ => ⟨Z, r, os, R, (SatS.bind q).imp fun d r1 q1 v H1 Z1 od os1 R1 rd nd nz S1 => ?_⟩
  split at q1
  · rename_i c ks ds s
    split at q1
    · rename_i cc
      simp only [Bool.and_eq_true, decide_eq_true_eq] at cc
      obtain ⟨vy, o, osr, e1, rdo, pm, R2⟩ := R1.take s (fun c w z => by cases z)
      cases rdo with
      | @oown a dx _ fs _ _ ot hl en T =>
      have hlen : fs.length = ks.length := by have := congrArg List.length en.1.1; simpa using this
      have pmd : (od ++ os1).Perm ((od ++ ot) ++ (a :: osr)) := (List.Perm.append_left od pm).trans (by rw [List.perm_iff_count]; intro b; simp only [List.count_append, List.count_cons]; omega)
      have nd' := pmd.nodup_iff.mp nd
      have zl : ¬ Z1 a := R1.nz a (pm.mem_iff.mpr (by simp))
      have na : ∀ b, (b ∈ od ∨ b ∈ ot ∨ b ∈ osr) → b ≠ a := fun b m e => by
        subst e
        have c := (List.nodup_iff_count.mp nd') b
        simp only [List.count_append, List.count_cons, beq_self_eq_true, if_true] at c
        have pos : 0 < List.count b od ∨ 0 < List.count b ot ∨ 0 < List.count b osr := by simpa only [List.count_pos_iff] using m
        omega
      obtain ⟨cls, noat⟩ := k.cls c en.2
      have up : ∀ {u : HO}, ∀ b o, H1 b = some o → b ≠ a → L2.upd H1 a u b = some o := fun b o e n => by rw [upd_ne n]; exact e
      -- the end: the new fields
      have fin : ∀ {ks' : List Nat} {ds' : List D} {o' : List Addr}, SatS k sx W L Z H os σ (.ok .next (r1.set i (some (.obj .own c ks' ds')))) Dn → (putF n v fs).map (·.1) = ks'.map k.aN → (∀ y ∈ ks', y < k.n) → RDs k Z1 H1 ds' ((putF n v fs).map (·.2)) o' → (o' ++ (a :: osr)).Nodup → (∀ b ∈ o', b ∈ od ++ ot) → Dn.nx σ (L2.upd H1 a (.ins (k.cA c) dx (putF n v fs))) := by
        intro ks' ds' o' q2 hn1 hn2 T2 nd2 sub
        have mem : ∀ b ∈ o', b ≠ a := fun b m => (List.mem_append.mp (sub b m)).elim (fun m => na b (.inl m)) fun m => na b (.inr (.inl m))
        have T3 := RDs.mono (k := k) (Z' := Z1) (H' := L2.upd H1 a (.ins (k.cA c) dx (putF n v fs))) (fun _ z => z) _ _ _ (fun b o e z => up b o e (z.elim (fun z q => zl (q ▸ z)) (mem b))) T2
        have R3 : Rel k sx Z1 (r1.set i none) σ (L2.upd H1 a (.ins (k.cA c) dx (putF n v fs))) osr := R2.upd (fun m => na a (.inr (.inr m)) rfl) zl
        have hi : i < (r1.set i none).length := by
          rw [← R2.rs.length]
          exact (List.getElem?_eq_some_iff.mp e1).1
        have pm3 : ((a :: o') ++ osr).Perm (o' ++ (a :: osr)) := by rw [List.perm_iff_count]; intro b; simp only [List.count_append, List.count_cons]; omega
        obtain ⟨os4, p4, R4⟩ := R3.give slot_set_none hi e1 (RD.oown upd_same ⟨⟨hn1, hn2⟩, en.2⟩ T3) (pm3.nodup_iff.mpr nd2) (fun b m => by
          rcases List.mem_cons.mp m with m | m
          · rw [m]; exact zl
          · rcases List.mem_append.mp (sub b m) with m | m
            · exact nz b m
            · exact R1.nz b (pm.mem_iff.mpr (by simp [m])))
        rw [List.set_set] at R4
        refine q2 σ _ Z1 os4 R4 Agr.refl (S1.trans ⟨fun b o e n => up b o e fun q => n ?_, fun _ z => z, fun _ z => .inl z, fun b m => .inl ?_⟩)
        · rw [q]; exact List.mem_append_right _ (pm.mem_iff.mpr (by simp))
        · have m := p4.mem_iff.mp m
          simp only [List.mem_append, List.mem_cons] at m
          refine pmd.mem_iff.mpr ?_
          simp only [List.mem_append, List.mem_cons]
          rcases m with (m | m) | m
          · simp [m]
          · rcases List.mem_append.mp (sub b m) with m | m <;> simp [m]
          · simp [m]
      refine ⟨.ref a, e1, a, k.cA c, dx, fs, rfl, hl, by rw [hK]; exact cls, by rw [hK, ← hf]; exact noat f hfn, by omega, ?_⟩
      -- putF by the place
      have key : ∀ {ks : List Nat} {ds : List D} {fs : List (Str × V)} {ot : List Addr}, fs.map (·.1) = ks.map k.aN → (∀ y ∈ ks, y < k.n) → RDs k Z1 H1 ds (fs.map (·.2)) ot → ks.length = ds.length → ∀ res, (match idxOf f ks with
          | some j => (ks, ds.set j d)
          | none => (ks ++ [f], ds ++ [d])) = res → (putF n v fs).map (·.1) = res.1.map k.aN ∧ (∀ y ∈ res.1, y < k.n) ∧ ∃ o', RDs k Z1 H1 res.2 ((putF n v fs).map (·.2)) o' ∧ (∀ (a : Addr) , List.count a o' ≤ List.count a od + List.count a ot) := by
        intro ks
        induction ks with
        | nil =>
          intro ds fs ot e1 e2 T e3 res e4
          cases fs with
          | cons _ _ => cases e1
          | nil =>
            cases ds with
            | cons _ _ => cases e3
            | nil =>
              cases T
              subst e4
              refine ⟨by simp [putF, idxOf, hf], fun y m => ?_, od, RDs.one rd, fun a => by simp⟩
              have : y = f := by simpa [idxOf] using m
              omega
        | cons k0 ks ih =>
          intro ds fs ot e1 e2 T e3 res e4
          cases fs with
          | nil => cases e1
          | cons p fs =>
            obtain ⟨g, w0⟩ := p
            cases ds with
            | nil => cases e3
            | cons d0 ds =>
              cases T with
              | @cons _ _ _ _ o0 ot h1 h2 =>
              simp only [List.map_cons, List.cons.injEq] at e1
              by_cases c0 : k0 = f
              · subst c0
                have : idxOf k0 (k0 :: ks) = some 0 := by simp [idxOf]
                rw [this] at e4
                subst e4
                have g1 : g = n := by rw [e1.1, hf]
                refine ⟨by simp [putF, g1, hf, e1.2], e2, od ++ ot, ?_, fun a => by simp only [List.count_append]; omega⟩
                simp only [putF, g1, if_true, List.map_cons, List.set_cons_zero]
                exact .cons rd h2
              · have g1 : g ≠ n := fun q => c0 (k.inj _ _ (e2 k0 List.mem_cons_self) hfn (by rw [← e1.1, q, hf]))
                obtain ⟨r1, r2, o', r3, r4⟩ := ih e1.2 (fun y m => e2 y (List.mem_cons_of_mem _ m)) h2 (by simpa using e3) _ rfl
                have ix : idxOf f (k0 :: ks) = (idxOf f ks).map (· + 1) := by simp [idxOf, c0]
                rw [ix] at e4
                subst e4
                cases q : idxOf f ks with
                | none =>
                  rw [q] at r1 r2 r3
                  refine ⟨by simp only [putF, if_neg g1, List.map_cons, Option.map_none]; simp only at r1; rw [r1, e1.1]; simp, fun y m => ?_, o0 ++ o', ?_, fun a => by have := r4 a; simp only [List.count_append]; omega⟩
                  · simp only [Option.map_none, List.cons_append, List.mem_cons] at m
                    rcases m with m | m
                    · exact m ▸ e2 k0 List.mem_cons_self
                    · exact r2 y m
                  · simp only [putF, if_neg g1, List.map_cons, Option.map_none, List.cons_append]
                    exact .cons h1 r3
                | some j =>
                  rw [q] at r1 r2 r3
                  refine ⟨by simp only [putF, if_neg g1, List.map_cons, Option.map_some]; simp only at r1; rw [r1, e1.1], fun y m => ?_, o0 ++ o', ?_, fun a => by have := r4 a; simp only [List.count_append]; omega⟩
                  · simp only [Option.map_some] at m
                    exact e2 y m
                  · simp only [putF, if_neg g1, List.map_cons, Option.map_some, List.set_cons_succ]
                    exact .cons h1 r3
      obtain ⟨k1, k2, o', k3, k4⟩ := key en.1.1 en.1.2 T cc.2 _ rfl
      have ndo : (o' ++ (a :: osr)).Nodup := List.nodup_iff_count.mpr fun b => by
        have c := (List.nodup_iff_count.mp nd') b
        have := k4 b
        simp only [List.count_append] at c ⊢
        omega
      have sub : ∀ b ∈ o', b ∈ od ++ ot := fun b m => by
        have := k4 b
        have m' := List.count_pos_iff.mpr m
        have : 0 < List.count b (od ++ ot) := by rw [List.count_append]; omega
        exact List.count_pos_iff.mp this
      cases q : idxOf f ks with
      | none =>
        rw [q] at k1 k2 k3
        simp only [q] at q1
        exact fin q1 k1 k2 k3 ndo sub
      | some j =>
        rw [q] at k1 k2 k3
        simp only [q] at q1
        exact fin q1 k1 k2 k3 ndo sub
    · exact q1.elim
  · exact q1.elim
end
end Mv

namespace Mv
open PySem L2

section
variable {X : Cx} {k : Kc} {sx : Option (Addr × Addr)} {W : WX} {P : Pg} {F : Nat → List D → FOut} {pos apos cpos p : Pos} {es : List Expr} {as : List E} {L M : List Nat}
variable {Z Z' Z0 Z1 Z2 : Addr → Prop} {H H' H0 H1 H2 : Hp} {σ σ' σ0 σ1 σ2 : St} {r r1 r2 : En} {os os' os0 os1 os2 od : List Addr}

theorem ss_nev {s : Stmt} : SS X k sx W P F s .nev := fun L _ => ⟨fun _ _ _ _ _ _ ⟨_, _, _, _, q⟩ => q.elim⟩
theorem RS.some (h : RS k sx Z H r σ os) : ∀ {i : Nat} {d : D}, slot r i = some d → ∃ v, σ[i]? = some (some v) := by
  induction h with
  | nil => intro i d e; simp [slot] at e
  | emp h ih =>
    intro i d e
    cases i with
    | zero => simp [slot] at e
    | succ i => exact ih (i := i) e
  | val h1 h ih =>
    intro i d e
    cases i with
    | zero => exact ⟨_, rfl⟩
    | succ i => exact ih (i := i) e
  | ex _ _ _ _ h ih =>
    intro i d e
    cases i with
    | zero => exact ⟨_, rfl⟩
    | succ i => exact ih (i := i) e
def rAug : Operator → R2
  | .Add => rI0 fun i j => .int (i + j)
  | .Sub => rI0 fun i j => .int (i - j)
  | _ => fun _ _ _ _ => False
theorem ip_aug (op : Operator) : PIp X op (rAug op) := by
  cases op <;> first
    | exact iop_add
    | exact iop_sub
    | exact fun _ _ _ _ _ _ _ _ _ _ _ _ q => q.elim
theorem augOp_ok {op : Operator} {i j z : Int} {Q : VK} (e : augOp op i j = some z) (q : Q (.int z) H) : rAug op (.int i) (.int j) H Q := by
  cases op <;> first
    | (cases e; exact ⟨i, j, rfl, rfl, q⟩)
    | cases e
theorem ss_aug {i : Nat} {x : Str} {e : Expr} {a : E} {op : Operator} {xp : Pos} (hN : X.N.Nodup) (hi : X.N[i]? = some x) (hx : Loc X.env.scope x) (hf : X.fn x = true ∨ X.env.scope.names.lookup x = some .local) (h : Snd X k sx W P F e a) :
    SS X k sx W P F (.AugAssign (.Name x xp) op e pos) (.aug i op a) := fun L hL => by
  refine (ps_aug hN hi hx h.v (ip_aug op) hf).weak fun Dn σ H ⟨Z, r, os, R, q⟩ => ?_
  have q : SatS k sx W L Z H os σ (match slot r i with
    | some _ => ((ev P F a).v r).bind fun y r => match slot r i with
      | some x => match x, y with
        | .int a, .int b => match augOp op a b with
          | some z => .ok .next (r.set i (some (.int z)))
          | none => .bad
        | _, _ => .bad
      | none => .bad
    | none => .bad) Dn := q
  split at q
  · rename_i d0 s0
    obtain ⟨x0, e0⟩ := R.rs.some s0
    refine ⟨x0, e0, Z, r, os, R, (SatS.bind q).imp fun y r1 q1 v H1 Z1 od os1 R1 rd nd nz S1 => ?_⟩
    split at q1
    · rename_i x s1
      split at q1
      · rename_i ia ib
        split at q1
        · rename_i z ez
          cases rd
          obtain ⟨v1, A, o, B, f1, f2, f3, _⟩ := R1.rs.focus s1 (fun c w z => by cases z)
          rw [e0] at f1
          cases f1
          cases f3
          refine augOp_ok ez ?_
          have hlt : i < r1.length := by
            rw [← R1.rs.length]
            exact (List.getElem?_eq_some_iff.mp e0).1
          obtain ⟨os', R', sub⟩ := R1.put hlt (.int z) R1.nd (fun _ m => by cases m)
          exact q1 _ H1 Z1 os' R' (set_agr.mono hL) (S1.less sub)
        · exact q1.elim
      · exact q1.elim
    · exact q1.elim
  · exact q.elim
theorem get_list : PGet X (rIxL X.K) := by
  intro pins s σ H x y v u Q I rx ry h
  obtain ⟨p, xs, i, z, rfl, rfl, hq, he, q⟩ := h
  cases rx
  obtain ⟨t, rfl⟩ := ry
  obtain ⟨its, r, pl, hz⟩ := I.list hq
  obtain ⟨j, h1, h2, h3, h4, h5⟩ := atI_get he
  obtain ⟨w, ew, rw'⟩ := r.get h2
  have hl := r.length
  have hn := line63
  have fin : EP X pins σ Q w s := ⟨z, H, I, rw', q⟩
  by_cases h0 : 0 ≤ i
  · have hj : i.toNat = j := by
      rw [seqIndex_of h0 h5] at h1
      exact Option.some.inj h1
    exact wpAny_getItem_list pl.isList h0 (by omega) (by rw [hj]; simpa using ew) fin
  · have hj : (i + (its.toArray.size : Int)).toNat = j := by
      rw [seqIndex_neg (by omega) h4] at h1
      rw [List.size_toArray, ← hl]
      exact Option.some.inj h1
    exact wpAny_getItem_list_neg pl.isList (by omega) (by rw [List.size_toArray] <;> omega) (by omega) (by rw [hj]; simpa using ew) fin
theorem aug_store {i : Expr} (h : ∀ l u s p, i ≠ .Slice l u s p) : ∀ ov iv new, augStore i ov iv new = (do holding [new, ov, iv] (setItem ov iv new); release [new, ov, iv] []; pure .next) := by
  intro ov iv new
  cases i <;> first | rfl | exact absurd rfl (h _ _ _ _)
/-- a list of a thing that is held comes to a new state, the thing comes back -/
theorem own_fin {rb : En} {ys : List D} {vs' : List V} {d' : D} {l : Addr} {v : V} {A B o' osb : List Addr} {x : Nat} (R : Rel k sx Z2 rb σ H2 osb) (hlt : x < rb.length) (hs : slot rb x = none) (hv : σ[x]? = some (some v)) (T : RDs k Z2 H2 ys vs' o') (hl : ∃ u, H2 l = some u)
    (nd : ((A ++ ((l :: o') ++ B)) ++ osb).Nodup) (nz : ∀ a ∈ A ++ ((l :: o') ++ B), ¬ Z2 a)
    (bk : ∀ Z' H', (∀ a, Z2 a → Z' a) → (∀ a o, H2 a = some o → (Z2 a ∨ a ∈ A ∨ a ∈ B) → H' a = some o) → ∀ o', RD k Z' H' (.lst .own ys) (.ref l) o' → RD k Z' H' d' v (A ++ (o' ++ B))) :
    ∃ os3, Rel k sx Z2 (rb.set x (some d')) σ (L2.upd H2 l (.lst vs')) os3 ∧ Step Z2 Z2 H2 (L2.upd H2 l (.lst vs')) ((A ++ ((l :: o') ++ B)) ++ osb) os3 := by
  have zl : ¬ Z2 l := nz l (by simp)
  have dj : ∀ a, (a ∈ o' ∨ a ∈ A ∨ a ∈ B ∨ a ∈ osb) → a ≠ l := by
    intro a m e
    subst e
    have c := (List.nodup_iff_count.mp nd) a
    simp only [List.count_append, List.count_cons, beq_self_eq_true, if_true] at c
    have pos : 0 < List.count a o' ∨ 0 < List.count a A ∨ 0 < List.count a B ∨ 0 < List.count a osb := by simpa only [List.count_pos_iff] using m
    omega
  have up : ∀ a o, H2 a = some o → a ≠ l → L2.upd H2 l (.lst vs') a = some o := fun a o e n => by rw [upd_ne n]; exact e
  have T' := RDs.mono (k := k) (Z' := Z2) (H' := L2.upd H2 l (.lst vs')) (fun _ z => z) _ _ _ (fun a o e z => up a o e (z.elim (fun z q => zl (q ▸ z)) fun m => dj a (.inl m))) T
  have R' := R.upd (u := .lst vs') (fun m => dj l (.inr (.inr (.inr m))) rfl) zl
  have rd := bk Z2 (L2.upd H2 l (.lst vs')) (fun _ z => z) (fun a o e z => up a o e (by
    rcases z with z | z | z
    · exact fun q => zl (q ▸ z)
    · exact dj a (.inr (.inl z))
    · exact dj a (.inr (.inr (.inl z))))) (l :: o') (.own upd_same T')
  obtain ⟨os3, p3, R3⟩ := R'.give hs hlt hv rd nd nz
  exact ⟨os3, R3, fun a o e n => up a o e fun q => n (by rw [q]; simp), fun _ z => z, fun _ z => .inl z, fun a m => .inl (p3.mem_iff.mp m)⟩
/-- a[i] op= e: the place's holder is lent meanwhile -/
theorem ss_augI {e1 e2 e3 : Expr} {a1 a2 a3 : E} {op : Operator} {tp : Pos} (hK : X.K = k.K) (h1 : Snd X k sx W P F e1 a1) (h2 : Snd X k sx W P F e2 a2) (h3 : Snd X k sx W P F e3 a3) (hi : ∀ l u s p, e2 ≠ .Slice l u s p) : SS X k sx W P F (.AugAssign (.Subscript e1 e2 tp) op e3 pos) (.augI a1 a2 op a3) := fun L hL => by
  refine (ps_augS h1.pl h2.it get_list h3.v (ip_aug op) set_list (aug_store hi)).weak fun Dn σ H ⟨Z, r, os, R, q⟩ => ?_
  have q : SatS k sx W L Z H os σ (match path (.idx a1 a2) r with
    | some (x, p) => match peekP r x p with
      | some (.int old) => match (slot r x).bind (updP some · p) with
        | some _ => ((ev P F a3).v (r.set x none)).bind fun y r2 => match y with
          | .int b => match augOp op old b with
            | some z => match (slot r x).bind (updP (fun _ => some (.int z)) · p) with
              | some d' => if slot r2 x = none ∧ x < r2.length then .ok .next (r2.set x (some d')) else .bad
              | none => .bad
            | none => .bad
          | _ => .bad
        | none => .bad
      | _ => .bad
    | none => .bad) Dn := q
  cases z : path (.idx a1 a2) r with
  | none => simp only [z] at q; exact q.elim
  | some xp =>
    obtain ⟨y, p⟩ := xp
    simp only [z] at q
    obtain ⟨⟨y1, p1⟩, z1, z2⟩ := Option.bind_eq_some_iff.mp (show ((path a1 r).bind fun p => (evI a2 r).map fun n => (p.1, p.2 ++ [.ix n])) = some (y, p) from z)
    obtain ⟨n, z3, z4⟩ := Option.map_eq_some_iff.mp z2
    cases z4
    split at q
    · rename_i old pk
      obtain ⟨d0, s, pk'⟩ := Option.bind_eq_some_iff.mp (show (slot r y1).bind (fun d => getP d (p1 ++ [.ix n])) = some (.int old) from pk)
      rw [getP_snoc] at pk'
      obtain ⟨e, ge, gi⟩ := Option.bind_eq_some_iff.mp pk'
      have ne0 : ∀ c w, d0 ≠ .exn c w := fun c w y => by
        subst y
        cases p1 with
        | nil => cases ge; cases gi
        | cons _ _ => exact getP_exn ge
      refine ⟨Z, r, os, y1, p1, e, R, z1, by show (slot r y1).bind (fun d => getP d p1) = some e; rw [s]; exact ge, fun c w y => ?_, fun w wy => ⟨Z, r, os, n, R, z3, ?_⟩⟩
      · rw [s] at y
        exact ne0 c w (Option.some.inj y)
      · obtain ⟨d1, v, A0, B0, A, o, B, f1, f2, f3, f4, f5, f6, f7, f8, _, f9⟩ := wy.inn
        obtain rfl : d0 = d1 := by rw [s] at f1; exact Option.some.inj f1
        split at q
        · rename_i dz uz
          rw [s] at uz
          have uz : updP Option.some d0 (p1 ++ [.ix n]) = some dz := uz
          rw [updP_snoc] at uz
          obtain ⟨ez, hz1, _⟩ := f8 _ _ uz
          cases e with
          | lst kd ds =>
            cases kd with
            | own =>
              obtain ⟨j, hj, hd⟩ := Option.bind_eq_some_iff.mp (show ((Mv.ixN ds.length n).bind fun j => ds[j]?) = some (.int old) from gi)
              obtain ⟨l, vs, o2, rfl, rfl, hl, T⟩ := own_lst f7
              obtain ⟨v0, A1, o1, B1, t1, rfl, t3, t4⟩ := T.get hd
              cases t3
              subst f5
              have pm : (A0 ++ ((A ++ ((l :: (A1 ++ ([] ++ B1))) ++ B)) ++ B0)).Perm ((A ++ ((l :: (A1 ++ ([] ++ B1))) ++ B)) ++ (A0 ++ B0)) := by rw [List.perm_iff_count]; intro a; simp only [List.count_append]; omega
              have nd := pm.nodup_iff.mp R.nd
              have R0 : Rel k sx Z (r.set y1 none) σ H (A0 ++ B0) := ⟨f9, (List.nodup_append.mp nd).2.1, fun a m => R.nz a (pm.mem_iff.mpr (List.mem_append_right _ m)), R.zd⟩
              have nz0 : ∀ a ∈ A ++ ((l :: (A1 ++ ([] ++ B1))) ++ B), ¬ Z a := fun a m => R.nz a (pm.mem_iff.mpr (List.mem_append_left _ m))
              have S0 := (Step.refl (Z := Z) (H := H) (os := A0 ++ ((A ++ ((l :: (A1 ++ ([] ++ B1))) ++ B)) ++ B0))).perm pm.symm
              refine ⟨l, vs, n, .int old, rfl, rfl, SqL.of hl, atI_of (by rw [T.length]; exact hj) t1, Z, r.set y1 none, A0 ++ B0, R0, ((SatS.bind q).base S0).imp fun yd r2 q2 yv H2 Z2 od2 os2 R2 rd2 nd2 nz2 S2 => ?_⟩
              split at q2
              · rename_i b
                cases rd2
                split at q2
                · rename_i zz ezz
                  split at q2
                  · rename_i d' u
                    split at q2
                    · rename_i c
                      rw [s] at u
                      have u : updP (fun _ => Option.some (.int zz)) d0 (p1 ++ [.ix n]) = some d' := u
                      rw [updP_snoc] at u
                      obtain ⟨e', g1, bk⟩ := f8 _ _ u
                      have g1 : ((Mv.ixN ds.length n).bind fun j => (ds[j]?).bind fun e => (Option.some (D.int zz)).map fun e' => D.lst .own (ds.set j e')) = Option.some e' := g1
                      rw [hj] at g1
                      simp only [Option.bind_some, hd, Option.map_some, Option.some.injEq] at g1
                      subst g1
                      have out : ∀ a ∈ A ++ ((l :: (A1 ++ ([] ++ B1))) ++ B), a ∉ A0 ++ B0 := fun a m n => (List.nodup_append.mp nd).2.2 a m a n rfl
                      have kp : ∀ a o, H a = Option.some o → (Z a ∨ a ∈ A ++ ((l :: (A1 ++ ([] ++ B1))) ++ B)) → H2 a = Option.some o := fun a o e z => S2.keep a o e (z.elim (fun z n => R0.nz a n z) (out a))
                      have T' := RDs.mono S2.zs _ _ _ (fun a o e z => kp a o e (z.imp id fun m => by simp only [List.mem_append, List.mem_cons] at m ⊢; rcases m with m | m | m <;> simp [m])) (t4 (.int zz) (.int zz) [] (.int zz))
                      have dm : ∀ a ∈ A ++ ((l :: (A1 ++ ([] ++ B1))) ++ B), ∃ o, H a = Option.some o := RD.dom _ _ _ f6
                      have n2 : ((A ++ ((l :: (A1 ++ ([] ++ B1))) ++ B)) ++ os2).Nodup := List.nodup_append.mpr ⟨(List.nodup_append.mp nd).1, R2.nd, fun a m b mb e => by
                        subst e
                        rcases S2.on a (List.mem_append_right _ mb) with x | x
                        · exact out a m x
                        · obtain ⟨o, q⟩ := dm a m; rw [q] at x; cases x⟩
                      have z2 : ∀ a ∈ A ++ ((l :: (A1 ++ ([] ++ B1))) ++ B), ¬ Z2 a := fun a m z => by
                        rcases S2.zn a z with x | x | x
                        · exact nz0 a m x
                        · exact out a m x
                        · obtain ⟨o, q⟩ := dm a m; rw [q] at x; cases x
                      have hl2 := kp l _ hl (.inr (by simp))
                      obtain ⟨os3, R3, S3⟩ := own_fin R2 c.2 c.1 f3 T' ⟨_, hl2⟩ n2 z2 (fun Z' H' hZ hH o' rd => bk Z' H' (fun a z => hZ a (S2.zs a z)) (fun a o e z => hH a o (kp a o e (z.imp id fun m => by rcases m with m | m <;> simp [m])) (z.imp (S2.zs a) id)) o' rd)
                      exact augOp_ok ezz ⟨l, vs, n, j, rfl, rfl, hl2, by rw [T.length]; exact hj, q2 σ _ Z2 os3 R3 Agr.refl ((S0.trans ((S2.less fun a m => List.mem_append_right _ m).wide _)).trans S3)⟩
                    · exact q2.elim
                  · exact q2.elim
                · exact q2.elim
              · exact q2.elim
            | shr => cases hz1
            | giv => cases hz1
          | obj kd c ks ds => cases kd <;> cases hz1
          | _ => cases hz1
        · exact q.elim
    · exact q.elim
end
end Mv

namespace L2
open PySem PySem.Spec PyProof.Rows
/-- three names at once -/
def tPar3 (i j l : Nat) (ta : TA) : TS := fun D σ H => ta σ H fun vs H1 => ∃ v w u, vs = [v, w, u] ∧ D.nx (((σ.set i (some v)).set j (some w)).set l (some u)) H1
theorem ps_par3 {X : Cx} {i j l : Nat} {x y z : Str} {a b c : Expr} {ta : TA} {px py pz pt pos : Pos} {kt k2 pt2} (hc : X.calm = true) (hN : X.N.Nodup) (hi : X.N[i]? = some x) (hj : X.N[j]? = some y) (hl : X.N[l]? = some z) (hij : i ≠ j) (hil : i ≠ l) (hjl : j ≠ l)
    (hx : X.env.scope.names.lookup x = some .local) (hy : X.env.scope.names.lookup y = some .local) (hz : X.env.scope.names.lookup z = some .local) (ha : PA X [a, b, c] ta)
    (hw : swappedStores [.Tuple [.Name x px, .Name y py, .Name z pz] kt pt] (.Tuple [a, b, c] k2 pt2) X.env = pure (some [x, y, z])) :
    PS X (.Assign [.Tuple [.Name x px, .Name y py, .Name z pz] kt pt] (.Tuple [a, b, c] k2 pt2) pos) (tPar3 i j l ta) := by
  refine ⟨fun pins s σ H D I h => ?_⟩
  rw [exec_Assign_arm]
  refine wpAny_bind (wpAny_standAt ?_)
  rw [show swapsWithSole [.Tuple [.Name x px, .Name y py, .Name z pz] kt pt] (.Tuple [a, b, c] k2 pt2) pos.line X.env = pure false from rfl]
  refine wpAny_bind (wpAny_pure ?_)
  rw [if_neg (by decide)]
  refine wpAny_bind (Tuple_ (thn (ha.run _ pins s σ H _ I h) fun us s1 ⟨vs, H1, I1, r1, q1⟩ => ?_))
  obtain ⟨v, w, t, e1, q1⟩ := q1
  subst e1
  obtain ⟨u1, u2, u3, rfl, rv, rw', rt⟩ : ∃ u1 u2 u3, us = [u1, u2, u3] ∧ RelV v u1 ∧ RelV w u2 ∧ RelV t u3 := by
    cases r1 with
    | cons p q =>
      cases q with
      | cons p' q' =>
        cases q' with
        | cons p2 q2 =>
          cases q2
          exact ⟨_, _, _, rfl, p, p', p2⟩
  refine wpAny_newObj_type ?_ (by show 3 ≤ sizeLine; decide)
  have I2 : Inv X pins σ H1 { s1 with heap := s1.heap.push { cls := .type "tuple", data := .seq [u1, u2, u3].toArray } } := I1.kept (t' := s1.toks) fun b o e => Heap.get?_push_of_some _ e
  rw [hw]
  refine wpAny_bind (wpAny_pure ?_)
  show wpAny (model X.prog X.w) X.A (do rule "assign.swapped-stores"; let items ← unpackItems (.ref s1.heap.objs.size) 3 none; assignInOrder [fun v => bindName X.env z v, fun v => bindName X.env y v, fun v => bindName X.env x v] items.reverse; pure Flow.next) _ _ _
  refine wpAny_bind (wpAny_rule (wpAny_bind (unpackItems_tuple (items := #[u1, u2, u3]) (I.ok.hd hc) (IsTup.new s1.heap _) fun h' hx' => ?_)))
  have I3 := I2.kept (h' := h') (t' := s1.toks) fun b o e => hx' b o (Nat.ne_of_lt (Heap.lt_size e)) e
  show wpAny _ _ (assignInOrder [fun v => bindName X.env z v, fun v => bindName X.env y v, fun v => bindName X.env x v] [u3, u2, u1] >>= fun _ => pure Flow.next) _ _ _
  refine wpAny_bind (assignInOrder_cons (wpAny_bindName (store_ok I3 hN hl (.inl hz) rt (fun s2 I4 => ?_) (.inr hz))))
  refine assignInOrder_cons (wpAny_bindName (store_ok I4 hN hj (.inl hy) rw' (fun s3 I5 => ?_) (.inr hy)))
  refine assignInOrder_cons (wpAny_bindName (store_ok I5 hN hi (.inl hx) rv (fun s4 I6 => assignInOrder_nil (wpAny_pure ?_)) (.inr hx)))
  have e : ((σ.set l (some t)).set j (some w)).set i (some v) = ((σ.set i (some v)).set j (some w)).set l (some t) := by
    rw [List.set_comm _ _ (Ne.symm hij), List.set_comm _ _ (Ne.symm hil), List.set_comm _ _ (Ne.symm hjl)]
  rw [e] at I6
  exact ⟨_, H1, I6, q1⟩
end L2
namespace Mv
open PySem L2
theorem par2_sw {x y : Str} {px py pt pt2 : Pos} {kt k2 : Nat} {a b : Expr} {env : Env} (hk : env.scope.kind = .function) (hx : env.scope.names.lookup x = some .local) (hy : env.scope.names.lookup y = some .local) (hp : (py.line == px.line) = true) (hxy : x ≠ y)
    (ha : nst a = true) (hb : nst b = true) (f1 : [a, b].all (foldedForSure 8) = false) (f2 : [a, b].all (constantsAlone 8) = false) :
    swappedStores [.Tuple [.Name x px, .Name y py] kt pt] (.Tuple [a, b] k2 pt2) env = pure (some [x, y]) := by
  have kx : env.kindOf x = some .local := hx
  have ky : env.kindOf y = some .local := hy
  have hb' : env.blockKind = .function := by unfold Env.blockKind; rw [hk]; rfl
  have dd : ([x, y] : List Str).eraseDups.length = 2 := by
    have : (x == y) = false := beq_eq_false_iff_ne.mpr hxy
    have h2 : (y == x) = false := beq_eq_false_iff_ne.mpr (Ne.symm hxy)
    simp [List.eraseDups_cons, h2]
  unfold swappedStores
  simp [hb', kx, ky, f1, f2, Expr.pos, hp, dd, List.filterMap]
  intro h
  exfalso
  rcases h with h | h
  · cases a <;> first | (cases ha; done) | (cases h; done)
  · cases b <;> first | (cases hb; done) | (cases h; done)
theorem par3_sw {x y z : Str} {px py pz pt pt2 : Pos} {kt k2 : Nat} {a b c : Expr} {env : Env} (hk : env.scope.kind = .function) (hx : env.scope.names.lookup x = some .local) (hy : env.scope.names.lookup y = some .local) (hz : env.scope.names.lookup z = some .local) (hp : (py.line == px.line) = true) (hp2 : (pz.line == px.line) = true) (hxy : x ≠ y) (hxz : x ≠ z) (hyz : y ≠ z)
    (ha : nst a = true) (hb : nst b = true) (hc : nst c = true) (f1 : [a, b, c].all (foldedForSure 8) = false) (f2 : [a, b, c].all (constantsAlone 8) = false) :
    swappedStores [.Tuple [.Name x px, .Name y py, .Name z pz] kt pt] (.Tuple [a, b, c] k2 pt2) env = pure (some [x, y, z]) := by
  have kx : env.kindOf x = some .local := hx
  have ky : env.kindOf y = some .local := hy
  have kz : env.kindOf z = some .local := hz
  have hb' : env.blockKind = .function := by unfold Env.blockKind; rw [hk]; rfl
  have dd : ([x, y, z] : List Str).eraseDups.length = 3 := by
    have h2 : (y == x) = false := beq_eq_false_iff_ne.mpr (Ne.symm hxy)
    have h3 : (z == x) = false := beq_eq_false_iff_ne.mpr (Ne.symm hxz)
    have h4 : (z == y) = false := beq_eq_false_iff_ne.mpr (Ne.symm hyz)
    simp [List.eraseDups_cons, h2, h3, h4]
  unfold swappedStores
  simp [hb', kx, ky, kz, f1, f2, Expr.pos, hp, hp2, dd, List.filterMap]
  intro h
  exfalso
  rcases h with h | h | h
  · cases a <;> first | (cases ha; done) | (cases h; done)
  · cases b <;> first | (cases hb; done) | (cases h; done)
  · cases c <;> first | (cases hc; done) | (cases h; done)

section
variable {X : Cx} {k : Kc} {sx : Option (Addr × Addr)} {W : WX} {P : Pg} {F : Nat → List D → FOut} {pos : Pos} {L : List Nat}
theorem ix_ne {x y : Str} {i j : Nat} (hi : X.N[i]? = some x) (hj : X.N[j]? = some y) (n : x ≠ y) : i ≠ j := fun e => by
  subst e
  rw [hi] at hj
  exact n (Option.some.inj hj)
/-- the values of a display that are stored one by one -/
theorem par_open {σ : St} {H : Hp} {Z : Addr → Prop} {r : En} {os : List Addr} {es : List Expr} {as : List E} {ts : List Tg} {Dn : Ends} (R : Rel k sx Z r σ H os) (q : SatS k sx W L Z H os σ (evS P F (.asg (.tp ts) (.tup as)) r) Dn) :
    tL k sx W (evEs (evs P F as)) σ H fun vs H1 => ∃ (Z1 : Addr → Prop) (ds : List Mv.D) (r1 r2 : En) (os1 : List Addr), Rel k sx Z1 r1 σ H1 os1 ∧ RDs k Z1 H1 ds vs [] ∧ asgT.asgs ts ds r1 = some r2 ∧ ∀ σ' os', Rel k sx Z1 r2 σ' H1 os' → (∀ a ∈ os', a ∈ os1) → Agr L σ σ' → Dn.nx σ' H1 := by
  have q : SatS k sx W L Z H os σ (((evEs (evs P F as) r).bind fun ds r => if fits ds then Out.ok (Mv.D.tup (Mv.D.frzs ds)) r else .bad).bind fun d r => match asgT (.tp ts) d r with
    | some r1 => .ok .next r1
    | none => .bad) Dn := q
  refine ⟨Z, r, os, R, (Sat.bind.mp (SatS.bind q)).imp fun ds r1 q1 vs H1 Z1 od os1 R1 T nd nz S1 => ?_⟩
  split at q1
  · have q1 : SatS k sx W L Z H os σ (match asgT.asgs ts (Mv.D.frzs ds) r1 with
      | some r1 => .ok .next r1
      | none => .bad) Dn := q1
    split at q1
    · rename_i r2 e
      obtain ⟨R2, S2⟩ := R1.share nd (RDs.dom _ _ _ T)
      exact ⟨_, Mv.D.frzs ds, r1, r2, os1, R2, RDs.frz (fun a z => .inl z) _ _ _ (fun a m => .inr m) T, e, fun σ' os' R3 sub ag => q1 σ' H1 _ os' R3 ag ((S1.trans S2).less sub)⟩
    · exact q1.elim
  · exact q1.elim
theorem ss_par2 {i j : Nat} {x y : Str} {a b : Expr} {ea eb : E} {px py pt pt2 : Pos} {kt k2 : Nat} (hc : X.calm = true) (hN : X.N.Nodup) (hi : X.N[i]? = some x) (hj : X.N[j]? = some y) (hxy : x ≠ y) (hk : X.env.scope.kind = .function)
    (hx : X.env.scope.names.lookup x = some .local) (hy : X.env.scope.names.lookup y = some .local) (hp : (py.line == px.line) = true) (h : SndL X k sx W P F [a, b] [ea, eb]) (ha : nst a = true) (hb : nst b = true) (f1 : [a, b].all (foldedForSure 8) = false) (f2 : [a, b].all (constantsAlone 8) = false) :
    SS X k sx W P F (.Assign [.Tuple [.Name x px, .Name y py] kt pt] (.Tuple [a, b] k2 pt2) pos) (.asg (.tp [.nm i, .nm j]) (.tup [ea, eb])) := fun L hL => by
  refine (ps_par hc hN hi hj (ix_ne hi hj hxy) hx hy (pa_es h) (par2_sw hk hx hy hp hxy ha hb f1 f2)).weak fun D σ H ⟨Z, r, os, R, q⟩ => ?_
  obtain ⟨Z0, r0, os0, R0, q0⟩ := par_open (es := [a, b]) R q
  refine ⟨Z0, r0, os0, R0, q0.imp fun ds r1 q1 vs H1 Z1 od os1 R1 T nd nz S1 => ?_⟩
  obtain ⟨Z2, ds2, r2, r3, os2, R2, T2, e, fin⟩ := q1 vs H1 Z1 od os1 R1 T nd nz S1
  have hl := asgs_len e
  match ds2, hl with
  | [d1, d2], _ =>
    obtain ⟨v, us, rfl, rd1, T3⟩ := T2.split1
    obtain ⟨w, us2, rfl, rd2, T4⟩ := T3.split1
    cases T4
    obtain ⟨ra, g1, g2⟩ := Option.bind_eq_some_iff.mp (show ((asgT (.nm i) d1 r2).bind fun r' => (asgT (.nm j) d2 r').bind fun r' => some r') = some r3 from e)
    obtain ⟨rb, g3, g4⟩ := Option.bind_eq_some_iff.mp g2
    cases g4
    have g1 : (if i < r2.length then some (r2.set i (some d1)) else none) = some ra := g1
    have g3 : (if j < ra.length then some (ra.set j (some d2)) else none) = some r3 := g3
    split at g1
    · rename_i c1
      cases g1
      split at g3
      · rename_i c2
        cases g3
        obtain ⟨o1, Ra, s1⟩ := R2.put c1 rd1 R2.nd (fun _ m => by cases m)
        obtain ⟨o2, Rb, s2⟩ := Ra.put c2 rd2 Ra.nd (fun _ m => by cases m)
        exact ⟨v, w, rfl, fin _ o2 Rb (fun a m => s1 a (s2 a m)) ((set_agr.mono fun q m => hL q (by simp [stS, stT, stTs] at m ⊢; simp [m])).trans (set_agr.mono fun q m => hL q (by simp [stS, stT, stTs] at m ⊢; simp [m])))⟩
      · cases g3
    · cases g1
theorem ss_par3 {i j l : Nat} {x y z : Str} {a b c : Expr} {ea eb ec : E} {px py pz pt pt2 : Pos} {kt k2 : Nat} (hc : X.calm = true) (hN : X.N.Nodup) (hi : X.N[i]? = some x) (hj : X.N[j]? = some y) (hlz : X.N[l]? = some z) (hxy : x ≠ y) (hxz : x ≠ z) (hyz : y ≠ z) (hk : X.env.scope.kind = .function)
    (hx : X.env.scope.names.lookup x = some .local) (hy : X.env.scope.names.lookup y = some .local) (hz : X.env.scope.names.lookup z = some .local) (hp : (py.line == px.line) = true) (hp2 : (pz.line == px.line) = true) (h : SndL X k sx W P F [a, b, c] [ea, eb, ec]) (ha : nst a = true) (hb : nst b = true) (hcc : nst c = true) (f1 : [a, b, c].all (foldedForSure 8) = false) (f2 : [a, b, c].all (constantsAlone 8) = false) :
    SS X k sx W P F (.Assign [.Tuple [.Name x px, .Name y py, .Name z pz] kt pt] (.Tuple [a, b, c] k2 pt2) pos) (.asg (.tp [.nm i, .nm j, .nm l]) (.tup [ea, eb, ec])) := fun L hL => by
  refine (ps_par3 hc hN hi hj hlz (ix_ne hi hj hxy) (ix_ne hi hlz hxz) (ix_ne hj hlz hyz) hx hy hz (pa_es h) (par3_sw hk hx hy hz hp hp2 hxy hxz hyz ha hb hcc f1 f2)).weak fun D σ H ⟨Z, r, os, R, q⟩ => ?_
  obtain ⟨Z0, r0, os0, R0, q0⟩ := par_open (es := [a, b, c]) R q
  refine ⟨Z0, r0, os0, R0, q0.imp fun ds r1 q1 vs H1 Z1 od os1 R1 T nd nz S1 => ?_⟩
  obtain ⟨Z2, ds2, r2, r3, os2, R2, T2, e, fin⟩ := q1 vs H1 Z1 od os1 R1 T nd nz S1
  have hl := asgs_len e
  match ds2, hl with
  | [d1, d2, d3], _ =>
    obtain ⟨v, us, rfl, rd1, T3⟩ := T2.split1
    obtain ⟨w, us2, rfl, rd2, T4⟩ := T3.split1
    obtain ⟨u, us3, rfl, rd3, T5⟩ := T4.split1
    cases T5
    obtain ⟨ra, g1, g2⟩ := Option.bind_eq_some_iff.mp (show ((asgT (.nm i) d1 r2).bind fun r' => (asgT (.nm j) d2 r').bind fun r' => (asgT (.nm l) d3 r').bind fun r' => some r') = some r3 from e)
    obtain ⟨rb, g3, g4⟩ := Option.bind_eq_some_iff.mp g2
    obtain ⟨rc, g5, g6⟩ := Option.bind_eq_some_iff.mp g4
    cases g6
    have g1 : (if i < r2.length then some (r2.set i (some d1)) else none) = some ra := g1
    have g3 : (if j < ra.length then some (ra.set j (some d2)) else none) = some rb := g3
    have g5 : (if l < rb.length then some (rb.set l (some d3)) else none) = some r3 := g5
    split at g1
    · rename_i c1
      cases g1
      split at g3
      · rename_i c2
        cases g3
        split at g5
        · rename_i c3
          cases g5
          obtain ⟨o1, Ra, s1⟩ := R2.put c1 rd1 R2.nd (fun _ m => by cases m)
          obtain ⟨o2, Rb, s2⟩ := Ra.put c2 rd2 Ra.nd (fun _ m => by cases m)
          obtain ⟨o3, Rc, s3⟩ := Rb.put c3 rd3 Rb.nd (fun _ m => by cases m)
          exact ⟨v, w, u, rfl, fin _ o3 Rc (fun a m => s1 a (s2 a (s3 a m))) (((set_agr.mono fun q m => hL q (by simp [stS, stT, stTs] at m ⊢; simp [m])).trans (set_agr.mono fun q m => hL q (by simp [stS, stT, stTs] at m ⊢; simp [m]))).trans (set_agr.mono fun q m => hL q (by simp [stS, stT, stTs] at m ⊢; simp [m])))⟩
        · cases g5
      · cases g3
    · cases g1
end
end Mv

set_option maxHeartbeats 2000000
/-! An own exception whose inherited __init__ says super().__init__("refused") and stores what it is given. -/
namespace Mv
open PySem PySem.W PySem.Calls PyProof.Rows PySem.HandSPX
def rfArgs (p1 p2 : Pos) : Arguments := { posonlyargs := [], args := [{ arg := "self", annotation := none, pos := p1 }, { arg := "what", annotation := none, pos := p2 }], vararg := none, kwonlyargs := [], kw_defaults := [], kwarg := none, defaults := [] }
def rfBody (p0 p1 p2 p3 p4 p5 q1 q2 q3 q4 : Pos) (j : Nat) : List Stmt := [.Expr (.Call (.Attribute (.Call (.Name "super" p0) [] [] p1) "__init__" p2) [.Constant (.str "refused") j p3] [] p4) p5, .Assign [.Attribute (.Name "self" q1) "what" q2] (.Name "what" q3) q4]
def rfScope : Scope := { kind := .function, names := [(PySem.Str.ofString "self", .local), (PySem.Str.ofString "what", .local), (PySem.Str.ofString "__class__", .free), (PySem.Str.ofString "super", .globalImplicit)], isGenerator := false, isCoroutine := false, more := [] }
/-- what the written part says of __init__, at fI, in the class at B, whose cell is at cc -/
structure RfFn (P : Program) (K : Frag) (B cc fI : Addr) : Prop where
  fn : ∃ (oc : Value) (od : Option Addr) (doc pm : Value) (an : Option Addr) (cda : Addr) (ct : Value) (osl : Array (Option Value)) (p1 p2 : Pos) (q0 q1 q2 q3 q4 q5 q6 q7 q8 q9 : Pos) (j : Nat),
    K.lookup fI = some ⟨oc, od, .func (ksFn "__init__" "Refused.__init__" (rfArgs p1 p2) (rfBody q0 q1 q2 q3 q4 q5 q6 q7 q8 q9 j) rfScope .none .none doc pm an (.ref cda) ct cc), osl⟩ ∧ codeIn K (.ref cda) "Refused.__init__" = true ∧ (q2.endLine == q4.line) = true ∧
    ∃ (ccl : Value) (cdd : Option Addr) (ccs : Array (Option Value)) (vs : Array Value) (file : Str) (tf : Tok), K.lookup cda = some ⟨ccl, cdd, .fields vs, ccs⟩ ∧ vs[2]? = some (.str file tf) ∧ ((P.main.file : Str) == file) = true
  cell : ∃ cl cld csl, K.lookup cc = some ⟨cl, cld, .cell (some (.ref B)), csl⟩
  base : ∃ cd, clsIn K B = some cd
  sup : nsIn K mainGlobals "super" = some none
  top : (P.main.scope.names.lookup ("super" : Str)).isSome = false
  any : nsIn K cStatics "thirdparty.any" = some none
  tI : typeIn K (.ref fI) = some (.type "function")
/-- .. of a class over it, at C -/
structure RfCls (K : Frag) (bmB : List Value) (B C fI : Addr) : Prop where
  cls : ∃ nm q N bs bm sn sub ab col dd k0 k1 k2 k3 k5, K.lookup C = some (excClassObj nm q C N bs bm true sn sub ab col dd k0 k1 k2 k3 k5 "ValueError.__new__") ∧ refsVE bm = true
  sa : findIn K (.ref C) "__setattr__" = some (some (.builtin "object.__setattr__"))
  noN : findIn K (.ref C) "what" = some none
  iC : findIn K (.ref C) "__init__" = some (some (.ref fI))
  kC : keepIn K (.ref C) = true
  exC : subIn K (.ref C) (.type "BaseException") = some true
  veC : subIn K (.ref C) (.type "ValueError") = some true
  tyC : typeIn K (.ref C) = some (.type "type")
  mB : mroIn K C (.ref B) = some true
  sup : ks_superIn K C B "__init__" = some (some (.builtin "ValueError.__init__"))
  ini : excInitIn K C bmB "ValueError.__new__" = true
theorem super_form {o : Expr} {n c : Str} {j : Nat} {apos cpos p : Pos} {env : Env} (line : (apos.endLine == cpos.line) = true) : ∃ pl : Sem Bool, eval (.Call (.Attribute o n apos) [.Constant (.str c) j p] [] cpos) env = (do
      let ov ← attributeBase o n env (eval o env)
      standAt apos.atName
      let (f, first) ← holding [ov] (getMethod ov n pl)
      callWith cpos f first (backTo cpos (starEach [.Constant (.str c) j p] env)) []) := by
  refine ⟨(do return (← importBound o env).getD true), ?_⟩
  have hpos : methodCallPos true o env apos cpos = pure cpos := by unfold methodCallPos; simp [line]
  have hform : methodCallForm ([Expr.Constant (.str c) j p].length + ([] : List Keyword).length) (backTo cpos (starEach [.Constant (.str c) j p] env)) (backToKw cpos (keywordEach [] env)) = true := by rfl
  rw [PySem.arm_eval_Call]
  unfold methodCall calleeOf
  simp only [hform, hpos, if_true]
  rfl
theorem rf_size (v : Value) : [v].length ≤ sizeLine := by
  rw [sizeLine_eq]
  exact (by decide : 1 ≤ 16777216)
/-- what __init__ leaves of a fresh exception at x -/
structure RfEnd (h h' : Heap) (x C dx : Addr) (v : Value) : Prop where
  keep : ∀ b o, b ≠ x → h.get? b = some o → h'.get? b = some o
  obj : ∃ t1 : Addr, h'.get? x = some { cls := .ref C, dict := some dx, data := .fields #[.ref t1, .none, .none, .none, .bool false, .none] }
  dbig : h.objs.size ≤ dx
  dne : dx ≠ x
  ns : h'.Ns1 dx (fun y => if y = "what" then some v else none)
structure RfMade (h h' : Heap) (e C d : Addr) (v : Value) : Prop where
  keep : ∀ b o, h.get? b = some o → h'.get? b = some o
  new : h.objs.size ≤ e
  obj : ∃ oe vs, h'.get? e = some oe ∧ oe.cls = .ref C ∧ oe.dict = some d ∧ oe.data = .fields vs ∧ vs[1]? = some .none
  dbig : h.objs.size ≤ d
  dne : d ≠ e
  ns : h'.Ns1 d (fun y => if y = "what" then some v else none)
section
variable {P : Program} {w : World} {A : Around} {R : Result → Shared → Prop} {s : Shared} {K : Frag} {mg : Str → Option Value} {base : Heap} {B C cc fI : Addr} {bmB : List Value}
theorem rf_init (T : RfFn P K B cc fI) (TC : RfCls K bmB B C fI) (FB : ExcBaseFacts "ValueError" "ValueError.__new__" "ValueError.__init__" bmB) (M : L2.Mod K mg base) (hbk : ∀ b o, base.get? b = some o → s.heap.get? b = some o) (hbs : base.objs.size ≤ s.heap.objs.size) {x t0 : Addr} {v : Value}
    (hx : s.heap.get? x = some (excO C t0)) (hnx : K.lookup x = none) (hnb : base.get? x = none) (hroom : A.depth < recursionLimit)
    (hq : ∀ h' tk dx, RfEnd s.heap h' x C dx v → R (.ok (.ret .none)) { s with heap := h', toks := tk }) :
    codeAny (model P w) A (.call (.ref fI) ⟨[.ref x, v], []⟩) R s := by
  obtain ⟨oc, od, doc, pm, an, cda, ct, osl, p1, p2, q0, q1, q2, q3, q4, q5, q6, q7, q8, q9, j, ho, hcd, line, ccl, cdd, ccs, vs, file, tf, hcode, hvs, hfile⟩ := T.fn
  obtain ⟨cl, cld, csl, hcell⟩ := T.cell
  obtain ⟨cdB, hB⟩ := T.base
  obtain ⟨nm, q, N, bs, bm, sn, sub, ab, col, dd, k0, k1, k2, k3, k5, hC, hbm⟩ := TC.cls
  have hcl : clsIn K C = some { name := nm, bases := bs, mro := .ref C :: bm, ns := N, qualname := q, hasDict := true, slotNames := sn, subclasses := sub, abstract := ab, collection := col, hasDel := false } := by unfold clsIn; rw [hC] <;> rfl
  have X : K.In s.heap := M.kin.keeps hbk
  have hlim : s.heap.NoLimit := M.nolimit.keeps hbk
  refine ks_codeAny_call_defAt (fd := ksFn "__init__" "Refused.__init__" (rfArgs p1 p2) (rfBody q0 q1 q2 q3 q4 q5 q6 q7 q8 q9 j) rfScope .none .none doc pm an (.ref cda) ct cc) (body := rfBody q0 q1 q2 q3 q4 q5 q6 q7 q8 q9 j) (binds := [("self", .ref x), ("what", v)]) hroom (X _ _ ho) rfl hlim (codeRec_of X hcd) rfl (BindsTo.of_eq rfl) (show ∀ x ∈ rfScope.names, x.2 ≠ .cell by decide) (fun y hy => ?_) (fun h₁ hns hk => ?_)
  · rcases List.mem_cons.mp hy with rfl | hy
    · rfl
    · rcases List.mem_cons.mp hy with rfl | hy
      · rfl
      · cases hy
  · -- the frame over what stood, less the exception
    have hxL : s.heap.objs.size ≠ x := Nat.ne_of_gt (Heap.lt_size hx)
    obtain ⟨G, gz, gx, gof, gto⟩ : ∃ G : Heap, G.objs.size = s.heap.objs.size ∧ G.get? x = none ∧ (∀ b o, G.get? b = some o → s.heap.get? b = some o) ∧ ∀ b o, b ≠ x → s.heap.get? b = some o → G.get? b = some o :=
      ⟨hideAll s.heap [x], hideAll_size _ _, hideAll_none _ List.mem_cons_self, fun b o e => of_hideAll _ e, fun b o n e => hideAll_get _ e fun z => n (List.mem_singleton.mp z)⟩
    have bG : ∀ b o, base.get? b = some o → G.get? b = some o := fun b o e => gto b o (fun z => by rw [z, hnb] at e; cases e) (hbk b o e)
    have KG : K.In G := M.kin.keeps bG
    have F1 : Fr G s.heap.objs.size h₁ _ := ⟨hns, fun b o e => hk b o (gof b o e), Nat.le_of_eq gz⟩
    have N1 : News G s.heap.objs.size h₁ [(x, excO C t0)] := fun p hp => by
      obtain rfl := List.mem_singleton.mp hp
      exact ⟨hk _ _ hx, Ne.symm hxL, gx⟩
    have self1 : ∀ {m : Str → Option Value}, m = (fun y => ([(("self" : Str), Value.ref x), ("what", v)] : List (Str × Value)).reverse.lookup y) → m "self" = some (.ref x) ∧ m "what" = some v := fun {m} e => by
      subst e
      exact ⟨rfl, rfl⟩
    obtain ⟨ms, mw⟩ := self1 rfl
    obtain ⟨mb, hmb, hbb⟩ := M.blt
    obtain ⟨pl, hf⟩ := super_form (o := .Call (.Name "super" q0) [] [] q1) (n := "__init__") (c := "refused") (j := j) (apos := q2) (cpos := q4) (p := q3) (env := ksEnv "Refused.__init__" rfScope s.heap.objs.size fI (.ref cda) cc) line
    refine ks_wpAt_execs_cons (ks_wpAt_Expr_any (ks_wpAt_MethodCall (pl := pl) ?_ hf) rfl rfl)
    have X1 : K.In h₁ := KG.keeps F1.keep
    have I1 : W.InstAt h₁ x (excO C t0) C none := ⟨hk _ _ hx, rfl, rfl, trivial⟩
    obtain ⟨oB, hoB, hoBd⟩ : ∃ oB, h₁.get? B = some oB ∧ oB.data = .cls cdB := by
      unfold clsIn at hB
      split at hB
      · rename_i c' d' cd' sl' e'
        cases hB
        exact ⟨_, X1 _ _ e', rfl⟩
      · cases hB
    refine ks_wpAt_super_base (fd := ksFn "__init__" "Refused.__init__" (rfArgs p1 p2) (rfBody q0 q1 q2 q3 q4 q5 q6 q7 q8 q9 j) rfScope .none .none doc pm an (.ref cda) ct cc) (cc := cda) rfl rfl rfl rfl (X1 _ _ ho) rfl rfl rfl (X1 _ _ hcode) rfl hvs hfile T.top ?_
    refine ks_loadName_global rfl rfl (loadGlobal_builtin (M.glob.keeps fun b o e => F1.keep b o (bG b o e)) (mg_none_of M.kin M.glob T.sup) (hmb.keeps fun b o e => F1.keep b o (bG b o e)) ((hbb _ (by decide +kernel)).trans (by decide +kernel)) ⟨rfl, ?_⟩)
    refine wpAny_loadName_free rfl rfl rfl ⟨_, X1 _ _ hcell, rfl⟩ ?_
    refine wpAny_loadName_local rfl rfl F1.ns ms ?_
    refine ks_wpAny_isType_cls hoB hoBd ⟨rfl, ?_⟩
    refine ks_wpAny_call_super hoB hoBd I1.at_ I1.cls (fun c e => by cases e) (looks_mroIn X1 TC.mB) (fun h2 e2 k2 => ?_)
    obtain ⟨F2, N2, _⟩ := ks_newsPush (s := { s with heap := h₁, toks := s.toks + 2 }) F1 N1 rfl e2 k2
    refine kxs_method (s := { s with heap := h2, toks := s.toks + 2 }) kxs_ValueError F2 KG N2 List.mem_cons_self (ox := excO C t0) (odx := none) ⟨k2 _ _ (hk _ _ hx), rfl, rfl, trivial⟩ T.any TC.sup TC.veC rfl (fun u h3 F3 N3 l3 => ?_)
    refine kxs_callWith1 N3 List.mem_cons_self (spliced_cons (wpAny_Constant_str (k := j) (pos := q3) (spliced_nil ⟨kxs_at N3 List.mem_cons_self, ?_⟩))) rfl rfl
    have ux : u ≠ x := fun e => Nat.lt_irrefl _ (e ▸ l3 (x, excO C t0) (by simp))
    refine kxs_call (dv := none) (c2 := .none) F3 KG N3 FB TC.ini List.mem_cons_self (UpdF.tail ux (UpdF.tail ?_ (UpdF.head (fun p hp => by cases hp)))) (rf_size _) (fun t4 h4 F4 N4 l4 => ?_)
    · exact fun e => by
        have := N2 (h₁.objs.size, ks_superObj B x C) List.mem_cons_self
        have e' : h₁.objs.size = x := e
        exact absurd (Heap.lt_size (hk _ _ hx)) (by rw [e']; exact Nat.lt_irrefl _)
    have hx4 : h4.get? x = some (excO C t4) := (N4 (x, excObj C t4 none .none) (by simp)).1
    have keep4 : ∀ b o, b ≠ x → s.heap.get? b = some o → h4.get? b = some o := fun b o n e => F4.keep b o (gto b o n e)
    have X4 : K.In h4 := KG.keeps F4.keep
    refine wpAt_of_wpAny (wpAny_execs_cons (plainObj_wpAny_Assign_Attribute ?_))
    refine wpAny_Name (wpAny_loadName_local rfl rfl F4.ns mw ?_) rfl
    refine wpAny_Name (wpAny_loadName_local rfl rfl F4.ns ms ?_) rfl
    refine set_plain X4 (ox := excO C t4) (od := none) ⟨hx4, rfl, rfl, trivial⟩ TC.sa ?_
    refine exc_osa X4 hx4 hcl (show refsVE (.ref C :: bm) = true from hbm) rfl TC.noN (fun h5 tk5 dx k5 dn dne hx5 hn5 => ?_)
    have z4 : s.heap.objs.size < h4.objs.size := F4.ns.lt
    exact wpAny_execs_nil (hq h5 tk5 dx ⟨fun b o n e => k5 b o n (keep4 b o n e), ⟨t4, hx5⟩, Nat.le_of_lt (Nat.lt_of_lt_of_le z4 dn), dne, hn5⟩)
end
end Mv

set_option maxHeartbeats 2000000
namespace Mv
open PySem PySem.W PySem.Calls PyProof.Rows PySem.HandSPX
section
variable {P : Program} {w : World} {A : Around} {R : Result → Shared → Prop} {s : Shared} {K : Frag} {mg : Str → Option Value} {base : Heap} {B C cc fI : Addr} {bmB : List Value}
theorem rf_made (T : RfFn P K B cc fI) (TC : RfCls K bmB B C fI) (FB : ExcBaseFacts "ValueError" "ValueError.__new__" "ValueError.__init__" bmB) (M : L2.Mod K mg base) (hbk : ∀ b o, base.get? b = some o → s.heap.get? b = some o) (hbs : base.objs.size ≤ s.heap.objs.size) {v : Value} (hroom : A.depth + 1 < recursionLimit)
    (hq : ∀ h' tk e d, RfMade s.heap h' e C d v → R (.ok (.ret (.ref e))) { s with heap := h', toks := tk }) :
    codeAny (model P w) A (.call (.ref C) ⟨[v], []⟩) R s := by
  obtain ⟨nm, q, N, bs, bm, sn, sub, ab, col, dd, k0, k1, k2, k3, k5, hC, hbm⟩ := TC.cls
  have X : K.In s.heap := M.kin.keeps hbk
  obtain ⟨hp, g, dr, tk, os⟩ := s
  have k : ∀ b o, hp.get? b = some o → ((hp.push (kdv_tup [v])).push (excO C hp.objs.size)).get? b = some o := fun b o e => Heap.get?_push_of_some _ (Heap.get?_push_of_some _ e)
  have hget : ((hp.push (kdv_tup [v])).push (excO C hp.objs.size)).get? (hp.objs.size + 1) = some (excO C hp.objs.size) := by heap_get
  have hnew : ∀ o, hp.get? (hp.objs.size + 1) ≠ some o := fun o z => Nat.lt_irrefl _ (Nat.lt_of_succ_lt (Heap.lt_size z))
  have hnx : K.lookup (hp.objs.size + 1) = none := by
    cases e : K.lookup (hp.objs.size + 1) with
    | none => rfl
    | some o => exact absurd (X _ _ e) (hnew o)
  have hnb : base.get? (hp.objs.size + 1) = none := by
    cases e : base.get? (hp.objs.size + 1) with
    | none => rfl
    | some o => exact absurd (hbk _ _ e) (hnew o)
  refine call_own F.excBase_ValueError (fun X => refsVE_contains X bm hbm) (X _ _ hC) (looks_findIn X TC.iC) (fun self => bind_fn X self T.tI) (rf_size v) ?_
  refine rf_init (s := ⟨(hp.push (kdv_tup [v])).push (excO C hp.objs.size), g, dr, tk, os⟩) T TC FB M (fun b o e => k b o (hbk b o e)) (by show base.objs.size ≤ ((hp.push _).push _).objs.size; rw [Heap.size_push, Heap.size_push]; exact Nat.le_succ_of_le (Nat.le_succ_of_le hbs)) hget hnx hnb ?_ fun h' tk' dx E => ?_
  · show A.depth + 1 < recursionLimit
    exact hroom
  · have old : ∀ b o, hp.get? b = some o → h'.get? b = some o := fun b o e => E.keep b o (fun z => hnew o (z ▸ e)) (k b o e)
    have z : hp.objs.size ≤ dx := by
      have q := E.dbig
      rw [show (Shared.heap ⟨(hp.push (kdv_tup [v])).push (excO C hp.objs.size), g, dr, tk, os⟩) = (hp.push (kdv_tup [v])).push (excO C hp.objs.size) from rfl, Heap.size_push, Heap.size_push] at q
      omega
    obtain ⟨t1, ho⟩ := E.obj
    exact ⟨rfl, hq h' tk' (hp.objs.size + 1) dx ⟨old, Nat.le_succ _, ⟨_, _, ho, rfl, rfl, rfl, rfl⟩, z, E.dne, E.ns⟩⟩
end
end Mv
namespace Mv
open PySem PySem.Spec PyProof.Rows L2
theorem relO_what {v : V} {v' : Value} (r : RelV v v') (f : Str) : RelO (List.lookup f [(("what" : Str), v)]) (if f = "what" then some v' else none) := by
  by_cases hw : f = "what"
  · subst hw
    rw [if_pos rfl]
    have q : List.lookup ("what" : Str) [(("what" : Str), v)] = some v := by simp [List.lookup]
    rw [q]
    exact r
  · rw [if_neg hw]
    have qw : (f == ("what" : Str)) = false := by simpa using hw
    have q2 : List.lookup f [(("what" : Str), v)] = none := by simp [List.lookup, qw]
    rw [q2]
    trivial
section
variable {X : Cx} {B C cc fI : Addr} {bmB : List Value}
/-- BadX(e) -/
def tMkR (C : Addr) (ta : TA) : L2.St → Hp → XK → Prop := fun σ H Q => ta σ H fun vs H1 => ∃ v, vs = [v] ∧ ∀ d, H1 d = none → Q (.ref C) (some d) (upd H1 d (.xd [(("what" : Str), v)]))
theorem pmk_rf {a : Expr} {ta : TA} {x : Str} {p pos : Pos} {k : Nat} (T : RfFn X.prog X.K B cc fI) (TC : RfCls X.K bmB B C fI) (FB : ExcBaseFacts "ValueError" "ValueError.__new__" "ValueError.__init__" bmB) (gC : X.mg x = some (.ref C)) (hr : Room k X.A) (ha : PA X [a] ta) (hg : Gl X x) (hdb : (x == ("__debug__" : Str)) = false)
    (he : starEach (a :: []) X.env = (false, eval a X.env) :: starEach [] X.env) (hpl : (backTo pos (starEach [] X.env)).any (·.1) = false := by rfl) :
    PMk X (.Call (.Name x p) [a] [] pos) (tMkR C ta) := by
  intro pins s σ H Q I h
  refine wpAny_Call_Name_kw (ld_glob I hg gC ?_ hdb)
  refine PySem.W.callWith_K (h₀ := X.base) I.ok.mod.kin TC.kC (thn (ha.run pos pins s σ H _ I h) fun us s1 hh => ?_) he hpl
  obtain ⟨vs, H1, I1, r1, v, ev, q1⟩ := hh
  subst ev
  refine ⟨I1.kIn, ?_⟩
  cases r1 with
  | cons rv rn =>
    rename_i v' us'
    cases rn
    show wpAny _ _ (call (.ref C) [v']) _ _ _
    have hbs : X.base.objs.size ≤ s1.heap.objs.size := Nat.le_trans I1.ok.bsz I1.sz
    have hbk := I1.bk
    obtain ⟨hp, g, dr, tk, os⟩ := s1
    refine wpAny_call (rf_made T TC FB I1.mod hbk hbs (by have := hr.dp; omega) fun h' tk' e d M => ?_)
    show MkP X pins σ Q (.ref e) ⟨h', g, dr, tk', os⟩
    obtain ⟨oe, fv, hoe, hc, hd, hdat, h1⟩ := M.obj
    have hns := M.ns
    obtain ⟨G', g1, g2⟩ := restrict h' fun b => decide (b ≠ e)
    have gk : ∀ b, b ≠ e → G'.get? b = h'.get? b := fun b hb => g1 b (decide_eq_true hb)
    have ge : G'.get? e = none := g2 e (by simp)
    have old : ∀ b o, hp.get? b = some o → G'.get? b = some o := fun b o q => (gk b (Nat.ne_of_lt (Nat.lt_of_lt_of_le (Heap.lt_size q) M.new))).trans (M.keep b o q)
    have ob : ObjOk X.prog X.w (upd H1 d (.xd [(("what" : Str), v)])) G' d (.xd [(("what" : Str), v)]) :=
      ⟨_, hns.at (fun o q => (gk d M.dne).trans q), fun f => relO_what rv f⟩
    have J : Inv X pins σ (upd H1 d (.xd [(("what" : Str), v)])) ⟨G', g, dr, tk', os⟩ := I1.laid (t' := tk') old M.dbig ob
    refine ⟨e, oe, fv, ⟨G', g, dr, tk', os⟩, _, .ref C, some d, rfl, J, fun b o q => ?_, ge, hoe, ⟨hc, hd⟩, hdat, h1, ?_, rfl, I1.bare, raises_own TC.exC TC.tyC, q1 d (I1.hok.fresh M.dbig)⟩
    · by_cases hb : b = e
      · have q' : G'.get? b = some o := q
        rw [hb, ge] at q'; cases q'
      · exact (gk b hb).symm.trans q
    · rw [upd_ne (Ne.symm M.dne)]
      exact I1.hok.fresh M.new
end
end Mv

set_option maxHeartbeats 2000000
/-! try with any number of except clauses, each with a name or without one -/
namespace Mv
open PySem PySem.Spec PyProof.Rows L2
/-- an exception has come down to the frame that catches -/
structure Ld (X : Cx) (pins : List (Addr × Obj)) (σ : L2.St) (H : Hp) (a : Addr) (cls : Value) (d : Option Addr) (B : Heap) (sI s : Shared) (h : Heap) : Prop where
  inv0 : Inv X pins σ H sI
  gnd : ∀ b o, sI.heap.get? b = some o → b ∉ frs X.stack → B.get? b = some o
  up : sI.heap.UpToSlots h
  fly : HandSPX.FlyingZ B (X.env :: X.outer) a (Zc cls d) h
  free : H a = none
  os : s.os = sI.os
  bare : AllBare s.gens
section
variable {X : Cx} {pins : List (Addr × Obj)} {σ : L2.St} {H : Hp} {a : Addr} {cls : Value} {d : Option Addr} {B : Heap} {sI s : Shared} {h h' : Heap}
theorem Ld.go (l : Ld X pins σ H a cls d B sI s h) (f : HandSPX.FlyingZ B (X.env :: X.outer) a (Zc cls d) h') (u : h.UpToSlots h') : Ld X pins σ H a cls d B sI s h' :=
  ⟨l.inv0, l.gnd, l.up.trans u, f, l.free, l.os, l.bare⟩
theorem Ld.inv (l : Ld X pins σ H a cls d B sI s h) : Inv X pins σ H { s with heap := h } := l.inv0.landed (s' := { s with heap := h }) l.gnd l.fly.1 l.up l.os l.bare
theorem Ld.at_ (l : Ld X pins σ H a cls d B sI s h) (hf : X.env.frame = some X.env.locals) : ∃ oe vs, h.get? a = some oe ∧ Zc cls d oe ∧ oe.data = .fields vs ∧ a ≠ X.env.locals ∧ a ∉ X.fs := by
  obtain ⟨oe, vs, h1, h2, h3⟩ := l.fly.there
  have no : a ∉ frs (X.env :: X.outer) := fun m => by
    obtain ⟨_, o2, g1, g2⟩ := l.fly.2.2.1.mem m
    rw [h1] at g1
    cases g1
    exact g2 _ h3
  refine ⟨oe, vs, h1, h2, h3, fun z => no ?_, fun m => no ?_⟩
  · exact List.mem_filterMap.mpr ⟨X.env, List.mem_cons_self, by rw [hf, z]⟩
  · obtain ⟨e, g1, g2⟩ := List.mem_filterMap.mp m
    exact List.mem_filterMap.mpr ⟨e, List.mem_cons_of_mem _ g1, g2⟩
/-- the suite's state -/
theorem Ld.suite (l : Ld X pins σ H a cls d B sI s h) (hf : X.env.frame = some X.env.locals) : ∃ oe, Zc cls d oe ∧ (∃ vs, oe.data = .fields vs) ∧ h.get? a = some oe ∧ Inv (X.suite a ((a, oe) :: (X.pn ++ pins))) [] σ H { s with heap := h } := by
  obtain ⟨oe, vs, h1, h2, h3, h4, h5⟩ := l.at_ hf
  exact ⟨oe, h2, ⟨vs, h3⟩, h1, l.inv.suite h1 h3 l.free h4 h5⟩
end
/-- a clause: the class, the name's slot, what the suite wants -/
structure HdK where
  c : Value
  i : Option Nat
  ts : Addr → Value → Option Addr → TS
def inSt (i : Option Nat) (a : Addr) (σ : L2.St) : L2.St := match i with
  | none => σ
  | some j => σ.set j (some (.ref a))
def outSt1 (i : Option Nat) (σ : L2.St) : L2.St := match i with
  | none => σ
  | some j => σ.set j none
def endSt (i : Option Nat) (D : Ends) : Ends := { nx := fun σ H => D.nx (outSt1 i σ) H, rt := D.rt, bk := fun σ H => D.bk (outSt1 i σ) H, ct := fun σ H => D.ct (outSt1 i σ) H }
def wMix (K : PySem.W.Frag) (Wout : WX) (D : Ends) : List HdK → WX
  | [] => Wout
  | q :: r => fun cls d σ H => ∃ b, PySem.W.exmOne K cls q.c = some b ∧ (b = true → ∀ a, H a = none → q.ts a cls d (endSt q.i D) (inSt q.i a σ) H) ∧ (b = false → wMix K Wout D r cls d σ H)
inductive HdOk (X : Cx) : ExceptHandler → HdK → Prop
  | plain {x : Str} {c : Value} {ts : Addr → Value → Option Addr → TS} {b : Stmt} {bs : List Stmt} {np hp : Pos} : Names X x c →
      (∀ (a : Addr) (oe : Obj) (cls : Value) (d : Option Addr) (pn : List (Addr × Obj)), Zc cls d oe → (∃ vs, oe.data = .fields vs) → PSs (X.suite a ((a, oe) :: pn)) (b :: bs) (ts a cls d)) → HdOk X (.ExceptHandler (some (.Name x np)) none (b :: bs) hp) ⟨c, none, ts⟩
  | named {x n : Str} {i : Nat} {c : Value} {ts : Addr → Value → Option Addr → TS} {b : Stmt} {bs : List Stmt} {np hp : Pos} : Names X x c → X.N[i]? = some n → X.env.kindOf n = some .local →
      (∀ (a : Addr) (oe : Obj) (cls : Value) (d : Option Addr) (pn : List (Addr × Obj)), Zc cls d oe → (∃ vs, oe.data = .fields vs) → PSs (X.suite a ((a, oe) :: pn)) (b :: bs) (ts a cls d)) → HdOk X (.ExceptHandler (some (.Name x np)) (some n) (b :: bs) hp) ⟨c, some i, ts⟩
inductive HdsMx (X : Cx) : List ExceptHandler → List HdK → Prop
  | nil : HdsMx X [] []
  | cons {e : ExceptHandler} {q : HdK} {es : List ExceptHandler} {qs : List HdK} : HdOk X e q → HdsMx X es qs → HdsMx X (e :: es) (q :: qs)
section
variable {X : Cx} {pins : List (Addr × Obj)} {σ : L2.St} {H : Hp} {a : Addr} {cls : Value} {d : Option Addr} {B : Heap} {sI s : Shared} {h : Heap} {D : Ends} {Wout : WX}
/-- no clause fits: it flies on -/
theorem Ld.on (l : Ld X pins σ H a cls d B sI s h) (hs : X.stack = X.env :: X.outer) (hf : X.env.frame = some X.env.locals) (tk : Takes X Wout) (w : Wout cls d σ H) :
    wpAny (model X.prog X.w) X.A (handleBy (.ref a) X.env []) (SP X pins D) X.xe { s with heap := h } := by
  refine wpAny_handleBy_nil ?_
  have last : wpAny (model X.prog X.w) X.A (setFlight (.ref a) X.env.frame) (fun _ z => wpAny (model X.prog X.w) X.A (throw (.ref a) : Sem Flow) (SP X pins D) X.xe z) X.xe { s with heap := h } := by
    rw [hf]
    refine HandSPX.setFlight_upZ l.fly fun h2 held up2 => wpAny_throw (tk _ _ ⟨a, B, sI, pins, σ, H, cls, d, rfl, l.inv0, l.gnd, l.up.trans up2, .inr (.inr ?_), l.free, l.os, l.bare, w⟩)
    rw [hs]
    exact held
  obtain ⟨-, -, -, oe, vs, T, -, -, f1, -, f2, f3, -⟩ := l.fly
  unfold PySem.passOn
  refine wpAny_bind (wpAny_field f1 f2 f3 ?_)
  have ne : ¬ ((Value.ref T == Value.none) = true) := by simp
  rw [if_neg ne]
  first
    | exact wpAny_bind (wpAny_pure (wpAny_bind last))
    | exact wpAny_bind last
/-- the test of a clause -/
theorem Ld.test (l : Ld X pins σ H a cls d B sI s h) (hf : X.env.frame = some X.env.locals) {x : Str} {c : Value} {np : Pos} {b : Bool} (hc : Names X x c) (hb : PySem.W.exmOne X.K cls c = some b) {Q : Bool → Shared → Prop} {E : Value → Shared → Prop} (q : Q b { s with heap := h }) :
    wpAny (model X.prog X.w) (X.A.mark (some (.ref a))) (eval (.Name x np) X.env) (fun u z => wpAny (model X.prog X.w) (X.A.mark (some (.ref a))) (excMatches (.ref a) u) Q E z) E { s with heap := h } := by
  obtain ⟨oe, zc, -, he, S⟩ := l.suite hf
  have ty : PySem.W.Looks (model X.prog X.w) h (typeOf (.ref a)) cls := fun A Q E s k q => wpAny_typeOf_ref (k _ _ he) (by rw [zc.1]; exact q)
  have mt := (PySem.W.exm_one (M := model X.prog X.w) l.inv.kIn ty hb).here (s := { s with heap := h }) (A := X.A.mark (some (.ref a))) (E := E) q
  obtain ⟨hg, hd, hm | ⟨hm, hv, hn⟩⟩ := hc
  · exact ld_glob (X := X.suite a ((a, oe) :: (X.pn ++ pins))) S hg hm mt hd
  · exact ld_blt (X := X.suite a ((a, oe) :: (X.pn ++ pins))) S hg hm hv mt hn hd
theorem hands (hs : X.stack = X.env :: X.outer) (hf : X.env.frame = some X.env.locals) (hN : X.N.Nodup) (tk : Takes X Wout) {es : List ExceptHandler} {qs : List HdK} (hh : HdsMx X es qs) (l : Ld X pins σ H a cls d B sI s h) (w : wMix X.K Wout D qs cls d σ H) :
    wpAny (model X.prog X.w) X.A (handleBy (.ref a) X.env es) (SP X pins D) X.xe { s with heap := h } := by
  have ok := l.inv0.ok
  induction hh with
  | nil => exact l.on hs hf tk w
  | cons h1 _ ih =>
    obtain ⟨b, w1, w2, w3⟩ := w
    cases h1 with
    | @plain x c ts b0 bs np hp hc hsu =>
      refine wpAny_handleBy_cons (codeAny_handlers_test (l.test hf hc w1 ?_)) (by intro q; cases q)
      cases b with
      | false => exact ih (w3 rfl)
      | true =>
        refine codeAny_handlers_suite (HandSPX.lands_againZ l.fly fun h4 f4 u4 => ?_)
        obtain ⟨oe, zc, hd, -, S⟩ := (l.go f4 u4).suite hf
        refine wpAny_mono ((hsu a oe cls d (X.pn ++ pins) zc hd).run [] _ _ H _ S (w2 rfl a l.free)) (fun f s6 q => ?_) (fun _ _ z => z.elim)
        cases f with
        | ret u => obtain ⟨v, σ6, H6, S6, q1, q2⟩ := q; exact ⟨v, σ6, H6, S6.unsuite ok, q1, q2⟩
        | next => obtain ⟨σ6, H6, S6, q1⟩ := q; exact ⟨σ6, H6, S6.unsuite ok, q1⟩
        | brk => obtain ⟨σ6, H6, S6, q1⟩ := q; exact ⟨σ6, H6, S6.unsuite ok, q1⟩
        | cont => obtain ⟨σ6, H6, S6, q1⟩ := q; exact ⟨σ6, H6, S6.unsuite ok, q1⟩
    | @named x n i c ts b0 bs np hp hc hi hln hsu =>
      refine wpAny_handleBy_cons (codeAny_handlers_test (l.test hf hc w1 ?_)) (by intro q; cases q)
      cases b with
      | false => exact ih (w3 rfl)
      | true =>
        refine codeAny_handlers_suite_as (HandSPX.lands_againZ l.fly fun h4 f4 u4 => ?_)
        obtain ⟨oe, zc, hd, -, S⟩ := (l.go f4 u4).suite hf
        refine store_ok (X := X.suite a ((a, oe) :: (X.pn ++ pins))) (v := .ref a) S hN hi (.inl hln) rfl (fun s5 S5 => ?_) (.inr hln)
        refine wpAny_mono ((hsu a oe cls d (X.pn ++ pins) zc hd).run [] s5 _ H _ S5 (w2 rfl a l.free)) (fun f s6 q => ?_) (fun _ _ z => z.elim)
        cases f with
        | ret u => obtain ⟨v, σ6, H6, S6, q1, q2⟩ := q; exact gone_ok (S6.unsuite ok) hN hi hln fun s7 J => ⟨v, _, H6, J, q1, q2⟩
        | next => obtain ⟨σ6, H6, S6, q1⟩ := q; exact gone_ok (S6.unsuite ok) hN hi hln fun s7 J => ⟨_, H6, J, q1⟩
        | brk => obtain ⟨σ6, H6, S6, q1⟩ := q; exact gone_ok (S6.unsuite ok) hN hi hln fun s7 J => ⟨_, H6, J, q1⟩
        | cont => obtain ⟨σ6, H6, S6, q1⟩ := q; exact gone_ok (S6.unsuite ok) hN hi hln fun s7 J => ⟨_, H6, J, q1⟩
end
section
variable {X : Cx} {body : List Stmt} {e0 : ExceptHandler} {es : List ExceptHandler} {qs : List HdK} {pos : Pos} {tb : WX → TS} {Wout : WX}
theorem ps_try_mix (hs : X.stack = X.env :: X.outer) (hf : X.env.frame = some X.env.locals) (hN : X.N.Nodup) (tk : Takes X Wout)
    (hb : ∀ (W : WX) (pn : List (Addr × Obj)) (xe : Value → Shared → Prop), Takes (X.tr pn xe) W → PassesOwn (model X.prog X.w) X.A X.env xe → PSs (X.tr pn xe) body (tb W))
    (hh : HdsMx X (e0 :: es) qs) : PS X (.Try body (e0 :: es) [] [] pos) (fun D σ H => tb (wMix X.K Wout D qs) D σ H) := by
  refine ⟨fun pins s σ H D I h => ?_⟩
  have ok := I.ok
  have hfr : X.A.frames = some (X.env :: X.outer) := by rw [ok.frames, hs]
  let xe2 : Value → Shared → Prop := fun e s₁ => wpAny (model X.prog X.w) X.A (noteFrame e X.env) (fun _ s₂ => wpAny (model X.prog X.w) X.A (setFlight e none) (fun _ s₃ => wpAny (model X.prog X.w) X.A (handleBy e X.env (e0 :: es)) (SP X pins D) X.xe s₃) X.xe s₂) X.xe s₁
  have catch_ : Takes (X.tr (X.pn ++ pins) xe2) (wMix X.K Wout D qs) := fun u s' xx => by
    obtain ⟨a, B, sI, pins', σ', H', cls, d, rfl, J, nb, up, sky, na, os, ag, w⟩ := xx
    have sky2 : Sky B (X.env :: X.outer) a (Zc cls d) X.env.locals s'.heap := by rw [← hs]; exact sky
    exact Sky.land Zc.steady hfr hf sky2 fun h3 fl3 up3 => hands hs hf hN tk hh ⟨J.ofTry ok, nb, up.trans up3, fl3, na, os, ag⟩ w
  refine wpAny_Try_except (wpAny_mono ((hb _ (X.pn ++ pins) xe2 catch_ PassesOwn.looking).run [] s σ H D (I.toTry _) h) (fun f s1 q => ?_) fun _ _ z => z)
  cases f with
  | next => obtain ⟨σ', H', J, q⟩ := q; exact wpAny_execs_nil ⟨σ', H', J.ofTry ok, q⟩
  | ret u => obtain ⟨v, σ', H', J, q⟩ := q; exact ⟨v, σ', H', J.ofTry ok, q⟩
  | brk => obtain ⟨σ', H', J, q⟩ := q; exact ⟨σ', H', J.ofTry ok, q⟩
  | cont => obtain ⟨σ', H', J, q⟩ := q; exact ⟨σ', H', J.ofTry ok, q⟩
end
end Mv

namespace Mv
open PySem L2

section
variable {X : Cx} {k : Kc} {sx : Option (Addr × Addr)} {W : WX} {P : Pg} {F : Nat → List D → FOut} {pos apos cpos p : Pos} {es : List Expr} {as : List E} {T : Tc} {j : Nat}

theorem ixOf_get {x : Str} : ∀ {l : List Str} {i : Nat}, ixOf x l = some i → l[i]? = some x
  | [], _, h => by cases h
  | y :: l, i, h => by
    unfold ixOf at h
    split at h
    · rename_i e; cases h; simp [e]
    · obtain ⟨i', h1, rfl⟩ := Option.map_eq_some_iff.mp h
      simpa using ixOf_get h1
theorem vis_of {sc : Scope} {x : Str} (h : vis sc x = true) : Vis sc x := by
  unfold vis at h
  split at h
  · exact .inl ‹_›
  · exact .inr (.inl ‹_›)
  · exact .inr (.inr ‹_›)
  · cases h
theorem loc_of {sc : Scope} {x : Str} (h : loc sc x = true) : Loc sc x := by
  unfold loc at h
  split at h
  · exact .inl ‹_›
  · exact .inr ‹_›
  · cases h
theorem glo_of {sc : Scope} {x : Str} (h : glo sc x = true) : sc.names.lookup x = some .globalImplicit := by
  unfold glo at h
  split at h
  · assumption
  · cases h
theorem okName_of {x : Str} (h : okName x = true) : (x == ("__debug__" : Str)) = false ∧ (x == ("__classdict__" : Str)) = false ∧ x ≠ "__name__" := by
  unfold okName at h
  simp only [Bool.and_eq_true, decide_eq_true_eq] at h
  exact ⟨beq_eq_false_iff_ne.mpr h.1.1, beq_eq_false_iff_ne.mpr h.1.2, h.2⟩
theorem base_any {e : Expr} (h : notSup e = true) (env : Env) (x : Str) (w : Sem Value) : attributeBase e x env w = w := by
  cases e <;> first | rfl | skip
  rename_i f es kws p
  cases f <;> first | rfl | skip
  cases es <;> first | rfl | skip
  cases kws <;> first | rfl | skip
  cases h
theorem meth_form {e1 : Expr} {x : Str} (h : SndL X k sx W P F es as) (few : es.length < 29) (line : (apos.endLine == cpos.line) = true) (hb : attributeBase e1 x X.env (eval e1 X.env) = eval e1 X.env) : ∃ pl : Sem Bool, eval (.Call (.Attribute e1 x apos) es [] cpos) X.env = (do
      let ov ← eval e1 X.env
      standAt apos.atName
      let (f, first) ← holding [ov] (getMethod ov x pl)
      callWith cpos f first (backTo cpos (starEach es X.env)) (backToKw cpos (keywordEach [] X.env))) := by
  refine ⟨(do return (← importBound e1 X.env).getD true), ?_⟩
  have hform : methodCallForm (es.length + ([] : List Keyword).length) (backTo cpos (starEach es X.env)) (backToKw cpos (keywordEach [] X.env)) = true := by
    unfold methodCallForm
    rw [h.plainA]
    show (true && true && decide (es.length + 0 + 0 < 30)) = true
    simp only [Bool.and_self, Bool.true_and, decide_eq_true_eq]
    omega
  have hpos : methodCallPos true e1 X.env apos cpos = pure cpos := by unfold methodCallPos; simp [line]
  rw [PySem.arm_eval_Call, hb]
  unfold methodCall calleeOf
  simp only [hform, hpos, if_true]
  rfl
/-- an own error class: BadX(e), e.what -/
structure ErAt (X : Cx) (C : Addr) : Prop where
  made : ∃ B cc fI bmB, RfFn X.prog X.K B cc fI ∧ RfCls X.K bmB B C fI ∧ ExcBaseFacts "ValueError" "ValueError.__new__" "ValueError.__init__" bmB
  xf : XfC X.K C
/-- what is known of a frame: expressions -/
structure CtxB (X : Cx) (k : Kc) (W : WX) (P : Pg) (F : Nat → List D → FOut) (T : Tc) (j : Nat) : Prop where
  hK : X.K = k.K
  calm : X.calm = true
  hN : X.N = T.N
  nd : X.N.Nodup
  sc : X.env.scope = T.sc
  un : X.A.units + 100 < cLine
  room : Room (j + 1) X.A
  tk : Takes X W
  cons : ∀ x i, T.cons.lookup x = some i → ∃ u, X.mg x = some u ∧ RelV (.int i) u
  fns : ∀ x f, ixOf x T.fns = some f → ∃ fa, X.mg x = some (.ref fa) ∧ DefAt X k j fa fun ds => (F f ds).out
  cls : ∀ x c, ixOf x T.cls = some c → T.oc.contains c = true → ∃ cl, P.cls[c]? = some cl ∧ X.mg x = some (.ref (k.cA c)) ∧ MkAt X k j c fun ds => (F cl.init ds).out
  mts : ∀ x m, ixOf x T.mts = some m → (∀ f, f < k.n → k.aN f ≠ x) ∧ ∀ c cl f, k.oc c → P.cls[c]? = some cl → cl.ms.lookup m = some f → MethAt X k j c x fun ds => (F f ds).out
  att : ∀ x f, ixOf x T.att = some f → k.aN f = x ∧ f < k.n
  blt : ∀ x, T.blt.contains x = true → X.mg x = none
  ers : ∀ x c, ixOf x T.cls = some c → T.ec.contains c = true → X.mg x = some (.ref (k.cA c)) ∧ ErAt X (k.cA c)
  kws : ∀ x n ks perm, kwOf T x n ks = some perm → (∀ f, ixOf x T.fns = some f → ∃ fa, X.mg x = some (.ref fa) ∧ KwAt X k j fa n ks perm fun ds => (F f ds).out) ∧
    ∀ c, ixOf x T.cls = some c → T.okw.contains c = true → ∃ cl, P.cls[c]? = some cl ∧ X.mg x = some (.ref (k.cA c)) ∧ KmAt X k j c n ks perm fun ds => (F cl.init ds).out
theorem CtxB.gl (C : CtxB X k W P F T j) {x : Str} (h : glo T.sc x = true) : Gl X x := by
  have := glo_of h
  rw [← C.sc] at this
  exact this
/-- .. in the block of a comprehension -/
theorem CtxB.blk (C : CtxB X k W P F T j) (s : Shared) (H : Hp) (scope : Scope) (c : Addr) (cl : List (Str × Addr)) (fp : List Addr) : CtxB (X.blk s H scope (compEnvC scope cl c X.env) fp) k WN P F { T with sc := L2.relS scope T.sc } j where
  hK := C.hK
  calm := C.calm
  hN := C.hN
  nd := C.nd
  sc := by rw [← C.sc]; rfl
  un := C.un
  room := C.room
  tk := fun u s' ⟨_, _, _, _, _, _, _, _, _, _, _, _, _, _, _, _, w⟩ => w.elim
  cons := C.cons
  fns := fun x f h => by
    obtain ⟨fa, h1, h2⟩ := C.fns x f h
    exact ⟨fa, h1, ⟨h2.ex, h2.kp⟩⟩
  cls := fun x c h o => by
    obtain ⟨cl, h1, h2, h3⟩ := C.cls x c h o
    exact ⟨cl, h1, h2, ⟨h3.ex, h3.oc⟩⟩
  mts := fun x m h => ⟨(C.mts x m h).1, fun c cl f o h1 h2 => ⟨((C.mts x m h).2 c cl f o h1 h2).ex⟩⟩
  att := C.att
  blt := C.blt
  ers := fun x c h o => by
    obtain ⟨h1, h2⟩ := C.ers x c h o
    exact ⟨h1, ⟨h2.made, h2.xf⟩⟩
  kws := fun x n ks perm h => ⟨fun f hf => by
    obtain ⟨fa, h1, h2⟩ := (C.kws x n ks perm h).1 f hf
    exact ⟨fa, h1, ⟨h2.ex, h2.kp⟩⟩, fun c hc o => by
    obtain ⟨cl, h1, h2, h3⟩ := (C.kws x n ks perm h).2 c hc o
    exact ⟨cl, h1, h2, ⟨h3.ex, h3.oc⟩⟩⟩
/-- no star, no set, no slice -/
structure Pln (e : Expr) : Prop where
  st : nst e = true
  se : nset e = true
  sl : ∀ l u s p, e ≠ .Slice l u s p
  fs : ∀ (env : Env) x, foldedSetIterable e env x = pure x
theorem trE_pln {n : Nat} {e : Expr} {a : E} (h : trE n T e = some a) : Pln e := by
  cases n with
  | zero => cases h
  | succ n =>
    have sl : ∀ l u s p, e ≠ .Slice l u s p := by
      intro l u s p z
      subst z
      simp [trE] at h
    cases e <;> first
      | exact ⟨rfl, rfl, sl, (by intro _ _; rfl)⟩
      | (simp [trE] at h)
/-- lists of expressions -/
theorem trEs_pln {n : Nat} : ∀ {es : List Expr} {as : List E}, trEs n T es = some as → ∀ e ∈ es, Pln e := by
  induction n with
  | zero => intro es as h; cases h
  | succ n ih =>
    intro es as h e m
    cases es with
    | nil => cases m
    | cons x es =>
      obtain ⟨a, h1, h2⟩ := Option.bind_eq_some_iff.mp (show ((trE n T x).bind fun a => (trEs n T es).map fun as => a :: as) = some as from h)
      obtain ⟨as', h3, _⟩ := Option.map_eq_some_iff.mp h2
      rcases List.mem_cons.mp m with m | m
      · exact m ▸ trE_pln h1
      · exact ih h3 e m
theorem relS_keep {scope sc : Scope} {x : Str} {kd : NameKind} (h : scope.names.lookup x = some kd) (n : kd ≠ .free) : (L2.relS scope sc).names.lookup x = some kd := by
  have key : ∀ (l : List (Str × NameKind)), l.lookup x = some kd → (l.map fun (n, k) => if (k == .free && sc.kind == .function && sc.names.lookup n == some .cell) then (n, NameKind.cell) else (n, k)).lookup x = some kd := by
    intro l
    induction l with
    | nil => intro h; cases h
    | cons p l ih =>
      obtain ⟨y, q⟩ := p
      intro h
      rw [List.lookup_cons] at h
      rw [List.map_cons]
      split at h
      · rename_i e
        cases h
        have : (kd == NameKind.free) = false := beq_eq_false_iff_ne.mpr n
        simp only [this, Bool.false_and, Bool.false_eq_true, if_false]
        rw [List.lookup_cons, e]
      · rename_i e
        have h2 := ih h
        dsimp only
        split
        · rw [List.lookup_cons, e]; exact h2
        · rw [List.lookup_cons, e]; exact h2
  exact key _ h
end
end Mv

namespace Mv
open PySem L2

section
variable {X : Cx} {k : Kc} {sx : Option (Addr × Addr)} {W : WX} {P : Pg} {F : Nat → List D → FOut} {pos apos cpos p : Pos} {es : List Expr} {as : List E} {T : Tc} {j : Nat}

/-- targets -/
structure CtxT (X : Cx) (k : Kc) (T : Tc) : Prop where
  hK : X.K = k.K
  calm : X.calm = true
  hN : X.N = T.N
  nd : X.N.Nodup
  loc : ∀ x, loc T.sc x = true → Loc X.env.scope x ∧ (X.fn x = true ∨ X.env.scope.names.lookup x = some .local)
theorem trTg_ok (C : CtxT X k T) : ∀ n, (∀ tg t, trTg n T tg = some t → PG X tg (tG k sx t) ∧ nst tg = true ∧ (assignEach [tg] X.env).map (·.2) = [assign tg X.env]) ∧ ∀ ts rs, trTgs n T ts = some rs → SGs X k sx ts rs := by
  intro n
  induction n with
  | zero => exact ⟨fun _ _ h => (nomatch h), fun _ _ h => (nomatch h)⟩
  | succ n ih =>
    refine ⟨fun tg t h => ?_, fun ts rs h => ?_⟩
    · unfold trTg at h
      split at h
      · split at h
        · rename_i x p c
          obtain ⟨i, hi, rfl⟩ := Option.map_eq_some_iff.mp h
          obtain ⟨l1, l2⟩ := C.loc x c
          exact ⟨g_name C.nd (by rw [C.hN]; exact ixOf_get hi) l1 l2, rfl, rfl⟩
        · cases h
      · obtain ⟨rs, hr, rfl⟩ := Option.map_eq_some_iff.mp h
        exact ⟨g_tup C.hK C.calm (ih.2 _ _ hr), rfl, rfl⟩
      · cases h
    · cases ts with
      | nil => cases h; exact .nil
      | cons e ts =>
        obtain ⟨a, h1, h2⟩ := Option.bind_eq_some_iff.mp (show ((trTg n T e).bind fun a => (trTgs n T ts).map fun as => a :: as) = some rs from h)
        obtain ⟨as, h3, rfl⟩ := Option.map_eq_some_iff.mp h2
        obtain ⟨g1, g2, _⟩ := ih.1 _ _ h1
        exact .cons g2 g1 (ih.2 _ _ h3)
/-- all that a comprehension's rules want -/
structure LcOk (X : Cx) (k : Kc) (sx : Option (Addr × Addr)) (W : WX) (P : Pg) (F : Nat → List D → FOut) (elt tg iter : Expr) (ifs : List Expr) (scope : Scope) (a : E) : Prop where
  ex : ∃ t kd as ia ea own, a = .comp ea t kd as ia (own.map (·.2)) ∧ PI X tg iter (tIt k sx W P F kd as) ∧ BlkOk X.N X.env.scope scope own ∧
    (∀ (s : Shared) (H : Hp) (C : Addr) (cl : List (Str × Addr)) (fp : List Addr), PG (X.blk s H scope (compEnvC scope cl C X.env) fp) tg (tG k sx t)) ∧ ifs.length ≤ 1 ∧
    (∀ (s : Shared) (H : Hp) (C : Addr) (cl : List (Str × Addr)) (fp : List Addr), SndL (X.blk s H scope (compEnvC scope cl C X.env) fp) k sx WN P F ifs ia) ∧
    (∀ (s : Shared) (H : Hp) (C : Addr) (cl : List (Str × Addr)) (fp : List Addr), Snd (X.blk s H scope (compEnvC scope cl C X.env) fp) k sx WN P F elt ea) ∧
    (∀ x, foldedSetIterable iter X.env x = pure x) ∧ ∀ i ∈ stT t, i ∈ own.map (·.2)
theorem loc_cases {sc : Scope} {x : Str} (h : loc sc x = true) : sc.names.lookup x = some .local ∨ sc.names.lookup x = some .cell := loc_of h
theorem trIt_pln {n : Nat} {tg e : Expr} {ki : ItK × List E} (h : trIt n T tg e = some ki) : ∀ (env : Env) x, foldedSetIterable e env x = pure x := by
  cases n with
  | zero => cases h
  | succ n =>
    unfold trIt at h
    split at h
    · intro _ _; rfl
    · obtain ⟨a, h1, _⟩ := Option.map_eq_some_iff.mp h
      exact (trE_pln h1).fs
theorem it_tab : ∀ q ∈ itTab, (q.2 = .rng ∧ q.1 = "range") ∨ (q.2 = .enm ∧ q.1 = "enumerate") ∨ (q.2 = .zp ∧ q.1 = "zip") ∨ (q.2 = .rev ∧ q.1 = "reversed") := by decide +kernel
structure TrOk (k : Kc) (sx : Option (Addr × Addr)) (P : Pg) (F : Nat → List D → FOut) (j n : Nat) (X : Cx) (W : WX) (T : Tc) : Prop where
  e : ∀ e a, trE n T e = some a → Snd X k sx W P F e a
  c : ∀ f es a p pos, glo T.sc f = true → okName f = true → trC n T f es = some a → Snd X k sx W P F (.Call (.Name f p) es [] pos) a
  es : ∀ es as, trEs n T es = some as → SndL X k sx W P F es as
  ks : ∀ kws kb, trKs n T kws = some kb → SndK X k sx W P F kws kb.1 kb.2
  it : ∀ tg e ki, trIt n T tg e = some ki → PI X tg e (tIt k sx W P F ki.1 ki.2)
  lc : ∀ elt tg iter ifs scope a, trLc n T elt tg iter ifs scope = some a → LcOk X k sx W P F elt tg iter ifs scope a
theorem tr_ok (j : Nat) : ∀ (n : Nat) (X : Cx) (W : WX) (T : Tc), CtxB X k W P F T j → TrOk k sx P F j n X W T := by
  intro n
  induction n with
  | zero => exact fun X W T C => ⟨fun _ _ h => (nomatch h), fun _ _ _ _ _ _ _ h => (nomatch h), fun _ _ h => (nomatch h), fun _ _ h => (nomatch h), fun _ _ _ h => (nomatch h), fun _ _ _ _ _ _ h => (nomatch h)⟩
  | succ n ih =>
    intro X W T C
    have I := ih X W T C
    refine ⟨fun e a h => ?_, fun f es a p pos g ok h => ?_, fun es as h => ?_, fun kws kb h => ?_, fun tg e ki h => ?_, fun elt tg iter ifs scope a h => ?_⟩
    · unfold trE at h
      split at h
      · split at h
        · cases h; exact s_int C.hK
        · cases h; exact s_bl C.hK
        · cases h; exact s_non C.hK
        · cases h; exact s_str C.hK
        · cases h
      · split at h
        · rename_i x pos c
          obtain ⟨n1, n2, n3⟩ := okName_of c
          split at h
          · rename_i v
            obtain ⟨i, hi, rfl⟩ := Option.map_eq_some_iff.mp h
            exact s_var C.hK (by rw [C.hN]; exact ixOf_get hi) (by rw [C.sc]; exact vis_of v) n1 n2
          · split at h
            · rename_i g
              obtain ⟨i, hi, rfl⟩ := Option.map_eq_some_iff.mp h
              obtain ⟨u, h1, h2⟩ := C.cons x i hi
              exact s_glob C.hK (C.gl g) h1 h2 n1
            · cases h
        · cases h
      · obtain ⟨a1, h1, h2⟩ := Option.bind_eq_some_iff.mp h
        obtain ⟨a2, h3, rfl⟩ := Option.map_eq_some_iff.mp h2
        exact s_bin C.hK (I.e _ _ h1) (I.e _ _ h3)
      · obtain ⟨a1, h1, rfl⟩ := Option.map_eq_some_iff.mp h
        exact s_neg C.hK (I.e _ _ h1)
      · obtain ⟨a1, h1, rfl⟩ := Option.map_eq_some_iff.mp h
        exact s_not C.hK (I.e _ _ h1)
      · split at h
        · cases h
        · rename_i ne
          obtain ⟨as, h1, rfl⟩ := Option.map_eq_some_iff.mp h
          exact s_and (I.es _ _ h1) fun z => ne (by rw [z]; rfl)
      · split at h
        · cases h
        · rename_i ne
          obtain ⟨as, h1, rfl⟩ := Option.map_eq_some_iff.mp h
          exact s_or (I.es _ _ h1) fun z => ne (by rw [z]; rfl)
      · obtain ⟨a1, h1, h2⟩ := Option.bind_eq_some_iff.mp h
        obtain ⟨a2, h3, h4⟩ := Option.bind_eq_some_iff.mp h2
        obtain ⟨a3, h5, rfl⟩ := Option.map_eq_some_iff.mp h4
        exact s_ite C.hK (I.e _ _ h1) (I.e _ _ h3) (I.e _ _ h5)
      · split at h
        · cases h
        · rename_i ne
          simp only [Bool.or_eq_true, not_or, Bool.not_eq_true, bne_eq_false_iff_eq] at ne
          obtain ⟨a1, h1, h2⟩ := Option.bind_eq_some_iff.mp h
          obtain ⟨as, h3, rfl⟩ := Option.map_eq_some_iff.mp h2
          exact s_cmp C.un C.hK (I.e _ _ h1) (I.es _ _ h3) ne.2 (fun z => by rw [z] at ne; exact absurd ne.1 (by decide)) fun e m => (trEs_pln h3 e m).se
      · obtain ⟨as, h1, rfl⟩ := Option.map_eq_some_iff.mp h
        exact s_tup C.hK (I.es _ _ h1)
      · obtain ⟨as, h1, rfl⟩ := Option.map_eq_some_iff.mp h
        exact s_lst C.hK (I.es _ _ h1)
      · obtain ⟨a1, h1, h2⟩ := Option.bind_eq_some_iff.mp h
        obtain ⟨a2, h3, rfl⟩ := Option.map_eq_some_iff.mp h2
        exact s_idx C.hK (I.e _ _ h1) (I.e _ _ h3) (plain_ix (trE_pln h3).sl)
      · split at h
        · rename_i ns
          obtain ⟨f, h1, h2⟩ := Option.bind_eq_some_iff.mp h
          obtain ⟨a1, h3, rfl⟩ := Option.map_eq_some_iff.mp h2
          exact s_attr C.hK (I.e _ _ h3) (C.att _ _ h1).1 (base_any ns _ _ _)
        · cases h
      · split at h
        · rename_i c
          simp only [Bool.and_eq_true] at c
          exact I.c _ _ _ _ _ c.1 c.2 h
        · cases h
      · split at h
        · rename_i c
          simp only [Bool.and_eq_true] at c
          obtain ⟨as, h1, h2⟩ := Option.bind_eq_some_iff.mp h
          obtain ⟨kb, h3, h4⟩ := Option.bind_eq_some_iff.mp h2
          obtain ⟨perm, h5, h6⟩ := Option.bind_eq_some_iff.mp h4
          obtain ⟨n1, n2, n3⟩ := okName_of c.2
          split at h6
          · rename_i f' hf
            cases h6
            obtain ⟨fa, g1, g2⟩ := (C.kws _ _ _ _ h5).1 _ hf
            exact s_callk C.hK g2 (C.room.mono (Nat.le_succ _)) (C.gl c.1) g1 n1 C.tk (I.es _ _ h1) (I.ks _ _ h3) rfl
          · obtain ⟨c', g1, g2⟩ := Option.bind_eq_some_iff.mp h6
            split at g2
            · rename_i o
              cases g2
              obtain ⟨cl, q1, q2, q3⟩ := (C.kws _ _ _ _ h5).2 _ g1 o
              exact s_mkk C.hK q1 q3 C.room (C.gl c.1) q2 n1 C.tk (I.es _ _ h1) (I.ks _ _ h3) rfl
            · cases g2
        · cases h
      · split at h
        · rename_i c
          simp only [Bool.and_eq_true, decide_eq_true_eq] at c
          obtain ⟨⟨c1, c2⟩, c3⟩ := c
          split at h
          · rename_i m hm
            obtain ⟨a1, h1, h2⟩ := Option.bind_eq_some_iff.mp h
            obtain ⟨as, h3, rfl⟩ := Option.map_eq_some_iff.mp h2
            obtain ⟨m1, m2⟩ := C.mts _ _ hm
            have hl := I.es _ _ h3
            exact s_meth C.hK (I.e _ _ h1) hl m1 m2 (C.room.mono (Nat.le_succ _)) C.tk (meth_form hl c3 c2 (base_any c1 _ _ _))
          · obtain ⟨l, h0, h'⟩ := Option.bind_eq_some_iff.mp h
            obtain ⟨a1, h1, h2⟩ := Option.bind_eq_some_iff.mp h'
            obtain ⟨as, h3, rfl⟩ := Option.map_eq_some_iff.mp h2
            exact s_lm C.hK h0 (I.e _ _ h1) (I.es _ _ h3) c3 c2 fun x => base_any c1 _ _ _
        · cases h
      · obtain ⟨t, kd, as, ia, ea, own, rfl, q1, q2, q3, q4, q5, q6, q7, q8⟩ := (I.lc _ _ _ _ _ _ h).ex
        exact s_lc C.hK C.calm C.nd q1 q2 q3 q4 q5 q6 q7 q8
      · cases h
    · obtain ⟨n1, n2, n3⟩ := okName_of ok
      unfold trC at h
      split at h
      · rename_i i hi
        obtain ⟨as, h1, rfl⟩ := Option.map_eq_some_iff.mp h
        obtain ⟨fa, f1, f2⟩ := C.fns _ _ hi
        exact s_call C.hK f2 (C.room.mono (Nat.le_succ _)) (C.gl g) f1 n1 C.tk (I.es _ _ h1)
      · split at h
        · rename_i i hi
          split at h
          · rename_i o
            obtain ⟨as, h1, rfl⟩ := Option.map_eq_some_iff.mp h
            obtain ⟨cl, f1, f2, f3⟩ := C.cls _ _ hi o
            exact s_mk C.hK f1 f3 C.room (C.gl g) f2 n1 C.tk (I.es _ _ h1)
          · split at h
            · rename_i o
              obtain ⟨perm, hp, h2⟩ := Option.bind_eq_some_iff.mp h
              obtain ⟨as, h1, rfl⟩ := Option.map_eq_some_iff.mp h2
              obtain ⟨cl, q1, q2, q3⟩ := (C.kws _ _ _ _ hp).2 _ hi o
              have := s_mkk (kws := []) (pos := pos) (p := p) C.hK q1 q3 C.room (C.gl g) q2 n1 C.tk (I.es _ _ h1) .nil rfl
              rwa [List.append_nil] at this
            · cases h
        · split at h
          · cases h
          · rename_i nt
            have nt : T.blt.contains f = true := by simpa using nt
            split at h
            · rename_i e
              subst e
              split at h
              · rename_i e1 t tp
                split at h
                · rename_i b
                  unfold isB at b
                  simp only [Bool.and_eq_true] at b
                  obtain ⟨ty, t1, t2⟩ := Option.bind_eq_some_iff.mp h
                  obtain ⟨a1, h1, rfl⟩ := Option.map_eq_some_iff.mp t2
                  obtain ⟨m1, m2, m3⟩ := okName_of b.1.2
                  exact s_isi C.hK t1 (C.gl g) (C.blt _ nt) (C.gl b.1.1) (C.blt _ b.2) m3 m1 (trE_pln h1).st (I.e _ _ h1)
                · cases h
              · cases h
            · split at h
              · cases h
              · rename_i ne
                obtain ⟨b, b1, b2⟩ := Option.bind_eq_some_iff.mp h
                obtain ⟨as, h1, rfl⟩ := Option.map_eq_some_iff.mp b2
                exact s_blt C.hK C.calm b1 (C.gl g) (C.blt _ nt) n3 n1 (I.es _ _ h1) fun z => ne (by rw [z]; rfl)
    · cases es with
      | nil => cases h; exact .nil
      | cons e es =>
        obtain ⟨a, h1, h2⟩ := Option.bind_eq_some_iff.mp (show ((trE n T e).bind fun a => (trEs n T es).map fun as => a :: as) = some as from h)
        obtain ⟨as, h3, rfl⟩ := Option.map_eq_some_iff.mp h2
        exact .cons (trE_pln h1).st (I.e _ _ h1) (I.es _ _ h3)
    · unfold trKs at h
      split at h
      · rename_i e; cases e
      · cases h; exact .nil
      · rename_i en
        cases en
        obtain ⟨a, h1, h2⟩ := Option.bind_eq_some_iff.mp h
        obtain ⟨x, h3, rfl⟩ := Option.map_eq_some_iff.mp h2
        exact .cons (I.e _ _ h1) (I.ks _ _ h3)
      · cases h
    · have val : ∀ {e : Expr}, ((trE n T e).map fun a => (ItK.val, [a])) = some ki → PI X tg e (tIt k sx W P F ki.1 ki.2) := fun {e} h => by
        obtain ⟨a, h1, rfl⟩ := Option.map_eq_some_iff.mp h
        exact pi_val C.hK (I.e _ _ h1)
      unfold trIt at h
      split at h
      · rename_i f p es pos
        split at h
        · rename_i kd hk
          split at hk
          · rename_i b
            split at h
            · rename_i cc
              obtain ⟨as, h1, rfl⟩ := Option.map_eq_some_iff.mp h
              unfold isB at b
              simp only [Bool.and_eq_true] at b
              have hl := I.es _ _ h1
              rcases it_tab (f, kd) (lookup_mem hk) with ⟨e, e2⟩ | ⟨e, e2⟩ | ⟨e, e2⟩ | ⟨e, e2⟩
              · have e : kd = .rng := e
                have e2 : f = "range" := e2
                subst e e2
                exact pi_rng hl (of_decide_eq_true cc) (C.gl b.1.1) (C.blt _ b.2)
              · have e : kd = .enm := e
                have e2 : f = "enumerate" := e2
                subst e e2
                have cc : (decide (es.length = 1) && isTupE tg) = true := cc
                simp only [Bool.and_eq_true, decide_eq_true_eq] at cc
                cases tg <;> first | exact absurd cc.2 Bool.false_ne_true | exact pi_en C.hK hl cc.1 (C.gl b.1.1) (C.blt _ b.2)
              · have e : kd = .zp := e
                have e2 : f = "zip" := e2
                subst e e2
                have cc : (decide (es.length = 2) && isTupE tg) = true := cc
                simp only [Bool.and_eq_true, decide_eq_true_eq] at cc
                cases tg <;> first | exact absurd cc.2 Bool.false_ne_true | exact pi_zp C.hK hl cc.1 (C.gl b.1.1) (C.blt _ b.2)
              · have e : kd = .rev := e
                have e2 : f = "reversed" := e2
                subst e e2
                exact pi_rv C.hK hl (of_decide_eq_true cc) (C.gl b.1.1) (C.blt _ b.2)
            · cases h
          · cases hk
        · exact val h
      · exact val h
    · unfold trLc at h
      split at h
      · rename_i cc
        simp only [Bool.and_eq_true, decide_eq_true_eq] at cc
        obtain ⟨⟨kd, as⟩, h1, h2⟩ := Option.bind_eq_some_iff.mp h
        obtain ⟨t, h3, h4⟩ := Option.bind_eq_some_iff.mp h2
        split at h4
        · rename_i ct
          obtain ⟨ea, h5, h6⟩ := Option.bind_eq_some_iff.mp h4
          obtain ⟨ia, h7, rfl⟩ := Option.map_eq_some_iff.mp h6
          have bk : BlkOk X.N X.env.scope scope (ownOf T.N scope.names) := by rw [C.hN, C.sc]; exact blkOk_by cc.1
          refine ⟨t, kd, as, ia, ea, ownOf T.N scope.names, rfl, I.it _ _ _ h1, bk, fun s H c cl fp => ?_, cc.2, fun s H c cl fp => (ih _ _ _ (C.blk s H scope c cl fp)).es _ _ h7, fun s H c cl fp => (ih _ _ _ (C.blk s H scope c cl fp)).e _ _ h5, trIt_pln h1 X.env, fun i m => ?_⟩
          · refine ((trTg_ok (X := X.blk s H scope (compEnvC scope cl c X.env) fp) (T := { T with sc := scope }) ⟨C.hK, C.calm, C.hN, C.nd, fun x l => ?_⟩ n).1 _ _ h3).1
            have keep : ∀ kd, scope.names.lookup x = some kd → kd ≠ .free → (X.blk s H scope (compEnvC scope cl c X.env) fp).env.scope.names.lookup x = some kd := fun kd h n => relS_keep (sc := X.env.scope) h n
            rcases loc_cases l with e | e
            · have q := keep _ e (by decide)
              exact ⟨.inl q, .inr q⟩
            · refine ⟨.inr (keep _ e (by decide)), .inl ?_⟩
              show (scope.names.lookup x == some .cell) = true
              have e : scope.names.lookup x = some .cell := e
              rw [e]
              rfl
          · have := List.all_eq_true.mp ct i m
            simpa using this
        · cases h4
      · cases h
end
end Mv

namespace Mv
open PySem L2
section
variable {X : Cx} {k : Kc} {sx : Option (Addr × Addr)} {W : WX} {P : Pg} {F : Nat → List D → FOut} {pos apos cpos p : Pos} {L : List Nat} {T : Tc} {j : Nat}
variable {Z Z' Z0 Z1 Z2 : Addr → Prop} {H H' H0 H1 H2 : Hp} {σ σ' σ0 σ1 σ2 : St} {r r1 r2 : En} {os os' os0 os1 os2 od : List Addr}
/-! ### raise -/
/-- the dict of a new exception -/
theorem new_xd {c : Nat} {d : D} {v : V} {p : Addr} (R : Rel k sx Z r σ H os) (T : RD k Z H d v od) (nd : (od ++ os).Nodup) (hp : H p = none) :
    ∃ Z', Rel k sx Z' r σ (upd H p (.xd [("what", v)])) os ∧ ExV k Z' (upd H p (.xd [("what", v)])) c d.frz (.ref (k.cA c)) (some p) ∧ Step Z Z' H (upd H p (.xd [("what", v)])) (od ++ os) os := by
  have kp : ∀ a o, H a = some o → upd H p (.xd [("what", v)]) a = some o := fun a o e => by rw [upd_ne (ne_of_none e hp)]; exact e
  obtain ⟨h1, h2, h3⟩ := List.nodup_append.mp nd
  have dm := RD.dom _ _ _ T
  refine ⟨fun a => Z a ∨ a ∈ od ∨ a = p, ⟨R.rs.mono (fun _ z => .inl z) fun a o e _ => kp a o e, R.nd, fun a m z => ?_, fun a z => ?_⟩, ⟨rfl, p, v, rfl, upd_same, .inr (.inr rfl), ?_⟩, ⟨fun a o e _ => kp a o e, fun _ z => .inl z, fun a z => ?_, fun a m => .inl (List.mem_append_right _ m)⟩⟩
  · rcases z with z | z | z
    · exact R.nz a m z
    · exact h3 a z a m rfl
    · obtain ⟨o, e⟩ := R.rs.dom a m
      rw [z, hp] at e; cases e
  · rcases z with z | z | z
    · obtain ⟨o, e⟩ := R.zd a z
      exact ⟨o, kp a o e⟩
    · obtain ⟨o, e⟩ := dm a z
      exact ⟨o, kp a o e⟩
    · rw [z]; exact ⟨_, upd_same⟩
  · have q := RD.frz (Z' := fun a => Z a ∨ a ∈ od ∨ a = p) (fun a z => .inl z) d v od (fun a m => .inr (.inl m)) T
    exact RD.mono (fun _ z => z) _ _ _ (fun a o e _ => kp a o e) q
  · rcases z with z | z | z
    · exact .inl z
    · exact .inr (.inl (List.mem_append_left _ z))
    · rw [z]; exact .inr (.inr hp)
theorem ss_raise {x : Str} {c : Nat} {e : Expr} {a : E} {n : Nat} (hc : X.calm = true) (tk : Takes X W) (E1 : ErAt X (k.cA c)) (gC : X.mg x = some (.ref (k.cA c))) (hr : Room n X.A) (hg : Gl X x) (hdb : (x == ("__debug__" : Str)) = false) (hn : nst e = true) (h : Snd X k sx W P F e a) :
    SS X k sx W P F (.Raise (some (.Call (.Name x p) [e] [] cpos)) none pos) (.raise c a) := fun L _ => by
  obtain ⟨B, cc, fI, bmB, T1, T2, T3⟩ := E1.made
  have sl : SndL X k sx W P F [e] [a] := .cons hn h .nil
  refine (ps_raise hc tk (pmk_rf (p := p) (pos := cpos) T1 T2 T3 gC hr (pa_es sl) hg hdb (star_cons hn _ _))).weak fun D0 σ H ⟨Z, r, os, R, q⟩ => ?_
  have q : SatS k sx W L Z H os σ (((ev P F a).v r).bind fun w r => Out.exc c w.frz r) D0 := q
  refine ⟨Z, r, os, R, ?_⟩
  have q2 : Sat k sx W Z H os σ (((ev P F a).v r).bind fun d r => (Out.ok [] r).bind fun ds r => Out.ok (d :: ds) r) (PostL k sx Z H os σ fun vs H1 => ∃ v, vs = [v] ∧ ∀ d, H1 d = none → W (.ref (k.cA c)) (some d) σ (upd H1 d (.xd [(("what" : Str), v)]))) := by
    refine Sat.bind.mpr ((SatS.bind q).imp fun d r1 q1 => ?_)
    show PostL k sx Z H os σ _ [d] r1
    intro vs H1 Z1 od os1 R1 rd nd nz S1
    obtain ⟨v, rfl, rd1⟩ := RDs.of1 rd
    refine ⟨v, rfl, fun p hp => ?_⟩
    obtain ⟨Z2, R2, ex, S2⟩ := new_xd (c := c) R1 rd1 nd hp
    exact q1 σ _ _ _ Z2 os1 R2 Agr.refl ex (S1.trans S2)
  exact q2
/-! ### what an except suite says -/
theorem RS.lift (h : RS k none Z H r σ os) (sx : Option (Addr × Addr)) : RS k sx Z H r σ os := by
  induction h with
  | nil => exact .nil
  | emp _ ih => exact .emp ih
  | val h1 _ ih => exact .val h1 ih
  | ex e _ _ _ _ _ => cases e
theorem RS.drop (h : RS k sx Z H r σ os) (c : clean r = true) : RS k none Z H r σ os := by
  induction h with
  | nil => exact .nil
  | emp _ ih => exact .emp (ih (by simpa [clean] using c))
  | val h1 _ ih =>
    simp only [clean, List.all_cons, Bool.and_eq_true] at c
    exact .val h1 (ih c.2)
  | ex _ _ _ _ _ _ => simp [clean] at c
/-- an exception comes into a slot -/
theorem RS.hold {i c : Nat} {w : D} {a d : Addr} {v : V} (h : RS k (Option.some (a, d)) Z H r σ os) (hi : i < r.length) (z : Z d) (hd : H d = Option.some (.xd [("what", v)])) (rd : RD k Z H w v []) :
    ∃ os', RS k (Option.some (a, d)) Z H (r.set i (Option.some (.exn c w))) (σ.set i (Option.some (.ref a))) os' ∧ os'.Sublist os := by
  induction h generalizing i with
  | nil => simp at hi
  | @emp x r s os h ih =>
    cases i with
    | zero => exact ⟨os, .ex rfl z hd rd h, List.Sublist.refl _⟩
    | succ i =>
      obtain ⟨os', h1, h2⟩ := ih (i := i) (by simpa using hi)
      exact ⟨os', .emp h1, h2⟩
  | @val d0 v0 r s o0 os h1 h ih =>
    cases i with
    | zero => exact ⟨os, .ex rfl z hd rd h, List.sublist_append_right _ _⟩
    | succ i =>
      obtain ⟨os', g1, g2⟩ := ih (i := i) (by simpa using hi)
      exact ⟨o0 ++ os', .val h1 g1, List.Sublist.append (List.Sublist.refl _) g2⟩
  | @ex c0 w0 a0 dd v0 r s os e0 z0 hd0 h1 h ih =>
    cases i with
    | zero => exact ⟨os, .ex rfl z hd rd h, List.Sublist.refl _⟩
    | succ i =>
      obtain ⟨os', g1, g2⟩ := ih (i := i) (by simpa using hi)
      exact ⟨os', .ex e0 z0 hd0 h1 g1, g2⟩
/-- a slot is emptied, an exception's too -/
theorem RS.empt (h : RS k sx Z H r σ os) : ∀ (i : Nat) (x : Option V), ∃ os', RS k sx Z H (r.set i none) (σ.set i x) os' ∧ os'.Sublist os := by
  induction h with
  | nil => exact fun i x => ⟨[], .nil, List.Sublist.refl _⟩
  | @emp x0 r s os h ih =>
    intro i x
    cases i with
    | zero => exact ⟨os, .emp h, List.Sublist.refl _⟩
    | succ i =>
      obtain ⟨os', h1, h2⟩ := ih i x
      exact ⟨os', .emp h1, h2⟩
  | @val d0 v0 r s o0 os h1 h ih =>
    intro i x
    cases i with
    | zero => exact ⟨os, .emp h, List.sublist_append_right _ _⟩
    | succ i =>
      obtain ⟨os', g1, g2⟩ := ih i x
      exact ⟨o0 ++ os', .val h1 g1, List.Sublist.append (List.Sublist.refl _) g2⟩
  | @ex c0 w0 a0 dd v0 r s os e0 z0 hd0 h1 h ih =>
    intro i x
    cases i with
    | zero => exact ⟨os, .emp h, List.Sublist.refl _⟩
    | succ i =>
      obtain ⟨os', g1, g2⟩ := ih i x
      exact ⟨os', .ex e0 z0 hd0 h1 g1, g2⟩
theorem RS.exn {i c : Nat} {w : D} (h : RS k sx Z H r σ os) (e : slot r i = Option.some (.exn c w)) : ∃ a d v, sx = Option.some (a, d) ∧ σ[i]? = Option.some (Option.some (.ref a)) ∧ Z d ∧ H d = Option.some (.xd [("what", v)]) ∧ RD k Z H w v [] := by
  induction h generalizing i with
  | nil => simp [slot] at e
  | emp h ih =>
    cases i with
    | zero => simp [slot] at e
    | succ i => exact ih (i := i) e
  | @val d0 v0 r s o0 os h1 h ih =>
    cases i with
    | zero =>
      have e : d0 = .exn c w := by simpa [slot] using e
      subst e
      cases h1
    | succ i => exact ih (i := i) e
  | @ex c0 w0 a0 dd v0 r s os e0 z0 hd0 h1 h ih =>
    cases i with
    | zero =>
      have e : D.exn c0 w0 = .exn c w := by simpa [slot] using e
      cases e
      exact ⟨a0, dd, v0, e0, rfl, z0, hd0, h1⟩
    | succ i => exact ih (i := i) e
/-- e.what within a suite -/
theorem s_what {a d C : Addr} {cls : Value} {oe : Obj} {pn : List (Addr × Obj)} {x : Str} {i : Nat} {np : Pos} (hK : X.K = k.K) (hN : X.N[i]? = some x) (hv : Vis X.env.scope x) (hd : (x == ("__debug__" : Str)) = false) (hcd : (x == ("__classdict__" : Str)) = false)
    (hC : cls = .ref C) (T1 : XfC X.K C) (hno : PySem.W.findIn X.K (.ref C) "what" = some none) (hz : Zc cls (some d) oe) (hf : ∃ vs, oe.data = .fields vs) :
    Snd (X.suite a ((a, oe) :: pn)) k (some (a, d)) WN P F (.Attribute (.Name x np) "what" pos) (.what i) := by
  have pn1 : PE (X.suite a ((a, oe) :: pn)) (.Name x np) (tVar i) := pe_var (X := X.suite a ((a, oe) :: pn)) hN hv hd hcd
  refine snd1 (f := fun r => match slot r i with
    | some (.exn _ w) => .ok w r
    | _ => .bad) hK ((pe_xf (n := "what") T1 hno hz hf pn1).weak fun σ H Q ⟨Z, r, os, R, q⟩ => ?_) (fun _ => rfl) rfl (pl_no fun _ => rfl) (it_no fun _ => rfl)
  dsimp only at q
  split at q
  · rename_i c w e
    obtain ⟨a', d', v, e1, e2, z, hd', rd⟩ := R.rs.exn e
    cases e1
    exact ⟨.ref a, e2, rfl, hC, d, _, v, rfl, hd', by simp [List.lookup], q v H Z [] os R rd R.nd (fun _ m => by cases m) Step.refl⟩
  · exact q.elim
end
/-- a suite's context -/
structure CtxU (X : Cx) (k : Kc) (T : Tc) (q : Option (Str × Nat)) : Prop where
  t : CtxT X k T
  sc : X.env.scope = T.sc
  q : ∀ y i, q = some (y, i) → ixOf y T.N = some i
section
variable {X : Cx} {k : Kc} {P : Pg} {F : Nat → List D → FOut} {L : List Nat} {T : Tc} {q : Option (Str × Nat)} {a d C : Addr} {cls : Value} {oe : Obj} {pn : List (Addr × Obj)}
theorem trX_nst {n : Nat} {e : Expr} {b : E} (h : trX n T q e = some b) : nst e = true := by
  cases n with
  | zero => cases h
  | succ n => cases e <;> first | rfl | (simp [trX] at h)
theorem trX_ok (U : CtxU X k T q) (hC : cls = .ref C) (T1 : XfC X.K C) (hno : PySem.W.findIn X.K (.ref C) "what" = some none) (hz : Zc cls (some d) oe) (hf : ∃ vs, oe.data = .fields vs) :
    ∀ n, (∀ e b, trX n T q e = some b → Snd (X.suite a ((a, oe) :: pn)) k (some (a, d)) WN P F e b) ∧ ∀ es bs, trXs n T q es = some bs → SndL (X.suite a ((a, oe) :: pn)) k (some (a, d)) WN P F es bs := by
  have hK : (X.suite a ((a, oe) :: pn)).K = k.K := U.t.hK
  intro n
  induction n with
  | zero => exact ⟨fun _ _ h => (nomatch h), fun _ _ h => (nomatch h)⟩
  | succ n ih =>
    refine ⟨fun e b h => ?_, fun es bs h => ?_⟩
    · unfold trX at h
      split at h
      · split at h
        · cases h; exact s_int hK
        · cases h; exact s_bl hK
        · cases h; exact s_non hK
        · cases h; exact s_str hK
        · cases h
      · cases h; exact s_neg hK (s_int hK)
      · split at h
        · rename_i y i
          split at h
          · rename_i c
            cases h
            simp only [Bool.and_eq_true, decide_eq_true_eq] at c
            obtain ⟨⟨⟨rfl, c2⟩, c3⟩, rfl⟩ := c
            obtain ⟨n1, n2, n3⟩ := okName_of c3
            exact s_what U.t.hK (by rw [U.t.hN]; exact ixOf_get (U.q _ _ rfl)) (by rw [U.sc]; exact vis_of c2) n1 n2 hC T1 hno hz hf
          · cases h
        · cases h
      · obtain ⟨as, h1, rfl⟩ := Option.map_eq_some_iff.mp h
        exact s_tup hK (ih.2 _ _ h1)
      · obtain ⟨as, h1, rfl⟩ := Option.map_eq_some_iff.mp h
        exact s_lst hK (ih.2 _ _ h1)
      · cases h
    · cases es with
      | nil => cases h; exact .nil
      | cons e es =>
        obtain ⟨b, h1, h2⟩ := Option.bind_eq_some_iff.mp (show ((trX n T q e).bind fun a => (trXs n T q es).map fun as => a :: as) = some bs from h)
        obtain ⟨as, h3, rfl⟩ := Option.map_eq_some_iff.mp h2
        exact .cons (trX_nst h1) (ih.1 _ _ h1) (ih.2 _ _ h3)
theorem ncm_of' {e : Expr} (h : ncm e = true) (t : Option Expr) (l : Nat) (env : Env) : swapsWith e t l env = pure false := by
  cases e <;> first | rfl | cases h
theorem sole_ncm' {e t : Expr} (h : ncm e = true) {l : Nat} {env : Env} : swapsWithSole [t] e l env = pure false := ncm_of' h (some t) l env
theorem nam_none' {e : Expr} {y : Str} {p : Pos} {env : Env} : swappedStores [.Name y p] e env = pure none := by
  cases e <;> rfl
theorem trXB_ok (U : CtxU X k T q) (hC : cls = .ref C) (T1 : XfC X.K C) (hno : PySem.W.findIn X.K (.ref C) "what" = some none) (hz : Zc cls (some d) oe) (hf : ∃ vs, oe.data = .fields vs) (n : Nat) :
    ∀ ss bs, trXB n T q ss = some bs → SSs (X.suite a ((a, oe) :: pn)) k (some (a, d)) WN P F ss bs := by
  intro ss
  induction ss with
  | nil => intro bs h; cases h; exact ss_nil
  | cons s ss ih =>
    intro bs h
    obtain ⟨b, h1, h2⟩ := Option.bind_eq_some_iff.mp (show ((trXS n T q s).bind fun a => (trXB n T q ss).map fun as => a :: as) = some bs from h)
    obtain ⟨as, h3, rfl⟩ := Option.map_eq_some_iff.mp h2
    refine ss_cons ?_ (ih _ h3)
    have E := (trX_ok (P := P) (F := F) (a := a) (pn := pn) U hC T1 hno hz hf n).1
    unfold trXS at h1
    split at h1
    · cases h1; exact ss_retN
    · obtain ⟨e, g1, rfl⟩ := Option.map_eq_some_iff.mp h1
      exact ss_ret (E _ _ g1)
    · split at h1
      · rename_i c
        simp only [Bool.and_eq_true] at c
        obtain ⟨i, g1, g2⟩ := Option.bind_eq_some_iff.mp h1
        obtain ⟨e, g3, rfl⟩ := Option.map_eq_some_iff.mp g2
        obtain ⟨l1, l2⟩ := U.t.loc _ c.2
        exact ss_asg (g_name (X := X.suite a ((a, oe) :: pn)) U.t.nd (by show X.N[i]? = _; rw [U.t.hN]; exact ixOf_get g1) l1 l2) (E _ _ g3) (sole_ncm' c.1) nam_none' rfl
      · cases h1
    · cases h1; exact ss_pass
    · cases h1
/-! ### try -/
/-- all clauses of a try -/
structure HdT (X : Cx) (k : Kc) (T : Tc) (n : Nat) (e : ExceptHandler) (h : Hd) : Prop where
  ex : ∃ (x : Str) (c : Nat) (b : Stmt) (bs : List Stmt) (as : List S) (np hp : Pos), Names X x (.ref (k.cA c)) ∧ T.ec.contains c = true ∧
    ((e = .ExceptHandler (some (.Name x np)) none (b :: bs) hp ∧ h = .mk c none as ∧ trXB n T none (b :: bs) = some as) ∨
     ∃ (y : Str) (i : Nat), e = .ExceptHandler (some (.Name x np)) (some y) (b :: bs) hp ∧ h = .mk c (some i) as ∧ trXB n T (some (y, i)) (b :: bs) = some as ∧ ixOf y T.N = some i ∧ T.sc.names.lookup y = some .local)
theorem trH_ok {n : Nat} (gl : ∀ x, glo T.sc x = true → Gl X x) (er : ∀ x c, ixOf x T.cls = some c → T.ec.contains c = true → X.mg x = some (.ref (k.cA c))) {e : ExceptHandler} {h : Hd} (t : trH n T e = some h) : HdT X k T n e h := by
  have ecN : ∀ {x : Str} {c : Nat}, ecOf T x = some c → Names X x (.ref (k.cA c)) ∧ T.ec.contains c = true := fun {x c} h => by
    unfold ecOf at h
    split at h
    · rename_i g
      simp only [Bool.and_eq_true] at g
      obtain ⟨c', h1, h2⟩ := Option.bind_eq_some_iff.mp h
      split at h2
      · rename_i cc
        cases h2
        exact ⟨⟨gl _ g.1, (okName_of g.2).1, .inl (er _ _ h1 cc)⟩, cc⟩
      · cases h2
    · cases h
  unfold trH at t
  split at t
  · obtain ⟨c, h1, h2⟩ := Option.bind_eq_some_iff.mp t
    obtain ⟨as, h3, rfl⟩ := Option.map_eq_some_iff.mp h2
    obtain ⟨g1, g2⟩ := ecN h1
    exact ⟨_, c, _, _, as, _, _, g1, g2, .inl ⟨rfl, rfl, h3⟩⟩
  · split at t
    · rename_i hl
      obtain ⟨c, h1, h2⟩ := Option.bind_eq_some_iff.mp t
      obtain ⟨i, h4, h5⟩ := Option.bind_eq_some_iff.mp h2
      obtain ⟨as, h3, rfl⟩ := Option.map_eq_some_iff.mp h5
      obtain ⟨g1, g2⟩ := ecN h1
      exact ⟨_, c, _, _, as, _, _, g1, g2, .inr ⟨_, i, rfl, rfl, h3, h4, hl⟩⟩
    · cases t
  · cases t
/-- the class is an own error class, as far as a suite asks -/
def ErC (K : PySem.W.Frag) (cls : Value) : Prop := ∃ C, cls = .ref C ∧ XfC K C ∧ PySem.W.findIn K (.ref C) "what" = some none
def tsU (X : Cx) (k : Kc) (P : Pg) (F : Nat → List D → FOut) (L : List Nat) (as : List S) (a : Addr) (cls : Value) (d : Option Addr) : TS := match d with
  | some dd => fun D σ H => ErC X.K cls ∧ tS k (some (a, dd)) WN L (fun r => evB P F as r) D σ H
  | none => fun _ _ _ => False
theorem tsU_ok {n : Nat} {ss : List Stmt} {as : List S} (U : CtxU X k T q) (h : trXB n T q ss = some as) (hL : ∀ i ∈ stB as, i ∈ L) {d : Option Addr} (hz : Zc cls d oe) (hf : ∃ vs, oe.data = .fields vs) :
    PSs (X.suite a ((a, oe) :: pn)) ss (tsU X k P F L as a cls d) := by
  cases d with
  | none => exact ⟨fun _ _ _ _ _ _ h => h.elim⟩
  | some dd =>
    by_cases c : ErC X.K cls
    · obtain ⟨C, c1, c2, c3⟩ := c
      exact (trXB_ok (P := P) (F := F) (a := a) (pn := pn) U c1 c2 c3 hz hf n ss as h L hL).weak fun D0 σ H q => q.2
    · exact ⟨fun _ _ _ _ _ _ h => (c h.1).elim⟩
def hdK (X : Cx) (k : Kc) (P : Pg) (F : Nat → List D → FOut) (L : List Nat) : Hd → HdK
  | .mk c i as => ⟨.ref (k.cA c), i, tsU X k P F L as⟩
theorem trHs_ok {n : Nat} (U : CtxU X k T none) (kO : ∀ x, X.env.kindOf x = X.env.scope.names.lookup x) (gl : ∀ x, glo T.sc x = true → Gl X x) (er : ∀ x c, ixOf x T.cls = some c → T.ec.contains c = true → X.mg x = some (.ref (k.cA c))) :
    ∀ {es : List ExceptHandler} {hs : List Hd}, trHs n T es = some hs → (∀ i ∈ stHs hs, i ∈ L) → HdsMx X es (hs.map (hdK X k P F L)) ∧ ∀ h ∈ hs, ∃ c i as, h = .mk c i as ∧ T.ec.contains c = true := by
  intro es
  induction es with
  | nil => intro hs h _; cases h; exact ⟨.nil, fun _ m => by cases m⟩
  | cons e es ih =>
    intro hs h hL
    obtain ⟨b, h1, h2⟩ := Option.bind_eq_some_iff.mp (show ((trH n T e).bind fun a => (trHs n T es).map fun as => a :: as) = some hs from h)
    obtain ⟨hs2, h3, rfl⟩ := Option.map_eq_some_iff.mp h2
    obtain ⟨x, c, b0, bs, as, np, hp, g1, g2, g3⟩ := (trH_ok gl er h1).ex
    rcases g3 with ⟨rfl, rfl, g4⟩ | ⟨y, i, rfl, rfl, g4, g5, g6⟩
    · have l1 : ∀ i ∈ stB as, i ∈ L := fun i m => hL i (by show i ∈ (none : Option Nat).toList ++ stB as ++ stHs hs2; simp [m])
      obtain ⟨r1, r2⟩ := ih h3 fun i m => hL i (by show i ∈ (none : Option Nat).toList ++ stB as ++ stHs hs2; simp [m])
      refine ⟨.cons (.plain g1 fun a oe cls d pn hz hf => tsU_ok U g4 l1 hz hf) r1, fun h m => ?_⟩
      rcases List.mem_cons.mp m with rfl | m
      · exact ⟨_, _, _, rfl, g2⟩
      · exact r2 h m
    · have l1 : ∀ j ∈ stB as, j ∈ L := fun j m => hL j (by show j ∈ (some i : Option Nat).toList ++ stB as ++ stHs hs2; simp [m])
      obtain ⟨r1, r2⟩ := ih h3 fun j m => hL j (by show j ∈ (some i : Option Nat).toList ++ stB as ++ stHs hs2; simp [m])
      refine ⟨.cons (.named g1 (by rw [U.t.hN]; exact ixOf_get g5) (by rw [kO, U.sc]; exact g6) fun a oe cls d pn hz hf => tsU_ok ⟨U.t, U.sc, fun y' i' e' => by cases e'; exact g5⟩ g4 l1 hz hf) r1, fun h m => ?_⟩
      rcases List.mem_cons.mp m with rfl | m
      · exact ⟨_, _, _, rfl, g2⟩
      · exact r2 h m
end
end Mv

namespace Mv
open PySem L2
section
variable {X : Cx} {k : Kc} {sx : Option (Addr × Addr)} {W : WX} {P : Pg} {F : Nat → List D → FOut} {pos : Pos} {L : List Nat} {T : Tc}
variable {Z Z' Z1 : Addr → Prop} {H H' H1 : Hp} {σ σ' σ1 : St} {r r1 r2 : En} {os os' os1 od : List Addr} {D0 : Ends}
def wipe1 (i : Option Nat) (r : En) : En := match i with
  | none => r
  | some j => r.set j none
/-- behind a suite: its name's slot is empty, nothing of the exception is held -/
theorem rel_out {a d : Addr} {i : Option Nat} (R : Rel k (some (a, d)) Z r σ H os) (c : clean (wipe1 i r) = true) :
    ∃ os', Rel k none Z (wipe1 i r) (outSt1 i σ) H os' ∧ ∀ x ∈ os', x ∈ os := by
  cases i with
  | none => exact ⟨os, ⟨R.rs.drop c, R.nd, R.nz, R.zd⟩, fun _ m => m⟩
  | some j =>
    obtain ⟨os', h1, h2⟩ := R.rs.empt j none
    exact ⟨os', ⟨h1.drop c, h2.nodup R.nd, fun x m => R.nz x (h2.subset m), R.zd⟩, fun x m => h2.subset m⟩
theorem suite_end {a d : Addr} {i : Option Nat} {o : Out Fl} (hi : ∀ j, i = some j → j ∈ L) (ag : Agr L σ σ1) (ag1 : Agr L σ σ') (S : Step Z Z1 H H1 os os1)
    (q : SatS k none W L Z H os σ (match o with
      | .ok f r1 => if clean (wipe1 i r1) then .ok f (wipe1 i r1) else .bad
      | _ => .bad) D0) (hs : ∀ τ, Agr L σ1 τ → Agr L σ τ) : SatS k (some (a, d)) WN L Z1 H1 os1 σ1 o (endSt i D0) := by
  cases o with
  | bad => exact q.elim
  | exc c w r => exact q.elim
  | ok f r2 =>
    dsimp only at q
    by_cases c : clean (wipe1 i r2) = true
    · rw [if_pos c] at q
      have agO : ∀ τ : St, Agr L σ1 τ → Agr L σ (outSt1 i τ) := fun τ t => by
        cases i with
        | none => exact hs τ t
        | some j => exact (hs τ t).trans (set_agr.mono fun x m => by rw [List.mem_singleton.mp m]; exact hi j rfl)
      cases f with
      | next =>
        intro τ H' Z' os' R t T
        obtain ⟨os2, R2, sub⟩ := rel_out R c
        exact q _ H' Z' os2 R2 (agO τ t) ((S.trans T).less sub)
      | brk =>
        intro τ H' Z' os' R t T
        obtain ⟨os2, R2, sub⟩ := rel_out R c
        exact q _ H' Z' os2 R2 (agO τ t) ((S.trans T).less sub)
      | cont =>
        intro τ H' Z' os' R t T
        obtain ⟨os2, R2, sub⟩ := rel_out R c
        exact q _ H' Z' os2 R2 (agO τ t) ((S.trans T).less sub)
      | ret v0 =>
        intro τ v H' Z' odr os' R t rd nd nz T
        obtain ⟨os2, R2, sub⟩ := rel_out R c
        obtain ⟨n1, n2, n3⟩ := List.nodup_append.mp nd
        refine q _ v H' Z' odr os2 R2 (agO τ t) rd (List.nodup_append.mpr ⟨n1, R2.nd, fun x m y m2 => n3 x m y (sub y m2)⟩) nz ((S.trans T).less fun x m => ?_)
        rcases List.mem_append.mp m with m | m
        · exact List.mem_append_left _ m
        · exact List.mem_append_right _ (sub x m)
    · rw [if_neg c] at q
      exact q.elim
theorem evH1_eq {c e : Nat} {w : D} {i : Option Nat} {as : List S} : evH1 P F c w (.mk e i as) r1 = if upOf P c e then some (match i with
      | none => (match evB P F as r1 with
        | .ok f r1 => if clean r1 then .ok f r1 else .bad
        | _ => .bad)
      | some j => if j < r1.length then (match evB P F as (r1.set j (some (.exn c w))) with
        | .ok f r1 => if clean (r1.set j none) then .ok f (r1.set j none) else .bad
        | _ => .bad) else .bad) else none := rfl
theorem mix_ok {c : Nat} {w : D} {cls : Value} {d : Option Addr} (hc : upOf P c c = true) (exm : ∀ c d, upOf P c c = true → T.ec.contains d = true → PySem.W.exmOne X.K (.ref (k.cA c)) (.ref (k.cA d)) = some (upOf P c d)) (exx : ∀ c, upOf P c c = true → ErC X.K (.ref (k.cA c)))
    (R1 : Rel k none Z1 r1 σ1 H1 os1) (ag : Agr L σ σ1) (ex : ExV k Z1 H1 c w cls d) (S : Step Z Z1 H H1 os os1) :
    ∀ hs : List Hd, (∀ h ∈ hs, ∃ c i as, h = .mk c i as ∧ T.ec.contains c = true) → (∀ i ∈ stHs hs, i ∈ L) → SatS k none W L Z H os σ (evH P F c w hs r1) D0 → wMix X.K W D0 (hs.map (hdK X k P F L)) cls d σ1 H1
  | [], _, _, q => q σ1 cls d H1 Z1 os1 R1 ag ex S
  | h :: hs, hh, hL, q => by
    obtain ⟨e, i, as, rfl, he⟩ := hh h List.mem_cons_self
    have hL2 : ∀ j ∈ stHs hs, j ∈ L := fun j m => hL j (by show j ∈ i.toList ++ stB as ++ stHs hs; simp [m])
    have hLi : ∀ j, i = some j → j ∈ L := fun j m => hL j (by show j ∈ i.toList ++ stB as ++ stHs hs; simp [m])
    have e1 := exm c e hc he
    obtain ⟨rfl, dd, v, rfl, x2, x3, x4⟩ := ex
    have q : SatS k none W L Z H os σ (match evH1 P F c w (.mk e i as) r1 with
      | some o => o
      | none => evH P F c w hs r1) D0 := q
    rw [evH1_eq] at q
    refine ⟨upOf P c e, e1, fun b a na => ?_, fun b => ?_⟩
    · rw [if_pos b] at q
      refine ⟨exx c hc, ?_⟩
      cases i with
      | none =>
        exact ⟨Z1, r1, os1, ⟨R1.rs.lift _, R1.nd, R1.nz, R1.zd⟩, suite_end (i := none) (W := W) hLi ag ag S q fun τ t => ag.trans t⟩
      | some j =>
        dsimp only at q
        split at q
        · rename_i hj
          obtain ⟨os2, h1, h2⟩ := (R1.rs.lift (some (a, dd))).hold (c := c) (w := w) hj x3 x2 x4
          have st : Agr L σ1 (σ1.set j (some (.ref a))) := set_agr.mono fun x m => by rw [List.mem_singleton.mp m]; exact hLi j rfl
          exact ⟨Z1, _, os2, ⟨h1, h2.nodup R1.nd, fun x m => R1.nz x (h2.subset m), R1.zd⟩, suite_end (i := some j) (W := W) hLi (ag.trans st) ag (S.less fun x m => h2.subset m) q fun τ t => (ag.trans st).trans t⟩
        · exact q.elim
    · rw [if_neg (by rw [b]; decide)] at q
      exact mix_ok hc exm exx R1 ag ⟨rfl, dd, v, rfl, x2, x3, x4⟩ S hs (fun h m => hh h (List.mem_cons_of_mem _ m)) hL2 q
theorem ss_try {ss : List Stmt} {bs : List S} {e0 : ExceptHandler} {es : List ExceptHandler} {hs : List Hd} (st : X.stack = X.env :: X.outer) (hf : X.env.frame = some X.env.locals) (nd : X.N.Nodup) (tk : Takes X W)
    (body : ∀ (W' : WX) (pn : List (Addr × Obj)) (xe : Value → Shared → Prop), Takes (X.tr pn xe) W' → PassesOwn (model X.prog X.w) X.A X.env xe → SSs (X.tr pn xe) k none W' P F ss bs)
    (mx : ∀ L, (∀ i ∈ stHs hs, i ∈ L) → HdsMx X (e0 :: es) (hs.map (hdK X k P F L)) ∧ ∀ h ∈ hs, ∃ c i as, h = .mk c i as ∧ T.ec.contains c = true)
    (exm : ∀ c d, upOf P c c = true → T.ec.contains d = true → PySem.W.exmOne X.K (.ref (k.cA c)) (.ref (k.cA d)) = some (upOf P c d)) (exx : ∀ c, upOf P c c = true → ErC X.K (.ref (k.cA c))) :
    SS X k none W P F (.Try ss (e0 :: es) [] [] pos) (.tryS bs hs) := fun L hL => by
  have l1 : ∀ i ∈ stB bs, i ∈ L := fun i m => hL i (List.mem_append_left _ m)
  have l2 : ∀ i ∈ stHs hs, i ∈ L := fun i m => hL i (List.mem_append_right _ m)
  obtain ⟨m1, m2⟩ := mx L l2
  refine (ps_try_mix (tb := fun W' => tS k none W' L (evB P F bs)) st hf nd tk (fun W' pn xe t p => body W' pn xe t p L l1) m1).weak fun D1 σ H ⟨Z, r, os, R, q⟩ => ⟨Z, r, os, R, ?_⟩
  have q : SatS k none W L Z H os σ (match evB P F bs r with
    | .ok f r1 => .ok f r1
    | .exc c w r1 => if upOf P c c then evH P F c w hs r1 else .bad
    | .bad => .bad) D1 := q
  cases h : evB P F bs r with
  | ok f r1 =>
    rw [h] at q
    cases f <;> exact q
  | bad => rw [h] at q; exact q.elim
  | exc c w r1 =>
    rw [h] at q
    dsimp only at q
    split at q
    · rename_i hc
      exact fun σ1 cls d H1 Z1 os1 R1 ag ex S => mix_ok hc exm exx R1 ag ex S hs m2 l2 q
    · exact q.elim
end
end Mv

namespace Mv
open PySem L2

section
variable {X : Cx} {k : Kc} {sx : Option (Addr × Addr)} {W : WX} {P : Pg} {F : Nat → List D → FOut} {pos apos cpos p : Pos} {es : List Expr} {as : List E} {T : Tc} {j : Nat}

/-- what is known of a frame: statements -/
structure CtxS (X : Cx) (k : Kc) (W : WX) (P : Pg) (F : Nat → List D → FOut) (T : Tc) (j : Nat) : Prop where
  b : CtxB X k W P F T j
  fnc : ∀ x, T.sc.names.lookup x = some .cell → X.fn x = true
  pass : PassesOwn (model X.prog X.w) X.A X.env X.xe
  st : X.stack = X.env :: X.outer
  fr : X.env.frame = some X.env.locals
  exm : ∀ c d, upOf P c c = true → T.ec.contains d = true → PySem.W.exmOne X.K (.ref (k.cA c)) (.ref (k.cA d)) = some (upOf P c d)
  exx : ∀ c, upOf P c c = true → ErC X.K (.ref (k.cA c))
/-- .. in a try's body -/
theorem CtxB.tr (C : CtxB X k W P F T j) {W' : WX} (pn : List (Addr × Obj)) (xe : Value → Shared → Prop) (t : Takes (X.tr pn xe) W') : CtxB (X.tr pn xe) k W' P F T j where
  hK := C.hK
  calm := C.calm
  hN := C.hN
  nd := C.nd
  sc := C.sc
  un := C.un
  room := C.room
  tk := t
  cons := C.cons
  fns := fun x f h => by
    obtain ⟨fa, h1, h2⟩ := C.fns x f h
    exact ⟨fa, h1, ⟨h2.ex, h2.kp⟩⟩
  cls := fun x c h o => by
    obtain ⟨cl, h1, h2, h3⟩ := C.cls x c h o
    exact ⟨cl, h1, h2, ⟨h3.ex, h3.oc⟩⟩
  mts := fun x m h => ⟨(C.mts x m h).1, fun c cl f o h1 h2 => ⟨((C.mts x m h).2 c cl f o h1 h2).ex⟩⟩
  att := C.att
  blt := C.blt
  ers := fun x c h o => by
    obtain ⟨h1, h2⟩ := C.ers x c h o
    exact ⟨h1, ⟨h2.made, h2.xf⟩⟩
  kws := fun x n ks perm h => ⟨fun f hf => by
    obtain ⟨fa, h1, h2⟩ := (C.kws x n ks perm h).1 f hf
    exact ⟨fa, h1, ⟨h2.ex, h2.kp⟩⟩, fun c hc o => by
    obtain ⟨cl, h1, h2, h3⟩ := (C.kws x n ks perm h).2 c hc o
    exact ⟨cl, h1, h2, ⟨h3.ex, h3.oc⟩⟩⟩
theorem CtxS.tr (C : CtxS X k W P F T j) {W' : WX} (pn : List (Addr × Obj)) (xe : Value → Shared → Prop) (t : Takes (X.tr pn xe) W') (p : PassesOwn (model X.prog X.w) X.A X.env xe) : CtxS (X.tr pn xe) k W' P F T j :=
  ⟨C.b.tr pn xe t, C.fnc, p, C.st, C.fr, C.exm, C.exx⟩
theorem CtxS.t (C : CtxS X k W P F T j) : CtxT X k T := ⟨C.b.hK, C.b.calm, C.b.hN, C.b.nd, fun x h => by
  rw [C.b.sc]
  rcases loc_cases h with e | e
  · exact ⟨.inl e, .inr e⟩
  · exact ⟨.inr e, .inl (C.fnc x e)⟩⟩
theorem ncm_of {e : Expr} (h : ncm e = true) (t : Option Expr) (l : Nat) (env : Env) : swapsWith e t l env = pure false := by
  cases e <;> first | rfl | cases h
theorem sole_sub {e a i : Expr} {p : Pos} {l : Nat} {env : Env} : swapsWithSole [.Subscript a i p] e l env = pure false := by
  cases e <;> rfl
theorem att_sub {e a : Expr} {f : Str} {p : Pos} {l : Nat} {env : Env} : swapsWith e (some (.Attribute a f p)) l env = pure false := by
  cases e <;> rfl
theorem par_none {e : Expr} {ts : List Expr} {n : Nat} {p : Pos} {env : Env} (h : isTup2 e = false) : swappedStores [.Tuple ts n p] e env = pure none := by
  cases e <;> first | rfl | cases h
theorem nam_none {e : Expr} {y : Str} {p : Pos} {env : Env} : swappedStores [.Name y p] e env = pure none := by
  cases e <;> rfl
theorem lc_swap {elt : Expr} {gs : List Comprehension} {scope : Scope} {pos py : Pos} {y : Str} {l : Nat} {env : Env} : ∃ b, swapsWith (.ListComp elt gs scope pos) (some (.Name y py)) l env = pure b := ⟨_, rfl⟩
theorem sole_ncm {e t : Expr} (h : ncm e = true) {l : Nat} {env : Env} : swapsWithSole [t] e l env = pure false := ncm_of h (some t) l env
theorem lc_asg {y : Str} {py lp pos : Pos} {elt : Expr} {gs : List Comprehension} {scope : Scope} {t : Tg} {a : E} {n : Nat} (C : CtxS X k W P F T j) (hy : T.sc.names.lookup y = some .local) (h1 : trTg n T (.Name y py) = some t) (h3 : trE n T (.ListComp elt gs scope lp) = some a) :
    SS X k sx W P F (.Assign [.Name y py] (.ListComp elt gs scope lp) pos) (.asg t a) := by
  obtain ⟨g1, g2, g3⟩ := (trTg_ok (sx := sx) C.t n).1 _ _ h1
  obtain ⟨b, hb⟩ := lc_swap (elt := elt) (gs := gs) (scope := scope) (pos := lp) (py := py) (y := y) (l := pos.line) (env := X.env)
  cases b with
  | false => exact ss_asg g1 ((tr_ok j n X W T C.b).e _ _ h3) hb nam_none g3
  | true =>
    cases n with
    | zero => cases h1
    | succ n =>
      unfold trTg at h1
      dsimp only at h1
      split at h1
      · obtain ⟨i, hi, rfl⟩ := Option.map_eq_some_iff.mp h1
        have key : ∃ tg iter ifs, gs = [⟨tg, iter, ifs, 0⟩] ∧ trLc n T elt tg iter ifs scope = some a := by
          unfold trE at h3
          split at h3 <;> rename_i he <;> first
            | (cases he; done)
            | skip
          all_goals first
            | (cases he; exact ⟨_, _, _, rfl, h3⟩)
            | (cases h3)
            | (cases he)
        obtain ⟨tg, iter, ifs, rfl, hl⟩ := key
        obtain ⟨t, kd, as, ia, ea, own, rfl, q1, q2, q3, q4, q5, q6, q7, q8⟩ := ((tr_ok (sx := sx) j n X W T C.b).lc _ _ _ _ _ _ hl).ex
        exact ss_lc C.b.hK C.b.calm C.b.nd (by rw [C.b.hN]; exact ixOf_get hi) (by rw [C.b.sc]; exact hy) hb q1 q2 q3 q4 q5 q6 q7 q8
      · cases h1
theorem trE_name {n : Nat} {x : Str} {p : Pos} {a : E} (h : trE (n + 1) T (.Name x p) = some a) : okName x = true := by
  unfold trE at h
  dsimp only at h
  split at h
  · assumption
  · cases h
theorem trEs2 {n : Nat} {a b : Expr} {as : List E} (h : trEs n T [a, b] = some as) : ∃ ea eb, as = [ea, eb] := by
  match n, h with
  | n + 1, h =>
    obtain ⟨ea, _, h2⟩ := Option.bind_eq_some_iff.mp (show ((trE n T a).bind fun a => (trEs n T [b]).map fun as => a :: as) = some as from h)
    obtain ⟨as', h3, rfl⟩ := Option.map_eq_some_iff.mp h2
    match n, h3 with
    | n + 1, h3 =>
      obtain ⟨eb, _, h4⟩ := Option.bind_eq_some_iff.mp (show ((trE n T b).bind fun a => (trEs n T []).map fun as => a :: as) = some as' from h3)
      obtain ⟨as2, h5, rfl⟩ := Option.map_eq_some_iff.mp h4
      match n, h5 with
      | n + 1, h5 => cases h5; exact ⟨_, _, rfl⟩
theorem trEs3 {n : Nat} {a b c : Expr} {as : List E} (h : trEs n T [a, b, c] = some as) : ∃ ea eb ec, as = [ea, eb, ec] := by
  match n, h with
  | n + 1, h =>
    obtain ⟨ea, _, h2⟩ := Option.bind_eq_some_iff.mp (show ((trE n T a).bind fun a => (trEs n T [b, c]).map fun as => a :: as) = some as from h)
    obtain ⟨as', h3, rfl⟩ := Option.map_eq_some_iff.mp h2
    obtain ⟨eb, ec, rfl⟩ := trEs2 h3
    exact ⟨_, _, _, rfl⟩
theorem fun_kind {k : ScopeKind} (h : (match k with | .function => true | _ => false) = true) : k = .function := by
  cases k <;> first | rfl | cases h
theorem par_ok {n : Nat} {ts vs : List Expr} {t : List Tg} {as : List E} {kt k2 : Nat} {pt pt2 : Pos} (C : CtxS X k W P F T j) (c : parC T ts vs = true) (h1 : parT T ts = some t) (h2 : trEs n T vs = some as) (hl : SndL X k sx W P F vs as) :
    SS X k sx W P F (.Assign [.Tuple ts kt pt] (.Tuple vs k2 pt2) pos) (.asg (.tp t) (.tup as)) := by
  have gN : ∀ {x : Str} {i : Nat}, ixOf x T.N = some i → X.N[i]? = some x := fun h => by rw [C.b.hN]; exact ixOf_get h
  unfold parC at c
  split at c
  · rename_i x p y q a b
    simp only [Bool.and_eq_true, decide_eq_true_eq, Bool.not_eq_true'] at c
    obtain ⟨⟨⟨⟨⟨⟨c1, c2⟩, c3⟩, c4⟩, c5⟩, c6⟩, c7⟩ := c
    obtain ⟨ea, eb, rfl⟩ := trEs2 h2
    obtain ⟨i, i1, i2⟩ := Option.bind_eq_some_iff.mp (show ((ixOf x T.N).bind fun i => (parT T [.Name y q]).map fun ts => .nm i :: ts) = some t from h1)
    obtain ⟨t2, i3, rfl⟩ := Option.map_eq_some_iff.mp i2
    obtain ⟨l, i4, i5⟩ := Option.bind_eq_some_iff.mp (show ((ixOf y T.N).bind fun i => (parT T []).map fun ts => .nm i :: ts) = some t2 from i3)
    obtain ⟨t3, i6, rfl⟩ := Option.map_eq_some_iff.mp i5
    cases i6
    exact ss_par2 C.b.calm C.b.nd (gN i1) (gN i4) c5 (by rw [C.b.sc]; exact fun_kind c1) (by rw [C.b.sc]; exact c2) (by rw [C.b.sc]; exact c3) c4 hl (trEs_pln h2 a (by simp)).st (trEs_pln h2 b (by simp)).st c6 c7
  · rename_i x p y q z o a b c'
    simp only [Bool.and_eq_true, decide_eq_true_eq, Bool.not_eq_true'] at c
    obtain ⟨⟨⟨⟨⟨⟨⟨⟨⟨⟨c1, c2⟩, c3⟩, c4⟩, c5⟩, c6⟩, c7⟩, c8⟩, c9⟩, c10⟩, c11⟩ := c
    obtain ⟨ea, eb, ec, rfl⟩ := trEs3 h2
    obtain ⟨i, i1, i2⟩ := Option.bind_eq_some_iff.mp (show ((ixOf x T.N).bind fun i => (parT T [.Name y q, .Name z o]).map fun ts => .nm i :: ts) = some t from h1)
    obtain ⟨t2, i3, rfl⟩ := Option.map_eq_some_iff.mp i2
    obtain ⟨l, i4, i5⟩ := Option.bind_eq_some_iff.mp (show ((ixOf y T.N).bind fun i => (parT T [.Name z o]).map fun ts => .nm i :: ts) = some t2 from i3)
    obtain ⟨t3, i6, rfl⟩ := Option.map_eq_some_iff.mp i5
    obtain ⟨m, i7, i8⟩ := Option.bind_eq_some_iff.mp (show ((ixOf z T.N).bind fun i => (parT T []).map fun ts => .nm i :: ts) = some t3 from i6)
    obtain ⟨t4, i9, rfl⟩ := Option.map_eq_some_iff.mp i8
    cases i9
    exact ss_par3 C.b.calm C.b.nd (gN i1) (gN i4) (gN i7) c7 c8 c9 (by rw [C.b.sc]; exact fun_kind c1) (by rw [C.b.sc]; exact c2) (by rw [C.b.sc]; exact c3) (by rw [C.b.sc]; exact c4) c5 c6 hl (trEs_pln h2 a (by simp)).st (trEs_pln h2 b (by simp)).st (trEs_pln h2 c' (by simp)).st c10 c11
  · cases c
structure TsOk (k : Kc) (P : Pg) (F : Nat → List D → FOut) (n : Nat) (X : Cx) (W : WX) (T : Tc) : Prop where
  s : ∀ s a, trS n T s = some a → SS X k none W P F s a
  b : ∀ s a, trB n T s = some a → SSs X k none W P F s a
theorem ts_ok : ∀ (n : Nat) (X : Cx) (W : WX) (T : Tc), CtxS X k W P F T j → TsOk k P F n X W T := by
  intro n
  induction n with
  | zero => exact fun X W T C => ⟨fun _ _ h => (nomatch h), fun _ _ h => (nomatch h)⟩
  | succ n IH =>
    intro X W T C
    have I := IH X W T C
    have IE := tr_ok (sx := none) j n X W T C.b
    refine ⟨fun s a h => ?_, fun ss as h => ?_⟩
    · unfold trS at h
      split at h
      · cases h; exact ss_pass
      · cases h; exact ss_brk
      · cases h; exact ss_cont
      · split at h
        · cases h; exact ss_doc
        · split at h
          · rename_i c
            obtain ⟨a1, h1, rfl⟩ := Option.map_eq_some_iff.mp h
            exact ss_expr (IE.e _ _ h1) (ncm_of c _ _ _)
          · cases h
      · cases h; exact ss_retN
      · split at h
        · obtain ⟨a1, h1, h2⟩ := Option.map_eq_some_iff.mp h
          split at h2
          · rename_i i
            split at h2
            · rename_i cc
              subst h2
              simp only [Bool.and_eq_true, decide_eq_true_eq] at cc
              cases n with
              | zero => cases h1
              | succ n =>
                have ok := trE_name h1
                obtain ⟨n1, n2, n3⟩ := okName_of ok
                exact ss_retV (by rw [C.b.hN]; exact ixOf_get cc.2) (by rw [C.b.sc]; exact vis_of cc.1.2) n1 n2
            · subst h2
              exact ss_ret (IE.e _ _ h1)
          · subst h2
            exact ss_ret (IE.e _ _ h1)
        · obtain ⟨a1, h1, rfl⟩ := Option.map_eq_some_iff.mp h
          exact ss_ret (IE.e _ _ h1)
      · split at h
        · split at h
          · split at h
            · rename_i hy
              obtain ⟨t, h1, h2⟩ := Option.bind_eq_some_iff.mp h
              obtain ⟨a1, h3, rfl⟩ := Option.map_eq_some_iff.mp h2
              exact lc_asg C hy h1 h3
            · cases h
          · split at h
            · rename_i c
              obtain ⟨t, h1, h2⟩ := Option.bind_eq_some_iff.mp h
              obtain ⟨a1, h3, rfl⟩ := Option.map_eq_some_iff.mp h2
              obtain ⟨g1, g2, g3⟩ := (trTg_ok C.t n).1 _ _ h1
              exact ss_asg g1 (IE.e _ _ h3) (sole_ncm c) nam_none g3
            · cases h
        · split at h
          · split at h
            · rename_i cc
              obtain ⟨t, h1, h2⟩ := Option.bind_eq_some_iff.mp h
              obtain ⟨as, h3, rfl⟩ := Option.map_eq_some_iff.mp h2
              exact par_ok C cc h1 h3 (IE.es _ _ h3)
            · cases h
          · split at h
            · cases h
            · rename_i nt
              split at h
              · rename_i c
                obtain ⟨t, h1, h2⟩ := Option.bind_eq_some_iff.mp h
                obtain ⟨a1, h3, rfl⟩ := Option.map_eq_some_iff.mp h2
                obtain ⟨g1, g2, g3⟩ := (trTg_ok C.t n).1 _ _ h1
                exact ss_asg g1 (IE.e _ _ h3) (sole_ncm c) (par_none (by simpa using nt)) g3
              · cases h
        · obtain ⟨a1, h1, h2⟩ := Option.bind_eq_some_iff.mp h
          obtain ⟨a2, h3, h4⟩ := Option.bind_eq_some_iff.mp h2
          obtain ⟨a3, h5, rfl⟩ := Option.map_eq_some_iff.mp h4
          exact ss_setI (IE.e _ _ h1) (IE.e _ _ h3) (IE.e _ _ h5) (trE_pln h3).sl sole_sub
        · split at h
          · rename_i cc
            simp only [Bool.and_eq_true] at cc
            obtain ⟨f, h1, h2⟩ := Option.bind_eq_some_iff.mp h
            obtain ⟨i, h3, h4⟩ := Option.bind_eq_some_iff.mp h2
            obtain ⟨a3, h5, rfl⟩ := Option.map_eq_some_iff.mp h4
            obtain ⟨n1, n2, n3⟩ := okName_of cc.1
            obtain ⟨f1, f2⟩ := C.b.att _ _ h1
            exact ss_setA C.b.hK (by rw [C.b.hN]; exact ixOf_get h3) (by rw [C.b.sc]; exact vis_of cc.2) n1 n2 f1 f2 (IE.e _ _ h5) att_sub
          · cases h
        · cases h
      · split at h
        · rename_i l
          obtain ⟨i, h1, h2⟩ := Option.bind_eq_some_iff.mp h
          obtain ⟨a1, h3, rfl⟩ := Option.map_eq_some_iff.mp h2
          obtain ⟨l1, l2⟩ := C.t.loc _ l
          exact ss_aug C.b.nd (by rw [C.b.hN]; exact ixOf_get h1) l1 l2 (IE.e _ _ h3)
        · cases h
      · obtain ⟨a1, h1, h2⟩ := Option.bind_eq_some_iff.mp h
        obtain ⟨a2, h3, h4⟩ := Option.bind_eq_some_iff.mp h2
        obtain ⟨a3, h5, rfl⟩ := Option.map_eq_some_iff.mp h4
        exact ss_augI C.b.hK (IE.e _ _ h1) (IE.e _ _ h3) (IE.e _ _ h5) (trE_pln h3).sl
      · obtain ⟨a1, h1, h2⟩ := Option.bind_eq_some_iff.mp h
        obtain ⟨a2, h3, h4⟩ := Option.bind_eq_some_iff.mp h2
        obtain ⟨a3, h5, rfl⟩ := Option.map_eq_some_iff.mp h4
        exact ss_if (IE.e _ _ h1) (I.b _ _ h3) (I.b _ _ h5)
      · obtain ⟨a1, h1, h2⟩ := Option.bind_eq_some_iff.mp h
        obtain ⟨a2, h3, rfl⟩ := Option.map_eq_some_iff.mp h2
        exact ss_whl C.pass (IE.e _ _ h1) (I.b _ _ h3)
      · obtain ⟨t, h1, h2⟩ := Option.bind_eq_some_iff.mp h
        obtain ⟨⟨kd, as⟩, h3, h4⟩ := Option.bind_eq_some_iff.mp h2
        obtain ⟨a3, h5, rfl⟩ := Option.map_eq_some_iff.mp h4
        obtain ⟨g1, g2, g3⟩ := (trTg_ok C.t n).1 _ _ h1
        exact ss_for C.pass C.b.calm (IE.it _ _ _ h3) g1 (I.b _ _ h5) (trIt_pln h3 X.env)
      · split at h
        · obtain ⟨c, h1, h2⟩ := Option.bind_eq_some_iff.mp h
          obtain ⟨a1, h3, rfl⟩ := Option.map_eq_some_iff.mp h2
          unfold ecOf at h1
          split at h1
          · rename_i g
            simp only [Bool.and_eq_true] at g
            obtain ⟨c', g1, g2⟩ := Option.bind_eq_some_iff.mp h1
            split at g2
            · rename_i cc
              cases g2
              obtain ⟨m1, m2⟩ := C.b.ers _ _ g1 cc
              exact ss_raise C.b.calm C.b.tk m2 m1 C.b.room (C.b.gl g.1) (okName_of g.2).1 (trE_pln h3).st (IE.e _ _ h3)
            · cases g2
          · cases h1
        · cases h; exact ss_nev
      · split at h
        · cases h
        · cases h; exact ss_nev
      · split at h
        · obtain ⟨b, h1, h2⟩ := Option.bind_eq_some_iff.mp h
          obtain ⟨hs, h3, rfl⟩ := Option.map_eq_some_iff.mp h2
          exact ss_try C.st C.fr C.b.nd C.b.tk (fun W' pn xe t p => (IH _ W' T (C.tr pn xe t p)).b _ _ h1) (fun L hL => trHs_ok ⟨C.t, C.b.sc, fun _ _ e => by cases e⟩ (fun _ => rfl) (fun x g => C.b.gl g) (fun x c g1 g2 => (C.b.ers x c g1 g2).1) h3 hL) C.exm C.exx
        · cases h
      · cases h
    · cases ss with
      | nil => cases h; exact ss_nil
      | cons s ss =>
        obtain ⟨a, h1, h2⟩ := Option.bind_eq_some_iff.mp (show ((trS n T s).bind fun a => (trB n T ss).map fun as => a :: as) = some as from h)
        obtain ⟨as, h3, rfl⟩ := Option.map_eq_some_iff.mp h2
        exact ss_cons (I.s _ _ h1) (I.b _ _ h3)
end
end Mv

namespace Mv
open PySem L2

section
variable {k : Kc} {sx : Option (Addr × Addr)} {P : Pg} {T : Tc}
variable {Z Z' Z0 Z1 Z2 : Addr → Prop} {H H' H0 H1 H2 : Hp} {σ σ' σ0 σ1 σ2 : St} {r r1 r2 : En} {os os' os0 os1 os2 od : List Addr}

theorem RS.mask (h : RS k sx Z H r σ os) : ∀ p : Nat → Bool, ∃ os', RS k sx Z H (r.mapIdx fun i x => if p i then none else x) σ os' ∧ os'.Sublist os := by
  induction h with
  | nil => exact fun p => ⟨[], .nil, List.Sublist.refl _⟩
  | @emp x r s os h ih =>
    intro p
    obtain ⟨os', h1, h2⟩ := ih fun i => p (i + 1)
    refine ⟨os', ?_, h2⟩
    rw [List.mapIdx_cons]
    have : (if p 0 = true then none else (none : Option D)) = none := by split <;> rfl
    rw [this]
    exact .emp h1
  | @val d v r s o os h1 h ih =>
    intro p
    obtain ⟨os', g1, g2⟩ := ih fun i => p (i + 1)
    rw [List.mapIdx_cons]
    by_cases c : p 0 = true
    · rw [if_pos c]
      exact ⟨os', .emp g1, g2.trans (List.sublist_append_right _ _)⟩
    · rw [if_neg c]
      exact ⟨o ++ os', .val h1 g1, List.Sublist.append (List.Sublist.refl _) g2⟩
  | @ex c w a dd v r s os ex z hd h1 h ih =>
    intro p
    obtain ⟨os', g1, g2⟩ := ih fun i => p (i + 1)
    rw [List.mapIdx_cons]
    by_cases c : p 0 = true
    · rw [if_pos c]
      exact ⟨os', .emp g1, g2⟩
    · rw [if_neg c]
      exact ⟨os', .ex ex z hd h1 g1, g2⟩
theorem RS.take (h : RS k sx Z H r σ os) : ∀ n : Nat, ∃ os', RS k sx Z H (r.take n) (σ.take n) os' ∧ os'.Sublist os := by
  induction h with
  | nil => exact fun n => ⟨[], by simpa using RS.nil, List.Sublist.refl _⟩
  | @emp x r s os h ih =>
    intro n
    cases n with
    | zero => exact ⟨[], .nil, List.nil_sublist _⟩
    | succ n =>
      obtain ⟨os', h1, h2⟩ := ih n
      exact ⟨os', .emp h1, h2⟩
  | @val d v r s o os h1 h ih =>
    intro n
    cases n with
    | zero => exact ⟨[], .nil, List.nil_sublist _⟩
    | succ n =>
      obtain ⟨os', g1, g2⟩ := ih n
      exact ⟨o ++ os', .val h1 g1, List.Sublist.append (List.Sublist.refl _) g2⟩
  | @ex c w a dd v r s os ex z hd h1 h ih =>
    intro n
    cases n with
    | zero => exact ⟨[], .nil, List.nil_sublist _⟩
    | succ n =>
      obtain ⟨os', g1, g2⟩ := ih n
      exact ⟨os', .ex ex z hd h1 g1, g2⟩
theorem RS.fills (h : RS k sx Z H r σ os) : ∀ n : Nat, RS k sx Z H (r ++ List.replicate n none) (σ ++ List.replicate n none) os := by
  have e : ∀ n : Nat, RS k sx Z H (List.replicate n none) (List.replicate n none) [] := by
    intro n
    induction n with
    | zero => exact .nil
    | succ n ih => exact .emp ih
  intro n
  induction h with
  | nil => exact e n
  | emp h ih => exact .emp ih
  | val h1 h ih => exact .val h1 ih
  | ex ex z hd h1 h ih => exact .ex ex z hd h1 ih
/-- the parameters behind a def -/
theorem pars_ok {asg : List Nat} {N : List Str} {vs : List V} (R : Rel k none Z r σ H os) (ag : Agr asg (L2.start N vs) σ) : ∃ os', Rel k none Z (parsOf asg vs.length r) (vs.map some) H os' ∧ ∀ a ∈ os', a ∈ os := by
  obtain ⟨o1, h1, s1⟩ := (R.rs.fills vs.length).take vs.length
  obtain ⟨o2, h2, s2⟩ := h1.mask fun i => asg.contains i
  have sub : ∀ a ∈ o2, a ∈ os := fun a m => s1.subset (s2.subset m)
  have lσ : σ.length = r.length := R.rs.length
  refine ⟨o2, ⟨h2.any ?_ ?_, s2.nodup (s1.nodup R.nd), fun a m => R.nz a (sub a m), R.zd⟩, sub⟩
  · rw [List.length_map, List.length_take, List.length_append, List.length_replicate]; omega
  · intro i n
    have na : i ∉ asg := fun m => n (by
      unfold slot
      rw [List.getElem?_mapIdx]
      cases ((r ++ List.replicate vs.length none).take vs.length)[i]? with
      | none => rfl
      | some x => simp [List.contains_eq_mem, m])
    have lt : i < vs.length := by
      refine Nat.lt_of_not_le fun q => n ?_
      unfold slot
      rw [List.getElem?_mapIdx, List.getElem?_eq_none (by rw [List.length_take, List.length_append, List.length_replicate]; omega)]
      rfl
    have lr : i < r.length := by
      refine Nat.lt_of_not_le fun q => n ?_
      unfold slot
      rw [List.getElem?_mapIdx, List.getElem?_take_of_lt lt, List.getElem?_append_right q, List.getElem?_replicate]
      split <;> simp
    rw [List.getElem?_take_of_lt lt, List.getElem?_append_left (by omega), ag i na]
    unfold L2.start
    rw [List.getElem?_append_left (by simpa using lt)]

/-- the program, as it stands behind its top: all that the machine needs -/
structure PRec (p : Program) (K : PySem.W.Frag) (mg : Str → Option Value) (k : Kc) (P : Pg) (T : Tc) (fa : Nat → Addr) (pO : Nat → List Str) : Prop where
  hK : K = k.K
  df : ∀ i fn, P.fns[i]? = some fn → ∃ x qual st fd N n, Fun K x qual st (fa i) fd ∧ FnScope N (pO i) (defScope st) ∧ fn.np = (pO i).length ∧ fn.nl = N.length ∧ (pO i).length ≤ N.length ∧
    trB n { T with sc := defScope st, N := N, np := (pO i).length } (defBody st) = some fn.body ∧ (∀ i ∈ stB fn.body, i ∈ fn.asg) ∧ (T.nb.contains i = false → Binds K fd (pO i) [])
  fns : ∀ x f, ixOf x T.fns = some f → (P.fns[f]?).isSome = true ∧ T.nb.contains f = false ∧ mg x = some (.ref (fa f)) ∧ PySem.W.keepIn K (.ref (fa f)) = true
  cls : ∀ x c, ixOf x T.cls = some c → T.oc.contains c = true → ∃ cl, P.cls[c]? = some cl ∧ mg x = some (.ref (k.cA c)) ∧ (P.fns[cl.init]?).isSome = true ∧ T.nb.contains cl.init = false ∧ Mk K (k.cA c) (fa cl.init) ∧ k.oc c
  mts : ∀ x m, ixOf x T.mts = some m → (∀ f, f < k.n → k.aN f ≠ x) ∧ ∀ c cl f, k.oc c → P.cls[c]? = some cl → cl.ms.lookup m = some f → (P.fns[f]?).isSome = true ∧ T.nb.contains f = false ∧ Meth K (k.cA c) x (fa f)
  att : ∀ x f, ixOf x T.att = some f → k.aN f = x ∧ f < k.n
  cons : ∀ x i, T.cons.lookup x = some i → ∃ u, mg x = some u ∧ RelV (.int i) u
  blt : ∀ x, T.blt.contains x = true → mg x = none
  ers : ∀ x c, ixOf x T.cls = some c → T.ec.contains c = true → mg x = some (.ref (k.cA c)) ∧ (∃ B cc fI bmB, RfFn p K B cc fI ∧ RfCls K bmB B (k.cA c) fI ∧ ExcBaseFacts "ValueError" "ValueError.__new__" "ValueError.__init__" bmB) ∧ XfC K (k.cA c)
  exm : ∀ c d, upOf P c c = true → T.ec.contains d = true → PySem.W.exmOne K (.ref (k.cA c)) (.ref (k.cA d)) = some (upOf P c d)
  exx : ∀ c, upOf P c c = true → ErC K (.ref (k.cA c))
  kws : ∀ x n ks perm, kwOf T x n ks = some perm → (∀ f, ixOf x T.fns = some f → ∀ x' q' st fd, L2.Fun K x' q' st (fa f) fd → KS K fd (pO f) n ks perm) ∧
    ∀ c, ixOf x T.cls = some c → T.okw.contains c = true → ∃ cl, P.cls[c]? = some cl ∧ mg x = some (.ref (k.cA c)) ∧ (P.fns[cl.init]?).isSome = true ∧ Mk K (k.cA c) (fa cl.init) ∧ k.oc c ∧ ∀ x' q' st fd, L2.Fun K x' q' st (fa cl.init) fd → KSm K fd (pO cl.init) n ks perm
theorem run_bad {f : Nat} {ds : List D} : (run P 0 f ds).out = .bad := rfl
theorem all_ok {p : Program} {w : World} {K : PySem.W.Frag} {mg : Str → Option Value} {fa : Nat → Addr} {pO : Nat → List Str} (R : PRec p K mg k P T fa pO) :
    ∀ n i, (P.fns[i]?).isSome = true → ∃ fd, (∀ base, FnOk p w K mg base (L2.CX p w) (2 * n) (fa i) fd (pO i) (spO k fun ds => (run P n i ds).out)) ∧ (T.nb.contains i = false → Binds K fd (pO i) []) ∧ ∃ x qual st, Fun K x qual st (fa i) fd := by
  intro n
  induction n with
  | zero =>
    intro i hi
    obtain ⟨fn, hf⟩ := Option.isSome_iff_exists.mp hi
    obtain ⟨x, qual, st, fd, N, n, F, S, e1, e2, e3, tr, as, b⟩ := R.df i fn hf
    have no : ∀ vs H Q E, ¬ spO k (fun ds => (run P 0 i ds).out) vs H Q E := fun vs H Q E ⟨Z, ds, od, _, q⟩ => q
    exact ⟨fd, fun base => ⟨fun vs H Q E h => (no vs H Q E h).elim, fun A outer s H args us vs Q E _ _ _ _ h => (no vs H Q E h).elim⟩, b, x, qual, st, F⟩
  | succ n ih =>
    intro i hi
    obtain ⟨fn, hf⟩ := Option.isSome_iff_exists.mp hi
    obtain ⟨x, qual, st, fd, N, m, F, S, e1, e2, e3, tr, as, b⟩ := R.df i fn hf
    generalize hps : pO i = ps at S e1 e3 tr b ⊢
    refine ⟨fd, fun base => ?_, b, x, qual, st, F⟩
    have opn : ∀ ds, (run P (n + 1) i ds) = if ds.length = fn.np then (match evB P (run P n) fn.body (ds.map some ++ List.replicate (fn.nl - fn.np) none) with
      | .ok .next r => .ok .non (parsOf fn.asg fn.np r)
      | .ok (.ret d) r => .ok d (parsOf fn.asg fn.np r)
      | .exc c w r => .exc c w (parsOf fn.asg fn.np r)
      | _ => .bad) else .bad := fun ds => by
      show (match P.fns[i]? with
        | some fn => _
        | none => _) = _
      rw [hf] <;> rfl
    have len : ∀ vs H Q E, spO k (fun ds => (run P (n + 1) i ds).out) vs H Q E → vs.length = ps.length := fun vs H Q E ⟨Z, ds, od, R0, q⟩ => by
      have q : Sat k none (fun cls d _ H => E cls d H) Z H od (vs.map some) (run P (n + 1) i ds).out (PostV k none Z H od (vs.map some) Q) := q
      rw [opn] at q
      have l := R0.rs.length
      simp only [List.length_map] at l
      split at q
      · rename_i e; omega
      · exact q.elim
    refine Fun.okX (k := 2 * n + 1) F S len fun cdv A outer s H vs Q E hr hsp => ?_
    have lv := len _ _ _ _ hsp
    obtain ⟨Z, ds, od, R0, q⟩ := hsp
    refine ⟨tS k none (fun cls d _ H => E cls d H) fn.asg (evB P (run P n) fn.body), ?_, ?_⟩
    · refine (ts_ok (j := 2 * n) m _ _ { T with sc := defScope st, N := N, np := ps.length } ⟨⟨R.hK, rfl, rfl, S.nd, rfl, ?_, hr, takes_of rfl rfl rfl rfl, R.cons, fun x f h => ?_, fun x c h o => ?_, fun x m h => ?_, R.att, R.blt, fun x c h o => ⟨(R.ers x c h o).1, ⟨(R.ers x c h o).2.1, (R.ers x c h o).2.2⟩⟩, fun x n ks perm h => ⟨fun f hf => ?_, fun c hc o => ?_⟩⟩, fun x h => ?_, passes_of rfl, rfl, rfl, R.exm, R.exx⟩).b _ _ tr fn.asg as
      · have := hr.un
        show (A.deeper _).units + 100 < cLine
        omega
      · obtain ⟨h1, hb, h2, h3⟩ := R.fns x f h
        obtain ⟨fd', f1, f2, _⟩ := ih f h1
        exact ⟨fa f, h2, ⟨⟨fd', _, f1 base, f2 hb⟩, h3⟩⟩
      · obtain ⟨cl, h1, h2, h3, hb, h4, h5⟩ := R.cls x c h o
        obtain ⟨fd', f1, f2, _⟩ := ih cl.init h3
        exact ⟨cl, h1, h2, ⟨⟨fa cl.init, fd', _, h4, f1 base, f2 hb⟩, h5⟩⟩
      · refine ⟨(R.mts x m h).1, fun c cl f o h1 h2 => ?_⟩
        obtain ⟨g1, gb, g2⟩ := (R.mts x m h).2 c cl f o h1 h2
        obtain ⟨fd', f1, f2, _⟩ := ih f g1
        exact ⟨⟨fa f, fd', _, g2, f1 base, f2 gb⟩⟩
      · obtain ⟨h1, hb, h2, h3⟩ := R.fns x f hf
        obtain ⟨fd', f1, f2, x', q', st', f3⟩ := ih f h1
        exact ⟨fa f, h2, ⟨⟨fd', _, f1 base, (R.kws x n ks perm h).1 f hf _ _ _ _ f3⟩, h3⟩⟩
      · obtain ⟨cl, h1, h2, h3, h4, h5, h6⟩ := (R.kws x n ks perm h).2 c hc o
        obtain ⟨fd', f1, f2, x', q', st', f3⟩ := ih cl.init h3
        exact ⟨cl, h1, h2, ⟨⟨fa cl.init, fd', _, h4, f1 base, h6 _ _ _ _ f3⟩, h5⟩⟩
      · rfl
    · have ld := R0.rs.length
      simp only [List.length_map] at ld
      have q : Sat k none (fun cls d _ H => E cls d H) Z H od (vs.map some) (run P (n + 1) i ds).out (PostV k none Z H od (vs.map some) Q) := q
      rw [opn] at q
      split at q
      · rename_i ln
        have st0 : Rel k none Z (ds.map some ++ List.replicate (fn.nl - fn.np) none) (L2.start N vs) H od := by
          refine ⟨?_, R0.nd, R0.nz, R0.zd⟩
          have := R0.rs.fills (fn.nl - fn.np)
          unfold L2.start
          rwa [show N.length - vs.length = fn.nl - fn.np by omega]
        refine ⟨Z, _, od, st0, ?_⟩
        generalize hr0 : evB P (run P n) fn.body (ds.map some ++ List.replicate (fn.nl - fn.np) none) = o at q
        have pl : ∀ {r' : En} {σ' : St} {H' : Hp} {Z' : Addr → Prop} {os' : List Addr}, Rel k none Z' r' σ' H' os' → Agr fn.asg (L2.start N vs) σ' → ∃ os2, Rel k none Z' (parsOf fn.asg fn.np r') (vs.map some) H' os2 ∧ ∀ a ∈ os2, a ∈ os' := fun {r' σ' H' Z' os'} R' ag => by
          rw [show fn.np = vs.length by omega]
          exact pars_ok R' ag
        cases o with
        | ok f r' =>
          cases f with
          | next =>
            intro σ' H' Z' os' R' ag S'
            obtain ⟨os2, R2, sub⟩ := pl R' ag
            exact q .non H' Z' [] os2 R2 .non R2.nd (fun _ m => by cases m) (S'.less sub)
          | brk => exact q.elim
          | cont => exact q.elim
          | ret d =>
            intro σ' v H' Z' odr os' R' ag rd nd nz S'
            obtain ⟨os2, R2, sub⟩ := pl R' ag
            obtain ⟨n1, n2, n3⟩ := List.nodup_append.mp nd
            refine q v H' Z' odr os2 R2 rd (List.nodup_append.mpr ⟨n1, R2.nd, fun a m b mb => n3 a m b (sub b mb)⟩) nz (S'.less fun a m => ?_)
            rcases List.mem_append.mp m with m | m
            · exact List.mem_append_left _ m
            · exact List.mem_append_right _ (sub a m)
        | exc c w r' =>
          intro σ' cls d H' Z' os' R' ag ex S'
          obtain ⟨os2, R2, sub⟩ := pl R' ag
          exact q cls d H' Z' os2 R2 ex (S'.less sub)
        | bad => exact q.elim
      · exact q.elim
end
end Mv

namespace Mv
open PySem L2

/-- the law's own promise -/
def spLaw (K : PySem.W.Frag) : Sp := fun vs H Q _ => ∃ (a : Addr) (ns : List Int), vs = [.ref a] ∧ SqL K H a (ns.map V.int) ∧ ns.length ≤ 63 ∧ (∀ z ∈ ns, Builtin.Int.intBits z ≤ 1048576) ∧ ∀ H', Q (.bl true) H'
theorem Fun.uniq {K : PySem.W.Frag} {x x' q q' : Str} {st st' : Stmt} {f : Addr} {fd fd' : FuncData} (a : L2.Fun K x q st f fd) (b : L2.Fun K x' q' st' f fd') : fd = fd' := by
  obtain ⟨_, _, _, _, _, _, _, _, _, _, h1, _⟩ := a.ex
  obtain ⟨_, _, _, _, _, _, _, _, _, _, h2, _⟩ := b.ex
  rw [h1] at h2
  cases h2
  rfl
theorem law_sp {K : PySem.W.Frag} {k : Kc} (hK : K = k.K) {f : List D → Out D} (law : ∀ ns : List Int, ns.length ≤ 63 → (∀ z ∈ ns, Builtin.Int.intBits z ≤ 1048576) → ∃ ps, f [.lst .giv (ns.map D.int)] = .ok (.bl true) ps) :
    ∀ vs H Q E, spLaw K vs H Q E → spO k f vs H Q E := by
  rintro vs H Q E ⟨a, ns, rfl, hs, hl, hb, q⟩
  obtain ⟨ps, e⟩ := law ns hl hb
  have sl : SL k (fun b => b = a ∧ ∃ o, H b = some o) H a (ns.map V.int) := by
    rcases hs with h | h
    · refine .inl ⟨⟨rfl, ?_⟩, h⟩
      rcases h with h | ⟨o, h⟩
      · exact ⟨_, h⟩
      · exact ⟨_, h⟩
    · exact .inr (hK ▸ h)
  refine ⟨fun b => b = a ∧ ∃ o, H b = some o, [.lst .giv (ns.map D.int)], [] ++ [], ⟨.val (.giv sl (ints_rd ns)) .nil, List.nodup_nil, (fun _ m => by cases m), fun b z => z.2⟩, ?_⟩
  rw [e]
  intro v H' Z' od os' R rd nd nz S
  cases rd
  exact q H'
theorem mv_walk {l : PySem.W.OpenLaw} {q : Program} {loose : List Str} {XP : (Str → Option Value) → Heap → Prop} {YP : World → Heap → Prop} {d : DefRec} {K : Params → PySem.W.Frag} {P : Pg} {T : Tc} {i n : Nat} {x : Str} (hn : l.most = some 63) (hdf : d.params.defaults = []) (hr : Room (2 * n) callerA)
    (hY : ∀ (w : World) (h : Heap), YP w h → (K w.params).In h) (hi : (P.fns[i]?).isSome = true)
    (F : ∀ (w : World) (mg : Str → Option Value) (fa : Addr) (h : Heap), (K w.params).In h → h.Ns mainGlobals mg → mg d.name = some (.ref fa) →
      ∃ (k : Kc) (fas : Nat → Addr) (pO : Nat → List Str) (fd : FuncData) (x' q' : Str) (st : Stmt), PRec l.prog (K w.params) mg k P T fas pO ∧ fas i = fa ∧ pO i = [x] ∧ L2.Fun (K w.params) x' q' st fa fd ∧ ∀ (s : Shared) (u : Value), BindsTo s fd ⟨[u], []⟩ [(x, u)])
    (law : ∀ ns : List Int, ns.length ≤ 63 → (∀ z ∈ ns, Builtin.Int.intBits z ≤ 1048576) → ∃ ps, (run P n i [.lst .giv (ns.map D.int)]).out = .ok (.bl true) ps) :
    PySem.W.WalkO q loose XP YP l.row.toRowW d [] (fun f vs => PySem.call f vs) := by
  refine L2.walk_ofB (n := 63) (k := 2 * n) (x := x) (CX := fun w => L2.CX l.prog w) (sp := fun w => spLaw (K w.params)) hn (by decide) hdf hr hY (fun w mg fa h KX G hm => ?_) (fun w H a ns hl hb _ hS => ⟨a, ns, rfl, hS, hl, hb, fun _ => rfl⟩) fun w H s e s' z => ?_
  · obtain ⟨k, fas, pO, fd, x', q', st, R, e1, e2, F1, hb⟩ := F w mg fa h KX G hm
    obtain ⟨fd', h1, h2, x2, q2, st2, F2⟩ := all_ok (p := l.prog) (w := w) R n i hi
    rw [e1] at h1 F2
    obtain rfl := Fun.uniq F1 F2
    rw [e2] at h1
    exact ⟨fd, hb, fun base _ _ => (h1 base).imp (law_sp R.hK law)⟩
  · obtain ⟨_, _, _, _, _, _, _, _, _, _, _, _, z⟩ := z
    exact z.elim
end Mv

/-! what a law's own head puts together -/
namespace Mv
open PySem L2
/-- the statement j of the class's body -/
def inCls (st : Stmt) (j : Nat) : Stmt := (match st with
  | .ClassDef _ _ _ b _ _ _ _ _ _ _ => b
  | _ => []).getD j (.Pass ⟨0, 0, 0, 0⟩)
theorem fun_ks {K : PySem.W.Frag} {x q : Str} {st : Stmt} {f : Addr} {fd : FuncData} {ps ks : List Str} {n : Nat} {perm : List Nat} (F : L2.Fun K x q st f fd)
    (h : ∀ (kV doc pm : Value) (an : Option Addr) (cdv ct : Value) (us ws : List Value), us.length = n → ws.length = ks.length → bindArgs (PySem.W.fnOf x q (defArgs st) (defBody st) (defScope st) .none kV doc pm an cdv ct) ⟨us, ks.zip ws⟩ = pure (ps.zip (pick .none perm (us ++ ws)))) : KS K fd ps n ks perm := fun s us ws _ l1 l2 => by
  obtain ⟨oc, od, kV, doc, pm, an, cdv, ct, osl, rfl, lk, hcd⟩ := F.ex
  exact .of_eq (h kV doc pm an cdv ct us ws l1 l2)
theorem fun_ksm {K : PySem.W.Frag} {x q : Str} {st : Stmt} {f : Addr} {fd : FuncData} {ps ks : List Str} {n : Nat} {perm : List Nat} (F : L2.Fun K x q st f fd)
    (h : ∀ (kV doc pm : Value) (an : Option Addr) (cdv ct u : Value) (us ws : List Value), us.length = n → ws.length = ks.length → bindArgs (PySem.W.fnOf x q (defArgs st) (defBody st) (defScope st) .none kV doc pm an cdv ct) ⟨u :: us, ks.zip ws⟩ = pure (ps.zip (u :: pick .none perm (us ++ ws)))) : KSm K fd ps n ks perm := fun s u us ws _ l1 l2 => by
  obtain ⟨oc, od, kV, doc, pm, an, cdv, ct, osl, rfl, lk, hcd⟩ := F.ex
  exact .of_eq (h kV doc pm an cdv ct u us ws l1 l2)
theorem kwOf_mem {T : Tc} {x : Str} {n : Nat} {ks : List Str} {perm : List Nat} (h : kwOf T x n ks = some perm) : (x, n, ks, perm) ∈ T.kw := by
  unfold kwOf at h
  obtain ⟨q, h1, h2⟩ := List.exists_of_findSome?_eq_some h
  split at h2
  · rename_i c
    cases h2
    obtain ⟨rfl, rfl, rfl⟩ := c
    exact h1
  · cases h2
/-- an error class's row says what an except clause of another (or the same) asks -/
theorem exm_of {K : PySem.W.Frag} {C S : Addr} {b : Bool} (h1 : PySem.W.subIn K (.ref S) (.type "BaseException") = some true) (h2 : PySem.W.isClsIn K S = true) (h3 : PySem.W.typeIn K (.ref S) = some (.type "type")) (h4 : PySem.W.subIn K (.ref C) (.ref S) = some b) :
    PySem.W.exmOne K (.ref C) (.ref S) = some b := by
  have e1 : (PySem.W.subIn K (.ref S) (.type "BaseException") == some true) = true := by rw [h1] <;> rfl
  have e2 : ((PySem.W.clsIn K S).isSome && PySem.W.typeIn K (.ref S) == some (.type "type")) = true := by
    have h2' : (PySem.W.clsIn K S).isSome = true := h2
    rw [h2', h3] <;> rfl
  unfold PySem.W.exmOne
  rw [if_pos e1]
  show (if _ then PySem.W.subIn K (.ref C) (.ref S) else none) = some b
  rw [if_pos e2]
  exact h4
end Mv

namespace Mv
open PySem

def takeB : List S := [(.ifS (.cmp (.idx (.var 0) (.int (0))) [.Gt] [(.int (0))]) [(.asg (.nm 2) (.bin .Mod (.blt .int [(.idx (.var 0) (.int (0)))]) (.var 1))), (.setI (.var 0) (.int (0)) (.bin .FloorDiv (.idx (.var 0) (.int (0))) (.var 1))), (.retV 2)] []), (.setI (.var 0) (.int (1)) (.bin .Mod (.blt .int [(.bin .Add (.bin .Mult (.idx (.var 0) (.int (1))) (.int (39373))) (.int (7)))]) (.int (2147483647)))), (.ret (.bin .Mod (.blt .int [(.bin .FloorDiv (.bin .Mod (.blt .int [(.bin .Mult (.idx (.var 0) (.int (1))) (.idx (.var 0) (.int (1))))]) (.int (2147483629))) (.int (32)))]) (.var 1)))]
def oneB : List S := [(.ret (.idx (.var 1) (.call 6 [(.var 0), (.blt .len [(.var 1)])])))]
/-- the script's drawing: the two numbers of a source -/
def stepB (B : Int) : Int := (B * 39373 + 7) % 2147483647
def takeR (A B T : Int) : Int := if 0 < A then A % T else ((stepB B * stepB B) % 2147483629 / 32) % T
def takeA (A T : Int) : Int := if 0 < A then A / T else A
def takeB2 (A B : Int) : Int := if 0 < A then B else stepB B
def src (A B : Int) : D := .lst .own [.int A, .int B]
theorem mulOk_l {i j : Int} (h : -(2 ^ 64) < i ∧ i < 2 ^ 64) : mulOk i j = true := by
  unfold mulOk; simp only [Bool.or_eq_true, decide_eq_true_eq]; exact .inl (.inl h)
theorem mulOk_r {i j : Int} (h : -(2 ^ 64) < j ∧ j < 2 ^ 64) : mulOk i j = true := by
  unfold mulOk; simp only [Bool.or_eq_true, decide_eq_true_eq]; exact .inl (.inr h)
theorem take_ok {P : Pg} {i n : Nat} (hf : P.fns[i]? = some ⟨2, 3, takeB, [2]⟩) {A B T : Int} (hT : 0 < T) (hT2 : T.natAbs.log2 < 9000) : run P (n + 1) i [src A B, .int T] = .ok (.int (takeR A B T)) [some (src (takeA A T) (takeB2 A B)), some (.int T)] := by
  unfold run
  rw [hf]
  by_cases h : 0 < A
  · simp [takeB, src, takeR, takeA, takeB2, h, hT, hT2, evB, evS, ev, evs, evC, evAs, Ev.mk1, Out.bind, Out.of, has, Ar.peek, slot, readP, getP, getS, itemD, ixN, cmpA, cmpD, binD, intOp, path, evI, updP, peekA, bltD, asgT, parsOf, D.owned, truD, List.replicate, List.mapIdx, List.mapIdx.go]
  · have m1 : mulOk B 39373 = true := mulOk_r (by decide)
    have b1 : 0 ≤ (B * 39373 + 7) % 2147483647 := Int.emod_nonneg _ (by decide)
    have b2 : (B * 39373 + 7) % 2147483647 < 2147483647 := Int.emod_lt_of_pos _ (by decide)
    have m2 : mulOk ((B * 39373 + 7) % 2147483647) ((B * 39373 + 7) % 2147483647) = true := mulOk_l (by constructor <;> omega)
    have l32 : Nat.log2 32 < 9000 := by decide +kernel
    simp [l32, takeB, src, takeR, takeA, takeB2, stepB, h, hT, hT2, m1, m2, evB, evS, ev, evs, evC, evAs, Ev.mk1, Out.bind, Out.of, has, Ar.peek, slot, readP, getP, getS, itemD, ixN, cmpA, cmpD, binD, intOp, path, evI, updP, peekA, bltD, asgT, parsOf, D.owned, truD, List.replicate, List.mapIdx, List.mapIdx.go]
theorem takeR_nn {A B T : Int} (hT : 0 < T) : 0 ≤ takeR A B T := by
  unfold takeR; split <;> exact Int.emod_nonneg _ (by omega)
theorem takeR_lt {A B T : Int} (hT : 0 < T) : takeR A B T < T := by
  unfold takeR; split <;> exact Int.emod_lt_of_pos _ hT
def oneBody (t : Nat) : List S := [(.ret (.idx (.var 1) (.call t [(.var 0), (.blt .len [(.var 1)])])))]
def oneR (A B : Int) (xs : List Int) : Int := xs.getD (takeR A B xs.length).toNat 0
theorem one_ok {P : Pg} {i t n : Nat} (hf : P.fns[t]? = some ⟨2, 3, takeB, [2]⟩) (hi : P.fns[i]? = some ⟨2, 2, oneBody t, []⟩) {A B : Int} {xs : List Int} (h0 : 0 < xs.length) (h1 : xs.length < 1000) :
    run P (n + 2) i [src A B, .lst .own (xs.map D.int)] = .ok (.int (oneR A B xs)) [some (src (takeA A xs.length) (takeB2 A B)), some (.lst .own (xs.map D.int))] := by
  have hT : (0 : Int) < (xs.length : Int) := by omega
  have tk := take_ok (n := n) hf (A := A) (B := B) hT (by
    have : ((xs.length : Int)).natAbs = xs.length := by simp
    rw [this]
    exact Nat.lt_of_lt_of_le (Nat.log2_lt (by omega) |>.mpr (Nat.lt_of_lt_of_le h1 (by decide : 1000 ≤ 2 ^ 10))) (by decide))
  have r0 := takeR_nn (A := A) (B := B) hT
  have r1 := takeR_lt (A := A) (B := B) hT
  have r2 : (takeR A B xs.length).toNat < xs.length := by omega
  have tk' : run P (n + 1) t [.lst .own [.int A, .int B], .int xs.length] = .ok (.int (takeR A B xs.length)) [some (src (takeA A xs.length) (takeB2 A B)), some (.int xs.length)] := tk
  unfold run
  rw [hi]
  simp [oneBody, src, oneR, tk', r0, r1, r2, evB, evS, ev, evs, evC, evAs, Ev.mk1, Out.bind, Out.of, has, Ar.peek, slot, readP, getP, getS, itemD, ixN, path, peekA, bltD, parsOf, D.owned, List.mapIdx, List.mapIdx.go, callA, lend, FOut.out, backO, back, List.getD, List.getElem?_eq_getElem]
theorem evB_step {P : Pg} {F : Nat → List D → FOut} {s : S} {ss : List S} {r r1 : En} (h : evS P F s r = .ok .next r1) : evB P F (s :: ss) r = evB P F ss r1 := by
  show (match evS P F s r with
    | .ok .next r1 => evB P F ss r1
    | x => x) = _
  rw [h]
theorem evB_ret {P : Pg} {F : Nat → List D → FOut} {s : S} {ss : List S} {r r1 : En} {d : D} (h : evS P F s r = .ok (.ret d) r1) : evB P F (s :: ss) r = .ok (.ret d) r1 := by
  show (match evS P F s r with
    | .ok .next r1 => evB P F ss r1
    | x => x) = _
  rw [h]
/-- a call, by its body's end -/
theorem run_ret {P : Pg} {n i : Nat} {fn : Fn} {ds : List D} {d : D} {r : En} (hi : P.fns[i]? = some fn) (hl : ds.length = fn.np) (h : evB P (run P n) fn.body (ds.map some ++ List.replicate (fn.nl - fn.np) none) = .ok (.ret d) r) : run P (n + 1) i ds = .ok d (parsOf fn.asg fn.np r) := by
  show (match P.fns[i]? with
    | some fn => _
    | none => _) = _
  rw [hi]
  dsimp only
  rw [if_pos hl, h]
def pool2 : S := .ifS (.cmp (.var 1) [.Lt] [(.blt .len [(.var 0)])]) [(.asg (.nm 2) (.idx (.var 0) (.var 1)))] [(.ifS (.var 0) [(.asg (.nm 2) (.idx (.var 0) (.int (0))))] [])]
def pool3 : S := .asg (.nm 3) (.blt .max [(.blt .int [(.var 2)]), (.blt .int [(.bin .Sub (.neg (.int (1))) (.var 2))])])
def pool4 : S := .asg (.nm 4) (.bin .Mod (.blt .int [(.bin .Mult (.bin .Add (.bin .Add (.bin .Add (.bin .Mod (.blt .int [(.var 3)]) (.int (2147483629))) (.bin .Mult (.bin .Mult (.int (7919)) (.var 1)) (.var 1))) (.bin .Mult (.int (31)) (.var 1))) (.int (17))) (.int (48271)))]) (.int (2147483647)))
def pool5 : S := .ret (.lst [(.bin .Mult (.var 3) (.blt .int [(.cmp (.var 3) [.GtE] [(.bin .Pow (.int (10)) (.int (18)))])])), (.var 4)])
def poolB : List S := [(.asg (.nm 2) (.int (0))), pool2, pool3, pool4, pool5]
/-- the cell that is drawn from -/
def cellR (ns : List Int) (k : Nat) : Int := if k < ns.length then ns.getD k 0 else ns.getD 0 0
def bigR (c : Int) : Int := if c < -1 - c then -1 - c else c
def poolA (c : Int) : Int := bigR c * if 10 ^ 18 ≤ bigR c then 1 else 0
def poolM (c : Int) (k : Nat) : Int := ((bigR c % 2147483629 + 7919 * k * k + 31 * k + 17) * 48271) % 2147483647
theorem pool_2 {P : Pg} {F : Nat → List D → FOut} {ns : List Int} {k : Nat} : evS P F pool2 [some (.lst .giv (ns.map D.int)), some (.int k), some (.int 0), none, none] = .ok .next [some (.lst .giv (ns.map D.int)), some (.int k), some (.int (cellR ns k)), none, none] := by
  by_cases h : k < ns.length
  · simp [pool2, h, cellR, List.getD, evB, evS, ev, evs, evC, evAs, evEs, Ev.mk1, Out.bind, Out.of, has, Ar.peek, slot, readP, getP, getS, itemD, ixN, cmpA, cmpD, binD, intOp, peekA, bltD, asgT, D.owned, truD, fits]
  · cases ns with
    | nil =>
      have hk0 : ¬ ((k : Int) < 0) := by omega
      simp [pool2, hk0, cellR, List.getD, evB, evS, ev, evs, evC, evAs, evEs, Ev.mk1, Out.bind, Out.of, has, Ar.peek, slot, readP, getP, getS, itemD, ixN, cmpA, cmpD, binD, intOp, peekA, bltD, asgT, D.owned, truD, fits]
    | cons c ns =>
      have hk0 : ¬ ((k : Int) < (ns.length : Int) + 1) := by simp only [List.length_cons] at h; omega
      have hc : cellR (c :: ns) k = c := by unfold cellR; rw [if_neg h]; rfl
      rw [hc]
      simp [pool2, hk0, List.getD, evB, evS, ev, evs, evC, evAs, evEs, Ev.mk1, Out.bind, Out.of, has, Ar.peek, slot, readP, getP, getS, itemD, ixN, cmpA, cmpD, binD, intOp, peekA, bltD, asgT, D.owned, truD, fits]
theorem pool_3 {P : Pg} {F : Nat → List D → FOut} {s : D} {k c : Int} : evS P F pool3 [some s, some (.int k), some (.int c), none, none] = .ok .next [some s, some (.int k), some (.int c), some (.int (bigR c)), none] := by
  simp [pool3, bigR, evS, ev, evs, evC, evAs, evEs, Ev.mk1, Out.bind, Out.of, has, Ar.peek, slot, readP, getP, getS, itemD, ixN, cmpA, cmpD, binD, intOp, peekA, bltD, asgT, D.owned, truD, fits]
theorem pool_4g {P : Pg} {F : Nat → List D → FOut} {s : D} {k c b p q x y z w : Int} (hp : 0 < p) (hq : 0 < q) (k1 : mulOk x k = true) (k2 : mulOk (x * k) k = true) (k3 : mulOk y k = true) (k4 : ∀ u : Int, mulOk u w = true) :
    evS P F (.asg (.nm 4) (.bin .Mod (.blt .int [(.bin .Mult (.bin .Add (.bin .Add (.bin .Add (.bin .Mod (.blt .int [(.var 3)]) (.int p)) (.bin .Mult (.bin .Mult (.int x) (.var 1)) (.var 1))) (.bin .Mult (.int y) (.var 1))) (.int z)) (.int w))]) (.int q))) [some s, some (.int k), some (.int c), some (.int b), none] =
      .ok .next [some s, some (.int k), some (.int c), some (.int b), some (.int (((b % p + x * k * k + y * k + z) * w) % q))] := by
  simp [hp, hq, k1, k2, k3, k4, evS, ev, evs, evC, evAs, evEs, Ev.mk1, Out.bind, Out.of, has, Ar.peek, slot, readP, getP, getS, itemD, ixN, cmpA, cmpD, binD, intOp, peekA, bltD, asgT, D.owned, truD, fits]
theorem pool_4 {P : Pg} {F : Nat → List D → FOut} {s : D} {k : Nat} {c b : Int} (hk : k < 1000) : evS P F pool4 [some s, some (.int k), some (.int c), some (.int b), none] = .ok .next [some s, some (.int k), some (.int c), some (.int b), some (.int (((b % 2147483629 + 7919 * k * k + 31 * k + 17) * 48271) % 2147483647))] :=
  pool_4g (by decide) (by decide) (mulOk_r (by constructor <;> omega)) (mulOk_r (by constructor <;> omega)) (mulOk_r (by constructor <;> omega)) fun z => mulOk_r (by decide)
theorem pool_5 {P : Pg} {F : Nat → List D → FOut} {s : D} {k c b m : Int} : evS P F pool5 [some s, some (.int k), some (.int c), some (.int b), some (.int m)] = .ok (.ret (src (b * if 10 ^ 18 ≤ b then 1 else 0) m)) [some s, some (.int k), some (.int c), some (.int b), some (.int m)] := by
  have k8 : ∀ (z : Int) (p : Prop) [Decidable p], mulOk z (if p then 1 else 0) = true := fun z p _ => mulOk_r (by split <;> decide)
  simp [pool5, src, k8, evS, ev, evs, evC, evAs, evEs, Ev.mk1, Out.bind, Out.of, has, Ar.peek, slot, readP, getP, getS, itemD, ixN, cmpA, cmpD, binD, intOp, peekA, bltD, asgT, D.owned, truD, fits]
theorem pool_ok {P : Pg} {i n : Nat} (hi : P.fns[i]? = some ⟨2, 5, poolB, [2, 3, 4]⟩) {ns : List Int} {k : Nat} (hk : k < 1000) :
    run P (n + 1) i [.lst .giv (ns.map D.int), .int k] = .ok (src (poolA (cellR ns k)) (poolM (cellR ns k) k)) [some (.lst .giv (ns.map D.int)), some (.int k)] := by
  refine (run_ret hi rfl (d := src (poolA (cellR ns k)) (poolM (cellR ns k) k)) (r := [some (.lst .giv (ns.map D.int)), some (.int k), some (.int (cellR ns k)), some (.int (bigR (cellR ns k))), some (.int (poolM (cellR ns k) k))]) ?_).trans (by simp [parsOf, List.mapIdx, List.mapIdx.go])
  refine (evB_step (r1 := [some (.lst .giv (ns.map D.int)), some (.int k), some (.int 0), none, none]) (by simp [evS, ev, Ev.mk1, Out.bind, asgT, List.replicate])).trans ?_
  exact (evB_step pool_2).trans ((evB_step pool_3).trans ((evB_step (pool_4 hk)).trans (evB_ret pool_5)))
end Mv

namespace Mv
open PySem

/-! ### loops of the machine, by their states -/
theorem forL_from {chk : List (Nat × Option D)} {tg : Tg} {b : En → Out Fl} {ds : List D} (st : Nat → En) (h : ∀ i (hi : i < ds.length), still (st i) chk = true ∧ ∃ r1, asgT tg ds[i] (st i) = some r1 ∧ (b r1 = .ok .next (st (i + 1)) ∨ b r1 = .ok .cont (st (i + 1)))) (e : still (st ds.length) chk = true) :
    ∀ j, j ≤ ds.length → forL chk tg b (ds.drop (ds.length - j)) (st (ds.length - j)) = .ok .next (st ds.length) := by
  intro j
  induction j with
  | zero =>
    intro _
    rw [Nat.sub_zero, List.drop_length]
    show (if still (st ds.length) chk then _ else _) = _
    rw [if_pos e]
  | succ j ih =>
    intro hj
    have lt : ds.length - (j + 1) < ds.length := by omega
    obtain ⟨h1, r1, h2, h3⟩ := h _ lt
    have e2 : ds.length - (j + 1) + 1 = ds.length - j := by omega
    rw [drop_cons lt]
    show (if still (st _) chk then (match asgT tg ds[ds.length - (j + 1)] (st _) with
      | some r1 => match b r1 with
        | .ok .next r2 => forL chk tg b _ r2
        | .ok .cont r2 => forL chk tg b _ r2
        | .ok .brk r2 => .ok .next r2
        | .ok (.ret v) r2 => .ok (.ret v) r2
        | .exc c w r2 => .exc c w r2
        | .bad => .bad
      | none => .bad) else .bad) = _
    rw [if_pos h1, h2]
    dsimp only
    rw [e2] at h3 ⊢
    rcases h3 with h3 | h3
    · rw [h3]; exact ih (by omega)
    · rw [h3]; exact ih (by omega)
theorem forL_st {chk : List (Nat × Option D)} {tg : Tg} {b : En → Out Fl} {ds : List D} (st : Nat → En) (h : ∀ i (hi : i < ds.length), still (st i) chk = true ∧ ∃ r1, asgT tg ds[i] (st i) = some r1 ∧ (b r1 = .ok .next (st (i + 1)) ∨ b r1 = .ok .cont (st (i + 1)))) (e : still (st ds.length) chk = true) :
    forL chk tg b ds (st 0) = .ok .next (st ds.length) := by
  have := forL_from st h e ds.length (Nat.le_refl _)
  rwa [Nat.sub_self, List.drop_zero] at this
/-- a comprehension without effects -/
theorem compL_fm {chk : List (Nat × Option D)} {own : List Nat} {tg : Tg} {t : En → Out Bool} {e : En → Out D} {r : En} (p : D → Bool) (g : D → D) (hs : still r chk = true) : ∀ (ds acc : List D), acc.length + ds.length < 16777216 →
    (∀ d ∈ ds, ∃ r1, asgT tg d r = some r1 ∧ ∃ r2, t r1 = .ok (p d) r2 ∧ (p d = true → ∃ r3, e r2 = .ok (g d) r3 ∧ wipeE r3 own = r) ∧ (p d = false → wipeE r2 own = r)) → compL chk own tg t e ds acc r = .ok (acc ++ (ds.filter p).map g) r := by
  intro ds
  induction ds with
  | nil =>
    intro acc _ _
    show (if still r chk then _ else _) = _
    rw [if_pos hs]
    simp
  | cons d ds ih =>
    intro acc hl h
    obtain ⟨r1, h1, r2, h2, h3, h4⟩ := h d List.mem_cons_self
    have hl' : acc.length < 16777216 := by simp only [List.length_cons] at hl; omega
    have ih' := fun acc hl => ih acc hl fun d m => h d (List.mem_cons_of_mem _ m)
    show (if still r chk then (match asgT tg d r with
      | some r1 => match t r1 with
        | .ok true r2 => match e r2 with
          | .ok v r3 => if acc.length < 16777216 then compL chk own tg t e ds (acc ++ [v]) (wipeE r3 own) else .bad
          | _ => .bad
        | .ok false r2 => compL chk own tg t e ds acc (wipeE r2 own)
        | _ => .bad
      | none => .bad) else .bad) = _
    rw [if_pos hs, h1]
    dsimp only
    rw [h2]
    cases hp : p d with
    | true =>
      obtain ⟨r3, h5, h6⟩ := h3 hp
      dsimp only
      rw [h5]
      dsimp only
      rw [if_pos hl', h6, ih' _ (by simp only [List.length_append, List.length_cons, List.length_nil] at hl ⊢; omega)]
      simp [hp]
    | false =>
      dsimp only
      rw [h4 hp, ih' _ (by simp only [List.length_cons] at hl; omega)]
      simp [hp]
theorem evS_for {P : Pg} {F : Nat → List D → FOut} {tg : Tg} {k : ItK} {src : List E} {b : List S} {r r1 r2 : En} {as as1 : List Ar} {ds : List D} (h1 : evAs (evs P F src) r = .ok as r1) (h2 : prep as r1 = some (as1, r2)) (h3 : (peekA r2 as1).bind (itemsN k src.length) = some ds)
    (h4 : ((chks as1 r2).all fun x => !(stT tg ++ stB b).contains x.1) = true) : evS P F (.forS tg k src b) r = forL (chks as1 r2) tg (fun r => evB P F b r) ds r2 := by
  show ((evAs (evs P F src) r).bind fun as r => match prep as r with
    | some (as1, r1) => match (peekA r1 as1).bind (itemsN k src.length) with
      | some ds => if (chks as1 r1).all fun x => !(stT tg ++ stB b).contains x.1 then forL (chks as1 r1) tg (fun r => evB P F b r) ds r1 else .bad
      | none => .bad
    | none => .bad) = _
  rw [h1]
  show (match prep as r1 with
    | some (as1, r1) => match (peekA r1 as1).bind (itemsN k src.length) with
      | some ds => if (chks as1 r1).all fun x => !(stT tg ++ stB b).contains x.1 then forL (chks as1 r1) tg (fun r => evB P F b r) ds r1 else .bad
      | none => .bad
    | none => .bad) = _
  rw [h2]
  dsimp only
  rw [h3]
  dsimp only
  rw [if_pos h4]
theorem ev_comp {P : Pg} {F : Nat → List D → FOut} {elt : E} {tg : Tg} {k : ItK} {src ifs : List E} {own : List Nat} {r r1 r2 r3 : En} {as as1 : List Ar} {ds acc : List D} (h1 : evAs (evs P F src) r = .ok as r1) (h2 : prep as r1 = some (as1, r2)) (h3 : (peekA r2 as1).bind (itemsN k src.length) = some ds)
    (h4 : (stT tg).all own.contains = true) (h5 : compL (chks as1 r2) own tg (evTAnd (evs P F ifs)) (ev P F elt).v ds [] (wipeE r2 own) = .ok acc r3) : (ev P F (.comp elt tg k src ifs own)).v r = .ok (.lst .own acc) r3 := by
  have : (ev P F (.comp elt tg k src ifs own)).v r = ((evAs (evs P F src) r).bind fun as r => match prep as r with
    | some (as1, r1) => match (peekA r1 as1).bind (itemsN k src.length) with
      | some ds => if (stT tg).all own.contains then (match compL (chks as1 r1) own tg (evTAnd (evs P F ifs)) (ev P F elt).v ds [] (wipeE r1 own) with
        | .ok acc r2 => .ok (.lst .own acc) r2
        | _ => .bad) else .bad
      | none => .bad
    | none => .bad) := by
    conv => lhs; unfold ev
    rfl
  rw [this, h1]
  show (match prep as r1 with
    | some (as1, r1) => match (peekA r1 as1).bind (itemsN k src.length) with
      | some ds => if (stT tg).all own.contains then (match compL (chks as1 r1) own tg (evTAnd (evs P F ifs)) (ev P F elt).v ds [] (wipeE r1 own) with
        | .ok acc r2 => Out.ok (D.lst .own acc) r2
        | _ => Out.bad) else Out.bad
      | none => Out.bad
    | none => Out.bad) = _
  rw [h2]
  dsimp only
  rw [h3]
  dsimp only
  rw [if_pos h4, h5]

/-! ### the table of Pascal's rows -/
def ch : Nat → Nat → Nat
  | _, 0 => 1
  | 0, _ + 1 => 0
  | n + 1, k + 1 => ch n k + ch n (k + 1)
def rowI (n : Nat) : List Int := (List.range (n + 1)).map fun k => (ch n k : Int)
def rowD (n : Nat) : List D := (rowI n).map D.int
def tabL (m : Nat) : List D := (List.range m).map (fun i => D.lst .shr (rowD i)) ++ [.lst .own (rowD m)]
def tabD (m : Nat) : D := .lst .own (tabL m)
theorem ch_out : ∀ {n k : Nat}, n < k → ch n k = 0
  | 0, k + 1, _ => rfl
  | n + 1, k + 1, h => by
    show ch n k + ch n (k + 1) = 0
    rw [ch_out (by omega), ch_out (by omega)]
theorem ch_self : ∀ n, ch n n = 1
  | 0 => rfl
  | n + 1 => by
    show ch n n + ch n (n + 1) = 1
    rw [ch_self n, ch_out (by omega)]
theorem rowI_len (n : Nat) : (rowI n).length = n + 1 := by simp [rowI]
theorem rowI_get {n k : Nat} (h : k ≤ n) : (rowI n)[k]? = some (ch n k : Int) := by
  unfold rowI
  rw [List.getElem?_map, List.getElem?_range (by omega)]
  rfl
/-- the next row of the last one -/
theorem rowI_next (n : Nat) : rowI (n + 1) = [1] ++ (List.range n).map (fun j => (ch n j : Int) + (ch n (j + 1) : Int)) ++ [1] := by
  refine List.ext_getElem? fun i => ?_
  by_cases h : i ≤ n + 1
  · rw [rowI_get h]
    cases i with
    | zero => rfl
    | succ i =>
      by_cases e : i < n
      · rw [List.append_assoc, List.getElem?_append_right (by simp), List.getElem?_append_left (by simpa using e), List.getElem?_map, show [(1 : Int)].length = 1 from rfl, Nat.add_sub_cancel, List.getElem?_range e]
        simp [ch]
      · have e2 : i = n := by omega
        subst e2
        rw [List.getElem?_append_right (by simp)]
        simp [ch, ch_self, ch_out (Nat.lt_succ_self i)]
  · rw [List.getElem?_eq_none (by rw [rowI_len]; omega), List.getElem?_eq_none (by simp; omega)]
end Mv

namespace Mv
open PySem

def binC : E := .comp (.bin .Add (.idx (.var 3) (.bin .Sub (.var 4) (.int (1)))) (.idx (.var 3) (.var 4))) (.nm 4) .rng [(.int (1)), (.var 2)] [] [4]
def bin1 : S := .asg (.nm 3) (.idx (.var 1) (.bin .Sub (.var 2) (.int (1))))
def bin2 : S := .expr (.lm .append (.var 1) [(.bin .Add (.bin .Add (.lst [(.int (1))]) binC) (.lst [(.int (1))]))])
def binF : S := .forS (.nm 2) .rng [(.int (1)), (.bin .Add (.var 0) (.int (1)))] [bin1, bin2]
def binB : List S := [(.asg (.nm 1) (.lst [(.lst [(.int (1))])])), binF, (.retV 1)]
variable {P : Pg} {F : Nat → List D → FOut}
def shrL (i : Nat) : List D := (List.range i).map fun i => D.lst .shr (rowD i)
theorem shrL_succ (i : Nat) : shrL (i + 1) = shrL i ++ [.lst .shr (rowD i)] := by simp [shrL, List.range_succ]
theorem tabL_eq (i : Nat) : tabL i = shrL i ++ [.lst .own (rowD i)] := rfl
theorem frzs_ints : ∀ ns : List Int, D.frzs (ns.map D.int) = ns.map D.int
  | [] => rfl
  | n :: ns => by show D.int n :: D.frzs (ns.map D.int) = _; rw [frzs_ints ns]; rfl
theorem rowD_get {n k : Nat} (h : k ≤ n) : (rowD n)[k]? = some (.int (ch n k)) := by
  unfold rowD; rw [List.getElem?_map, rowI_get h]; rfl
theorem rowD_len (n : Nat) : (rowD n).length = n + 1 := by simp [rowD, rowI_len]
theorem shrL_len (i : Nat) : (shrL i).length = i := by simp [shrL]
/-- an int's place in a list -/
theorem ixN_nat {n k : Nat} (h : k < n) : ixN n (k : Int) = some k := by
  unfold ixN
  rw [if_pos (by omega), if_pos (by omega)]
  simp
theorem bin_1 {i : Nat} {m x y : D} {z : Option D} : evS P F bin1 [some m, some (tabD i), some (.int ((1 : Int) + i)), z, none] = .ok .next [some m, some (.lst .own (shrL (i + 1))), some (.int ((1 : Int) + i)), some (.lst .shr (rowD i)), none] := by
  have e1 : (1 : Int) + (i : Int) - 1 = (i : Int) := by omega
  have g : (tabL i)[i]? = some (.lst .own (rowD i)) := by
    rw [tabL_eq, List.getElem?_append_right (by rw [shrL_len]; exact Nat.le_refl _), shrL_len]
    simp
  have l : (tabL i).length = i + 1 := by rw [tabL_eq]; simp [shrL_len]
  have g2 : ∀ h : i < (tabL i).length, (tabL i)[i] = .lst .own (rowD i) := fun h => by
    rw [List.getElem?_eq_getElem h] at g
    exact Option.some.inj g
  have st : (tabL i).set i (.lst .shr (rowD i)) = shrL (i + 1) := by
    rw [tabL_eq, shrL_succ, List.set_append_right _ _ (by rw [shrL_len]; exact Nat.le_refl _), shrL_len]
    simp
  have ix : ixN (i + 1) (i : Int) = some i := ixN_nat (Nat.lt_succ_self i)
  have fz : D.frzs (rowD i) = rowD i := frzs_ints _
  simp [bin1, tabD, e1, g2, l, ix, fz, st, evS, ev, Ev.mk1, Out.bind, Out.of, has, Ar.peek, slot, readP, getP, getS, itemD, binD, intOp, asgT, D.owned, updP]
theorem items_rng2 {i j : Int} (h : -(2 ^ 62) ≤ i ∧ i < 2 ^ 62 ∧ -(2 ^ 62) ≤ j ∧ j < 2 ^ 62) : itemsN .rng 2 [.int i, .int j] = some ((List.range (j - i).toNat).map fun (k : Nat) => D.int (i + k)) := if_pos h
theorem items_rng1 {j : Int} (h : -(2 ^ 62) ≤ j ∧ j < 2 ^ 62) : itemsN .rng 1 [.int j] = some ((List.range j.toNat).map fun (k : Nat) => D.int (k : Int)) := if_pos h
theorem bin_c {i : Nat} {m t : D} (hi : i < 1000) : (ev P F binC).v [some m, some t, some (.int ((1 : Int) + i)), some (.lst .shr (rowD i)), none] = .ok (.lst .own ((List.range i).map fun j => .int ((ch i j : Int) + (ch i (j + 1) : Int)))) [some m, some t, some (.int ((1 : Int) + i)), some (.lst .shr (rowD i)), none] := by
  refine ev_comp (as := [.v (.int 1), .r 2]) (as1 := [.v (.int 1), .r 2]) (r1 := [some m, some t, some (.int ((1 : Int) + i)), some (.lst .shr (rowD i)), none]) (r2 := [some m, some t, some (.int ((1 : Int) + i)), some (.lst .shr (rowD i)), none])
    (ds := (List.range i).map fun (k : Nat) => D.int ((1 : Int) + k)) ?_ ?_ ?_ rfl ?_
  · simp [evs, ev, evAs, Ev.mk1, Out.bind, has, Ar.peek, slot]
  · simp [prep, slot]
  · have b1 : (1 : Int) + (i : Int) < 2 ^ 62 := by omega
    have b2 : -(2 ^ 62) ≤ (1 : Int) + (i : Int) := by omega
    have e : ((1 : Int) + i - 1).toNat = i := by omega
    have pk : peekA [some m, some t, some (.int ((1 : Int) + i)), some (.lst .shr (rowD i)), none] [.v (.int 1), .r 2] = some [.int 1, .int ((1 : Int) + i)] := by simp [peekA, Ar.peek, slot]
    rw [pk, Option.bind_some]
    have q := items_rng2 (i := 1) (j := (1 : Int) + i) ⟨by omega, by omega, b2, b1⟩
    rw [e] at q
    exact q
  · refine (compL_fm (p := fun _ => true) (g := fun d => match d with
      | .int z => .int ((ch i (z - 1).toNat : Int) + (ch i (z - 1 + 1).toNat : Int))
      | d => d) ?_ _ [] ?_ ?_).trans ?_
    · simp [still, chks, slot, wipeE]
    · simp; omega
    · intro d hd
      obtain ⟨k, hk, rfl⟩ := List.mem_map.mp hd
      have hk : k < i := by simpa using hk
      have ix1 : ixN (i + 1) (k : Int) = some k := ixN_nat (by omega)
      have ix2 : ixN (i + 1) ((1 : Int) + (k : Int)) = some (k + 1) := by
        have := ixN_nat (n := i + 1) (k := k + 1) (by omega)
        rwa [show ((k + 1 : Nat) : Int) = (1 : Int) + (k : Int) by omega] at this
      have e1 : (1 : Int) + (k : Int) - 1 = (k : Int) := by omega
      have g1 := rowD_get (n := i) (k := k) (by omega)
      have g2 := rowD_get (n := i) (k := k + 1) (by omega)
      have e2 : ((k : Int) + 1).toNat = k + 1 := by omega
      exact ⟨[some m, some t, some (.int ((1 : Int) + i)), some (.lst .shr (rowD i)), some (.int ((1 : Int) + k))], by simp [asgT, wipeE], _, by simp [evs, evTAnd]; rfl, fun _ => ⟨[some m, some t, some (.int ((1 : Int) + i)), some (.lst .shr (rowD i)), some (.int ((1 : Int) + k))], by
        simp [ev, Ev.mk1, Out.bind, Out.of, has, Ar.peek, slot, readP, getP, getS, itemD, binD, intOp, D.owned, rowD_len, e1, e2, ix1, ix2, g1, g2], by simp [wipeE]⟩, fun z => by cases z⟩
    · have e : ∀ l : List D, l.filter (fun _ => true) = l := fun l => List.filter_eq_self.mpr fun _ _ => rfl
      rw [e, List.map_map, List.nil_append]
      have e2 : ((fun d => match d with
        | D.int z => D.int ((ch i (z - 1).toNat : Int) + (ch i (z - 1 + 1).toNat : Int))
        | d => d) ∘ fun (k : Nat) => D.int ((1 : Int) + k)) = fun (j : Nat) => D.int ((ch i j : Int) + (ch i (j + 1) : Int)) := by
        funext k
        have e1 : ((1 : Int) + (k : Int) - 1).toNat = k := by omega
        have e2 : ((1 : Int) + (k : Int) - 1 + 1).toNat = k + 1 := by omega
        show D.int ((ch i ((1 : Int) + (k : Int) - 1).toNat : Int) + (ch i ((1 : Int) + (k : Int) - 1 + 1).toNat : Int)) = _
        rw [e1, e2]
      rw [e2]
      simp [wipeE]
theorem noOwn_map {α : Type} (f : α → Int) (l : List α) : noOwn (l.map fun j => D.int (f j)) = true := by
  unfold noOwn
  rw [List.all_map]
  exact List.all_eq_true.mpr fun _ _ => rfl
theorem rowD_next (i : Nat) : rowD (i + 1) = [.int 1] ++ ((List.range i).map fun j => D.int ((ch i j : Int) + (ch i (j + 1) : Int))) ++ [.int 1] := by
  unfold rowD
  rw [rowI_next]
  simp
theorem add_lst {a b : List D} (h1 : noOwn a = true) (h2 : noOwn b = true) (h3 : a.length + b.length ≤ 16777216) : binD .Add (.lst .own a) (.lst .own b) = some (.lst .own (a ++ b)) := by
  show (if (Kd.own != .giv && Kd.own != .giv && noOwn a && noOwn b && decide (a.length + b.length ≤ 16777216)) = true then _ else _) = _
  rw [if_pos (by rw [h1, h2]; simpa using h3)]
theorem noOwn_app (a b : List D) : noOwn (a ++ b) = (noOwn a && noOwn b) := List.all_append
theorem ev_lm_var {m : Lm} {x : Nat} {es : List E} {r : En} {kd : Kd} {xs : List D} (h : slot r x = some (.lst kd xs)) : (ev P F (.lm m (.var x) es)).v r = (evEs (evs P F es) r).bind fun ds r => lmP m (slot r x) (r.set x none) x [] ds := by
  conv => lhs; unfold ev
  show (match slot r x with
    | some (.lst _ _) => (evEs (evs P F es) r).bind fun ds r => lmP m (slot r x) (r.set x none) x [] ds
    | _ => .bad) = _
  rw [h]
theorem evEs_one {a : E} {r r1 : En} {d : D} (h : (ev P F a).v r = .ok d r1) : evEs (evs P F [a]) r = .ok [d] r1 := by
  show (((ev P F a).v r).bind fun d r => (Out.ok [] r).bind fun ds r => .ok (d :: ds) r) = _
  rw [h]; rfl
theorem evS_expr {a : E} {r r1 : En} {d : D} (h : (ev P F a).v r = .ok d r1) : evS P F (.expr a) r = .ok .next r1 := by
  show (((ev P F a).v r).bind fun _ r => Out.ok Fl.next r) = _
  rw [h]; rfl
theorem lmP_app {r : En} {x : Nat} {xs : List D} {d : D} (h : xs.length < 16777216) (hx : x < r.length) : lmP .append (some (.lst .own xs)) r x [] [d] = .ok .non (r.set x (some (.lst .own (xs ++ [d])))) := by
  unfold lmP
  dsimp only [getP, lmD]
  rw [if_pos h]
  dsimp only [updP]
  rw [if_pos hx]
theorem ev_bin {op : Operator} {a b : E} {r r1 r2 : En} {x y z : D} (h1 : (ev P F a).v r = .ok x r1) (h2 : (ev P F b).v r1 = .ok y r2) (h3 : binD op x y = some z) : (ev P F (.bin op a b)).v r = .ok z r2 := by
  show (((ev P F a).v r).bind fun x r => ((ev P F b).v r).bind fun y r => Out.of (binD op x y) r) = _
  rw [h1, Out.bind_ok, h2, Out.bind_ok, h3]
  rfl
theorem ev_lst1 {a : E} {r r1 : En} {d : D} (h : (ev P F a).v r = .ok d r1) : (ev P F (.lst [a])).v r = .ok (.lst .own [d]) r1 := by
  show ((evEs (evs P F [a]) r).bind fun ds r => if fits ds then Out.ok (D.lst .own ds) r else .bad) = _
  rw [evEs_one h, Out.bind_ok]
  exact if_pos (decide_eq_true (show 1 ≤ 16777216 by omega))
theorem bin_2 {i : Nat} {m : D} (hi : i < 1000) : evS P F bin2 [some m, some (.lst .own (shrL (i + 1))), some (.int ((1 : Int) + i)), some (.lst .shr (rowD i)), none] = .ok .next [some m, some (tabD (i + 1)), some (.int ((1 : Int) + i)), some (.lst .shr (rowD i)), none] := by
  have c := bin_c (P := P) (F := F) (m := m) (t := .lst .own (shrL (i + 1))) hi
  have n1 := noOwn_map (fun j => (ch i j : Int) + (ch i (j + 1) : Int)) (List.range i)
  have a1 := add_lst (a := [.int 1]) (b := (List.range i).map fun j => D.int ((ch i j : Int) + (ch i (j + 1) : Int))) rfl n1 (by simp; omega)
  have n2 : noOwn ([D.int 1] ++ (List.range i).map fun j => D.int ((ch i j : Int) + (ch i (j + 1) : Int))) = true := by rw [noOwn_app, n1]; rfl
  have a2 := add_lst (a := [.int 1] ++ (List.range i).map fun j => D.int ((ch i j : Int) + (ch i (j + 1) : Int))) (b := [.int 1]) n2 rfl (by simp; omega)
  rw [← rowD_next] at a2
  have e : (ev P F (.bin .Add (.bin .Add (.lst [(.int (1))]) binC) (.lst [(.int (1))]))).v [some m, some (.lst .own (shrL (i + 1))), some (.int ((1 : Int) + i)), some (.lst .shr (rowD i)), none] = .ok (.lst .own (rowD (i + 1))) [some m, some (.lst .own (shrL (i + 1))), some (.int ((1 : Int) + i)), some (.lst .shr (rowD i)), none] := by
    have o : ∀ r, (ev P F (.lst [(.int (1))])).v r = .ok (.lst .own [.int 1]) r := fun r => ev_lst1 rfl
    exact ev_bin (ev_bin (o _) c a1) (o _) a2
  have l : (shrL (i + 1)).length < 16777216 := by rw [shrL_len]; omega
  refine evS_expr (d := .non) ?_
  rw [ev_lm_var (kd := .own) (xs := shrL (i + 1)) rfl, evEs_one e, Out.bind_ok]
  exact lmP_app (x := 1) l (by simp)
def binSt (m : Nat) : Nat → En
  | 0 => [some (.int m), some (tabD 0), none, none, none]
  | i + 1 => [some (.int m), some (tabD (i + 1)), some (.int ((1 : Int) + i)), some (.lst .shr (rowD i)), none]
theorem bin_f {m : Nat} (hm : m < 1000) : evS P F binF (binSt m 0) = .ok .next (binSt m m) := by
  have e0 : ((m : Int) + 1 - 1).toNat = m := by omega
  have q := items_rng2 (i := 1) (j := (m : Int) + 1) ⟨by omega, by omega, by omega, by omega⟩
  rw [e0] at q
  have h1 : evAs (evs P F [(.int (1)), (.bin .Add (.var 0) (.int (1)))]) (binSt m 0) = .ok [.v (.int 1), .v (.int ((m : Int) + 1))] (binSt m 0) := by
    simp [binSt, evs, ev, evAs, Ev.mk1, Out.bind, Out.of, readP, slot, getP, D.owned, binD, intOp]
  have pk : peekA (binSt m 0) [.v (.int 1), .v (.int ((m : Int) + 1))] = some [.int 1, .int ((m : Int) + 1)] := rfl
  have h3 : (peekA (binSt m 0) [.v (.int 1), .v (.int ((m : Int) + 1))]).bind (itemsN .rng 2) = some ((List.range m).map fun (k : Nat) => D.int ((1 : Int) + k)) := by
    rw [pk, Option.bind_some]
    exact q
  have p1 : prep [.v (.int 1), .v (.int ((m : Int) + 1))] (binSt m 0) = some ([.v (.int 1), .v (.int ((m : Int) + 1))], binSt m 0) := rfl
  have p2 : ((chks [.v (.int 1), .v (.int ((m : Int) + 1))] (binSt m 0)).all fun x => !(stT (.nm 2) ++ stB [bin1, bin2]).contains x.1) = true := rfl
  refine (evS_for (ds := (List.range m).map fun (k : Nat) => D.int ((1 : Int) + k)) h1 (as1 := [.v (.int 1), .v (.int ((m : Int) + 1))]) (r2 := binSt m 0) p1 h3 p2).trans ?_
  have go := forL_st (chk := []) (tg := .nm 2) (b := fun r => evB P F [bin1, bin2] r) (ds := (List.range m).map fun (k : Nat) => D.int ((1 : Int) + k)) (binSt m) (fun i hi => ?_) rfl
  · rw [List.length_map, List.length_range] at go
    exact go
  · have hi : i < m := by simpa using hi
    have ed : ((List.range m).map fun (k : Nat) => D.int ((1 : Int) + k))[i]'(by simpa using hi) = .int ((1 : Int) + i) := by simp
    refine ⟨rfl, ?_⟩
    rw [ed]
    have body : ∀ z y : Option D, evB P F [bin1, bin2] [some (.int m), some (tabD i), some (.int ((1 : Int) + i)), z, none] = .ok .next (binSt m (i + 1)) := fun z y => by
      rw [evB_step (bin_1 (x := .non) (y := .non)), evB_step (bin_2 (by omega))]
      rfl
    cases i with
    | zero => exact ⟨[some (.int m), some (tabD 0), some (.int ((1 : Int) + (0 : Nat))), none, none], rfl, .inl (body none none)⟩
    | succ i => exact ⟨[some (.int m), some (tabD (i + 1)), some (.int ((1 : Int) + ((i + 1 : Nat) : Int))), some (.lst .shr (rowD i)), none], rfl, .inl (body _ none)⟩
theorem bin_ok {n i : Nat} (hi : P.fns[i]? = some ⟨1, 5, binB, [1, 2, 3]⟩) {m : Nat} (hm : m < 1000) : run P (n + 1) i [.int m] = .ok (tabD m) [some (.int m)] := by
  refine (run_ret hi rfl (d := tabD m) (r := (binSt m m).set 1 none) ?_).trans ?_
  · have s1 : evS P (run P n) (.asg (.nm 1) (.lst [(.lst [(.int (1))])])) [some (.int m), none, none, none, none] = .ok .next (binSt m 0) := by
      have o : (ev P (run P n) (.lst [(.lst [(.int (1))])])).v [some (.int m), none, none, none, none] = .ok (.lst .own [.lst .own [.int 1]]) [some (.int m), none, none, none, none] := ev_lst1 (ev_lst1 rfl)
      show (((ev P (run P n) (.lst [(.lst [(.int (1))])])).v [some (.int m), none, none, none, none]).bind fun d r => match asgT (.nm 1) d r with
        | some r1 => Out.ok Fl.next r1
        | none => .bad) = _
      rw [o]
      rfl
    refine (evB_step s1).trans ((evB_step (bin_f hm)).trans (evB_ret ?_))
    cases m <;> rfl
  · cases m with
    | zero => rfl
    | succ m => rfl
end Mv

namespace Mv
open PySem
variable {P : Pg} {F : Nat → List D → FOut}
theorem readP_int {r : En} {x : Nat} {p : List St1} {d : D} {z : Int} (s : slot r x = some d) (g : getP d p = some (.int z)) : readP r x p = .ok (.int z) r := by
  unfold readP
  rw [s]
  dsimp only
  rw [g]
  rfl
theorem ev_idx_path {a i : E} {r : En} {x : Nat} {p : List St1} (hn : ∀ y, a ≠ .var y) (h : path (.idx a i) r = some (x, p)) : (ev P F (.idx a i)).v r = readP r x p := by
  conv => lhs; unfold ev
  cases a <;> first
    | exact absurd rfl (hn _)
    | (simp only [Ev.mk1, h])
theorem evS_ret {a : E} {r r1 : En} {d : D} (h : (ev P F a).v r = .ok d r1) : evS P F (.ret a) r = .ok (.ret d) r1 := by
  show (((ev P F a).v r).bind fun d r => Out.ok (Fl.ret d) r) = _
  rw [h]; rfl
def chosB : List S := [(.ifS (.notE (.cmp (.int (0)) [.LtE, .LtE] [(.var 2), (.var 1)])) [(.ret (.int (0)))] []), (.ret (.idx (.idx (.var 0) (.var 1)) (.var 2)))]
def chZ (a b : Int) : Int := if 0 ≤ b ∧ b ≤ a then (ch a.toNat b.toNat : Int) else 0
theorem tabL_len (m : Nat) : (tabL m).length = m + 1 := by rw [tabL_eq]; simp [shrL_len]
theorem tabL_get {m a : Nat} (h : a ≤ m) : ∃ k, k ≠ .giv ∧ (tabL m)[a]? = some (.lst k (rowD a)) := by
  rw [tabL_eq]
  by_cases e : a < m
  · refine ⟨.shr, by decide, ?_⟩
    rw [List.getElem?_append_left (by rw [shrL_len]; exact e)]
    unfold shrL
    rw [List.getElem?_map, List.getElem?_range e]
    rfl
  · have e : a = m := by omega
    subst e
    refine ⟨.own, by decide, ?_⟩
    rw [List.getElem?_append_right (by rw [shrL_len]; exact Nat.le_refl _), shrL_len]
    simp
theorem chos_ok {n i : Nat} (hi : P.fns[i]? = some ⟨3, 3, chosB, []⟩) {m : Nat} {a b : Int} (h : ¬ (0 ≤ b ∧ b ≤ a) ∨ a ≤ m) : run P (n + 1) i [tabD m, .int a, .int b] = .ok (.int (chZ a b)) [some (tabD m), some (.int a), some (.int b)] := by
  by_cases c : 0 ≤ b ∧ b ≤ a
  · have ha : a ≤ m := h.resolve_left fun n => n c
    obtain ⟨x, rfl⟩ : ∃ x : Nat, a = (x : Int) := ⟨a.toNat, by omega⟩
    obtain ⟨y, rfl⟩ : ∃ y : Nat, b = (y : Int) := ⟨b.toNat, by omega⟩
    obtain ⟨k, nk, hk⟩ := tabL_get (m := m) (a := x) (by omega)
    have ix1 : ixN (m + 1) (x : Int) = some x := ixN_nat (by omega)
    have ix2 : ixN (x + 1) (y : Int) = some y := ixN_nat (by omega)
    have g := rowD_get (n := x) (k := y) (by omega)
    have c2 : y ≤ x := by omega
    have s1 : evS P (run P n) (.ifS (.notE (.cmp (.int (0)) [.LtE, .LtE] [(.var 2), (.var 1)])) [(.ret (.int (0)))] []) [some (tabD m), some (.int x), some (.int y)] = .ok .next [some (tabD m), some (.int x), some (.int y)] := by
      simp [evS, evB, ev, evs, evC, Ev.mk1, Out.bind, Out.of, has, Ar.peek, slot, cmpA, cmpD, c2]
    have pt : path (.idx (.idx (.var 0) (.var 1)) (.var 2)) [some (tabD m), some (.int (x : Int)), some (.int (y : Int))] = some (0, [.ix x, .ix y]) := rfl
    have gp : getP (tabD m) [.ix x, .ix y] = some (.int (ch x y)) := by
      show (itemD (tabD m) (.int x)).bind (fun e => (itemD e (.int y)).bind fun e => some e) = _
      have e1 : itemD (tabD m) (.int x) = some (.lst k (rowD x)) := by
        show (ixN (tabL m).length (x : Int)).bind (fun j => (tabL m)[j]?) = _
        rw [tabL_len, ix1]
        exact hk
      have e2 : itemD (.lst k (rowD x)) (.int y) = some (.int (ch x y)) := by
        show (ixN (rowD x).length (y : Int)).bind (fun j => (rowD x)[j]?) = _
        rw [rowD_len, ix2]
        exact g
      rw [e1, Option.bind_some, e2]
      rfl
    have s2 : evS P (run P n) (.ret (.idx (.idx (.var 0) (.var 1)) (.var 2))) [some (tabD m), some (.int x), some (.int y)] = .ok (.ret (.int (ch x y))) [some (tabD m), some (.int x), some (.int y)] :=
      evS_ret ((ev_idx_path (fun _ z => by cases z) pt).trans (readP_int (d := tabD m) rfl gp))
    refine (run_ret hi rfl ((evB_step s1).trans (evB_ret s2))).trans ?_
    unfold chZ
    rw [if_pos c]
    rfl
  · have s1 : evS P (run P n) (.ifS (.notE (.cmp (.int (0)) [.LtE, .LtE] [(.var 2), (.var 1)])) [(.ret (.int (0)))] []) [some (tabD m), some (.int a), some (.int b)] = .ok (.ret (.int 0)) [some (tabD m), some (.int a), some (.int b)] := by
      by_cases b0 : 0 ≤ b
      · have b1 : ¬ b ≤ a := fun z => c ⟨b0, z⟩
        simp [evS, evB, ev, evs, evC, Ev.mk1, Out.bind, Out.of, has, Ar.peek, slot, cmpA, cmpD, readP, b0, b1]
      · simp [evS, evB, ev, evs, evC, Ev.mk1, Out.bind, Out.of, has, Ar.peek, slot, cmpA, cmpD, readP, b0]
    refine (run_ret hi rfl (evB_ret s1)).trans ?_
    unfold chZ
    rw [if_neg c]
    rfl
end Mv

namespace Mv
open PySem
variable {P : Pg} {F : Nat → List D → FOut}
theorem ev_call {f : Nat} {es : List E} {r r1 : En} {as : List Ar} (h : evAs (evs P F es) r = .ok as r1) : (ev P F (.call f es)).v r = callA F f as r1 := by
  conv => lhs; unfold ev
  show ((evAs (evs P F es) r).bind fun as r => callA F f as r) = _
  rw [h]; rfl
def sprA (c : Nat) : S := .asg (.nm 8) (.bin .Mult (.call c [(.var 0), (.var 5), (.var 7)]) (.call c [(.var 0), (.bin .Add (.var 5) (.var 2)), (.bin .Sub (.var 7) (.var 3))]))
def sprG : S := .augI (.var 4) (.bin .Sub (.var 5) (.var 7)) .Add (.bin .Mult (.var 6) (.var 8))
/-- what chosen answers here -/
def ChF (F : Nat → List D → FOut) (c m : Nat) (a b : Int) : Prop := F c [tabD m, .int a, .int b] = .ok (.int (chZ a b)) [some (tabD m), some (.int a), some (.int b)]
theorem spr_a {c m : Nat} {W : D} {sp en le my t : Int} {f z : Option D} (h1 : ChF F c m le t) (h2 : ChF F c m (le + sp) (t - en)) (hm : mulOk (chZ le t) (chZ (le + sp) (t - en)) = true) :
    evS P F (sprA c) [some (tabD m), some W, some (.int sp), some (.int en), f, some (.int le), some (.int my), some (.int t), z] =
      .ok .next [some (tabD m), some W, some (.int sp), some (.int en), f, some (.int le), some (.int my), some (.int t), some (.int (chZ le t * chZ (le + sp) (t - en)))] := by
  unfold ChF at h1 h2
  have ow : (tabD m).owned = true := rfl
  have c1 : (ev P F (.call c [(.var 0), (.var 5), (.var 7)])).v [some (tabD m), some W, some (.int sp), some (.int en), f, some (.int le), some (.int my), some (.int t), z] = .ok (.int (chZ le t)) [some (tabD m), some W, some (.int sp), some (.int en), f, some (.int le), some (.int my), some (.int t), z] := by
    refine (ev_call (as := [.r 0, .r 5, .r 7]) (r1 := [some (tabD m), some W, some (.int sp), some (.int en), f, some (.int le), some (.int my), some (.int t), z]) rfl).trans ?_
    have l : lend [.r 0, .r 5, .r 7] [some (tabD m), some W, some (.int sp), some (.int en), f, some (.int le), some (.int my), some (.int t), z] = some ([tabD m, .int le, .int t], [none, some W, some (.int sp), some (.int en), f, some (.int le), some (.int my), some (.int t), z]) := rfl
    unfold callA
    rw [l]
    dsimp only
    rw [h1]
    rfl
  have c2 : (ev P F (.call c [(.var 0), (.bin .Add (.var 5) (.var 2)), (.bin .Sub (.var 7) (.var 3))])).v [some (tabD m), some W, some (.int sp), some (.int en), f, some (.int le), some (.int my), some (.int t), z] = .ok (.int (chZ (le + sp) (t - en))) [some (tabD m), some W, some (.int sp), some (.int en), f, some (.int le), some (.int my), some (.int t), z] := by
    refine (ev_call (as := [.r 0, .v (.int (le + sp)), .v (.int (t - en))]) (r1 := [some (tabD m), some W, some (.int sp), some (.int en), f, some (.int le), some (.int my), some (.int t), z]) rfl).trans ?_
    have l : lend [.r 0, .v (.int (le + sp)), .v (.int (t - en))] [some (tabD m), some W, some (.int sp), some (.int en), f, some (.int le), some (.int my), some (.int t), z] = some ([tabD m, .int (le + sp), .int (t - en)], [none, some W, some (.int sp), some (.int en), f, some (.int le), some (.int my), some (.int t), z]) := rfl
    unfold callA
    rw [l]
    dsimp only
    rw [h2]
    rfl
  have b := ev_bin (op := .Mult) c1 c2 (z := .int (chZ le t * chZ (le + sp) (t - en))) (by
    show (if mulOk _ _ = true then some _ else none).map D.int = _
    rw [if_pos hm]; rfl)
  show (((ev P F _).v _).bind fun d r => match asgT (.nm 8) d r with
    | some r1 => Out.ok Fl.next r1
    | none => .bad) = _
  rw [b]
  rfl
def addAt (f : List Int) (j : Nat) (v : Int) : List Int := f.set j (f.getD j 0 + v)
theorem spr_g {m j : Nat} {W : D} {sp en le my t s : Int} {f : List Int} (hj : le - t = (j : Int)) (hl : j < f.length) (hm : mulOk my s = true) :
    evS P F sprG [some (tabD m), some W, some (.int sp), some (.int en), some (.lst .own (f.map D.int)), some (.int le), some (.int my), some (.int t), some (.int s)] =
      .ok .next [some (tabD m), some W, some (.int sp), some (.int en), some (.lst .own ((addAt f j (my * s)).map D.int)), some (.int le), some (.int my), some (.int t), some (.int s)] := by
  have ix : ixN f.length (j : Int) = some j := ixN_nat hl
  simp [sprG, addAt, evS, path, evI, slot, peekP, getP, getS, itemD, hj, ix, hl, updP, ev, Ev.mk1, Out.bind, Out.of, readP, D.owned, binD, intOp, hm, augOp, List.getD, List.map_set]
/-- the factor of a turn -/
def stp (sp en : Int) (le t : Nat) : Int := chZ le t * chZ (le + sp) (t - en)
/-- the inner loop, after t turns -/
def inn (sp en my : Int) (le : Nat) (f : List Int) : Nat → List Int
  | 0 => f
  | t + 1 => addAt (inn sp en my le f t) (le - t) (my * stp sp en le t)
theorem inn_len {sp en my : Int} {le : Nat} {f : List Int} : ∀ t, (inn sp en my le f t).length = f.length
  | 0 => rfl
  | t + 1 => by show (List.set _ _ _).length = _; rw [List.length_set, inn_len t]
def sprF (c : Nat) : S := .forS (.nm 7) .rng [(.bin .Add (.var 5) (.int (1)))] [sprA c, sprG]
def innSt (m : Nat) (W : D) (sp en my : Int) (le : Nat) (f : List Int) (z7 z8 : Option D) : Nat → En
  | 0 => [some (tabD m), some W, some (.int sp), some (.int en), some (.lst .own (f.map D.int)), some (.int le), some (.int my), z7, z8]
  | t + 1 => [some (tabD m), some W, some (.int sp), some (.int en), some (.lst .own ((inn sp en my le f (t + 1)).map D.int)), some (.int le), some (.int my), some (.int t), some (.int (stp sp en le t))]
theorem spr_f {c m : Nat} {W : D} {sp en my : Int} {le : Nat} {f : List Int} {z7 z8 : Option D} (hle : le < 1000) (hl : le < f.length) (hc : ∀ t : Nat, t ≤ le → ChF F c m le t ∧ ChF F c m (le + sp) (t - en) ∧ mulOk (chZ le t) (chZ (le + sp) (t - en)) = true ∧ mulOk my (stp sp en le t) = true) :
    evS P F (sprF c) (innSt m W sp en my le f z7 z8 0) = .ok .next (innSt m W sp en my le f z7 z8 (le + 1)) := by
  have q := items_rng1 (j := (le : Int) + 1) ⟨by omega, by omega⟩
  have e0 : ((le : Int) + 1).toNat = le + 1 := by omega
  rw [e0] at q
  have h1 : evAs (evs P F [(.bin .Add (.var 5) (.int (1)))]) (innSt m W sp en my le f z7 z8 0) = .ok [.v (.int ((le : Int) + 1))] (innSt m W sp en my le f z7 z8 0) := rfl
  have p1 : prep [.v (.int ((le : Int) + 1))] (innSt m W sp en my le f z7 z8 0) = some ([.v (.int ((le : Int) + 1))], innSt m W sp en my le f z7 z8 0) := rfl
  have pk : peekA (innSt m W sp en my le f z7 z8 0) [.v (.int ((le : Int) + 1))] = some [.int ((le : Int) + 1)] := rfl
  have h3 : (peekA (innSt m W sp en my le f z7 z8 0) [.v (.int ((le : Int) + 1))]).bind (itemsN .rng 1) = some ((List.range (le + 1)).map fun (k : Nat) => D.int (k : Int)) := by
    rw [pk, Option.bind_some]
    exact q
  refine (evS_for (ds := (List.range (le + 1)).map fun (k : Nat) => D.int (k : Int)) h1 (as1 := [.v (.int ((le : Int) + 1))]) (r2 := innSt m W sp en my le f z7 z8 0) p1 h3 rfl).trans ?_
  have go := forL_st (chk := []) (tg := .nm 7) (b := fun r => evB P F [sprA c, sprG] r) (ds := (List.range (le + 1)).map fun (k : Nat) => D.int (k : Int)) (innSt m W sp en my le f z7 z8) (fun i hi => ?_) rfl
  · rw [List.length_map, List.length_range] at go
    exact go
  · have hi : i < le + 1 := by simpa using hi
    have ed : ((List.range (le + 1)).map fun (k : Nat) => D.int (k : Int))[i]'(by simpa using hi) = .int (i : Int) := by simp
    refine ⟨rfl, ?_⟩
    rw [ed]
    obtain ⟨c1, c2, c3, c4⟩ := hc i (by omega)
    have hj : (le : Int) - (i : Int) = ((le - i : Nat) : Int) := by omega
    have body : ∀ (g : List Int) (z : Option D), g.length = f.length → evB P F [sprA c, sprG] [some (tabD m), some W, some (.int sp), some (.int en), some (.lst .own (g.map D.int)), some (.int le), some (.int my), some (.int i), z] =
        .ok .next [some (tabD m), some W, some (.int sp), some (.int en), some (.lst .own ((addAt g (le - i) (my * stp sp en le i)).map D.int)), some (.int le), some (.int my), some (.int i), some (.int (stp sp en le i))] := fun g z hg => by
      exact (evB_step (spr_a c1 c2 c3)).trans (evB_step (spr_g (s := stp sp en le i) (j := le - i) hj (by omega) c4))
    cases i with
    | zero => exact ⟨_, rfl, .inl (body f z8 rfl)⟩
    | succ i => exact ⟨_, rfl, .inl (body _ _ (inn_len (i + 1)))⟩
end Mv

namespace Mv
open PySem
variable {P : Pg} {F : Nat → List D → FOut}
def wy (ws : List Int) (l : Nat) : Int := ws.getD l 0
/-- what spread has found after l of the ways -/
def outF (sp en : Int) (ws : List Int) : Nat → List Int
  | 0 => List.replicate ws.length 0
  | l + 1 => if 0 < wy ws l then inn sp en (wy ws l) l (outF sp en ws l) (l + 1) else outF sp en ws l
theorem outF_len {sp en : Int} {ws : List Int} : ∀ l, (outF sp en ws l).length = ws.length
  | 0 => List.length_replicate
  | l + 1 => by
    unfold outF
    split
    · rw [inn_len, outF_len l]
    · exact outF_len l
def o7 (ws : List Int) : Nat → Option D
  | 0 => none
  | l + 1 => if 0 < wy ws l then some (.int l) else o7 ws l
def o8 (sp en : Int) (ws : List Int) : Nat → Option D
  | 0 => none
  | l + 1 => if 0 < wy ws l then some (.int (stp sp en l l)) else o8 sp en ws l
def outSt (m : Nat) (sp en : Int) (ws : List Int) : Nat → En
  | 0 => [some (tabD m), some (.lst .own (ws.map D.int)), some (.int sp), some (.int en), some (.lst .own ((outF sp en ws 0).map D.int)), none, none, none, none]
  | l + 1 => [some (tabD m), some (.lst .own (ws.map D.int)), some (.int sp), some (.int en), some (.lst .own ((outF sp en ws (l + 1)).map D.int)), some (.int l), some (.int (wy ws l)), o7 ws (l + 1), o8 sp en ws (l + 1)]
theorem evS_if {c : E} {a b : List S} {r r1 : En} {k : Bool} (h : (ev P F c).t r = .ok k r1) : evS P F (.ifS c a b) r = if k then evB P F a r1 else evB P F b r1 := by
  conv => lhs; unfold evS
  rw [h]
  rfl
def sprI (c : Nat) : S := .ifS (.cmp (.var 6) [.Gt] [(.int (0))]) [sprF c] []
theorem spr_i {c m l : Nat} {W : D} {sp en w : Int} {f : List Int} {z7 z8 : Option D} (hle : l < 1000) (hl : l < f.length) (hc : 0 < w → ∀ t : Nat, t ≤ l → ChF F c m l t ∧ ChF F c m (l + sp) (t - en) ∧ mulOk (chZ l t) (chZ (l + sp) (t - en)) = true ∧ mulOk w (stp sp en l t) = true) :
    evS P F (sprI c) [some (tabD m), some W, some (.int sp), some (.int en), some (.lst .own (f.map D.int)), some (.int l), some (.int w), z7, z8] =
      .ok .next (if 0 < w then innSt m W sp en w l f z7 z8 (l + 1) else [some (tabD m), some W, some (.int sp), some (.int en), some (.lst .own (f.map D.int)), some (.int l), some (.int w), z7, z8]) := by
  have t : (ev P F (.cmp (.var 6) [.Gt] [(.int (0))])).t [some (tabD m), some W, some (.int sp), some (.int en), some (.lst .own (f.map D.int)), some (.int l), some (.int w), z7, z8] = .ok (decide (0 < w)) [some (tabD m), some W, some (.int sp), some (.int en), some (.lst .own (f.map D.int)), some (.int l), some (.int w), z7, z8] := by
    simp [ev, evs, evC, Ev.mk1, Out.bind, Out.of, has, Ar.peek, slot, cmpA, cmpD]
  unfold sprI
  rw [evS_if t]
  by_cases h : 0 < w
  · rw [if_pos (decide_eq_true h), if_pos h]
    exact (evB_step (spr_f (z7 := z7) (z8 := z8) hle hl (hc h))).trans rfl
  · rw [if_neg (by simpa using h), if_neg h]
    rfl
def sprO (c : Nat) : S := .forS (.tp [(.nm 5), (.nm 6)]) .enm [(.var 1)] [sprI c]
theorem spr_o {c m : Nat} {sp en : Int} {ws : List Int} (hw : ws.length < 1000) (hc : ∀ l : Nat, l < ws.length → 0 < wy ws l → ∀ t : Nat, t ≤ l → ChF F c m l t ∧ ChF F c m (l + sp) (t - en) ∧ mulOk (chZ l t) (chZ (l + sp) (t - en)) = true ∧ mulOk (wy ws l) (stp sp en l t) = true) :
    evS P F (sprO c) (outSt m sp en ws 0) = .ok .next (outSt m sp en ws ws.length) := by
  have fz := frzs_ints ws
  have h1 : evAs (evs P F [(.var 1)]) (outSt m sp en ws 0) = .ok [.r 1] (outSt m sp en ws 0) := rfl
  have p1 : prep [.r 1] (outSt m sp en ws 0) = some ([.r 1], outSt m sp en ws 0) := by
    show some ([Ar.r 1], (outSt m sp en ws 0).set 1 (some (.lst .own (D.frzs (ws.map D.int))))) = _
    rw [fz]
    rfl
  have pk : peekA (outSt m sp en ws 0) [.r 1] = some [.lst .own (ws.map D.int)] := rfl
  have h3 : (peekA (outSt m sp en ws 0) [.r 1]).bind (itemsN .enm 1) = some ((ws.map D.int).mapIdx fun k d => D.tup [.int k, d]) := by
    rw [pk, Option.bind_some]
    exact if_pos (noOwn_map (fun x => x) ws)
  refine (evS_for (ds := (ws.map D.int).mapIdx fun k d => D.tup [.int k, d]) h1 p1 h3 rfl).trans ?_
  have go := forL_st (chk := chks [.r 1] (outSt m sp en ws 0)) (tg := .tp [(.nm 5), (.nm 6)]) (b := fun r => evB P F [sprI c] r) (ds := (ws.map D.int).mapIdx fun k d => D.tup [.int k, d]) (outSt m sp en ws) (fun i hi => ?_) ?_
  · rw [List.length_mapIdx, List.length_map] at go
    exact go
  · have hi : i < ws.length := by simpa using hi
    have ed : ((ws.map D.int).mapIdx fun k d => D.tup [.int k, d])[i]'(by simpa using hi) = .tup [.int (i : Int), .int (wy ws i)] := by simp [wy, List.getD, hi]
    have st : still (outSt m sp en ws i) (chks [.r 1] (outSt m sp en ws 0)) = true := by
      cases i <;> simp [still, chks, outSt, slot]
    refine ⟨st, ?_⟩
    rw [ed]
    have body := spr_i (P := P) (F := F) (c := c) (m := m) (l := i) (W := .lst .own (ws.map D.int)) (sp := sp) (en := en) (w := wy ws i) (f := outF sp en ws i) (z7 := o7 ws i) (z8 := o8 sp en ws i) (by omega) (by rw [outF_len]; exact hi) (hc i hi)
    have fin : (if 0 < wy ws i then innSt m (.lst .own (ws.map D.int)) sp en (wy ws i) i (outF sp en ws i) (o7 ws i) (o8 sp en ws i) (i + 1) else [some (tabD m), some (.lst .own (ws.map D.int)), some (.int sp), some (.int en), some (.lst .own ((outF sp en ws i).map D.int)), some (.int i), some (.int (wy ws i)), o7 ws i, o8 sp en ws i]) = outSt m sp en ws (i + 1) := by
      by_cases h : 0 < wy ws i
      · rw [if_pos h]
        simp [outSt, innSt, outF, o7, o8, h]
      · rw [if_neg h]
        simp [outSt, outF, o7, o8, h]
    rw [fin] at body
    cases i with
    | zero => exact ⟨_, rfl, .inl ((evB_step body).trans rfl)⟩
    | succ i => exact ⟨_, rfl, .inl ((evB_step body).trans rfl)⟩
  · cases h : (List.mapIdx (fun k d => D.tup [.int k, d]) (ws.map D.int)).length <;> simp [still, chks, outSt, slot]
theorem flat_one {α : Type} (x : α) : ∀ n : Nat, (List.replicate n [x]).flatten = List.replicate n x
  | 0 => rfl
  | n + 1 => by rw [List.replicate_succ, List.flatten_cons, flat_one x n, List.replicate_succ]; rfl
theorem mul_lst {a : List D} {n : Nat} (h1 : noOwn a = true) (h2 : n < 1000) (h3 : a.length ≤ 10) : binD .Mult (.lst .own a) (.int n) = some (.lst .own (List.replicate n a).flatten) := by
  have e : ((n : Int)).toNat = n := by omega
  have k1 : decide (-(2 ^ 63) ≤ (n : Int) ∧ (n : Int) < 2 ^ 63) = true := decide_eq_true ⟨by omega, by omega⟩
  have k2 : decide (a.length * ((n : Int)).toNat ≤ 16777216) = true := decide_eq_true (by
    rw [e]
    exact Nat.le_trans (Nat.mul_le_mul h3 (Nat.le_of_lt h2)) (by omega))
  show (if (Kd.own != .giv && noOwn a && decide (-(2 ^ 63) ≤ (n : Int) ∧ (n : Int) < 2 ^ 63) && decide (a.length * ((n : Int)).toNat ≤ 16777216)) = true then some (D.lst .own (List.replicate ((n : Int)).toNat a).flatten) else none) = _
  rw [h1, k1, k2, e]
  rfl
theorem evS_asg {t : Tg} {a : E} {r r1 r2 : En} {d : D} (h : (ev P F a).v r = .ok d r1) (g : asgT t d r1 = some r2) : evS P F (.asg t a) r = .ok .next r2 := by
  conv => lhs; unfold evS
  rw [h, Out.bind_ok, g]
theorem evS_retV {i : Nat} {r : En} {d : D} (h : slot r i = some d) (ne : ∀ c w, d ≠ .exn c w) : evS P F (.retV i) r = .ok (.ret d) (r.set i none) := by
  conv => lhs; unfold evS
  rw [h]
  cases d <;> first | rfl | exact absurd rfl (ne _ _)
theorem outSt_4 {m : Nat} {sp en : Int} {ws : List Int} (l : Nat) : slot (outSt m sp en ws l) 4 = some (.lst .own ((outF sp en ws l).map D.int)) := by cases l <;> rfl
theorem outSt_ps {m : Nat} {sp en : Int} {ws : List Int} (l : Nat) : parsOf [4, 5, 6, 7, 8] 4 ((outSt m sp en ws l).set 4 none) = [some (tabD m), some (.lst .own (ws.map D.int)), some (.int sp), some (.int en)] := by cases l <;> rfl
def sprZ : S := .asg (.nm 4) (.bin .Mult (.lst [(.int (0))]) (.blt .len [(.var 1)]))
def sprB (c : Nat) : List S := [sprZ, sprO c, (.retV 4)]
theorem spr_ok {c m i n : Nat} {sp en : Int} {ws : List Int} (hi : P.fns[i]? = some ⟨4, 9, sprB c, [4, 5, 6, 7, 8]⟩) (hw : ws.length < 1000)
    (hc : ∀ l : Nat, l < ws.length → 0 < wy ws l → ∀ t : Nat, t ≤ l → ChF (run P n) c m l t ∧ ChF (run P n) c m (l + sp) (t - en) ∧ mulOk (chZ l t) (chZ (l + sp) (t - en)) = true ∧ mulOk (wy ws l) (stp sp en l t) = true) :
    run P (n + 1) i [tabD m, .lst .own (ws.map D.int), .int sp, .int en] = .ok (.lst .own ((outF sp en ws ws.length).map D.int)) [some (tabD m), some (.lst .own (ws.map D.int)), some (.int sp), some (.int en)] := by
  have s1 : evS P (run P n) sprZ [some (tabD m), some (.lst .own (ws.map D.int)), some (.int sp), some (.int en), none, none, none, none, none] = .ok .next (outSt m sp en ws 0) := by
    have o : (ev P (run P n) (.lst [(.int (0))])).v [some (tabD m), some (.lst .own (ws.map D.int)), some (.int sp), some (.int en), none, none, none, none, none] = .ok (.lst .own [.int 0]) _ := ev_lst1 rfl
    have b : (ev P (run P n) (.blt .len [(.var 1)])).v [some (tabD m), some (.lst .own (ws.map D.int)), some (.int sp), some (.int en), none, none, none, none, none] = .ok (.int ((ws.map D.int).length : Int)) [some (tabD m), some (.lst .own (ws.map D.int)), some (.int sp), some (.int en), none, none, none, none, none] := rfl
    rw [List.length_map] at b
    have q := ev_bin (op := .Mult) o b (mul_lst rfl hw (by show 1 ≤ 10; omega))
    rw [flat_one] at q
    exact evS_asg q (by simp [outSt, outF, asgT])
  have h0 : evB P (run P n) (sprB c) [some (tabD m), some (.lst .own (ws.map D.int)), some (.int sp), some (.int en), none, none, none, none, none] = .ok (.ret (.lst .own ((outF sp en ws ws.length).map D.int))) ((outSt m sp en ws ws.length).set 4 none) := by
    unfold sprB
    rw [evB_step s1, evB_step (spr_o hw hc)]
    exact evB_ret (evS_retV (outSt_4 _) fun _ _ z => by cases z)
  have h1 := run_ret (n := n) (ds := [tabD m, .lst .own (ws.map D.int), .int sp, .int en]) hi (by rfl) h0
  rw [h1]
  exact congrArg _ (outSt_ps _)
end Mv

namespace Mv
open PySem
variable {P : Pg} {F : Nat → List D → FOut}
theorem run_next {n i : Nat} {fn : Fn} {ds : List D} {r : En} (hi : P.fns[i]? = some fn) (hl : ds.length = fn.np) (h : evB P (run P n) fn.body (ds.map some ++ List.replicate (fn.nl - fn.np) none) = .ok .next r) : run P (n + 1) i ds = .ok .non (parsOf fn.asg fn.np r) := by
  show (match P.fns[i]? with
    | some fn => _
    | none => _) = _
  rw [hi]
  dsimp only
  rw [if_pos hl, h]
def chkB : List S := [(.ifS (.notE (.cmp (.var 1) [.LtE, .LtE] [(.var 0), (.var 2)])) [.nev] [])]
theorem chk_ok {n i : Nat} (hi : P.fns[i]? = some ⟨3, 3, chkB, []⟩) {a lo up : Int} (h1 : lo ≤ a) (h2 : a ≤ up) : run P (n + 1) i [.int a, .int lo, .int up] = .ok .non [some (.int a), some (.int lo), some (.int up)] := by
  have h0 : evB P (run P n) chkB [some (.int a), some (.int lo), some (.int up)] = .ok .next [some (.int a), some (.int lo), some (.int up)] := by
    simp [chkB, evS, evB, ev, evs, evC, Ev.mk1, Out.bind, Out.of, has, Ar.peek, slot, cmpA, cmpD, readP, h1, h2]
  exact (run_next (n := n) (ds := [.int a, .int lo, .int up]) hi rfl h0).trans rfl
/-- one entry of the surplus -/
def sideT (c : Nat) : List S := [(.asg (.nm 4) (.call c [(.var 3), (.var 4), (.var 5), (.var 6)])), (.aug 5 .Add (.var 6))]
theorem side_t {c m : Nat} {li da sp en : Int} {S0 : D} {ws us : List Int} (h : F c [tabD m, .lst .own (ws.map D.int), .int sp, .int en] = .ok (.lst .own (us.map D.int)) [some (tabD m), some (.lst .own (ws.map D.int)), some (.int sp), some (.int en)]) :
    evB P F (sideT c) [some (.int li), some (.int da), some S0, some (tabD m), some (.lst .own (ws.map D.int)), some (.int sp), some (.int en)] = .ok .next [some (.int li), some (.int da), some S0, some (tabD m), some (.lst .own (us.map D.int)), some (.int (sp + en)), some (.int en)] := by
  have c1 : (ev P F (.call c [(.var 3), (.var 4), (.var 5), (.var 6)])).v [some (.int li), some (.int da), some S0, some (tabD m), some (.lst .own (ws.map D.int)), some (.int sp), some (.int en)] = .ok (.lst .own (us.map D.int)) [some (.int li), some (.int da), some S0, some (tabD m), some (.lst .own (ws.map D.int)), some (.int sp), some (.int en)] := by
    refine (ev_call (as := [.r 3, .r 4, .r 5, .r 6]) (r1 := [some (.int li), some (.int da), some S0, some (tabD m), some (.lst .own (ws.map D.int)), some (.int sp), some (.int en)]) rfl).trans ?_
    have l : lend [.r 3, .r 4, .r 5, .r 6] [some (.int li), some (.int da), some S0, some (tabD m), some (.lst .own (ws.map D.int)), some (.int sp), some (.int en)] = some ([tabD m, .lst .own (ws.map D.int), .int sp, .int en], [some (.int li), some (.int da), some S0, none, none, some (.int sp), some (.int en)]) := rfl
    unfold callA
    rw [l]
    dsimp only
    rw [h]
    rfl
  unfold sideT
  rw [evB_step (evS_asg c1 rfl)]
  have s2 : evS P F (.aug 5 .Add (.var 6)) [some (.int li), some (.int da), some S0, some (tabD m), some (.lst .own (us.map D.int)), some (.int sp), some (.int en)] = .ok .next [some (.int li), some (.int da), some S0, some (tabD m), some (.lst .own (us.map D.int)), some (.int (sp + en)), some (.int en)] := by
    simp [evS, ev, Out.bind, readP, slot, getP, D.owned, augOp]
  exact (evB_step s2).trans rfl
/-- ways and spare after the first j entries -/
def spS (sp : Int) (es : List Int) : Nat → Int
  | 0 => sp
  | j + 1 => spS sp es j + wy es j
def wsS (sp : Int) (es ws : List Int) : Nat → List Int
  | 0 => ws
  | j + 1 => outF (spS sp es j) (wy es j) (wsS sp es ws j) (wsS sp es ws j).length
theorem wsS_len {sp : Int} {es ws : List Int} : ∀ j, (wsS sp es ws j).length = ws.length
  | 0 => rfl
  | j + 1 => by show (outF _ _ _ _).length = _; rw [outF_len, wsS_len j]
def sideSt (m : Nat) (li da sp : Int) (es ws : List Int) : Nat → En
  | 0 => [some (.int li), some (.int da), some (.tup (es.map D.int)), some (tabD m), some (.lst .own (ws.map D.int)), some (.int sp), none]
  | j + 1 => [some (.int li), some (.int da), some (.tup (es.map D.int)), some (tabD m), some (.lst .own ((wsS sp es ws (j + 1)).map D.int)), some (.int (spS sp es (j + 1))), some (.int (wy es j))]
def sideF (c : Nat) : S := .forS (.nm 6) .val [(.var 2)] (sideT c)
theorem side_f {c m : Nat} {li da sp : Int} {es ws : List Int} (hc : ∀ j, j < es.length → F c [tabD m, .lst .own ((wsS sp es ws j).map D.int), .int (spS sp es j), .int (wy es j)] = .ok (.lst .own ((wsS sp es ws (j + 1)).map D.int)) [some (tabD m), some (.lst .own ((wsS sp es ws j).map D.int)), some (.int (spS sp es j)), some (.int (wy es j))]) :
    evS P F (sideF c) (sideSt m li da sp es ws 0) = .ok .next (sideSt m li da sp es ws es.length) := by
  have h1 : evAs (evs P F [(.var 2)]) (sideSt m li da sp es ws 0) = .ok [.r 2] (sideSt m li da sp es ws 0) := rfl
  have p1 : prep [.r 2] (sideSt m li da sp es ws 0) = some ([.r 2], sideSt m li da sp es ws 0) := rfl
  have pk : peekA (sideSt m li da sp es ws 0) [.r 2] = some [.tup (es.map D.int)] := rfl
  have h3 : (peekA (sideSt m li da sp es ws 0) [.r 2]).bind (itemsN .val 1) = some (es.map D.int) := by
    rw [pk, Option.bind_some]
    rfl
  refine (evS_for (ds := es.map D.int) h1 p1 h3 rfl).trans ?_
  have go := forL_st (chk := chks [.r 2] (sideSt m li da sp es ws 0)) (tg := .nm 6) (b := fun r => evB P F (sideT c) r) (ds := es.map D.int) (sideSt m li da sp es ws) (fun i hi => ?_) ?_
  · rw [List.length_map] at go
    exact go
  · have hi : i < es.length := by simpa using hi
    have ed : (es.map D.int)[i]'(by simpa using hi) = .int (wy es i) := by simp [wy, List.getD, hi]
    have st : still (sideSt m li da sp es ws i) (chks [.r 2] (sideSt m li da sp es ws 0)) = true := by
      cases i <;> simp [still, chks, sideSt, slot]
    refine ⟨st, ?_⟩
    rw [ed]
    have body := side_t (P := P) (F := F) (c := c) (li := li) (da := da) (S0 := .tup (es.map D.int)) (hc i hi)
    cases i with
    | zero => exact ⟨_, rfl, .inl body⟩
    | succ i => exact ⟨_, rfl, .inl body⟩
  · cases (es.map D.int).length <;> simp [still, chks, sideSt, slot]
end Mv

namespace Mv
open PySem
variable {P : Pg} {F : Nat → List D → FOut}
theorem eqD_int (a b : Int) : eqD (.int a) (.int b) = some (decide (a = b)) := by
  unfold eqD
  simp only [D.py]
  rw [show (SeqAt.shaped (.int a) && SeqAt.shaped (.int b)) = true from rfl, if_pos rfl]
  exact congrArg some (show (a == b) = decide (a = b) from rfl)
def sideE : S := .ret (.ite (.cmp (.var 5) [.Eq] [(.int (0))]) (.idx (.var 4) (.int (0))) (.int (0)))
theorem side_e {m : Nat} {li da sp : Int} {S0 : D} {us : List Int} {z : Option D} (hl : 0 < us.length) :
    ∃ r, evS P F sideE [some (.int li), some (.int da), some S0, some (tabD m), some (.lst .own (us.map D.int)), some (.int sp), z] = .ok (.ret (.int (if sp = 0 then wy us 0 else 0))) r := by
  by_cases h : sp = 0
  · refine ⟨_, evS_ret (r1 := [some (.int li), some (.int da), some S0, some (tabD m), some (.lst .own (us.map D.int)), some (.int sp), z]) ?_⟩
    rw [if_pos h]
    simp [ev, evs, evC, Ev.mk1, Out.bind, Out.of, has, Ar.peek, slot, cmpA, cmpD, eqD_int, h, readP, getP, getS, itemD, ixN, hl, D.owned, wy, List.getD]
  · refine ⟨_, evS_ret (r1 := [some (.int li), some (.int da), some S0, some (tabD m), some (.lst .own (us.map D.int)), some (.int sp), z]) ?_⟩
    rw [if_neg h]
    simp [ev, evs, evC, Ev.mk1, Out.bind, Out.of, has, Ar.peek, slot, cmpA, cmpD, eqD_int, h]
def side0 (c : Nat) (i : Nat) : S := .expr (.call c [(.var i), (.int (0)), (.int (40))])
def side2 : S := .ifS (.notE (.cmp (.int (1)) [.LtE, .LtE] [(.blt .len [(.var 2)]), (.int (6))])) [.nev] []
def side3 (c : Nat) : S := .asg (.nm 3) (.call c [(.blt .max [(.var 0), (.var 1)])])
def side4 : S := .asg (.nm 4) (.bin .Add (.bin .Mult (.lst [(.int (0))]) (.var 0)) (.lst [(.int (1))]))
def side5 : S := .asg (.nm 5) (.bin .Sub (.var 1) (.var 0))
theorem side_2 {li da : Int} {es : List Int} (h1 : 1 ≤ es.length) (h2 : es.length ≤ 6) : evS P F side2 [some (.int li), some (.int da), some (.tup (es.map D.int)), none, none, none, none] = .ok .next [some (.int li), some (.int da), some (.tup (es.map D.int)), none, none, none, none] := by
  have k1 : (1 : Int) ≤ (es.length : Int) := by omega
  have k2 : (es.length : Int) ≤ 6 := by omega
  have b : (ev P F (.blt .len [(.var 2)])).v [some (.int li), some (.int da), some (.tup (es.map D.int)), none, none, none, none] = .ok (.int ((es.map D.int).length : Int)) [some (.int li), some (.int da), some (.tup (es.map D.int)), none, none, none, none] := rfl
  rw [List.length_map] at b
  simp [side2, evS, evB, ev, evs, evC, evAs, Ev.mk1, Out.bind, Out.of, has, Ar.peek, slot, cmpA, cmpD, readP, peekA, bltD, k1, k2]
theorem ev_call1 {f : Nat} {a : E} {r : En} {x d : D} {ps : En} (hx : (evAs (evs P F [a]) r) = .ok [.v x] r) (h : F f [x] = .ok d ps) (hp : ps.length = 1) : (ev P F (.call f [a])).v r = .ok d r := by
  refine (ev_call hx).trans ?_
  unfold callA
  show backO [.v x] [x] r (F f [x]).out = _
  rw [h]
  match ps, hp with
  | [p], _ => rfl
theorem side_3 {c li da : Nat} {S0 : D} (h : F c [.int (max li da : Nat)] = .ok (tabD (max li da)) [some (.int (max li da : Nat))]) : evS P F (side3 c) [some (.int li), some (.int da), some S0, none, none, none, none] = .ok .next [some (.int li), some (.int da), some S0, some (tabD (max li da)), none, none, none] := by
  refine evS_asg (ev_call1 (x := .int (max li da : Nat)) ?_ h rfl) rfl
  have e : (if (da : Int) > (li : Int) then (da : Int) else (li : Int)) = ((max li da : Nat) : Int) := by split <;> omega
  have q : evAs (evs P F [(.blt .max [(.var 0), (.var 1)])]) [some (.int li), some (.int da), some S0, none, none, none, none] = .ok [.v (.int (if (da : Int) > (li : Int) then (da : Int) else (li : Int)))] [some (.int li), some (.int da), some S0, none, none, none, none] := rfl
  rw [q, e]
/-- nothing yet, one way that is whole -/
def ways0 (li : Nat) : List Int := List.replicate li 0 ++ [1]
theorem side_4 {li : Nat} {da : Int} {S0 T0 : D} (h : li < 1000) : evS P F side4 [some (.int li), some (.int da), some S0, some T0, none, none, none] = .ok .next [some (.int li), some (.int da), some S0, some T0, some (.lst .own ((ways0 li).map D.int)), none, none] := by
  have o : ∀ (i : Int) (r : En), (ev P F (.lst [(.int i)])).v r = .ok (.lst .own [.int i]) r := fun i r => ev_lst1 rfl
  have v : (ev P F (.var 0)).v [some (.int li), some (.int da), some S0, some T0, none, none, none] = .ok (.int (li : Int)) [some (.int li), some (.int da), some S0, some T0, none, none, none] := rfl
  have m := mul_lst (a := [.int 0]) (n := li) rfl h (by show 1 ≤ 10; omega)
  rw [flat_one] at m
  have n1 : noOwn (List.replicate li (D.int 0)) = true := List.all_eq_true.mpr fun d hd => by rw [List.eq_of_mem_replicate hd]; rfl
  have a := add_lst (a := List.replicate li (D.int 0)) (b := [.int 1]) n1 rfl (by simp; omega)
  refine evS_asg (ev_bin (ev_bin (o 0 _) v m) (o 1 _) a) ?_
  have e : (ways0 li).map D.int = List.replicate li (D.int 0) ++ [.int 1] := by simp [ways0]
  rw [e]
  rfl
theorem side_5 {li da : Int} {S0 T0 U0 : D} : evS P F side5 [some (.int li), some (.int da), some S0, some T0, some U0, none, none] = .ok .next [some (.int li), some (.int da), some S0, some T0, some U0, some (.int (da - li)), none] :=
  evS_asg (ev_bin (x := .int da) (y := .int li) rfl rfl rfl) rfl
theorem side_0 {c : Nat} {li da : Int} {S0 : D} {p : En} (h : F c [.int li, .int 0, .int 40] = .ok .non p) (hp : p.length = 3) : evS P F (side0 c 0) [some (.int li), some (.int da), some S0, none, none, none, none] = .ok .next [some (.int li), some (.int da), some S0, none, none, none, none] := by
  refine evS_expr (d := .non) ((ev_call (as := [.r 0, .v (.int 0), .v (.int 40)]) rfl).trans ?_)
  unfold callA
  show backO [.r 0, .v (.int 0), .v (.int 40)] [.int li, .int 0, .int 40] _ (F c [.int li, .int 0, .int 40]).out = _
  rw [h]
  match p, hp with
  | [_, _, _], _ => rfl
theorem side_1 {c : Nat} {li da : Int} {S0 : D} {p : En} (h : F c [.int da, .int 0, .int 40] = .ok .non p) (hp : p.length = 3) : evS P F (side0 c 1) [some (.int li), some (.int da), some S0, none, none, none, none] = .ok .next [some (.int li), some (.int da), some S0, none, none, none, none] := by
  refine evS_expr (d := .non) ((ev_call (as := [.r 1, .v (.int 0), .v (.int 40)]) rfl).trans ?_)
  unfold callA
  show backO [.r 1, .v (.int 0), .v (.int 40)] [.int da, .int 0, .int 40] _ (F c [.int da, .int 0, .int 40]).out = _
  rw [h]
  match p, hp with
  | [_, _, _], _ => rfl
def sideB (ck cb cs : Nat) : List S := [side0 ck 0, side0 ck 1, side2, side3 cb, side4, side5, sideF cs, sideE]
theorem side_ok {i ck cb cs n li da : Nat} {es : List Int} (hi : P.fns[i]? = some ⟨3, 7, sideB ck cb cs, [3, 4, 5, 6]⟩) (hl : li ≤ 40) (h1 : 1 ≤ es.length) (h2 : es.length ≤ 6)
    (c1 : ∃ p : En, run P n ck [.int li, .int 0, .int 40] = .ok .non p ∧ p.length = 3) (c2 : ∃ p : En, run P n ck [.int da, .int 0, .int 40] = .ok .non p ∧ p.length = 3) (c3 : run P n cb [.int (max li da : Nat)] = .ok (tabD (max li da)) [some (.int (max li da : Nat))])
    (hc : ∀ j, j < es.length → run P n cs [tabD (max li da), .lst .own ((wsS ((da : Int) - li) es (ways0 li) j).map D.int), .int (spS ((da : Int) - li) es j), .int (wy es j)] = .ok (.lst .own ((wsS ((da : Int) - li) es (ways0 li) (j + 1)).map D.int)) [some (tabD (max li da)), some (.lst .own ((wsS ((da : Int) - li) es (ways0 li) j).map D.int)), some (.int (spS ((da : Int) - li) es j)), some (.int (wy es j))]) :
    ∃ ps, run P (n + 1) i [.int li, .int da, .tup (es.map D.int)] = .ok (.int (if spS ((da : Int) - li) es es.length = 0 then wy (wsS ((da : Int) - li) es (ways0 li) es.length) 0 else 0)) ps := by
  obtain ⟨p1, c1, l1⟩ := c1
  obtain ⟨p2, c2, l2⟩ := c2
  have lw : 0 < (wsS ((da : Int) - li) es (ways0 li) es.length).length := by rw [wsS_len]; simp [ways0]
  have st : ∃ z, sideSt (max li da) li da ((da : Int) - li) es (ways0 li) es.length = [some (.int li), some (.int da), some (.tup (es.map D.int)), some (tabD (max li da)), some (.lst .own ((wsS ((da : Int) - li) es (ways0 li) es.length).map D.int)), some (.int (spS ((da : Int) - li) es es.length)), z] := by
    cases es.length with
    | zero => exact ⟨_, rfl⟩
    | succ j => exact ⟨_, rfl⟩
  obtain ⟨z, st⟩ := st
  obtain ⟨r, e⟩ := side_e (P := P) (F := run P n) (m := max li da) (li := li) (da := da) (sp := spS ((da : Int) - li) es es.length) (S0 := .tup (es.map D.int)) (z := z) lw
  have h0 : evB P (run P n) (sideB ck cb cs) [some (.int li), some (.int da), some (.tup (es.map D.int)), none, none, none, none] = .ok (.ret (.int (if spS ((da : Int) - li) es es.length = 0 then wy (wsS ((da : Int) - li) es (ways0 li) es.length) 0 else 0))) r := by
    unfold sideB
    rw [evB_step (side_0 c1 l1), evB_step (side_1 c2 l2), evB_step (side_2 h1 h2), evB_step (side_3 c3), evB_step (side_4 (by omega)), evB_step side_5]
    have f := side_f (P := P) (F := run P n) (c := cs) (m := max li da) (li := li) (da := da) hc
    rw [st] at f
    exact (evB_step f).trans (evB_ret e)
  exact ⟨_, run_ret (n := n) (ds := [.int li, .int da, .tup (es.map D.int)]) hi (by rfl) h0⟩
end Mv

namespace Mv
open PySem
/-! ### sums -/
def sg : Nat → (Nat → Int) → Int
  | 0, _ => 0
  | n + 1, f => sg n f + f n
theorem sg_congr {f g : Nat → Int} : ∀ {n : Nat}, (∀ i, i < n → f i = g i) → sg n f = sg n g
  | 0, _ => rfl
  | n + 1, h => by
    show sg n f + f n = sg n g + g n
    rw [sg_congr (n := n) fun i hi => h i (by omega), h n (by omega)]
theorem sg_add (f g : Nat → Int) : ∀ n, sg n (fun i => f i + g i) = sg n f + sg n g
  | 0 => rfl
  | n + 1 => by
    show sg n (fun i => f i + g i) + (f n + g n) = sg n f + f n + (sg n g + g n)
    rw [sg_add f g n]; omega
theorem sg_mul (c : Int) (f : Nat → Int) : ∀ n, sg n (fun i => c * f i) = c * sg n f
  | 0 => by show (0 : Int) = c * 0; omega
  | n + 1 => by
    show sg n (fun i => c * f i) + c * f n = c * (sg n f + f n)
    rw [sg_mul c f n, Int.mul_add]
theorem sg_zero {f : Nat → Int} : ∀ {n : Nat}, (∀ i, i < n → f i = 0) → sg n f = 0
  | 0, _ => rfl
  | n + 1, h => by
    show sg n f + f n = 0
    rw [sg_zero (n := n) fun i hi => h i (by omega), h n (by omega)]; rfl
theorem sg_nn {f : Nat → Int} : ∀ {n : Nat}, (∀ i, i < n → 0 ≤ f i) → 0 ≤ sg n f
  | 0, _ => Int.le_refl _
  | n + 1, h => by
    show 0 ≤ sg n f + f n
    have := sg_nn (n := n) fun i hi => h i (by omega)
    have := h n (by omega)
    omega
theorem sg_le {f : Nat → Int} {b : Int} : ∀ {n : Nat}, (∀ i, i < n → f i ≤ b) → sg n f ≤ n * b
  | 0, _ => by show (0 : Int) ≤ (0 : Nat) * b; simp
  | n + 1, h => by
    show sg n f + f n ≤ _
    have h1 := sg_le (n := n) fun i hi => h i (by omega)
    have h2 := h n (by omega)
    have e : ((n + 1 : Nat) : Int) * b = n * b + b := by
      rw [show ((n + 1 : Nat) : Int) = (n : Int) + 1 from rfl, Int.add_mul, Int.one_mul]
    omega
theorem sg_swap (f : Nat → Nat → Int) (m : Nat) : ∀ n, sg n (fun i => sg m (fun j => f i j)) = sg m (fun j => sg n (fun i => f i j))
  | 0 => (sg_zero fun _ _ => rfl).symm
  | n + 1 => by
    show sg n (fun i => sg m (fun j => f i j)) + sg m (fun j => f n j) = sg m (fun j => sg n (fun i => f i j) + f n j)
    rw [sg_swap f m n, sg_add]
theorem sg_split (f : Nat → Int) (a : Nat) : ∀ b, sg (a + b) f = sg a f + sg b (fun i => f (a + i))
  | 0 => by show sg a f = sg a f + 0; omega
  | b + 1 => by
    show sg (a + b) f + f (a + b) = sg a f + (sg b (fun i => f (a + i)) + f (a + b))
    rw [sg_split f a b]; omega
theorem sg_first (f : Nat → Int) (n : Nat) : sg (n + 1) f = f 0 + sg n (fun i => f (i + 1)) := by
  have h := sg_split f 1 n
  rw [Nat.add_comm 1 n] at h
  rw [h]
  show 0 + f 0 + _ = _
  rw [Int.zero_add]
  exact congrArg _ (sg_congr fun i _ => by rw [Nat.add_comm])
theorem sg_rev (f : Nat → Int) : ∀ n, sg (n + 1) (fun i => f (n - i)) = sg (n + 1) f
  | 0 => rfl
  | n + 1 => by
    rw [sg_first]
    have e : sg (n + 1) (fun i => f (n + 1 - (i + 1))) = sg (n + 1) (fun i => f (n - i)) := sg_congr fun i _ => by rw [Nat.add_sub_add_right]
    rw [e, sg_rev f n]
    show f (n + 1) + sg (n + 1) f = sg (n + 1) f + f (n + 1)
    omega
theorem sg_one {f : Nat → Int} {n k : Nat} (hk : k < n) (h : ∀ i, i < n → i ≠ k → f i = 0) : sg n f = f k := by
  obtain ⟨r, rfl⟩ : ∃ r, n = k + (r + 1) := ⟨n - k - 1, by omega⟩
  rw [sg_split, sg_first, sg_zero (n := k) fun i hi => h i (by omega) (by omega), sg_zero (n := r) fun i hi => h _ (by omega) (by omega)]
  show 0 + (f k + 0) = f k
  omega
/-- a sum over steps from c downward -/
theorem sg_down {G : Int → Int} {N c d : Nat} (h1 : d ≤ c) (h2 : c < N) (hz : ∀ u, ¬ (0 ≤ u ∧ u ≤ (d : Int)) → G u = 0) : sg N (fun i => G ((c : Int) - i)) = sg (d + 1) (fun u => G u) := by
  obtain ⟨r, rfl⟩ : ∃ r, N = (c + 1) + r := ⟨N - c - 1, by omega⟩
  rw [sg_split, sg_zero (n := r) fun i hi => hz _ (by omega), Int.add_zero]
  have e : sg (c + 1) (fun i => G ((c : Int) - i)) = sg (c + 1) (fun i => (fun u : Nat => G u) (c - i)) := sg_congr fun i hi => by
    show G _ = G _
    exact congrArg G (by omega)
  rw [e, sg_rev (fun u : Nat => G u)]
  obtain ⟨s, rfl⟩ : ∃ s, c = d + s := ⟨c - d, by omega⟩
  rw [show d + s + 1 = d + 1 + s by omega, sg_split, sg_zero (n := s) fun i hi => hz _ (by omega), Int.add_zero]

/-! ### binomials -/
theorem ch_pow2 : ∀ n k, ch n k ≤ 2 ^ n
  | n, 0 => by
    have : ch n 0 = 1 := by cases n <;> rfl
    rw [this]; exact Nat.one_le_two_pow
  | 0, k + 1 => Nat.zero_le _
  | n + 1, k + 1 => by
    show ch n k + ch n (k + 1) ≤ 2 ^ (n + 1)
    have := ch_pow2 n k
    have := ch_pow2 n (k + 1)
    rw [Nat.pow_succ]; omega
theorem ch_0 (n : Nat) : ch n 0 = 1 := by cases n <;> rfl
theorem binom (x : Int) : ∀ n, sg (n + 1) (fun t => (ch n t : Int) * x ^ (n - t)) = (x + 1) ^ n
  | 0 => by show (0 : Int) + 1 * x ^ 0 = (x + 1) ^ 0; simp
  | n + 1 => by
    have ih := binom x n
    rw [sg_first]
    have e1 : sg (n + 1) (fun i => (ch (n + 1) (i + 1) : Int) * x ^ (n + 1 - (i + 1))) = sg (n + 1) (fun t => (ch n t : Int) * x ^ (n - t)) + sg (n + 1) (fun t => (ch n (t + 1) : Int) * x ^ (n - t)) := by
      rw [← sg_add]
      refine sg_congr fun i _ => ?_
      rw [Nat.add_sub_add_right, ← Int.add_mul]
      rfl
    have e2 : sg (n + 1) (fun t => (ch n (t + 1) : Int) * x ^ (n - t)) = sg n (fun t => (ch n (t + 1) : Int) * x ^ (n - t)) := by
      show _ + (ch n (n + 1) : Int) * _ = _
      rw [ch_out (Nat.lt_succ_self n)]
      simp
    have e3 : x * sg (n + 1) (fun t => (ch n t : Int) * x ^ (n - t)) = x ^ (n + 1) + sg n (fun t => (ch n (t + 1) : Int) * x ^ (n - t)) := by
      rw [← sg_mul, sg_first]
      have a : x * ((ch n 0 : Int) * x ^ (n - 0)) = x ^ (n + 1) := by
        rw [ch_0, Nat.sub_zero, Int.pow_succ]
        show x * (1 * x ^ n) = _
        rw [Int.one_mul, Int.mul_comm]
      rw [a]
      refine congrArg _ (sg_congr fun i hi => ?_)
      have e : n - i = (n - (i + 1)) + 1 := by omega
      rw [e, Int.pow_succ]
      simp only [Int.mul_comm, Int.mul_left_comm, Int.mul_assoc]
    rw [e1, e2, ch_0, Nat.sub_zero, Int.pow_succ (x + 1), ← ih, Int.mul_add, Int.mul_comm _ x, e3]
    show 1 * x ^ (n + 1) + _ = _
    rw [Int.one_mul, Int.mul_one]
    omega
theorem chZ_nn (a b : Int) : 0 ≤ chZ a b := by unfold chZ; split <;> omega
theorem chZ_nat {a b : Nat} (h : b ≤ a) : chZ a b = ch a b := by
  unfold chZ; rw [if_pos ⟨by omega, by omega⟩]; rfl
theorem chZ_out {a b : Int} (h : ¬ (0 ≤ b ∧ b ≤ a)) : chZ a b = 0 := if_neg h

/-! ### what spread tells -/
theorem wy_addAt {f : List Int} {j m : Nat} {v : Int} (hj : j < f.length) : wy (addAt f j v) m = if m = j then wy f m + v else wy f m := by
  unfold wy addAt
  simp only [List.getD_eq_getElem?_getD]
  by_cases h : m = j
  · subst h
    rw [if_pos rfl, List.getElem?_set_self hj]; rfl
  · rw [if_neg h, List.getElem?_set_ne (fun e => h e.symm)]
theorem inn_wy {sp en my : Int} {le : Nat} {f : List Int} (hl : le < f.length) : ∀ t, t ≤ le + 1 → ∀ m, wy (inn sp en my le f t) m = wy f m + if le < m + t ∧ m ≤ le then my * stp sp en le (le - m) else 0
  | 0, _, m => by rw [if_neg (by omega), Int.add_zero]; rfl
  | t + 1, ht, m => by
    show wy (addAt (inn sp en my le f t) (le - t) (my * stp sp en le t)) m = _
    rw [wy_addAt (by rw [inn_len]; omega), inn_wy hl t (by omega) m]
    by_cases h : m = le - t
    · subst h
      rw [if_pos rfl, if_neg (by omega), if_pos (by omega), show le - (le - t) = t by omega]; omega
    · rw [if_neg h]
      by_cases h2 : le < m + t ∧ m ≤ le
      · rw [if_pos h2, if_pos (by omega)]
      · rw [if_neg h2, if_neg (by omega)]
theorem wy_rep (n m : Nat) : wy (List.replicate n 0) m = 0 := by
  unfold wy
  rw [List.getD_eq_getElem?_getD, List.getElem?_replicate]
  split <;> rfl
theorem outF_wy {sp en : Int} {ws : List Int} : ∀ n, n ≤ ws.length → ∀ m, wy (outF sp en ws n) m = sg n (fun l => if 0 < wy ws l ∧ m ≤ l then wy ws l * stp sp en l (l - m) else 0)
  | 0, _, m => wy_rep _ _
  | n + 1, hn, m => by
    show wy (if 0 < wy ws n then inn sp en (wy ws n) n (outF sp en ws n) (n + 1) else outF sp en ws n) m = sg n _ + _
    by_cases h : 0 < wy ws n
    · rw [if_pos h, inn_wy (by rw [outF_len]; omega) _ (Nat.le_refl _), outF_wy n (by omega)]
      by_cases h2 : m ≤ n
      · dsimp only
        rw [if_pos (by omega), if_pos (by omega)]
      · dsimp only
        rw [if_neg (by omega), if_neg (by omega)]
    · dsimp only
      rw [if_neg h, if_neg (fun z => h z.1), outF_wy n (by omega), Int.add_zero]
theorem stp_nn (sp en : Int) (l t : Nat) : 0 ≤ stp sp en l t := Int.mul_nonneg (chZ_nn _ _) (chZ_nn _ _)
/-- numbers of ways, none below nought -/
def nnW (ws : List Int) : Prop := ∀ l, 0 ≤ wy ws l
theorem outF_nn {sp en : Int} {ws : List Int} : nnW (outF sp en ws ws.length) := fun m => by
  rw [outF_wy _ (Nat.le_refl _)]
  refine sg_nn fun l _ => ?_
  split
  · exact Int.mul_nonneg (by omega) (stp_nn _ _ _ _)
  · exact Int.le_refl _
/-- the floors that have the surplus es -/
def Wt : List Int → Nat → Int → Int
  | [], l, _ => if l = 0 then 1 else 0
  | e :: es, l, d => sg (l + 1) fun t => chZ l t * chZ d (t - e) * Wt es (l - t) (d - (t - e))
theorem wsS_cons {sp e : Int} {es ws : List Int} : ∀ j, spS sp (e :: es) (j + 1) = spS (sp + e) es j ∧ wsS sp (e :: es) ws (j + 1) = wsS (sp + e) es (outF sp e ws ws.length) j
  | 0 => ⟨rfl, rfl⟩
  | j + 1 => by
    have ih := wsS_cons (sp := sp) (e := e) (es := es) (ws := ws) j
    have w : wy (e :: es) (j + 1) = wy es j := rfl
    constructor
    · show spS sp (e :: es) (j + 1) + wy (e :: es) (j + 1) = spS (sp + e) es j + wy es j
      rw [ih.1, w]
    · show outF (spS sp (e :: es) (j + 1)) (wy (e :: es) (j + 1)) (wsS sp (e :: es) ws (j + 1)) (wsS sp (e :: es) ws (j + 1)).length = outF (spS (sp + e) es j) (wy es j) (wsS (sp + e) es (outF sp e ws ws.length) j) (wsS (sp + e) es (outF sp e ws ws.length) j).length
      rw [ih.1, ih.2, w]
theorem spS_sum : ∀ (es : List Int) (sp : Int), spS sp es es.length = sp + es.sum
  | [], sp => by show sp = sp + 0; omega
  | e :: es, sp => by
    show spS sp (e :: es) (es.length + 1) = _
    rw [(wsS_cons (ws := []) es.length).1, spS_sum es, List.sum_cons]; omega
theorem fin_Wt : ∀ (es : List Int) (sp : Int) (ws : List Int), nnW ws → 0 < ws.length → wy (wsS sp es ws es.length) 0 = sg ws.length fun l => wy ws l * Wt es l (l + sp)
  | [], sp, ws, _, hl => by
    rw [sg_one (k := 0) hl fun i _ hi => by show _ * (if i = 0 then 1 else 0) = 0; rw [if_neg hi, Int.mul_zero]]
    show wy ws 0 = wy ws 0 * 1
    rw [Int.mul_one]
  | e :: es, sp, ws, hn, hl => by
    show wy (wsS sp (e :: es) ws (es.length + 1)) 0 = _
    rw [(wsS_cons es.length).2, fin_Wt es _ _ outF_nn (by rw [outF_len]; exact hl), outF_len]
    have e1 : ∀ m, wy (outF sp e ws ws.length) m * Wt es m (m + (sp + e)) = sg ws.length fun l => if m ≤ l then wy ws l * stp sp e l (l - m) * Wt es m (m + (sp + e)) else 0 := fun m => by
      rw [outF_wy _ (Nat.le_refl _), Int.mul_comm, ← sg_mul]
      refine sg_congr fun l _ => ?_
      by_cases h : m ≤ l
      · rw [if_pos h]
        by_cases h0 : 0 < wy ws l
        · rw [if_pos ⟨h0, h⟩, Int.mul_comm]
        · have : wy ws l = 0 := by have := hn l; omega
          rw [if_neg (fun z => h0 z.1), this]; simp
      · rw [if_neg h, if_neg (fun z => h z.2), Int.mul_zero]
    rw [sg_congr fun m _ => e1 m, sg_swap]
    refine sg_congr fun l hl => ?_
    obtain ⟨r, hr⟩ : ∃ r, ws.length = (l + 1) + r := ⟨ws.length - l - 1, by omega⟩
    rw [hr, sg_split, sg_zero (n := r) fun i _ => if_neg (by omega), Int.add_zero]
    show _ = wy ws l * sg (l + 1) fun t => chZ l t * chZ (l + sp) (t - e) * Wt es (l - t) (l + sp - (t - e))
    rw [← sg_mul, ← sg_rev (fun m => if m ≤ l then wy ws l * stp sp e l (l - m) * Wt es m (m + (sp + e)) else 0)]
    refine sg_congr fun t ht => ?_
    rw [if_pos (by omega), show l - (l - t) = t by omega, show ((l - t : Nat) : Int) + (sp + e) = l + sp - (t - e) by omega, Int.mul_assoc]
    rfl

/-! ### all rows -/
def rngI (L D : Nat) : List Int := (List.range (L + D + 1)).map fun (i : Nat) => (i : Int) - D
def rowsK (L D : Nat) : Nat → List (List Int)
  | 0 => [[]]
  | j + 1 => (rowsK L D j).flatMap fun row => (rngI L D).map fun d => row ++ [d]
def sumL (f : List Int → Int) (rs : List (List Int)) : Int := (rs.map f).sum
theorem sumL_app (f : List Int → Int) (a b : List (List Int)) : sumL f (a ++ b) = sumL f a + sumL f b := by
  simp [sumL, List.sum_append]
theorem sum_range (f : Nat → Int) : ∀ n, ((List.range n).map f).sum = sg n f
  | 0 => rfl
  | n + 1 => by
    rw [List.range_succ, List.map_append, List.sum_append, sum_range f n]
    show _ + (f n + 0) = _ + f n
    omega
theorem sumL_flat (f : List Int → Int) (n : Nat) (g : List Int → Nat → List Int) : ∀ rs : List (List Int), sumL f (rs.flatMap fun row => (List.range n).map (g row)) = sumL (fun row => sg n fun i => f (g row i)) rs
  | [] => rfl
  | r :: rs => by
    rw [List.flatMap_cons, sumL_app, sumL_flat f n g rs]
    show (((List.range n).map (g r)).map f).sum + _ = sg n (fun i => f (g r i)) + _
    rw [List.map_map]
    exact congrArg (· + _) (sum_range _ n)
theorem sumL_congr {f g : List Int → Int} {rs : List (List Int)} (h : ∀ r ∈ rs, f r = g r) : sumL f rs = sumL g rs := by
  unfold sumL; rw [List.map_congr_left h]
theorem sumL_sg (f : List Int → Nat → Int) (n : Nat) : ∀ rs : List (List Int), sumL (fun row => sg n fun i => f row i) rs = sg n fun i => sumL (fun row => f row i) rs
  | [] => (sg_zero fun _ _ => rfl).symm
  | r :: rs => by
    show sg n (f r) + sumL _ rs = sg n fun i => f r i + sumL (fun row => f row i) rs
    rw [sg_add, sumL_sg f n rs]
theorem sumL_mul (c : Int) (f : List Int → Int) : ∀ rs : List (List Int), sumL (fun row => c * f row) rs = c * sumL f rs
  | [] => (Int.mul_zero c).symm
  | r :: rs => by
    show c * f r + sumL _ rs = c * (f r + sumL f rs)
    rw [sumL_mul c f rs, Int.mul_add]
theorem rowsK_step {L D j : Nat} (f : List Int → Int) : sumL f (rowsK L D (j + 1)) = sumL (fun row => sg (L + D + 1) fun i => f (row ++ [(i : Int) - D])) (rowsK L D j) := by
  have := sumL_flat f (L + D + 1) (fun row i => row ++ [(i : Int) - D]) (rowsK L D j)
  rw [← this]
  show sumL f ((rowsK L D j).flatMap fun row => ((List.range (L + D + 1)).map fun (i : Nat) => (i : Int) - D).map fun d => row ++ [d]) = _
  simp only [List.map_map, Function.comp_def]
/-- the first number ahead -/
theorem rowsK_front {L D : Nat} : ∀ (j : Nat) (f : List Int → Int), sumL f (rowsK L D (j + 1)) = sg (L + D + 1) fun i => sumL (fun row => f (((i : Int) - D) :: row)) (rowsK L D j)
  | 0, f => by
    rw [rowsK_step]
    show sg _ (fun i => f [(i : Int) - D]) + 0 = sg _ fun i => f [(i : Int) - D] + 0
    rw [Int.add_zero]
    exact sg_congr fun i _ => (Int.add_zero _).symm
  | j + 1, f => by
    rw [rowsK_step, rowsK_front j]
    refine sg_congr fun i _ => ?_
    rw [rowsK_step (j := j)]
    rfl
theorem wt_all {L D : Nat} : ∀ (k l d : Nat), l ≤ L → d ≤ D → sumL (fun row => Wt (row ++ [(l : Int) - d - row.sum]) l d) (rowsK L D k) = ((k : Int) + 1) ^ (l + d)
  | 0, l, d, _, _ => by
    show Wt [(l : Int) - d - 0] l d + 0 = _
    rw [Int.add_zero, Int.sub_zero]
    show sg (l + 1) (fun t => chZ l t * chZ d (t - ((l : Int) - d)) * (if l - t = 0 then 1 else 0)) = _
    rw [sg_one (k := l) (by omega) fun i hi ne => by rw [if_neg (by omega), Int.mul_zero], if_pos (Nat.sub_self l), show (l : Int) - ((l : Int) - d) = d by omega, chZ_nat (Nat.le_refl l), chZ_nat (Nat.le_refl d), ch_self, ch_self]
    show (1 : Int) = 1 ^ (l + d)
    rw [Int.one_pow]
  | k + 1, l, d, hl, hd => by
    rw [rowsK_front]
    have e1 : ∀ i : Nat, sumL (fun row => Wt (((i : Int) - D) :: row ++ [(l : Int) - d - (((i : Int) - D) :: row).sum]) l d) (rowsK L D k) =
        sg (l + 1) fun t => (chZ l t * chZ d (((t + D : Nat) : Int) - i)) * (if 0 ≤ ((t + D : Nat) : Int) - i ∧ ((t + D : Nat) : Int) - i ≤ d then ((k : Int) + 1) ^ ((l - t) + (d - (((t + D : Nat) : Int) - i).toNat)) else 0) := fun i => by
      have e2 : ∀ row : List Int, Wt (((i : Int) - D) :: row ++ [(l : Int) - d - (((i : Int) - D) :: row).sum]) l d = sg (l + 1) fun t => (chZ l t * chZ d (((t + D : Nat) : Int) - i)) * Wt (row ++ [(l : Int) - d - ((i : Int) - D) - row.sum]) (l - t) (d - (((t + D : Nat) : Int) - i)) := fun row => by
        rw [List.sum_cons, show (l : Int) - d - ((i : Int) - D + row.sum) = (l : Int) - d - ((i : Int) - D) - row.sum by omega]
        show sg (l + 1) (fun t => chZ l t * chZ d (t - ((i : Int) - D)) * Wt (row ++ [_]) (l - t) (d - (t - ((i : Int) - D)))) = _
        refine sg_congr fun t _ => ?_
        rw [show (t : Int) - ((i : Int) - D) = ((t + D : Nat) : Int) - i by omega]
      rw [sumL_congr fun row _ => e2 row, sumL_sg]
      refine sg_congr fun t ht => ?_
      rw [sumL_mul]
      by_cases h : 0 ≤ ((t + D : Nat) : Int) - i ∧ ((t + D : Nat) : Int) - i ≤ d
      · rw [if_pos h]
        have ih := wt_all k (l - t) (d - (((t + D : Nat) : Int) - i).toNat) (by omega) (by omega) (L := L) (D := D)
        rw [← ih]
        refine congrArg _ (sumL_congr fun row _ => ?_)
        rw [show ((d - (((t + D : Nat) : Int) - i).toNat : Nat) : Int) = d - (((t + D : Nat) : Int) - i) by omega, show ((l - t : Nat) : Int) - (d - (((t + D : Nat) : Int) - i)) = (l : Int) - d - ((i : Int) - D) by omega]
      · rw [chZ_out h, Int.mul_zero, Int.zero_mul, Int.zero_mul]
    rw [sg_congr fun i _ => e1 i, sg_swap]
    have e3 : ∀ t, t < l + 1 → (sg (L + D + 1) fun i => (chZ l t * chZ d (((t + D : Nat) : Int) - i)) * (if 0 ≤ ((t + D : Nat) : Int) - i ∧ ((t + D : Nat) : Int) - i ≤ d then ((k : Int) + 1) ^ ((l - t) + (d - (((t + D : Nat) : Int) - i).toNat)) else 0)) = (((k : Int) + 1) + 1) ^ d * ((ch l t : Int) * ((k : Int) + 1) ^ (l - t)) := fun t ht => by
      have := sg_down (G := fun u => (chZ l t * chZ d u) * (if 0 ≤ u ∧ u ≤ d then ((k : Int) + 1) ^ ((l - t) + (d - u.toNat)) else 0)) (N := L + D + 1) (c := t + D) (d := d) (by omega) (by omega) (fun u hu => by simp only [if_neg hu, Int.mul_zero])
      rw [this, ← binom, Int.mul_comm, ← sg_mul]
      refine sg_congr fun u hu => ?_
      rw [if_pos ⟨by omega, by omega⟩, chZ_nat (by omega), chZ_nat (by omega), Int.pow_add, Int.toNat_natCast]
      simp only [Int.mul_comm, Int.mul_left_comm, Int.mul_assoc]
    rw [sg_congr e3, sg_mul, binom, ← Int.pow_add, Nat.add_comm]
    rfl
/-- a last number out of its bounds fits no floor -/
theorem wt_none {L D : Nat} {x : Int} (hx : ¬ (-(D : Int) ≤ x ∧ x ≤ L)) : ∀ (row : List Int) (l d : Nat), l ≤ L → d ≤ D → row.sum + x = (l : Int) - d → Wt (row ++ [x]) l d = 0
  | [], l, d, hl, hd, h => by
    simp only [List.sum_nil] at h
    omega
  | e :: row, l, d, hl, hd, h => by
    show sg (l + 1) (fun t => chZ l t * chZ d (t - e) * Wt (row ++ [x]) (l - t) (d - (t - e))) = 0
    refine sg_zero fun t ht => ?_
    by_cases c : 0 ≤ (t : Int) - e ∧ (t : Int) - e ≤ d
    · rw [List.sum_cons] at h
      rw [show (d : Int) - (t - e) = ((d - ((t : Int) - e).toNat : Nat) : Int) by omega, wt_none hx row (l - t) _ (by omega) (by omega) (by omega), Int.mul_zero]
    · rw [chZ_out c, Int.mul_zero, Int.zero_mul]
/-- the lots of all surpluses are all floors -/
theorem lots_all {L D k : Nat} : ((((rowsK L D k).filter fun row => decide (-(D : Int) ≤ (L : Int) - D - row.sum ∧ (L : Int) - D - row.sum ≤ L)).map fun row => Wt (row ++ [(L : Int) - D - row.sum]) L D)).sum = ((k : Int) + 1) ^ (L + D) := by
  rw [← wt_all k L D (Nat.le_refl _) (Nat.le_refl _)]
  suffices h : ∀ rs : List (List Int), (((rs.filter fun row => decide (-(D : Int) ≤ (L : Int) - D - row.sum ∧ (L : Int) - D - row.sum ≤ L)).map fun row => Wt (row ++ [(L : Int) - D - row.sum]) L D)).sum = sumL (fun row => Wt (row ++ [(L : Int) - D - row.sum]) L D) rs from h _
  intro rs
  induction rs with
  | nil => rfl
  | cons r rs ih =>
    show _ = Wt (r ++ [(L : Int) - D - r.sum]) L D + sumL _ rs
    rw [List.filter_cons]
    by_cases h : -(D : Int) ≤ (L : Int) - D - r.sum ∧ (L : Int) - D - r.sum ≤ L
    · rw [if_pos (decide_eq_true h), List.map_cons, List.sum_cons, ih]
    · rw [if_neg (by simpa using h), ih, wt_none h r L D (Nat.le_refl _) (Nat.le_refl _) (by omega), Int.zero_add]
end Mv

namespace Mv
open PySem
variable {P : Pg} {F : Nat → List D → FOut}
/-! ### loops by what they keep -/
/-- a loop: a fold -/
theorem forL_fold {chk : List (Nat × Option D)} {tg : Tg} {b : En → Out Fl} {α β : Type} (mk : α → D) (R : β → En → Prop) (f : β → α → β) (hs : ∀ a r, R a r → still r chk = true) :
    ∀ (xs : List α), (∀ x ∈ xs, ∀ a r, R a r → ∃ r1, asgT tg (mk x) r = some r1 ∧ ∃ r2, (b r1 = .ok .next r2 ∨ b r1 = .ok .cont r2) ∧ R (f a x) r2) →
      ∀ a r, R a r → ∃ r', forL chk tg b (xs.map mk) r = .ok .next r' ∧ R (xs.foldl f a) r'
  | [], _, a, r, h => ⟨r, by show (if still r chk then _ else _) = _; rw [if_pos (hs a r h)], h⟩
  | x :: xs, st, a, r, h => by
    obtain ⟨r1, h1, r2, h2, h3⟩ := st x List.mem_cons_self a r h
    obtain ⟨r', h4, h5⟩ := forL_fold mk R f hs xs (fun y m => st y (List.mem_cons_of_mem _ m)) _ _ h3
    refine ⟨r', ?_, h5⟩
    show (if still r chk then (match asgT tg (mk x) r with
      | some r1 => match b r1 with
        | .ok .next r2 => forL chk tg b (xs.map mk) r2
        | .ok .cont r2 => forL chk tg b (xs.map mk) r2
        | .ok .brk r2 => .ok .next r2
        | .ok (.ret v) r2 => .ok (.ret v) r2
        | .exc c w r2 => .exc c w r2
        | .bad => .bad
      | none => .bad) else .bad) = _
    rw [if_pos (hs a r h), h1]
    dsimp only
    rcases h2 with h2 | h2 <;> rw [h2] <;> exact h4
/-- what a loop comes to -/
inductive LoopEnd (Q : Fl → En → Prop) (X : Nat → D → En → Prop) : Out Fl → Prop where
  | ok {f : Fl} {r : En} : Q f r → LoopEnd Q X (.ok f r)
  | exc {c : Nat} {w : D} {r : En} : X c w r → LoopEnd Q X (.exc c w r)
/-- a loop by its places -/
theorem forL_at {chk : List (Nat × Option D)} {tg : Tg} {b : En → Out Fl} {ds : List D} (I : Nat → En → Prop) (Q : Fl → En → Prop) (X : Nat → D → En → Prop) (hs : ∀ i r, I i r → still r chk = true)
    (st : ∀ i (hi : i < ds.length) r, I i r → ∃ r1, asgT tg ds[i] r = some r1 ∧ LoopEnd (fun f r2 => match f with
      | .next => I (i + 1) r2
      | .cont => I (i + 1) r2
      | .brk => Q .next r2
      | .ret v => Q (.ret v) r2) X (b r1)) (he : ∀ r, I ds.length r → Q .next r) :
    ∀ j, j ≤ ds.length → ∀ r, I (ds.length - j) r → LoopEnd Q X (forL chk tg b (ds.drop (ds.length - j)) r)
  | 0, _, r, h => by
    rw [Nat.sub_zero] at h ⊢
    rw [List.drop_length]
    show LoopEnd Q X (if still r chk then _ else _)
    rw [if_pos (hs _ r h)]
    exact .ok (he r h)
  | j + 1, hj, r, h => by
    have lt : ds.length - (j + 1) < ds.length := by omega
    obtain ⟨r1, h1, h2⟩ := st _ lt r h
    have e2 : ds.length - (j + 1) + 1 = ds.length - j := by omega
    rw [drop_cons lt]
    show LoopEnd Q X (if still r chk then (match asgT tg ds[ds.length - (j + 1)] r with
      | some r1 => match b r1 with
        | .ok .next r2 => forL chk tg b (ds.drop (ds.length - (j + 1) + 1)) r2
        | .ok .cont r2 => forL chk tg b (ds.drop (ds.length - (j + 1) + 1)) r2
        | .ok .brk r2 => .ok .next r2
        | .ok (.ret v) r2 => .ok (.ret v) r2
        | .exc c w r2 => .exc c w r2
        | .bad => .bad
      | none => .bad) else .bad)
    rw [if_pos (hs _ r h), h1]
    dsimp only
    rw [e2] at h2 ⊢
    cases hb : b r1 with
    | ok f r2 =>
      rw [hb] at h2
      cases h2 with
      | ok q =>
        cases f with
        | next => exact forL_at I Q X hs st he j (by omega) r2 q
        | cont => exact forL_at I Q X hs st he j (by omega) r2 q
        | brk => exact .ok q
        | ret v => exact .ok q
    | exc c w r2 =>
      rw [hb] at h2
      cases h2 with
      | exc q => exact .exc q
    | bad => rw [hb] at h2; cases h2
theorem forL_gen {chk : List (Nat × Option D)} {tg : Tg} {b : En → Out Fl} {ds : List D} (I : Nat → En → Prop) (Q : Fl → En → Prop) (X : Nat → D → En → Prop) (hs : ∀ i r, I i r → still r chk = true)
    (st : ∀ i (hi : i < ds.length) r, I i r → ∃ r1, asgT tg ds[i] r = some r1 ∧ LoopEnd (fun f r2 => match f with
      | .next => I (i + 1) r2
      | .cont => I (i + 1) r2
      | .brk => Q .next r2
      | .ret v => Q (.ret v) r2) X (b r1)) (he : ∀ r, I ds.length r → Q .next r) {r : En} (h : I 0 r) : LoopEnd Q X (forL chk tg b ds r) := by
  have := forL_at I Q X hs st he ds.length (Nat.le_refl _) r (by rwa [Nat.sub_self])
  rwa [Nat.sub_self, List.drop_zero] at this
/-- .. without an early end -/
theorem forL_idx {chk : List (Nat × Option D)} {tg : Tg} {b : En → Out Fl} {ds : List D} (I : Nat → En → Prop) (hs : ∀ i r, I i r → still r chk = true)
    (st : ∀ i (hi : i < ds.length) r, I i r → ∃ r1, asgT tg ds[i] r = some r1 ∧ ∃ r2, (b r1 = .ok .next r2 ∨ b r1 = .ok .cont r2) ∧ I (i + 1) r2) {r : En} (h : I 0 r) : ∃ r', forL chk tg b ds r = .ok .next r' ∧ I ds.length r' := by
  have := forL_gen (chk := chk) (tg := tg) (b := b) I (fun f r => f = .next ∧ I ds.length r) (fun _ _ _ => False) hs (fun i hi r h => ?_) (fun r h => ⟨rfl, h⟩) h
  · generalize forL chk tg b ds r = o at this ⊢
    cases this with
    | ok q => obtain ⟨rfl, q⟩ := q; exact ⟨_, rfl, q⟩
    | exc q => exact q.elim
  · obtain ⟨r1, h1, r2, h2, h3⟩ := st i hi r h
    refine ⟨r1, h1, ?_⟩
    rcases h2 with h2 | h2 <;> rw [h2] <;> exact .ok h3
/-- a comprehension without effects, over things of a kind -/
theorem compL_map {α : Type} {chk : List (Nat × Option D)} {own : List Nat} {tg : Tg} {t : En → Out Bool} {e : En → Out D} {r : En} (mk : α → D) (p : α → Bool) (g : α → D) (hs : still r chk = true) : ∀ (xs : List α) (acc : List D), acc.length + xs.length < 16777216 →
    (∀ x ∈ xs, ∃ r1, asgT tg (mk x) r = some r1 ∧ ∃ r2, t r1 = .ok (p x) r2 ∧ (p x = true → ∃ r3, e r2 = .ok (g x) r3 ∧ wipeE r3 own = r) ∧ (p x = false → wipeE r2 own = r)) → compL chk own tg t e (xs.map mk) acc r = .ok (acc ++ (xs.filter p).map g) r := by
  intro xs
  induction xs with
  | nil =>
    intro acc _ _
    show (if still r chk then _ else _) = _
    rw [if_pos hs]
    simp
  | cons x xs ih =>
    intro acc hl h
    obtain ⟨r1, h1, r2, h2, h3, h4⟩ := h x List.mem_cons_self
    have hl' : acc.length < 16777216 := by simp only [List.length_cons] at hl; omega
    have ih' := fun acc hl => ih acc hl fun d m => h d (List.mem_cons_of_mem _ m)
    show (if still r chk then (match asgT tg (mk x) r with
      | some r1 => match t r1 with
        | .ok true r2 => match e r2 with
          | .ok v r3 => if acc.length < 16777216 then compL chk own tg t e (xs.map mk) (acc ++ [v]) (wipeE r3 own) else .bad
          | _ => .bad
        | .ok false r2 => compL chk own tg t e (xs.map mk) acc (wipeE r2 own)
        | _ => .bad
      | none => .bad) else .bad) = _
    rw [if_pos hs, h1]
    dsimp only
    rw [h2]
    cases hp : p x with
    | true =>
      obtain ⟨r3, h5, h6⟩ := h3 hp
      dsimp only
      rw [h5]
      dsimp only
      rw [if_pos hl', h6, ih' _ (by simp only [List.length_append, List.length_cons, List.length_nil] at hl ⊢; omega)]
      simp [hp]
    | false =>
      dsimp only
      rw [h4 hp, ih' _ (by simp only [List.length_cons] at hl; omega)]
      simp [hp]
theorem ev_compM {α : Type} {elt : E} {tg : Tg} {k : ItK} {src ifs : List E} {own : List Nat} {r r1 r2 : En} {as as1 : List Ar} {xs : List α} (mk : α → D) (p : α → Bool) (g : α → D) (h1 : evAs (evs P F src) r = .ok as r1) (h2 : prep as r1 = some (as1, r2)) (h3 : (peekA r2 as1).bind (itemsN k src.length) = some (xs.map mk))
    (h4 : (stT tg).all own.contains = true) (h5 : still (wipeE r2 own) (chks as1 r2) = true) (hl : xs.length < 16777216) (h6 : ∀ x ∈ xs, ∃ r3, asgT tg (mk x) (wipeE r2 own) = some r3 ∧ ∃ r4, evTAnd (evs P F ifs) r3 = .ok (p x) r4 ∧ (p x = true → ∃ r5, (ev P F elt).v r4 = .ok (g x) r5 ∧ wipeE r5 own = wipeE r2 own) ∧ (p x = false → wipeE r4 own = wipeE r2 own)) :
    (ev P F (.comp elt tg k src ifs own)).v r = .ok (.lst .own ((xs.filter p).map g)) (wipeE r2 own) := by
  have := ev_comp (elt := elt) (ifs := ifs) h1 h2 h3 h4 (compL_map mk p g h5 xs [] (by simpa using hl) h6)
  rwa [List.nil_append] at this
/-- .. of all of them -/
theorem ev_compA {α : Type} {elt : E} {tg : Tg} {k : ItK} {src : List E} {own : List Nat} {r r1 r2 : En} {as as1 : List Ar} {xs : List α} (mk : α → D) (g : α → D) (h1 : evAs (evs P F src) r = .ok as r1) (h2 : prep as r1 = some (as1, r2)) (h3 : (peekA r2 as1).bind (itemsN k src.length) = some (xs.map mk))
    (h4 : (stT tg).all own.contains = true) (h5 : still (wipeE r2 own) (chks as1 r2) = true) (hl : xs.length < 16777216) (h6 : ∀ x ∈ xs, ∃ r3, asgT tg (mk x) (wipeE r2 own) = some r3 ∧ ∃ r5, (ev P F elt).v r3 = .ok (g x) r5 ∧ wipeE r5 own = wipeE r2 own) :
    (ev P F (.comp elt tg k src [] own)).v r = .ok (.lst .own (xs.map g)) (wipeE r2 own) := by
  have := ev_compM (ifs := []) mk (fun _ => true) g h1 h2 h3 h4 h5 hl fun x m => by
    obtain ⟨r3, a, r5, b, c⟩ := h6 x m
    exact ⟨r3, a, r3, rfl, fun _ => ⟨r5, b, c⟩, fun z => by cases z⟩
  rwa [List.filter_eq_self.mpr fun _ _ => rfl] at this
theorem evS_rng1 {a : E} {r r1 : En} {tg : Tg} {b : List S} {j : Int} {n : Nat} (h : evAs (evs P F [a]) r = .ok [.v (.int j)] r1) (e : j.toNat = n) (h1 : -(2 ^ 62) ≤ j) (h2 : j < 2 ^ 62) : evS P F (.forS tg .rng [a] b) r = forL [] tg (fun r => evB P F b r) ((List.range n).map fun (k : Nat) => D.int (k : Int)) r1 := by
  subst e
  exact evS_for (as1 := [.v (.int j)]) (r2 := r1) h rfl (items_rng1 ⟨h1, h2⟩) rfl
theorem evS_rng1v {x : Nat} {r : En} {tg : Tg} {b : List S} {j : Int} {n : Nat} (h : slot r x = some (.int j)) (e : j.toNat = n) (h1 : -(2 ^ 62) ≤ j) (h2 : j < 2 ^ 62) (h3 : (!(stT tg ++ stB b).contains x) = true) : evS P F (.forS tg .rng [.var x] b) r = forL [(x, some (.int j))] tg (fun r => evB P F b r) ((List.range n).map fun (k : Nat) => D.int (k : Int)) r := by
  subst e
  have p : (Ar.r x).peek r = some (.int j) := by show (match slot r x with | some (.exn _ _) => none | x => x) = _; rw [h]
  have hh : has r x = true := by show ((Ar.r x).peek r).isSome = true; rw [p]; rfl
  have h0 : evAs (evs P F [.var x]) r = .ok [.r x] r := by
    show ((if has r x then Out.ok (Ar.r x) r else .bad).bind fun a r => (Out.ok [] r).bind fun as r => .ok (a :: as) r) = _
    rw [if_pos hh]; rfl
  have pr : prep [.r x] r = some ([.r x], r) := by
    unfold prep; rw [h]; rfl
  have pk : peekA r [.r x] = some [.int j] := by show ((Ar.r x).peek r).bind _ = _; rw [p]; rfl
  have := evS_for (P := P) (F := F) (tg := tg) (b := b) (src := [.var x]) h0 pr (by rw [pk]; exact items_rng1 ⟨h1, h2⟩) (by
    show ([(x, slot r x)].all fun y => !(stT tg ++ stB b).contains y.1) = true
    simpa using h3)
  rw [this]
  show forL [(x, slot r x)] tg _ _ r = _
  rw [h]
/-! ### the surpluses listed -/
def tupI (row : List Int) : D := .tup (row.map D.int)
theorem noOwn_tup (rs : List (List Int)) : noOwn (rs.map tupI) = true := by
  unfold noOwn
  simp only [List.all_map, List.all_eq_true]
  intro x _; rfl
theorem frzs_tup (rs : List (List Int)) : D.frzs (rs.map tupI) = rs.map tupI := by
  rw [D.frzs_map, List.map_map]; rfl
def keyC : E := .comp (.bin .Add (.var 7) (.tup [(.var 8)])) (.nm 8) .rng [(.neg (.var 1)), (.bin .Add (.var 0) (.int (1)))] [] [8]
theorem key_c {L W : Nat} {S due rows z5 z6 : Option D} {row : List Int} (h : L + W < 1000) (hr : row.length < 100) : (ev P F keyC).v [some (.int L), some (.int W), S, due, rows, z5, z6, some (tupI row), none] =
    .ok (.lst .own (((rngI L W).map fun d => row ++ [d]).map tupI)) [some (.int L), some (.int W), S, due, rows, z5, z6, some (tupI row), none] := by
  have q := items_rng2 (i := -(W : Int)) (j := (L : Int) + 1) ⟨by omega, by omega, by omega, by omega⟩
  have e0 : ((L : Int) + 1 - -(W : Int)).toNat = L + W + 1 := by omega
  rw [e0] at q
  have h1 : evAs (evs P F [(.neg (.var 1)), (.bin .Add (.var 0) (.int (1)))]) [some (.int L), some (.int W), S, due, rows, z5, z6, some (tupI row), none] = .ok [.v (.int (-(W : Int))), .v (.int ((L : Int) + 1))] [some (.int L), some (.int W), S, due, rows, z5, z6, some (tupI row), none] := rfl
  have h3 : (peekA [some (.int L), some (.int W), S, due, rows, z5, z6, some (tupI row), none] [.v (.int (-(W : Int))), .v (.int ((L : Int) + 1))]).bind (itemsN .rng 2) = some ((List.range (L + W + 1)).map fun (k : Nat) => D.int (-(W : Int) + k)) := q
  refine ev_comp (ds := (List.range (L + W + 1)).map fun (k : Nat) => D.int (-(W : Int) + k)) h1 (as1 := [.v (.int (-(W : Int))), .v (.int ((L : Int) + 1))]) rfl h3 rfl ?_
  refine (compL_fm (r := [some (.int L), some (.int W), S, due, rows, z5, z6, some (tupI row), none]) (fun _ => true) (fun d => .tup (row.map D.int ++ [d])) rfl _ [] (by simp; omega) fun d hd => ?_).trans ?_
  · obtain ⟨k, -, rfl⟩ := List.mem_map.mp hd
    refine ⟨[some (.int L), some (.int W), S, due, rows, z5, z6, some (tupI row), some (.int (-(W : Int) + k))], rfl, _, rfl, fun _ => ⟨[some (.int L), some (.int W), S, due, rows, z5, z6, some (tupI row), some (.int (-(W : Int) + k))], ?_, rfl⟩, fun z => by cases z⟩
    have hl : decide ((row.map D.int).length + 1 ≤ 16777216) = true := decide_eq_true (by simp; omega)
    refine ev_bin (op := .Add) (x := tupI row) (y := .tup [.int (-(W : Int) + k)]) rfl rfl ?_
    show (if decide ((row.map D.int).length + 1 ≤ 16777216) = true then some (D.tup (row.map D.int ++ [.int (-(W : Int) + k)])) else none) = _
    rw [if_pos hl]
  · rw [List.filter_eq_self.mpr fun _ _ => rfl]
    simp only [rngI, List.nil_append, List.map_map]
    refine congrArg (fun l => Out.ok l _) (List.map_congr_left fun k _ => ?_)
    simp only [Function.comp_def, tupI, List.map_append, List.map_cons, List.map_nil]
    rw [show -(W : Int) + (k : Int) = (k : Int) - W by omega]
def keyT : List S := [(.expr (.lm .extend (.var 6) [keyC]))]
theorem rowsK_len (L W : Nat) : ∀ j, (rowsK L W j).length = (L + W + 1) ^ j
  | 0 => rfl
  | j + 1 => by
    have h : ∀ rs : List (List Int), (rs.flatMap fun row => (rngI L W).map fun d => row ++ [d]).length = rs.length * (L + W + 1) := fun rs => by
      induction rs with
      | nil => simp
      | cons r rs ih => rw [List.flatMap_cons, List.length_append, ih, List.length_cons, Nat.succ_mul]; simp [rngI]; omega
    show ((rowsK L W j).flatMap fun row => (rngI L W).map fun d => row ++ [d]).length = _
    rw [h, rowsK_len L W j, Nat.pow_succ]
theorem rowsK_mem {L W : Nat} : ∀ {j : Nat} {row : List Int}, row ∈ rowsK L W j → row.length = j ∧ ∀ e ∈ row, -(W : Int) ≤ e ∧ e ≤ L
  | 0, row, h => by
    obtain rfl : row = [] := by simpa [rowsK] using h
    exact ⟨rfl, fun e m => by cases m⟩
  | j + 1, row, h => by
    obtain ⟨r, h1, h2⟩ := List.mem_flatMap.mp h
    obtain ⟨d, h3, rfl⟩ := List.mem_map.mp h2
    obtain ⟨i, h4, rfl⟩ := List.mem_map.mp h3
    obtain ⟨h5, h6⟩ := rowsK_mem h1
    have := List.mem_range.mp h4
    refine ⟨by simp [h5], fun e m => ?_⟩
    rcases List.mem_append.mp m with m | m
    · exact h6 e m
    · obtain rfl : e = (i : Int) - W := by simpa using m
      omega
def keyI : S := .forS (.nm 7) .val [(.var 4)] keyT
def keyAcc (L W : Nat) (rs : List (List Int)) : List (List Int) := rs.flatMap fun row => (rngI L W).map fun d => row ++ [d]
theorem keyAcc_len (L W : Nat) : ∀ rs, (keyAcc L W rs).length = rs.length * (L + W + 1)
  | [] => by simp [keyAcc]
  | r :: rs => by
    unfold keyAcc
    rw [List.flatMap_cons, List.length_append]
    have := keyAcc_len L W rs
    unfold keyAcc at this
    rw [this, List.length_cons, Nat.succ_mul]; simp [rngI]; omega
theorem key_i {L W : Nat} {S due z5 z7 : Option D} {rs : List (List Int)} {kd : Kd} (h : L + W < 1000) (hr : ∀ r ∈ rs, r.length < 100) (hb : rs.length * (L + W + 1) < 16777216) :
    ∃ z, evS P F keyI [some (.int L), some (.int W), S, due, some (.lst kd (rs.map tupI)), z5, some (.lst .own []), z7, none] = .ok .next [some (.int L), some (.int W), S, due, some (.lst kd (rs.map tupI)), z5, some (.lst .own ((keyAcc L W rs).map tupI)), z, none] := by
  let st (a : List (List Int)) (z : Option D) : En := [some (.int L), some (.int W), S, due, some (.lst kd (rs.map tupI)), z5, some (.lst .own (a.map tupI)), z, none]
  have h1 : evAs (evs P F [(.var 4)]) (st [] z7) = .ok [.r 4] (st [] z7) := rfl
  have p1 : prep [.r 4] (st [] z7) = some ([.r 4], st [] z7) := by
    cases kd with
    | own =>
      show some ([Ar.r 4], (st [] z7).set 4 (some (.lst .own (D.frzs (rs.map tupI))))) = _
      rw [frzs_tup]; rfl
    | shr => rfl
    | giv => rfl
  have h3 : (peekA (st [] z7) [.r 4]).bind (itemsN .val 1) = some (rs.map tupI) := if_pos (noOwn_tup rs)
  have go := forL_idx (chk := chks [.r 4] (st [] z7)) (tg := .nm 7) (b := fun r => evB P F keyT r) (ds := rs.map tupI) (fun i r => ∃ z, r = st (keyAcc L W (rs.take i)) z)
    (fun i r ⟨z, e⟩ => by rw [e]; simp [still, chks, st, slot]) (fun i hi r ⟨z, e⟩ => ?_) (r := st [] z7) ⟨z7, rfl⟩
  · obtain ⟨r', e1, z, e2⟩ := go
    refine ⟨z, ((evS_for h1 p1 h3 rfl).trans e1).trans ?_⟩
    rw [e2, List.length_map, List.take_length]
  · have hi : i < rs.length := by simpa using hi
    subst e
    have ed : (rs.map tupI)[i]'(by simpa using hi) = tupI rs[i] := by simp
    rw [ed]
    refine ⟨st (keyAcc L W (rs.take i)) (some (tupI rs[i])), rfl, st (keyAcc L W (rs.take (i + 1))) (some (tupI rs[i])), .inl ?_, _, rfl⟩
    have ek : keyAcc L W (rs.take (i + 1)) = keyAcc L W (rs.take i) ++ (rngI L W).map fun d => rs[i] ++ [d] := by
      unfold keyAcc
      rw [List.take_succ_eq_append_getElem hi, List.flatMap_append, List.flatMap_cons, List.flatMap_nil, List.append_nil]
    have kl := keyAcc_len L W (rs.take (i + 1))
    have kl2 : (rs.take (i + 1)).length * (L + W + 1) ≤ rs.length * (L + W + 1) := Nat.mul_le_mul_right _ (by simp; omega)
    refine (evB_step (evS_expr (d := .non) (r1 := st (keyAcc L W (rs.take (i + 1))) (some (tupI rs[i]))) ?_)).trans rfl
    refine (ev_lm_var (kd := .own) (xs := (keyAcc L W (rs.take i)).map tupI) rfl).trans ?_
    have c := key_c (P := P) (F := F) (L := L) (W := W) (S := S) (due := due) (rows := some (.lst kd (rs.map tupI))) (z5 := z5) (z6 := some (.lst .own ((keyAcc L W (rs.take i)).map tupI))) (row := rs[i]) h (hr _ (List.getElem_mem hi))
    rw [evEs_one c, Out.bind_ok]
    show (match lmD .extend ((keyAcc L W (rs.take i)).map tupI) [.lst .own (((rngI L W).map fun d => rs[i] ++ [d]).map tupI)] with
      | some (v, ys) => match updP (fun _ => some (.lst .own ys)) (.lst .own ((keyAcc L W (rs.take i)).map tupI)) [] with
        | some d' => if 6 < 9 then Out.ok v (((st (keyAcc L W (rs.take i)) (some (tupI rs[i]))).set 6 none).set 6 (some d')) else .bad
        | none => .bad
      | none => .bad) = _
    have el : lmD .extend ((keyAcc L W (rs.take i)).map tupI) [.lst .own (((rngI L W).map fun d => rs[i] ++ [d]).map tupI)] = some (.non, (keyAcc L W (rs.take (i + 1))).map tupI) := by
      have hl : decide (((keyAcc L W (rs.take i)).map tupI).length + (((rngI L W).map fun d => rs[i] ++ [d]).map tupI).length ≤ 16777216) = true := decide_eq_true (by
        rw [List.length_map, List.length_map, ← List.length_append, ← ek]; omega)
      show (if Kd.own != .giv && noOwn _ && decide _ then some (D.non, _) else none) = _
      rw [noOwn_tup, hl, ek, List.map_append]; rfl
    rw [el]
    rfl

/-! ### calls -/
theorem evAs_cons {a : E} {as : List E} {r r1 r2 : En} {x : Ar} {xs : List Ar} (h1 : (ev P F a).a r = .ok x r1) (h2 : evAs (evs P F as) r1 = .ok xs r2) : evAs (evs P F (a :: as)) r = .ok (x :: xs) r2 := by
  show ((ev P F a).a r).bind (fun a r => (evAs (evs P F as) r).bind fun as r => Out.ok (a :: as) r) = _
  rw [h1, Out.bind_ok, h2]; rfl
theorem evAs_var {i : Nat} {as : List E} {r r2 : En} {xs : List Ar} (h1 : has r i = true) (h2 : evAs (evs P F as) r = .ok xs r2) : evAs (evs P F (.var i :: as)) r = .ok (.r i :: xs) r2 :=
  evAs_cons (by show (if has r i then Out.ok (Ar.r i) r else .bad) = _; rw [if_pos h1]) h2

theorem lend_non : ∀ {as : List Ar} {r : En} {ds : List D}, peekA r as = some ds → noOwn ds = true → lend as r = some (ds, r)
  | [], r, ds, h, _ => by cases h; rfl
  | a :: as, r, ds, h, hn => by
    simp only [peekA, Option.bind_eq_some_iff, Option.map_eq_some_iff] at h
    obtain ⟨d, h1, es, h2, rfl⟩ := h
    simp only [noOwn, List.all_cons, Bool.and_eq_true] at hn
    have ih := lend_non h2 hn.2
    cases a with
    | v x => cases h1; show (lend as r).map _ = _; rw [ih]; rfl
    | r i =>
      show ((Ar.r i).peek r).bind _ = _
      rw [h1, Option.bind_some, if_neg (by simpa using hn.1), ih]; rfl
theorem back_non : ∀ {as : List Ar} {r : En} {ds : List D} {ps : En}, as.length = ds.length → ps.length = ds.length → noOwn ds = true → back as ds ps r = some r
  | [], r, [], [], _, _, _ => rfl
  | .v _ :: as, r, d :: ds, p :: ps, h1, h2, hn => by
    simp only [noOwn, List.all_cons, Bool.and_eq_true] at hn
    show back as ds ps r = _
    exact back_non (by simpa using h1) (by simpa using h2) hn.2
  | .r i :: as, r, d :: ds, p :: ps, h1, h2, hn => by
    simp only [noOwn, List.all_cons, Bool.and_eq_true] at hn
    show (if d.owned then _ else back as ds ps r) = _
    rw [if_neg (by simpa using hn.1)]
    exact back_non (by simpa using h1) (by simpa using h2) hn.2
theorem peekA_len : ∀ {as : List Ar} {r : En} {ds : List D}, peekA r as = some ds → as.length = ds.length
  | [], r, ds, h => by cases h; rfl
  | a :: as, r, ds, h => by
    simp only [peekA, Option.bind_eq_some_iff, Option.map_eq_some_iff] at h
    obtain ⟨d, h1, es, h2, rfl⟩ := h
    simp [peekA_len h2]
theorem callA_non {f : Nat} {as : List Ar} {r : En} {ds : List D} {d : D} {ps : En} (hp : peekA r as = some ds) (hn : noOwn ds = true) (h : F f ds = .ok d ps) (hl : ps.length = ds.length) : callA F f as r = .ok d r := by
  unfold callA
  rw [lend_non hp hn]
  show backO as ds r (F f ds).out = _
  rw [h]
  show (match back as ds ps r with
    | some r2 => Out.ok d r2
    | none => .bad) = _
  rw [back_non (peekA_len hp) hl hn]
theorem parsOf_len (asg : List Nat) (np : Nat) (r : En) : (parsOf asg np r).length = np := by simp [parsOf]
theorem run_len {n i : Nat} {ds : List D} {d : D} {ps : En} (h : run P n i ds = .ok d ps) : ps.length = ds.length := by
  cases n with
  | zero => cases h
  | succ n =>
    unfold run at h
    split at h
    · split at h
      · rename_i hl
        split at h <;> cases h <;> rw [parsOf_len, hl]
      · cases h
    · cases h
theorem intsOf_map : ∀ l : List Int, intsOf (l.map D.int) = some l
  | [] => rfl
  | i :: l => by show (intsOf (l.map D.int)).map _ = _; rw [intsOf_map l]; rfl
end Mv

namespace Mv
open PySem
variable {P : Pg} {F : Nat → List D → FOut}
def keyO : S := .forS (.nm 5) .rng [(.bin .Sub (.var 2) (.int (1)))] [(.asg (.nm 6) (.lst [])), keyI, (.asg (.nm 4) (.var 6))]
theorem key_o {L W s : Nat} {due z6 : Option D} (h : L + W < 1000) (hs : s < 90) (hb : (L + W + 1) ^ s < 16777216) :
    ∃ kd z5 z6 z7, evS P F keyO [some (.int L), some (.int W), some (.int ((s : Int) + 1)), due, some (.lst .own [tupI []]), none, none, none, none] = .ok .next [some (.int L), some (.int W), some (.int ((s : Int) + 1)), due, some (.lst kd ((rowsK L W s).map tupI)), z5, z6, z7, none] := by
  let st (rs : List (List Int)) (kd : Kd) (z5 z6 z7 : Option D) : En := [some (.int L), some (.int W), some (.int ((s : Int) + 1)), due, some (.lst kd (rs.map tupI)), z5, z6, z7, none]
  have go := forL_idx (chk := []) (tg := .nm 5) (b := fun r => evB P F [(.asg (.nm 6) (.lst [])), keyI, (.asg (.nm 4) (.var 6))] r) (ds := (List.range s).map fun (k : Nat) => D.int (k : Int)) (fun i r => ∃ kd z5 z6 z7, r = st (rowsK L W i) kd z5 z6 z7)
    (fun i r _ => rfl) (fun i hi r ⟨kd, z5, z6, z7, e⟩ => ?_) (r := st [[]] .own none none none) ⟨.own, none, none, none, rfl⟩
  · obtain ⟨r', e1, kd, z5, z6, z7, e2⟩ := go
    refine ⟨kd, z5, z6, z7, ((evS_rng1 (j := (s : Int) + 1 - 1) (r1 := st [[]] .own none none none) rfl (by omega) (by omega) (by omega)).trans e1).trans ?_⟩
    rw [e2, List.length_map, List.length_range]
  · have hi : i < s := by simpa using hi
    subst e
    obtain ⟨z, k⟩ := key_i (P := P) (F := F) (L := L) (W := W) (S := some (.int ((s : Int) + 1))) (due := due) (z5 := some (.int (i : Int))) (z7 := z7) (rs := rowsK L W i) (kd := kd) h (fun r m => by rw [(rowsK_mem m).1]; omega) (by
      rw [rowsK_len, ← Nat.pow_succ]
      exact Nat.lt_of_le_of_lt (Nat.pow_le_pow_right (by omega) (by omega)) hb)
    refine ⟨[some (.int L), some (.int W), some (.int ((s : Int) + 1)), due, some (.lst kd ((rowsK L W i).map tupI)), some (.int (i : Int)), z6, z7, none], by simp [asgT, st], [some (.int L), some (.int W), some (.int ((s : Int) + 1)), due, some (.lst .shr ((rowsK L W (i + 1)).map tupI)), some (.int (i : Int)), some (.lst .shr ((rowsK L W (i + 1)).map tupI)), z, none], .inl ?_, .shr, _, _, _, rfl⟩
    refine (evB_step (r1 := [some (.int L), some (.int W), some (.int ((s : Int) + 1)), due, some (.lst kd ((rowsK L W i).map tupI)), some (.int (i : Int)), some (.lst .own []), z7, none]) (evS_asg (d := .lst .own []) rfl rfl)).trans ?_
    refine (evB_step k).trans ((evB_step (r1 := _) (evS_asg (d := .lst .shr ((rowsK L W (i + 1)).map tupI)) (r1 := [some (.int L), some (.int W), some (.int ((s : Int) + 1)), due, some (.lst kd ((rowsK L W i).map tupI)), some (.int (i : Int)), some (.lst .shr ((rowsK L W (i + 1)).map tupI)), z, none]) ?_ rfl)).trans rfl)
    have e : D.frzs ((keyAcc L W (rowsK L W i)).map tupI) = (rowsK L W (i + 1)).map tupI := frzs_tup _
    rw [← e]
    conv => lhs; unfold ev
    rfl
def keyL (L W s : Nat) (due : Int) : List (List Int) := ((rowsK L W s).filter fun row => decide (-(W : Int) ≤ due - row.sum ∧ due - row.sum ≤ L)).map fun row => row ++ [due - row.sum]
def keyE : E := .comp (.bin .Add (.var 7) (.tup [(.bin .Sub (.var 3) (.blt .sum [(.var 7)]))])) (.nm 7) .val [(.var 4)] [(.cmp (.neg (.var 1)) [.LtE, .LtE] [(.bin .Sub (.var 3) (.blt .sum [(.var 7)])), (.var 0)])] [7]
theorem key_e {L W s : Nat} {due : Int} {S z5 z6 z7 z8 : Option D} {kd : Kd} (h : L + W < 1000) (hs : s < 90) (hb : (L + W + 1) ^ s < 16777216) :
    ∃ r, (ev P F keyE).v [some (.int L), some (.int W), S, some (.int due), some (.lst kd ((rowsK L W s).map tupI)), z5, z6, z7, z8] = .ok (.lst .own ((keyL L W s due).map tupI)) r := by
  let st (z7 : Option D) : En := [some (.int L), some (.int W), S, some (.int due), some (.lst kd ((rowsK L W s).map tupI)), z5, z6, z7, z8]
  have h1 : evAs (evs P F [(.var 4)]) (st z7) = .ok [.r 4] (st z7) := rfl
  have p1 : prep [.r 4] (st z7) = some ([.r 4], st z7) := by
    cases kd with
    | own =>
      show some ([Ar.r 4], (st z7).set 4 (some (.lst .own (D.frzs ((rowsK L W s).map tupI))))) = _
      rw [frzs_tup]; rfl
    | shr => rfl
    | giv => rfl
  have h3 : (peekA (st z7) [.r 4]).bind (itemsN .val 1) = some ((rowsK L W s).map tupI) := if_pos (noOwn_tup _)
  have go := ev_compM (P := P) (F := F) (elt := .bin .Add (.var 7) (.tup [(.bin .Sub (.var 3) (.blt .sum [(.var 7)]))])) (tg := .nm 7) (ifs := [(.cmp (.neg (.var 1)) [.LtE, .LtE] [(.bin .Sub (.var 3) (.blt .sum [(.var 7)])), (.var 0)])]) (own := [7]) (xs := rowsK L W s) tupI (fun row => decide (-(W : Int) ≤ due - row.sum ∧ due - row.sum ≤ L)) (fun row => tupI (row ++ [due - row.sum])) h1 p1 h3 rfl (by simp [still, chks, st, slot, wipeE]) (by rw [rowsK_len]; exact hb) fun row hm => ?_
  · have e : (List.map (fun row => tupI (row ++ [due - row.sum])) (List.filter (fun row => decide (-(W : Int) ≤ due - row.sum ∧ due - row.sum ≤ L)) (rowsK L W s))) = (keyL L W s due).map tupI := by rw [keyL, List.map_map]; rfl
    rw [e] at go
    exact ⟨_, go⟩
  · have t2 : (ev P F (.bin .Sub (.var 3) (.blt .sum [(.var 7)]))).v (st (some (tupI row))) = .ok (.int (due - row.sum)) (st (some (tupI row))) := by
      have b : (ev P F (.blt .sum [(.var 7)])).v (st (some (tupI row))) = .ok (.int row.sum) (st (some (tupI row))) := by
        have : (ev P F (.blt .sum [(.var 7)])).v (st (some (tupI row))) = .of ((intsOf (row.map D.int)).map fun l => D.int l.sum) (st (some (tupI row))) := rfl
        rw [this, intsOf_map]; rfl
      exact ev_bin (op := .Sub) (x := .int due) rfl b rfl
    refine ⟨st (some (tupI row)), rfl, st (some (tupI row)), ?_, fun _ => ⟨st (some (tupI row)), ?_, rfl⟩, fun _ => rfl⟩
    · have ta : (ev P F (.bin .Sub (.var 3) (.blt .sum [(.var 7)]))).a (st (some (tupI row))) = .ok (.v (.int (due - row.sum))) (st (some (tupI row))) := by
        show (((ev P F (.bin .Sub (.var 3) (.blt .sum [(.var 7)]))).v (st (some (tupI row)))).bind fun d r => Out.ok (Ar.v d) r) = _
        rw [t2]; rfl
      show ((((((ev P F (.bin .Sub (.var 3) (.blt .sum [(.var 7)]))).a (st (some (tupI row)))).bind fun y r => match cmpA .LtE (.v (.int (-(W : Int)))) y r with
        | some b => if b then evC y [.LtE] (evs P F [.var 0]) r else .ok false r
        | none => .bad)).bind fun k r => if k then evTAnd [] r else .ok false r)) = _
      rw [ta, Out.bind_ok]
      by_cases c : -(W : Int) ≤ due - row.sum
      · by_cases c2 : due - row.sum ≤ L <;> simp [cmpA, Ar.peek, cmpD, c, c2, evC, evs, ev, has, slot, st, evTAnd, Out.of]
      · simp [cmpA, Ar.peek, cmpD, c, evTAnd]
    · have tt : (ev P F (.tup [(.bin .Sub (.var 3) (.blt .sum [(.var 7)]))])).v (st (some (tupI row))) = .ok (.tup [.int (due - row.sum)]) (st (some (tupI row))) := by
        show ((evEs (evs P F [_]) (st (some (tupI row)))).bind fun ds r => if fits ds then Out.ok (D.tup (D.frzs ds)) r else .bad) = _
        rw [evEs_one t2]; rfl
      refine ev_bin (op := .Add) (x := tupI row) (y := .tup [.int (due - row.sum)]) rfl tt ?_
      have hl : decide ((row.map D.int).length + 1 ≤ 16777216) = true := decide_eq_true (by rw [List.length_map, (rowsK_mem hm).1]; omega)
      show (if decide ((row.map D.int).length + 1 ≤ 16777216) = true then some (D.tup (row.map D.int ++ [.int (due - row.sum)])) else none) = _
      rw [if_pos hl]; simp [tupI]
def keyB : List S := [(.asg (.nm 4) (.lst [(.tup [])])), keyO, (.ret keyE)]
theorem key_ok {i n L W s : Nat} {due : Int} (hi : P.fns[i]? = some ⟨4, 9, keyB, [4, 5, 6, 7]⟩) (h : L + W < 1000) (hs : s < 90) (hb : (L + W + 1) ^ s < 16777216) :
    ∃ ps, run P (n + 1) i [.int L, .int W, .int ((s : Int) + 1), .int due] = .ok (.lst .own ((keyL L W s due).map tupI)) ps := by
  obtain ⟨kd, z5, z6, z7, k⟩ := key_o (P := P) (F := run P n) (due := some (.int due)) (z6 := none) h hs hb
  obtain ⟨r, e⟩ := key_e (P := P) (F := run P n) (L := L) (W := W) (s := s) (due := due) (S := some (.int ((s : Int) + 1))) (z5 := z5) (z6 := z6) (z7 := z7) (z8 := none) (kd := kd) h hs hb
  refine ⟨_, run_ret (d := .lst .own ((keyL L W s due).map tupI)) (r := r) hi rfl ?_⟩
  refine (evB_step (r1 := [some (.int L), some (.int W), some (.int ((s : Int) + 1)), some (.int due), some (.lst .own [tupI []]), none, none, none, none]) ?_).trans ((evB_step k).trans (evB_ret (evS_ret e)))
  exact evS_asg (d := .lst .own [tupI []]) rfl rfl
end Mv

namespace Mv
open PySem
variable {P : Pg} {F : Nat → List D → FOut}
/-! ### side_lot at every surplus -/
theorem chZ_le {a b : Int} {k : Nat} (h : a ≤ k) : chZ a b ≤ 2 ^ k := by
  unfold chZ
  split
  · have h1 := ch_pow2 a.toNat b.toNat
    have h2 : (2 : Nat) ^ a.toNat ≤ 2 ^ k := Nat.pow_le_pow_right (by omega) (by omega)
    have h3 : ((2 ^ k : Nat) : Int) = 2 ^ k := by simp
    omega
  · exact Int.le_of_lt (Int.pow_pos (by decide))
theorem log_le {a : Int} {k : Nat} (h0 : 0 ≤ a) (h : a ≤ 2 ^ k) : a.natAbs.log2 ≤ k := by
  by_cases z : a.natAbs = 0
  · rw [z]; exact Nat.zero_le _
  · have h3 : ((2 ^ k : Nat) : Int) = 2 ^ k := by simp
    have h2 : a.natAbs < 2 ^ (k + 1) := by rw [Nat.pow_succ]; omega
    have := (Nat.log2_lt z).mpr h2
    omega
theorem mulOk_p {a b : Int} {j k : Nat} (h0 : 0 ≤ a) (h : a ≤ 2 ^ j) (h1 : 0 ≤ b) (h2 : b ≤ 2 ^ k) (h3 : j + k < 1000) : mulOk a b = true := by
  have e1 := log_le h0 h
  have e2 := log_le h1 h2
  unfold mulOk
  simp only [Bool.or_eq_true, decide_eq_true_eq]
  exact .inr (by omega)
theorem stp_le {sp en : Int} {l t : Nat} (h1 : l ≤ 40) (h2 : (l : Int) + sp ≤ 40) : stp sp en l t ≤ 2 ^ 80 := by
  have a := chZ_le (a := l) (b := t) (k := 40) (by omega)
  have b := chZ_le (a := l + sp) (b := t - en) (k := 40) (by omega)
  have := Int.mul_le_mul a b (chZ_nn _ _) (Int.le_of_lt (Int.pow_pos (by decide)))
  rw [← Int.pow_add] at this
  exact this
structure WInv (W : Nat) (sp : Int) (ws : List Int) (k : Nat) : Prop where
  nn : nnW ws
  len : ws.length ≤ 41
  pos : ∀ l, 0 < wy ws l → 0 ≤ (l : Int) + sp ∧ (l : Int) + sp ≤ W
  le : ∀ l, wy ws l ≤ 2 ^ k
theorem wy_lt {ws : List Int} {l : Nat} (h : 0 < wy ws l) : l < ws.length := by
  refine Nat.lt_of_not_le fun c => ?_
  unfold wy at h
  rw [List.getD_eq_getElem?_getD, List.getElem?_eq_none c] at h
  exact absurd h (by decide)
theorem WInv.step {W : Nat} {sp : Int} {ws : List Int} {k : Nat} (hW : W ≤ 40) (h : WInv W sp ws k) (e : Int) : WInv W (sp + e) (outF sp e ws ws.length) (k + 90) where
  nn := outF_nn
  len := by rw [outF_len]; exact h.len
  pos := fun m hm => by
    rw [outF_wy _ (Nat.le_refl _)] at hm
    by_cases c : 0 ≤ (m : Int) + (sp + e) ∧ (m : Int) + (sp + e) ≤ W
    · exact c
    · rw [sg_zero fun l _ => ?_] at hm
      · exact absurd hm (by decide)
      · by_cases p : 0 < wy ws l ∧ m ≤ l
        · have q := h.pos l p.1
          rw [if_pos p, stp, chZ_out (a := (l : Int) + sp) (by omega), Int.mul_zero, Int.mul_zero]
        · rw [if_neg p]
  le := fun m => by
    rw [outF_wy _ (Nat.le_refl _)]
    have hp : (0 : Int) < 2 ^ k := Int.pow_pos (by decide)
    have b : ∀ l, l < ws.length → (if 0 < wy ws l ∧ m ≤ l then wy ws l * stp sp e l (l - m) else 0) ≤ 2 ^ (k + 80) := fun l _ => by
      by_cases p : 0 < wy ws l ∧ m ≤ l
      · have q := h.pos l p.1
        have hl := wy_lt p.1
        have hle := h.len
        rw [if_pos p]
        have s := stp_le (sp := sp) (en := e) (l := l) (t := l - m) (by omega) (by omega)
        have := Int.mul_le_mul (h.le l) s (stp_nn _ _ _ _) (Int.le_of_lt hp)
        rwa [← Int.pow_add] at this
      · rw [if_neg p]; exact Int.le_of_lt (Int.pow_pos (by decide))
    have s := sg_le b
    refine Int.le_trans s ?_
    have hle := h.len
    have t10 : (2 : Int) ^ 10 = 1024 := by decide
    have c : (ws.length : Int) * 2 ^ (k + 80) ≤ 2 ^ 10 * 2 ^ (k + 80) := Int.mul_le_mul_of_nonneg_right (by omega) (Int.le_of_lt (Int.pow_pos (by decide)))
    rw [← Int.pow_add, show 10 + (k + 80) = k + 90 by omega] at c
    exact c
theorem wy_ways0 (L l : Nat) : wy (ways0 L) l = if l = L then 1 else 0 := by
  unfold wy ways0
  rw [List.getD_eq_getElem?_getD]
  by_cases h : l < L
  · rw [List.getElem?_append_left (by simpa using h), List.getElem?_replicate, if_pos h, if_neg (by omega)]; rfl
  · rw [List.getElem?_append_right (by simp; omega), List.length_replicate]
    by_cases e : l = L
    · subst e; rw [Nat.sub_self, if_pos rfl]; rfl
    · rw [if_neg e, List.getElem?_eq_none (by simp; omega)]; rfl
theorem winv {L W : Nat} (hL : L ≤ 40) (hW : W ≤ 40) (es : List Int) : ∀ j, WInv W (spS ((W : Int) - L) es j) (wsS ((W : Int) - L) es (ways0 L) j) (90 * j)
  | 0 => {
    nn := fun l => by show 0 ≤ wy (ways0 L) l; rw [wy_ways0]; split <;> omega
    len := by show (ways0 L).length ≤ 41; simp [ways0]; omega
    pos := fun l h => by
      replace h : 0 < wy (ways0 L) l := h
      rw [wy_ways0] at h
      by_cases e : l = L
      · subst e; show 0 ≤ (l : Int) + ((W : Int) - l) ∧ (l : Int) + ((W : Int) - l) ≤ W; constructor <;> omega
      · rw [if_neg e] at h; omega
    le := fun l => by show wy (ways0 L) l ≤ 1; rw [wy_ways0]; split <;> omega }
  | j + 1 => (winv hL hW es j).step hW (wy es j)
def lotZ (L W : Nat) (es : List Int) : Int := if spS ((W : Int) - L) es es.length = 0 then wy (wsS ((W : Int) - L) es (ways0 L) es.length) 0 else 0
theorem lotZ_nn {L W : Nat} (hL : L ≤ 40) (hW : W ≤ 40) (es : List Int) : 0 ≤ lotZ L W es := by
  unfold lotZ
  split
  · exact (winv hL hW es _).nn 0
  · exact Int.le_refl _
theorem lot_ok {ics ick icb icc i n L W : Nat} {es : List Int} (hck : P.fns[ick]? = some ⟨3, 3, chkB, []⟩) (hcb : P.fns[icb]? = some ⟨1, 5, binB, [1, 2, 3]⟩) (hcc : P.fns[icc]? = some ⟨3, 3, chosB, []⟩) (hcs : P.fns[ics]? = some ⟨4, 9, sprB icc, [4, 5, 6, 7, 8]⟩)
    (hi : P.fns[i]? = some ⟨3, 7, sideB ick icb ics, [3, 4, 5, 6]⟩) (hL : L ≤ 40) (hW : W ≤ 40) (h1 : 1 ≤ es.length) (h2 : es.length ≤ 6) : ∃ ps, run P (n + 3) i [.int L, .int W, tupI es] = .ok (.int (lotZ L W es)) ps := by
  refine side_ok (n := n + 2) hi hL h1 h2 ⟨_, chk_ok hck (by omega) (by omega), rfl⟩ ⟨_, chk_ok hck (by omega) (by omega), rfl⟩ (bin_ok hcb (by omega)) fun j hj => ?_
  have v := winv hL hW es j
  refine spr_ok hcs (by have := v.len; omega) fun l hl hp t ht => ?_
  have q := v.pos l hp
  have hl41 := v.len
  have hl2 : (wsS ((W : Int) - L) es (ways0 L) j).length = L + 1 := by rw [wsS_len]; simp [ways0]
  refine ⟨chos_ok hcc (.inr (by omega)), chos_ok hcc (.inr (by omega)), ?_, ?_⟩
  · exact mulOk_p (chZ_nn _ _) (chZ_le (k := 40) (by omega)) (chZ_nn _ _) (chZ_le (k := 40) (by omega)) (by omega)
  · exact mulOk_p (Int.le_of_lt hp) (v.le l) (stp_nn _ _ _ _) (stp_le (by omega) (by omega)) (by omega)
theorem lotZ_due {L W : Nat} {es : List Int} (h : es.sum = (L : Int) - W) : lotZ L W es = Wt es L W := by
  unfold lotZ
  rw [if_pos (by rw [spS_sum]; omega), fin_Wt es _ _ (fun l => by rw [wy_ways0]; split <;> omega) (by simp [ways0]), sg_one (k := L) (by simp [ways0]) fun i _ ne => by rw [wy_ways0, if_neg ne, Int.zero_mul], wy_ways0, if_pos rfl, Int.one_mul]
  exact congrArg _ (by omega)
theorem lotZ_not {L W : Nat} {es : List Int} (h : es.sum = (L : Int) - W + 1) : lotZ L W es = 0 := by
  unfold lotZ
  rw [if_neg (by rw [spS_sum]; omega)]
theorem keyL_sum {L W s : Nat} {due : Int} {es : List Int} (h : es ∈ keyL L W s due) : es.sum = due ∧ es.length = s + 1 := by
  obtain ⟨row, h1, rfl⟩ := List.mem_map.mp h
  have := (rowsK_mem (List.mem_filter.mp h1).1).1
  constructor
  · rw [List.sum_append]; simp only [List.sum_cons, List.sum_nil]; omega
  · simp [this]
theorem lots_1 {L W s : Nat} : ((keyL L W s ((L : Int) - W)).map (lotZ L W)).sum = ((s : Int) + 1) ^ (L + W) := by
  rw [← lots_all, List.map_congr_left fun es m => lotZ_due (keyL_sum m).1, keyL, List.map_map]
  rfl
theorem sum_zero : ∀ {l : List Int}, (∀ x ∈ l, x = 0) → l.sum = 0
  | [], _ => rfl
  | x :: l, h => by rw [List.sum_cons, h x List.mem_cons_self, sum_zero fun y m => h y (List.mem_cons_of_mem _ m)]; rfl
theorem lots_2 {L W s : Nat} : ((keyL L W s ((L : Int) - W + 1)).map (lotZ L W)).sum = 0 := sum_zero fun x m => by
  obtain ⟨es, h, rfl⟩ := List.mem_map.mp m
  exact lotZ_not (keyL_sum h).1
theorem keyL_len {L W s : Nat} {due : Int} : (keyL L W s due).length ≤ (L + W + 1) ^ s := by
  unfold keyL
  rw [List.length_map, ← rowsK_len]
  exact List.length_filter_le _ _

/-! ### the whole -/
def whoC (cl ck : Nat) (due : E) : E := .comp (.call cl [(.var 0), (.var 1), (.var 6)]) (.nm 6) .val [(.call ck [(.var 0), (.var 1), (.var 2), due])] [] [6]
/-- what the two tell -/
structure WhoF (F : Nat → List D → FOut) (cl ck L W s : Nat) : Prop where
  lot : ∀ es : List Int, es.length = s + 1 → ∃ ps, F cl [.int L, .int W, tupI es] = .ok (.int (lotZ L W es)) ps ∧ ps.length = 3
  key : ∀ due : Int, ∃ ps, F ck [.int L, .int W, .int ((s : Int) + 1), .int due] = .ok (.lst .own ((keyL L W s due).map tupI)) ps ∧ ps.length = 4
theorem who_c {cl ck L W s : Nat} {due : E} {dv : Int} {z3 z4 z5 : Option D} (h : WhoF F cl ck L W s) (hb : (L + W + 1) ^ s < 16777216)
    (hd : (ev P F due).a [some (.int L), some (.int W), some (.int ((s : Int) + 1)), z3, z4, z5, none] = .ok (.v (.int dv)) [some (.int L), some (.int W), some (.int ((s : Int) + 1)), z3, z4, z5, none]) :
    (ev P F (whoC cl ck due)).v [some (.int L), some (.int W), some (.int ((s : Int) + 1)), z3, z4, z5, none] = .ok (.lst .own (((keyL L W s dv).map (lotZ L W)).map D.int)) [some (.int L), some (.int W), some (.int ((s : Int) + 1)), z3, z4, z5, none] := by
  let r : En := [some (.int L), some (.int W), some (.int ((s : Int) + 1)), z3, z4, z5, none]
  obtain ⟨ps, k1, k2⟩ := h.key dv
  have h0 : evAs (evs P F [(.var 0), (.var 1), (.var 2), due]) r = .ok [.r 0, .r 1, .r 2, .v (.int dv)] r := by
    exact evAs_var rfl (evAs_var rfl (evAs_var rfl (evAs_cons hd rfl)))
  have h1 : (ev P F (.call ck [(.var 0), (.var 1), (.var 2), due])).v r = .ok (.lst .own ((keyL L W s dv).map tupI)) r := (ev_call h0).trans (callA_non (ds := [.int L, .int W, .int ((s : Int) + 1), .int dv]) rfl rfl k1 k2)
  have h2 : evAs (evs P F [(.call ck [(.var 0), (.var 1), (.var 2), due])]) r = .ok [.v (.lst .own ((keyL L W s dv).map tupI))] r := by
    show ((((ev P F (.call ck [(.var 0), (.var 1), (.var 2), due])).v r).bind fun d r => Out.ok (Ar.v d) r).bind fun a r => (Out.ok [] r).bind fun as r => Out.ok (a :: as) r) = _
    rw [h1]; rfl
  have h3 : prep [.v (.lst .own ((keyL L W s dv).map tupI))] r = some ([.v (.lst .shr ((keyL L W s dv).map tupI))], r) := by
    show some ([Ar.v (.lst .shr (D.frzs ((keyL L W s dv).map tupI)))], r) = _
    rw [frzs_tup]
  have h4 : (peekA r [.v (.lst .shr ((keyL L W s dv).map tupI))]).bind (itemsN .val 1) = some ((keyL L W s dv).map tupI) := if_pos (noOwn_tup _)
  have go := ev_compA (P := P) (F := F) (elt := .call cl [(.var 0), (.var 1), (.var 6)]) (tg := .nm 6) (own := [6]) (xs := keyL L W s dv) tupI (fun es => D.int (lotZ L W es)) h2 h3 h4 rfl rfl (Nat.lt_of_le_of_lt keyL_len hb) fun es m => ?_
  · rw [List.map_map]; exact go
  · obtain ⟨ps, l1, l2⟩ := h.lot es (keyL_sum m).2
    exact ⟨[some (.int L), some (.int W), some (.int ((s : Int) + 1)), z3, z4, z5, some (tupI es)], rfl, [some (.int L), some (.int W), some (.int ((s : Int) + 1)), z3, z4, z5, some (tupI es)], (ev_call (as := [.r 0, .r 1, .r 6]) rfl).trans (callA_non (ds := [.int L, .int W, tupI es]) rfl rfl l1 l2), rfl⟩
def whoB (cl ck : Nat) : List S := [(.asg (.nm 4) (whoC cl ck (.bin .Sub (.var 0) (.var 1)))), (.forS (.nm 5) .val [(.var 4)] [(.ifS (.orE [(.notE (.isi (.var 5) .int)), (.isi (.var 5) .bool), (.cmp (.var 5) [.Lt] [(.int (0))])]) [(.ret (.bl false))] [])]), (.ifS (.cmp (.blt .sum [(.var 4)]) [.NotEq] [(.var 3)]) [(.ret (.bl false))] []), (.ret (.cmp (.blt .sum [(whoC cl ck (.bin .Add (.bin .Sub (.var 0) (.var 1)) (.int (1))))]) [.Eq] [(.int (0))]))]
theorem who_f {r0 : En} {a b c e : Option D} {xs : List Int} (h : ∀ x ∈ xs, 0 ≤ x) : ∃ z, evS P F (.forS (.nm 5) .val [(.var 4)] [(.ifS (.orE [(.notE (.isi (.var 5) .int)), (.isi (.var 5) .bool), (.cmp (.var 5) [.Lt] [(.int (0))])]) [(.ret (.bl false))] [])]) [a, b, c, e, some (.lst .own (xs.map D.int)), none, none] = .ok .next [a, b, c, e, some (.lst .own (xs.map D.int)), z, none] := by
  let st (z : Option D) : En := [a, b, c, e, some (.lst .own (xs.map D.int)), z, none]
  have p1 : prep [.r 4] (st none) = some ([.r 4], st none) := by
    show some ([Ar.r 4], (st none).set 4 (some (.lst .own (D.frzs (xs.map D.int))))) = _
    rw [frzs_ints]; rfl
  have h3 : (peekA (st none) [.r 4]).bind (itemsN .val 1) = some (xs.map D.int) := if_pos (noOwn_map (fun x => x) xs)
  have go := forL_idx (chk := chks [.r 4] (st none)) (tg := .nm 5) (b := fun r => evB P F [(.ifS (.orE [(.notE (.isi (.var 5) .int)), (.isi (.var 5) .bool), (.cmp (.var 5) [.Lt] [(.int (0))])]) [(.ret (.bl false))] [])] r) (ds := xs.map D.int) (fun i r => ∃ z, r = st z)
    (fun i r ⟨z, e⟩ => by rw [e]; simp [still, chks, st, slot]) (fun i hi r ⟨z, e⟩ => ?_) (r := st none) ⟨none, rfl⟩
  · obtain ⟨r', e1, z, e2⟩ := go
    exact ⟨z, ((evS_for (as := [.r 4]) (r1 := st none) (ds := xs.map D.int) rfl p1 h3 rfl).trans e1).trans (by rw [e2])⟩
  · have hi : i < xs.length := by simpa using hi
    subst e
    have ed : (xs.map D.int)[i]'(by simpa using hi) = .int xs[i] := by simp
    rw [ed]
    have hx : ¬ xs[i] < 0 := by have := h _ (List.getElem_mem hi); omega
    refine ⟨st (some (.int xs[i])), rfl, st (some (.int xs[i])), .inl ?_, _, rfl⟩
    simp [st, evB, evS, ev, evs, evC, evTOr, Ev.mk1, Out.bind, Out.of, has, Ar.peek, slot, isTy, truD, cmpA, cmpD, hx]
theorem ev_sum {a : E} {r r1 : En} {k : Kd} {xs : List Int} (h : (ev P F (.blt .sum [a])).v r = ((evAs (evs P F [a]) r).bind fun as r => .of ((peekA r as).bind fun ds => bltD .sum ds) r)) (h1 : ∃ as, evAs (evs P F [a]) r = .ok as r1 ∧ peekA r1 as = some [.lst k (xs.map D.int)]) : (ev P F (.blt .sum [a])).v r = .ok (.int xs.sum) r1 := by
  obtain ⟨as, h2, h3⟩ := h1
  rw [h, h2, Out.bind_ok, h3, Option.bind_some]
  show Out.of ((intsOf (xs.map D.int)).map fun l => D.int l.sum) r1 = _
  rw [intsOf_map]; rfl
theorem who_ok {i n cl ck L W s : Nat} (hi : P.fns[i]? = some ⟨4, 7, whoB cl ck, [4, 5]⟩) (h : WhoF (run P n) cl ck L W s) (hL : L ≤ 40) (hW : W ≤ 40) (hb : (L + W + 1) ^ s < 16777216) :
    ∃ ps, run P (n + 1) i [.int L, .int W, .int ((s : Int) + 1), .int (((s : Int) + 1) ^ (L + W))] = .ok (.bl true) ps := by
  have c1 := who_c (P := P) (due := .bin .Sub (.var 0) (.var 1)) (dv := (L : Int) - W) (z3 := some (.int (((s : Int) + 1) ^ (L + W)))) (z4 := none) (z5 := none) h hb rfl
  have nn : ∀ x ∈ (keyL L W s ((L : Int) - W)).map (lotZ L W), 0 ≤ x := fun x m => by
    obtain ⟨es, _, rfl⟩ := List.mem_map.mp m
    exact lotZ_nn hL hW es
  obtain ⟨z, f1⟩ := who_f (P := P) (F := run P n) (r0 := []) (a := some (.int L)) (b := some (.int W)) (c := some (.int ((s : Int) + 1))) (e := some (.int (((s : Int) + 1) ^ (L + W)))) nn
  have c2 := who_c (P := P) (due := .bin .Add (.bin .Sub (.var 0) (.var 1)) (.int (1))) (dv := (L : Int) - W + 1) (z3 := some (.int (((s : Int) + 1) ^ (L + W)))) (z4 := some (.lst .own (((keyL L W s ((L : Int) - W)).map (lotZ L W)).map D.int))) (z5 := z) h hb rfl
  let r2 : En := [some (.int L), some (.int W), some (.int ((s : Int) + 1)), some (.int (((s : Int) + 1) ^ (L + W))), some (.lst .own (((keyL L W s ((L : Int) - W)).map (lotZ L W)).map D.int)), z, none]
  have s1 : (ev P (run P n) (.blt .sum [(.var 4)])).v r2 = .ok (.int (((s : Int) + 1) ^ (L + W))) r2 := by
    have := ev_sum (P := P) (F := run P n) (a := .var 4) (r := r2) (r1 := r2) (k := .own) (xs := (keyL L W s ((L : Int) - W)).map (lotZ L W)) rfl ⟨[.r 4], rfl, rfl⟩
    rw [lots_1] at this
    exact this
  have s2 : (ev P (run P n) (.blt .sum [(whoC cl ck (.bin .Add (.bin .Sub (.var 0) (.var 1)) (.int (1))))])).v r2 = .ok (.int 0) r2 := by
    have := ev_sum (P := P) (F := run P n) (a := whoC cl ck (.bin .Add (.bin .Sub (.var 0) (.var 1)) (.int (1)))) (r := r2) (r1 := r2) (k := .own) (xs := (keyL L W s ((L : Int) - W + 1)).map (lotZ L W)) rfl ⟨[.v (.lst .own (((keyL L W s ((L : Int) - W + 1)).map (lotZ L W)).map D.int))], ?_, rfl⟩
    · rw [lots_2] at this
      exact this
    · show ((((ev P (run P n) (whoC cl ck (.bin .Add (.bin .Sub (.var 0) (.var 1)) (.int (1))))).v r2).bind fun d r => Out.ok (Ar.v d) r).bind fun a r => (Out.ok [] r).bind fun as r => Out.ok (a :: as) r) = _
      rw [c2]; rfl
  refine ⟨_, run_ret (d := .bl true) (r := r2) hi rfl ?_⟩
  refine (evB_step (evS_asg c1 rfl)).trans ((evB_step f1).trans ((evB_step (r1 := r2) ?_).trans (evB_ret (evS_ret ?_))))
  · show (((((((ev P (run P n) (.blt .sum [(.var 4)])).v r2).bind fun d r => Out.ok (Ar.v d) r).bind fun x r => evC x [.NotEq] (evs P (run P n) [.var 3]) r)).bind fun k r => if k then evB P (run P n) [(.ret (.bl false))] r else evB P (run P n) [] r)) = _
    rw [s1]
    simp [r2, Out.bind, evC, evs, ev, has, Ar.peek, slot, cmpA, cmpD, eqD_int, Out.of, evB]
  · show (((((ev P (run P n) (.blt .sum [(whoC cl ck (.bin .Add (.bin .Sub (.var 0) (.var 1)) (.int (1))))])).v r2).bind fun d r => Out.ok (Ar.v d) r).bind fun x r => (evC x [.Eq] (evs P (run P n) [.int 0]) r).bind fun b r => Out.ok (D.bl b) r)) = _
    rw [s2]
    simp [r2, Out.bind, evC, evs, ev, Ev.mk1, has, Ar.peek, slot, cmpA, cmpD, eqD_int, Out.of]
end Mv

namespace Mv
open PySem
variable {P : Pg} {F : Nat → List D → FOut}
/-! ### common: draws, counts that are refused -/
theorem has_slot {r : En} {i : Nat} {d : D} (h : slot r i = some d) (hn : ∀ c w, d ≠ .exn c w) : has r i = true := by
  have : (Ar.r i).peek r = some d := by
    show (match slot r i with | some (.exn _ _) => none | x => x) = _
    rw [h]
    cases d <;> first | rfl | exact absurd rfl (hn _ _)
  show ((Ar.r i).peek r).isSome = true
  rw [this]; rfl
theorem set_set {r : En} {i : Nat} {a b : Option D} : (r.set i a).set i b = r.set i b := by simp
theorem src_owned (A B : Int) : (src A B).owned = true := rfl
/-- the source is lent, and one more value is given -/
theorem callA_src {f i : Nat} {r : En} {A B A' B' : Int} {d v : D} {p : Option D} (hs : slot r i = some (src A B)) (h : F f [src A B, d] = .ok v [some (src A' B'), p]) : callA F f [.r i, .v d] r = .ok v (r.set i (some (src A' B'))) := by
  have l : lend [.r i, .v d] r = some ([src A B, d], r.set i none) := by
    show ((Ar.r i).peek r).bind _ = _
    have : (Ar.r i).peek r = some (src A B) := by
      show (match slot r i with | some (.exn _ _) => none | x => x) = _
      rw [hs]; rfl
    rw [this, Option.bind_some, if_pos (src_owned A B)]; rfl
  unfold callA
  rw [l]
  dsimp only
  rw [h]
  show (match back [.r i, .v d] [src A B, d] [some (src A' B'), p] (r.set i none) with
    | some r2 => Out.ok v r2
    | none => .bad) = _
  have b : back [.r i, .v d] [src A B, d] [some (src A' B'), p] (r.set i none) = some ((r.set i none).set i (some (src A' B'))) := rfl
  rw [b, set_set]
theorem log_leA {a : Int} {k : Nat} (h0 : 0 ≤ a) (h : a ≤ 2 ^ k) : a.natAbs.log2 ≤ k := by
  by_cases z : a.natAbs = 0
  · rw [z]; exact Nat.zero_le _
  · have h3 : ((2 ^ k : Nat) : Int) = 2 ^ k := by simp
    have h2 : a.natAbs < 2 ^ (k + 1) := by rw [Nat.pow_succ]; omega
    have := (Nat.log2_lt z).mpr h2
    omega
/-- a number below T is drawn -/
theorem draw_take {t i n : Nat} {e : E} {r r1 : En} {A B T : Int} (hf : P.fns[t]? = some ⟨2, 3, takeB, [2]⟩) (h0 : has r i = true) (he : (ev P (run P (n + 1)) e).a r = .ok (.v (.int T)) r1) (hs : slot r1 i = some (src A B)) (hT : 0 < T) (hT2 : T < 2 ^ 1000) :
    ∃ x A' B', 0 ≤ x ∧ x < T ∧ (ev P (run P (n + 1)) (.call t [.var i, e])).v r = .ok (.int x) (r1.set i (some (src A' B'))) := by
  refine ⟨takeR A B T, takeA A T, takeB2 A B, takeR_nn hT, takeR_lt hT, ?_⟩
  have tk := take_ok (n := n) hf (A := A) (B := B) hT (Nat.lt_of_le_of_lt (log_leA (k := 1000) (by omega) (Int.le_of_lt hT2)) (by omega))
  exact (ev_call (evAs_var h0 (evAs_cons he rfl))).trans (callA_src hs tk)
/-- one of some is drawn -/
theorem draw_one {o t i n : Nat} {e : E} {r r1 : En} {A B : Int} {xs : List Int} (hf : P.fns[t]? = some ⟨2, 3, takeB, [2]⟩) (ho : P.fns[o]? = some ⟨2, 2, oneBody t, []⟩) (h0 : has r i = true) (he : (ev P (run P (n + 2)) e).a r = .ok (.v (.lst .own (xs.map D.int))) r1) (hs : slot r1 i = some (src A B)) (hl : 0 < xs.length) (h1 : xs.length < 1000) :
    ∃ x A' B', x ∈ xs ∧ (ev P (run P (n + 2)) (.call o [.var i, e])).v r = .ok (.int x) (r1.set i (some (src A' B'))) := by
  refine ⟨oneR A B xs, takeA A xs.length, takeB2 A B, ?_, ?_⟩
  · have hT : (0 : Int) < (xs.length : Int) := by omega
    have r0 := takeR_nn (A := A) (B := B) hT
    have r1 := takeR_lt (A := A) (B := B) hT
    unfold oneR
    rw [List.getD_eq_getElem?_getD, List.getElem?_eq_getElem (by omega)]
    exact List.getElem_mem _
  · exact (ev_call (evAs_var h0 (evAs_cons he rfl))).trans (callA_src hs (one_ok (n := n) hf ho hl h1))
theorem ev_tup2 {a b : E} {r r1 r2 : En} {x y : D} (h1 : (ev P F a).v r = .ok x r1) (h2 : (ev P F b).v r1 = .ok y r2) : (ev P F (.tup [a, b])).v r = .ok (.tup [x.frz, y.frz]) r2 := by
  show (((ev P F a).v r).bind fun d r => (((ev P F b).v r).bind fun d r => (Out.ok [] r).bind fun ds r => Out.ok (d :: ds) r).bind fun ds r => Out.ok (d :: ds) r).bind (fun ds r => if fits ds then Out.ok (D.tup (D.frzs ds)) r else .bad) = _
  rw [h1, Out.bind_ok, h2]; rfl
/-- a call that raises, of a body that does -/
theorem run_exc {n i c : Nat} {w : D} {fn : Fn} {ds : List D} {r : En} (hi : P.fns[i]? = some fn) (hl : ds.length = fn.np) (h : evB P (run P n) fn.body (ds.map some ++ List.replicate (fn.nl - fn.np) none) = .exc c w r) : run P (n + 1) i ds = .exc c w (parsOf fn.asg fn.np r) := by
  show (match P.fns[i]? with
    | some fn => _
    | none => _) = _
  rw [hi]
  dsimp only
  rw [if_pos hl, h]
theorem evB_exc {s : S} {ss : List S} {r r1 : En} {c : Nat} {w : D} (h : evS P F s r = .exc c w r1) : evB P F (s :: ss) r = .exc c w r1 := by
  show (match evS P F s r with
    | .ok .next r1 => evB P F ss r1
    | x => x) = _
  rw [h]
/-- a callee that raises, none of its arguments owned -/
theorem callA_exc {f c : Nat} {w : D} {as : List Ar} {r : En} {ds : List D} {ps : En} (hp : peekA r as = some ds) (hn : noOwn ds = true) (h : F f ds = .exc c w ps) (hl : ps.length = ds.length) : callA F f as r = .exc c w r := by
  unfold callA
  rw [lend_non hp hn]
  show backO as ds r (F f ds).out = _
  rw [h]
  show (match back as ds ps r with
    | some r2 => Out.exc c w r2
    | none => .bad) = _
  rw [back_non (peekA_len hp) hl hn]
theorem run_xlen {n i c : Nat} {w : D} {ds : List D} {ps : En} (h : run P n i ds = .exc c w ps) : ps.length = ds.length := by
  cases n with
  | zero => cases h
  | succ n =>
    unfold run at h
    split at h
    · split at h
      · rename_i hl
        split at h <;> cases h <;> rw [parsOf_len, hl]
      · cases h
    · cases h
/-- check_count -/
def chkR (c : Nat) : List S := [(.ifS (.notE (.cmp (.var 1) [.LtE, .LtE] [(.var 0), (.var 2)])) [(.raise c (.var 0))] [])]
theorem chkR_ok {n i c : Nat} (hi : P.fns[i]? = some ⟨3, 3, chkR c, []⟩) {a lo up : Int} (h1 : lo ≤ a) (h2 : a ≤ up) : run P (n + 1) i [.int a, .int lo, .int up] = .ok .non [some (.int a), some (.int lo), some (.int up)] := by
  have h0 : evB P (run P n) (chkR c) [some (.int a), some (.int lo), some (.int up)] = .ok .next [some (.int a), some (.int lo), some (.int up)] := by
    simp [chkR, evS, evB, ev, evs, evC, Ev.mk1, Out.bind, Out.of, has, Ar.peek, slot, cmpA, cmpD, readP, h1, h2]
  exact (run_next (n := n) (ds := [.int a, .int lo, .int up]) hi rfl h0).trans rfl
theorem chkR_no {n i c : Nat} (hi : P.fns[i]? = some ⟨3, 3, chkR c, []⟩) {a lo up : Int} (h : ¬ (lo ≤ a ∧ a ≤ up)) : run P (n + 1) i [.int a, .int lo, .int up] = .exc c (.int a) [some (.int a), some (.int lo), some (.int up)] := by
  have h0 : evB P (run P n) (chkR c) [some (.int a), some (.int lo), some (.int up)] = .exc c (.int a) [some (.int a), some (.int lo), some (.int up)] := by
    by_cases h1 : lo ≤ a
    · have h2 : ¬ a ≤ up := fun z => h ⟨h1, z⟩
      simp [chkR, evS, evB, ev, evs, evC, Ev.mk1, Out.bind, Out.of, has, Ar.peek, slot, cmpA, cmpD, readP, getP, D.owned, h1, h2]
    · simp [chkR, evS, evB, ev, evs, evC, Ev.mk1, Out.bind, Out.of, has, Ar.peek, slot, cmpA, cmpD, readP, getP, D.owned, h1]
  exact (run_exc (n := n) (ds := [.int a, .int lo, .int up]) hi rfl h0).trans rfl
/-- a call for its effect alone, its arguments ints -/
theorem expr_call {f : Nat} {es : List E} {as : List Ar} {ds : List D} {r : En} {ps : En} {d : D} (ha : evAs (evs P F es) r = .ok as r) (hp : peekA r as = some ds) (hn : noOwn ds = true) (h : F f ds = .ok d ps) (hl : ps.length = ds.length) : evS P F (.expr (.call f es)) r = .ok .next r :=
  evS_expr (d := d) ((ev_call ha).trans (callA_non hp hn h hl))
theorem expr_callX {f c : Nat} {w : D} {es : List E} {as : List Ar} {ds : List D} {r : En} {ps : En} (ha : evAs (evs P F es) r = .ok as r) (hp : peekA r as = some ds) (hn : noOwn ds = true) (h : F f ds = .exc c w ps) (hl : ps.length = ds.length) : evS P F (.expr (.call f es)) r = .exc c w r := by
  have e : (ev P F (.call f es)).v r = .exc c w r := (ev_call ha).trans (callA_exc hp hn h hl)
  show (((ev P F (.call f es)).v r).bind fun _ r => Out.ok Fl.next r) = _
  rw [e]; rfl
/-! ### comprehensions over a name's list -/
theorem prep_v {r : En} {i : Nat} {kd : Kd} {ds : List D} (h : slot r i = some (.lst kd ds)) (hz : D.frzs ds = ds) : prep [.r i] r = some ([.r i], r) := by
  have hi : i < r.length := by
    refine Nat.lt_of_not_le fun c => ?_
    unfold slot at h
    rw [List.getElem?_eq_none c] at h
    cases h
  have hs : r.set i (some (.lst kd ds)) = r := by
    refine List.ext_getElem? fun j => ?_
    by_cases e : j = i
    · subst e
      rw [List.getElem?_set_self hi]
      unfold slot at h
      cases q : r[j]? with
      | none => rw [q] at h; cases h
      | some x => rw [q] at h; exact congrArg some h.symm
    · rw [List.getElem?_set_ne (fun z => e z.symm)]
  unfold prep
  rw [h]
  cases kd with
  | own => dsimp only; rw [hz, hs]; rfl
  | shr => rfl
  | giv => rfl
theorem peek_v {r : En} {i : Nat} {d : D} (h : slot r i = some d) (hn : ∀ c w, d ≠ .exn c w) : peekA r [.r i] = some [d] := by
  have : (Ar.r i).peek r = some d := by
    show (match slot r i with | some (.exn _ _) => none | x => x) = _
    rw [h]
    cases d <;> first | rfl | exact absurd rfl (hn _ _)
  show ((Ar.r i).peek r).bind _ = _
  rw [this]; rfl
theorem still_self (r : En) (i : Nat) : still r [(i, slot r i)] = true := by simp [still]
theorem ev_compVM {α : Type} {elt : E} {tg : Tg} {ifs : List E} {own : List Nat} {r : En} {i : Nat} {kd : Kd} {xs : List α} (mk : α → D) (p : α → Bool) (g : α → D) (hs : slot r i = some (.lst kd (xs.map mk))) (hn : noOwn (xs.map mk) = true) (hz : D.frzs (xs.map mk) = xs.map mk) (hw : wipeE r own = r) (h4 : (stT tg).all own.contains = true) (hl : xs.length < 16777216)
    (h6 : ∀ x ∈ xs, ∃ r3, asgT tg (mk x) r = some r3 ∧ ∃ r4, evTAnd (evs P F ifs) r3 = .ok (p x) r4 ∧ (p x = true → ∃ r5, (ev P F elt).v r4 = .ok (g x) r5 ∧ wipeE r5 own = r) ∧ (p x = false → wipeE r4 own = r)) :
    (ev P F (.comp elt tg .val [.var i] ifs own)).v r = .ok (.lst .own ((xs.filter p).map g)) r := by
  have ne : ∀ c w, D.lst kd (xs.map mk) ≠ .exn c w := fun _ _ z => by cases z
  have h0 : evAs (evs P F [.var i]) r = .ok [.r i] r := evAs_var (has_slot hs ne) rfl
  have h3 : (peekA r [.r i]).bind (itemsN .val [E.var i].length) = some (xs.map mk) := by rw [peek_v hs ne]; exact if_pos hn
  have := ev_compM (ifs := ifs) mk p g h0 (prep_v hs hz) h3 h4 (by rw [hw]; exact still_self r i) hl (by rw [hw]; exact h6)
  rwa [hw] at this
theorem ev_compVA {α : Type} {elt : E} {tg : Tg} {own : List Nat} {r : En} {i : Nat} {kd : Kd} {xs : List α} (mk : α → D) (g : α → D) (hs : slot r i = some (.lst kd (xs.map mk))) (hn : noOwn (xs.map mk) = true) (hz : D.frzs (xs.map mk) = xs.map mk) (hw : wipeE r own = r) (h4 : (stT tg).all own.contains = true) (hl : xs.length < 16777216)
    (h6 : ∀ x ∈ xs, ∃ r3, asgT tg (mk x) r = some r3 ∧ ∃ r5, (ev P F elt).v r3 = .ok (g x) r5 ∧ wipeE r5 own = r) :
    (ev P F (.comp elt tg .val [.var i] [] own)).v r = .ok (.lst .own (xs.map g)) r := by
  have := ev_compVM (ifs := []) mk (fun _ => true) g hs hn hz hw h4 hl fun x m => by
    obtain ⟨r3, a, r5, b, c⟩ := h6 x m
    exact ⟨r3, a, r3, rfl, fun _ => ⟨r5, b, c⟩, fun z => by cases z⟩
  rwa [List.filter_eq_self.mpr fun _ _ => rfl] at this
/-- .. over a range from 0 -/
theorem ev_compR {elt a : E} {tg : Tg} {own : List Nat} {r : En} {j : Int} {n : Nat} (g : Nat → D) (h0 : evAs (evs P F [a]) r = .ok [.v (.int j)] r) (e : j.toNat = n) (h1 : -(2 ^ 62) ≤ j) (h2 : j < 2 ^ 62) (hw : wipeE r own = r) (h4 : (stT tg).all own.contains = true) (hl : n < 16777216)
    (h6 : ∀ x, x < n → ∃ r3, asgT tg (.int (x : Int)) r = some r3 ∧ ∃ r5, (ev P F elt).v r3 = .ok (g x) r5 ∧ wipeE r5 own = r) :
    (ev P F (.comp elt tg .rng [a] [] own)).v r = .ok (.lst .own ((List.range n).map g)) r := by
  subst e
  have := ev_compA (tg := tg) (own := own) (xs := List.range j.toNat) (fun (k : Nat) => D.int (k : Int)) g h0 (as1 := [.v (.int j)]) (r2 := r) rfl (items_rng1 ⟨h1, h2⟩) h4 (by rw [hw]; rfl) (by simpa using hl) (by rw [hw]; exact fun x m => h6 x (List.mem_range.mp m))
  rwa [hw] at this
end Mv

namespace Mv
open PySem
variable {P : Pg} {F : Nat → List D → FOut}
/-! ### k50 -/
def oddE (cc : Nat) : E := .blt .sum [(.comp (.call cc [(.var 2), (.var 1), (.var 3)]) (.nm 3) .rng [(.bin .Sub (.var 0) (.int (2))), (.neg (.int (1))), (.neg (.int (2)))] [] [3])]
def oddB (ck cb cc : Nat) : List S := [(.expr (.call ck [(.var 0), (.int (1)), (.int (40))])), (.expr (.call ck [(.var 1), (.int (2)), (.int (6))])), (.asg (.nm 2) (.call cb [(.var 1)])), (.ret (oddE cc))]
/-- n - 2, n - 4, .. down to 0 -/
def down2 (n : Nat) : List Nat := (List.range (n / 2)).map fun k => n - 2 - 2 * k
def oddF (n c : Nat) : Int := ((down2 n).map fun (m : Nat) => chZ c m).sum
theorem rng_down {n : Nat} (h1 : 1 ≤ n) (h2 : n ≤ 40) : itemsN .rng 3 [.int ((n : Int) - 2), .int (-1), .int (-2)] = some ((down2 n).map fun (k : Nat) => D.int (k : Int)) := by
  have key : ∀ m : Fin 41, Builtin.Range.small ((m.val : Int) - 2) (-1) (-2) = true ∧ 0 ≤ Builtin.Range.rangeSize ((m.val : Int) - 2) (-1) (-2) ∧ (1 ≤ m.val → (Builtin.Range.rangeSize ((m.val : Int) - 2) (-1) (-2)).toNat = m.val / 2) := by decide +kernel
  obtain ⟨k1, k2, k3⟩ := key ⟨n, by omega⟩
  have u : itemsN .rng 3 [.int ((n : Int) - 2), .int (-1), .int (-2)] = if (-2 : Int) = -1 ∧ -(2 ^ 62) ≤ ((n : Int) - 2) ∧ ((n : Int) - 2) < 2 ^ 62 ∧ -(2 ^ 62) ≤ (-1 : Int) ∧ (-1 : Int) < 2 ^ 62 then some ((List.range (((n : Int) - 2) - (-1)).toNat).map fun (k : Nat) => D.int (((n : Int) - 2) + k * (-2))) else
      if (-2 : Int) ≠ 0 ∧ (-2 : Int).natAbs < 1073741824 ∧ Builtin.Range.small ((n : Int) - 2) (-1) (-2) = true ∧ 0 ≤ Builtin.Range.rangeSize ((n : Int) - 2) (-1) (-2) then some ((List.range (Builtin.Range.rangeSize ((n : Int) - 2) (-1) (-2)).toNat).map fun (k : Nat) => D.int (((n : Int) - 2) + k * (-2))) else none := rfl
  rw [u, if_neg (fun z => absurd z.1 (by decide)), if_pos ⟨by decide, by decide, k1, k2⟩]
  have k3 : (Builtin.Range.rangeSize ((n : Int) - 2) (-1) (-2)).toNat = n / 2 := k3 h1
  refine congrArg some ?_
  rw [k3, down2, List.map_map]
  refine List.map_congr_left fun k hk => ?_
  have hk : k < n / 2 := List.mem_range.mp hk
  show D.int ((n : Int) - 2 + k * -2) = D.int ((n - 2 - 2 * k : Nat) : Int)
  exact congrArg D.int (by omega)
theorem odd_e {cc m c n : Nat} (hc : ∀ k : Nat, ∃ ps, F cc [tabD c, .int c, .int k] = .ok (.int (chZ c k)) (some (tabD c) :: ps) ∧ ps.length = 2) (h1 : 1 ≤ n) (h2 : n ≤ 40) :
    (ev P F (oddE cc)).v [some (.int n), some (.int c), some (tabD c), none] = .ok (.int (oddF n c)) [some (.int n), some (.int c), some (tabD c), none] := by
  let r : En := [some (.int n), some (.int c), some (tabD c), none]
  have s1 : evAs (evs P F [(.bin .Sub (.var 0) (.int (2))), (.neg (.int (1))), (.neg (.int (2)))]) r = .ok [.v (.int ((n : Int) - 2)), .v (.int (-1)), .v (.int (-2))] r := rfl
  have go := ev_compA (P := P) (F := F) (elt := .call cc [(.var 2), (.var 1), (.var 3)]) (tg := .nm 3) (own := [3]) (xs := down2 n) (fun (k : Nat) => D.int (k : Int)) (fun (k : Nat) => D.int (chZ c k)) s1 (as1 := [.v (.int ((n : Int) - 2)), .v (.int (-1)), .v (.int (-2))]) rfl (rng_down h1 h2) rfl rfl (by simp [down2]; omega) fun k _ => ?_
  · have e : (down2 n).map (fun (k : Nat) => D.int (chZ c k)) = ((down2 n).map fun (m : Nat) => chZ c m).map D.int := by rw [List.map_map]; rfl
    rw [e] at go
    refine ev_sum (k := .own) (xs := (down2 n).map fun (m : Nat) => chZ c m) rfl ⟨[.v (.lst .own (((down2 n).map fun (m : Nat) => chZ c m).map D.int))], ?_, rfl⟩
    show ((((ev P F (.comp (.call cc [(.var 2), (.var 1), (.var 3)]) (.nm 3) .rng [(.bin .Sub (.var 0) (.int (2))), (.neg (.int (1))), (.neg (.int (2)))] [] [3])).v r).bind fun d r => Out.ok (Ar.v d) r).bind fun a r => (Out.ok [] r).bind fun as r => Out.ok (a :: as) r) = _
    rw [go]; rfl
  · obtain ⟨ps, q1, q2⟩ := hc k
    refine ⟨[some (.int n), some (.int c), some (tabD c), some (.int k)], rfl, [some (.int n), some (.int c), some (tabD c), some (.int k)], ?_, rfl⟩
    refine (ev_call (as := [.r 2, .r 1, .r 3]) rfl).trans ?_
    have l : lend [.r 2, .r 1, .r 3] [some (.int n), some (.int c), some (tabD c), some (.int k)] = some ([tabD c, .int c, .int k], [some (.int n), some (.int c), none, some (.int k)]) := rfl
    unfold callA
    rw [l]
    dsimp only
    rw [q1]
    match ps, q2 with
    | [p, q], _ => rfl
theorem odd_ok {i ck cb cc e n m c : Nat} (hck : P.fns[ck]? = some ⟨3, 3, chkR e, []⟩) (hcb : P.fns[cb]? = some ⟨1, 5, binB, [1, 2, 3]⟩) (hcc : P.fns[cc]? = some ⟨3, 3, chosB, []⟩) (hi : P.fns[i]? = some ⟨2, 4, oddB ck cb cc, [2]⟩) (h1 : 1 ≤ m) (h2 : m ≤ 40) (h3 : 2 ≤ c) (h4 : c ≤ 6) :
    run P (n + 2) i [.int m, .int c] = .ok (.int (oddF m c)) [some (.int m), some (.int c)] := by
  refine (run_ret (n := n + 1) (ds := [.int m, .int c]) (d := .int (oddF m c)) (r := [some (.int m), some (.int c), some (tabD c), none]) hi rfl ?_).trans rfl
  refine (evB_step (expr_call (as := [.r 0, .v (.int 1), .v (.int 40)]) (ds := [.int m, .int 1, .int 40]) rfl rfl rfl (chkR_ok hck (by omega) (by omega)) rfl)).trans ?_
  refine (evB_step (expr_call (as := [.r 1, .v (.int 2), .v (.int 6)]) (ds := [.int c, .int 2, .int 6]) rfl rfl rfl (chkR_ok hck (by omega) (by omega)) rfl)).trans ?_
  refine (evB_step (r1 := [some (.int m), some (.int c), some (tabD c), none]) (evS_asg ((ev_call (as := [.r 1]) rfl).trans (callA_non (ds := [.int c]) rfl rfl (bin_ok hcb (m := c) (by omega)) rfl)) rfl)).trans ?_
  exact evB_ret (evS_ret (odd_e (m := c) (fun k => ⟨_, chos_ok hcc (.inr (by omega)), rfl⟩) h1 h2))
theorem odd_no {i ck cb cc e n : Nat} {m c : Int} (hck : P.fns[ck]? = some ⟨3, 3, chkR e, []⟩) (hi : P.fns[i]? = some ⟨2, 4, oddB ck cb cc, [2]⟩) (h : ¬ (1 ≤ m ∧ m ≤ 40) ∨ ¬ (2 ≤ c ∧ c ≤ 6)) :
    ∃ ps, run P (n + 2) i [.int m, .int c] = .exc e (.int (if 1 ≤ m ∧ m ≤ 40 then c else m)) ps := by
  by_cases hm : 1 ≤ m ∧ m ≤ 40
  · rw [if_pos hm]
    refine ⟨_, run_exc (n := n + 1) (ds := [.int m, .int c]) (r := [some (.int m), some (.int c), none, none]) hi rfl ?_⟩
    refine (evB_step (expr_call (as := [.r 0, .v (.int 1), .v (.int 40)]) (ds := [.int m, .int 1, .int 40]) rfl rfl rfl (chkR_ok hck hm.1 hm.2) rfl)).trans ?_
    exact evB_exc (expr_callX (as := [.r 1, .v (.int 2), .v (.int 6)]) (ds := [.int c, .int 2, .int 6]) rfl rfl rfl (chkR_no hck (h.resolve_left fun z => z hm)) rfl)
  · rw [if_neg hm]
    refine ⟨_, run_exc (n := n + 1) (ds := [.int m, .int c]) (r := [some (.int m), some (.int c), none, none]) hi rfl ?_⟩
    exact evB_exc (expr_callX (as := [.r 0, .v (.int 1), .v (.int 40)]) (ds := [.int m, .int 1, .int 40]) rfl rfl rfl (chkR_no hck hm) rfl)
end Mv

namespace Mv
open PySem
variable {P : Pg} {F : Nat → List D → FOut}
def beyB (ct co : Nat) : List S := [(.asg (.nm 3) (.call ct [(.var 0), (.bin .Pow (.int (10)) (.int (18)))])), (.ret (.call co [(.var 0), (.lst [(.bin .Sub (.var 1) (.int (1))), (.bin .Add (.var 2) (.int (1))), (.bin .Add (.var 2) (.int (1))), (.bin .Sub (.bin .Sub (.var 1) (.int (2))) (.var 3)), (.bin .Add (.bin .Add (.var 2) (.int (2))) (.var 3))])]))]
theorem bey_ok {i ct co n : Nat} {A B lo up : Int} (hf : P.fns[ct]? = some ⟨2, 3, takeB, [2]⟩) (ho : P.fns[co]? = some ⟨2, 2, oneBody ct, []⟩) (hi : P.fns[i]? = some ⟨3, 4, beyB ct co, [3]⟩) (h : lo ≤ up) :
    ∃ x A' B', ¬ (lo ≤ x ∧ x ≤ up) ∧ run P (n + 3) i [src A B, .int lo, .int up] = .ok (.int x) [some (src A' B'), some (.int lo), some (.int up)] := by
  obtain ⟨f, A1, B1, f0, f1, e1⟩ := draw_take (n := n + 1) (t := ct) (i := 0) (e := .bin .Pow (.int (10)) (.int (18))) (r := [some (src A B), some (.int lo), some (.int up), none]) (r1 := [some (src A B), some (.int lo), some (.int up), none]) (T := 10 ^ 18) hf rfl rfl rfl (by decide +kernel) (by decide +kernel)
  obtain ⟨x, A2, B2, hx, e2⟩ := draw_one (n := n) (o := co) (t := ct) (i := 0) (e := .lst [(.bin .Sub (.var 1) (.int (1))), (.bin .Add (.var 2) (.int (1))), (.bin .Add (.var 2) (.int (1))), (.bin .Sub (.bin .Sub (.var 1) (.int (2))) (.var 3)), (.bin .Add (.bin .Add (.var 2) (.int (2))) (.var 3))]) (r := [some (src A1 B1), some (.int lo), some (.int up), some (.int f)]) (r1 := [some (src A1 B1), some (.int lo), some (.int up), some (.int f)]) (xs := [lo - 1, up + 1, up + 1, lo - 2 - f, up + 2 + f]) hf ho rfl rfl rfl (by simp) (by simp)
  refine ⟨x, A2, B2, ?_, (run_ret (n := n + 2) (ds := [src A B, .int lo, .int up]) hi rfl ((evB_step (evS_asg e1 rfl)).trans (evB_ret (evS_ret e2)))).trans rfl⟩
  simp only [List.mem_cons, List.not_mem_nil, or_false] at hx
  rcases hx with rfl | rfl | rfl | rfl | rfl <;> omega
/-! the sets of coats, by their sizes -/
def szF : Nat → List Nat
  | 0 => [0]
  | t + 1 => szF t ++ (szF t).map (· + 1)
theorem szF_len : ∀ t, (szF t).length = 2 ^ t
  | 0 => rfl
  | t + 1 => by show (szF t ++ (szF t).map (· + 1)).length = _; rw [List.length_append, List.length_map, szF_len t, Nat.pow_succ]; omega
def natsD (xs : List Nat) : List D := xs.map fun (k : Nat) => D.int (k : Int)
theorem noOwn_nats (xs : List Nat) : noOwn (natsD xs) = true := by
  unfold noOwn natsD; simp only [List.all_map, List.all_eq_true]; intro x _; rfl
theorem frzs_nats (xs : List Nat) : D.frzs (natsD xs) = natsD xs := by unfold natsD; rw [D.frzs_map, List.map_map]; rfl
def dueC : E := .comp (.bin .Add (.var 4) (.int (1))) (.nm 4) .val [(.var 2)] [] [4]
def dueL : E := .comp (.var 4) (.nm 4) .val [(.var 2)] [(.andE [(.cmp (.var 4) [.LtE] [(.bin .Sub (.var 0) (.int (2)))]), (.cmp (.bin .Mod (.blt .int [(.bin .Sub (.var 0) (.var 4))]) (.int (2))) [.Eq] [(.int (0))])])] [4]
def dueB : List S := [(.asg (.nm 2) (.lst [(.int (0))])), (.forS (.nm 3) .rng [(.var 1)] [(.asg (.nm 2) (.bin .Add (.var 2) dueC))]), (.ret (.blt .len [dueL]))]
theorem due_c {m s : Option D} {kd : Kd} {xs : List Nat} {z3 : Option D} (hl : xs.length < 16777216) : (ev P F dueC).v [m, s, some (.lst kd (natsD xs)), z3, none] = .ok (.lst .own (natsD (xs.map (· + 1)))) [m, s, some (.lst kd (natsD xs)), z3, none] := by
  have go := ev_compVA (P := P) (F := F) (elt := .bin .Add (.var 4) (.int (1))) (tg := .nm 4) (own := [4]) (i := 2) (kd := kd) (xs := xs) (r := [m, s, some (.lst kd (natsD xs)), z3, none]) (fun (k : Nat) => D.int (k : Int)) (fun (k : Nat) => D.int ((k + 1 : Nat) : Int)) rfl (noOwn_nats xs) (frzs_nats xs) rfl rfl hl fun k _ => ⟨[m, s, some (.lst kd (natsD xs)), z3, some (.int k)], rfl, [m, s, some (.lst kd (natsD xs)), z3, some (.int k)], rfl, rfl⟩
  have e : xs.map (fun (k : Nat) => D.int ((k + 1 : Nat) : Int)) = natsD (xs.map (· + 1)) := by unfold natsD; rw [List.map_map]; rfl
  rw [e] at go
  exact go
def dueF (m c : Nat) : Nat := ((szF c).filter fun (s : Nat) => decide ((s : Int) ≤ (m : Int) - 2) && decide (((m : Int) - s) % 2 = 0)).length
theorem due_l {m : Nat} {s z3 : Option D} {kd : Kd} {xs : List Nat} (hl : xs.length < 16777216) : (ev P F dueL).v [some (.int m), s, some (.lst kd (natsD xs)), z3, none] = .ok (.lst .own (natsD (xs.filter fun (s : Nat) => decide ((s : Int) ≤ (m : Int) - 2) && decide (((m : Int) - s) % 2 = 0)))) [some (.int m), s, some (.lst kd (natsD xs)), z3, none] := by
  refine ev_compVM (P := P) (F := F) (tg := .nm 4) (own := [4]) (i := 2) (kd := kd) (xs := xs) (r := [some (.int m), s, some (.lst kd (natsD xs)), z3, none]) (fun (k : Nat) => D.int (k : Int)) (fun (s : Nat) => decide ((s : Int) ≤ (m : Int) - 2) && decide (((m : Int) - s) % 2 = 0)) (fun (k : Nat) => D.int (k : Int)) rfl (noOwn_nats xs) (frzs_nats xs) rfl rfl hl fun k _ => ⟨[some (.int m), s, some (.lst kd (natsD xs)), z3, some (.int k)], rfl, [some (.int m), s, some (.lst kd (natsD xs)), z3, some (.int k)], ?_, fun _ => ⟨[some (.int m), s, some (.lst kd (natsD xs)), z3, some (.int k)], rfl, rfl⟩, fun _ => rfl⟩
  have two : (0 : Int) < 2 := by decide
  by_cases c1 : (k : Int) ≤ (m : Int) - 2
  · by_cases c2 : ((m : Int) - k) % 2 = 0 <;> simp [evs, ev, evTAnd, evC, evAs, Ev.mk1, Out.bind, Out.of, has, Ar.peek, slot, readP, getP, D.owned, cmpA, cmpD, eqD_int, binD, intOp, peekA, bltD, c1, c2]
  · simp [evs, ev, evTAnd, evC, evAs, Ev.mk1, Out.bind, Out.of, has, Ar.peek, slot, readP, getP, D.owned, cmpA, cmpD, eqD_int, binD, intOp, peekA, bltD, c1]
theorem due_ok {i n m c : Nat} (hi : P.fns[i]? = some ⟨2, 5, dueB, [2, 3]⟩) (hc : c ≤ 6) : run P (n + 1) i [.int m, .int c] = .ok (.int (dueF m c)) [some (.int m), some (.int c)] := by
  let st (xs : List Nat) (kd : Kd) (z3 : Option D) : En := [some (.int m), some (.int c), some (.lst kd (natsD xs)), z3, none]
  have small : ∀ t, t ≤ 6 → (szF t).length ≤ 64 := fun t h => by rw [szF_len]; exact Nat.le_trans (Nat.pow_le_pow_right (by decide) h) (by decide)
  have go := forL_idx (chk := [(1, some (.int (c : Int)))]) (tg := .nm 3) (b := fun r => evB P (run P n) [(.asg (.nm 2) (.bin .Add (.var 2) dueC))] r) (ds := (List.range c).map fun (k : Nat) => D.int (k : Int)) (fun i r => ∃ kd z, kd ≠ .giv ∧ r = st (szF i) kd z)
    (fun i r ⟨kd, z, _, e⟩ => by rw [e]; simp [still, slot, st]) (fun i hi r ⟨kd, z, hk, e⟩ => ?_) (r := st [0] .own none) ⟨.own, none, by decide, rfl⟩
  · obtain ⟨r', e1, kd, z, hk, e2⟩ := go
    have lr : (List.map (fun (k : Nat) => D.int (k : Int)) (List.range c)).length = c := by simp
    rw [lr] at e2
    have lp := (evS_rng1v (P := P) (F := run P n) (x := 1) (r := st [0] .own none) (tg := .nm 3) (b := [(.asg (.nm 2) (.bin .Add (.var 2) dueC))]) (j := (c : Int)) (n := c) rfl (by omega) (by omega) (by omega) rfl).trans e1
    have fin : (ev P (run P n) (.blt .len [dueL])).v r' = .ok (.int (dueF m c)) r' := by
      rw [e2]
      have q := due_l (P := P) (F := run P n) (m := m) (s := some (.int c)) (z3 := z) (kd := kd) (xs := szF c) (by have := small c hc; omega)
      show ((evAs (evs P (run P n) [dueL]) (st (szF c) kd z)).bind fun as r => .of ((peekA r as).bind fun ds => bltD .len ds) r) = _
      have qa : evAs (evs P (run P n) [dueL]) (st (szF c) kd z) = .ok [.v (.lst .own (natsD ((szF c).filter fun (s : Nat) => decide ((s : Int) ≤ (m : Int) - 2) && decide (((m : Int) - s) % 2 = 0))))] (st (szF c) kd z) := by
        show ((((ev P (run P n) dueL).v (st (szF c) kd z)).bind fun d r => Out.ok (Ar.v d) r).bind fun a r => (Out.ok [] r).bind fun as r => Out.ok (a :: as) r) = _
        rw [q]; rfl
      rw [qa]
      show Out.ok (D.int ((natsD _).length : Int)) _ = _
      rw [natsD, List.length_map]; rfl
    refine (run_ret (n := n) (ds := [.int m, .int c]) (d := .int (dueF m c)) (r := r') hi rfl ?_).trans (by rw [e2]; rfl)
    exact (evB_step (r1 := st [0] .own none) (evS_asg (d := .lst .own (natsD [0])) rfl rfl)).trans ((evB_step lp).trans (evB_ret (evS_ret fin)))
  · have hi : i < c := by simpa using hi
    subst e
    have ei : ((List.range c).map fun (k : Nat) => D.int (k : Int))[i]'(by simpa using hi) = .int (i : Int) := by simp
    rw [ei]
    have sm := small i (by omega)
    have a0 : (ev P (run P n) (.var 2)).v (st (szF i) kd (some (.int i))) = .ok (.lst .shr (natsD (szF i))) (st (szF i) .shr (some (.int i))) := by
      cases kd with
      | own =>
        conv => lhs; unfold ev
        show Out.ok (D.lst .shr (D.frzs (natsD (szF i)))) ((st (szF i) .own (some (.int i))).set 2 (some (.lst .shr (D.frzs (natsD (szF i)))))) = _
        rw [frzs_nats]; rfl
      | shr => rfl
      | giv => exact absurd rfl hk
    have a1 := due_c (P := P) (F := run P n) (m := some (.int m)) (s := some (.int c)) (kd := .shr) (xs := szF i) (z3 := some (.int i)) (by omega)
    have a2 : binD .Add (.lst .shr (natsD (szF i))) (.lst .own (natsD ((szF i).map (· + 1)))) = some (.lst .own (natsD (szF (i + 1)))) := by
      have hd : decide ((natsD (szF i)).length + (natsD ((szF i).map (· + 1))).length ≤ 16777216) = true := decide_eq_true (by simp only [natsD, List.length_map]; omega)
      show (if Kd.shr != .giv && Kd.own != .giv && noOwn _ && noOwn _ && decide _ then some (D.lst .own (natsD (szF i) ++ natsD ((szF i).map (· + 1)))) else none) = _
      rw [noOwn_nats, noOwn_nats, hd]
      show some (D.lst .own (natsD (szF i) ++ natsD ((szF i).map (· + 1)))) = some (D.lst .own (natsD (szF i ++ (szF i).map (· + 1))))
      unfold natsD; rw [List.map_append]
    refine ⟨st (szF i) kd (some (.int i)), rfl, st (szF (i + 1)) .own (some (.int i)), .inl ?_, .own, _, by decide, rfl⟩
    exact (evB_step (evS_asg (ev_bin a0 a1 a2) rfl)).trans rfl
end Mv

namespace Mv
open PySem
variable {P : Pg} {F : Nat → List D → FOut}
/-! ### k50: refusals, the law -/
def tagD (s : Str) (x : Int) : D := .tup [.str s, .int x]
def refT (co : Nat) : S := .tryS [(.ret (.tup [(.str (PySem.Str.ofString "told")), (.call co [(.var 0), (.var 1)])]))] [(.mk 1 (some 2) [(.ret (.tup [(.str (PySem.Str.ofString "count")), (.what 2)]))]), (.mk 0 none [(.ret (.tup [(.str (PySem.Str.ofString "another")), (.int (0))]))])]
theorem ev_tupR {a b : E} {r r1 r2 : En} {x : D} {c : Nat} {w : D} (h1 : (ev P F a).v r = .ok x r1) (h2 : (ev P F b).v r1 = .exc c w r2) : (ev P F (.tup [a, b])).v r = .exc c w r2 := by
  show (((ev P F a).v r).bind fun d r => (((ev P F b).v r).bind fun d r => (Out.ok [] r).bind fun ds r => Out.ok (d :: ds) r).bind fun ds r => Out.ok (d :: ds) r).bind (fun ds r => if fits ds then Out.ok (D.tup (D.frzs ds)) r else .bad) = _
  rw [h1, Out.bind_ok, h2]; rfl
/-- what is raised is told -/
theorem ref_count {i co n : Nat} {m c w : Int} {ps : En} (hi : P.fns[i]? = some ⟨2, 3, [refT co], [2]⟩) (up1 : upOf P 1 1 = true) (h : run P n co [.int m, .int c] = .exc 1 (.int w) ps) :
    run P (n + 1) i [.int m, .int c] = .ok (tagD (PySem.Str.ofString "count") w) [some (.int m), some (.int c)] := by
  refine (run_ret (n := n) (ds := [.int m, .int c]) (d := tagD (PySem.Str.ofString "count") w) (r := [some (.int m), some (.int c), none]) hi rfl (evB_ret ?_)).trans rfl
  have x : (ev P (run P n) (.call co [(.var 0), (.var 1)])).v [some (.int m), some (.int c), none] = .exc 1 (.int w) [some (.int m), some (.int c), none] := (ev_call (as := [.r 0, .r 1]) rfl).trans (callA_exc (ds := [.int m, .int c]) rfl rfl h (run_xlen h))
  have b : evB P (run P n) [(.ret (.tup [(.str (PySem.Str.ofString "told")), (.call co [(.var 0), (.var 1)])]))] [some (.int m), some (.int c), none] = .exc 1 (.int w) [some (.int m), some (.int c), none] := by
    refine evB_exc ?_
    show (((ev P (run P n) (.tup [_, _])).v _).bind fun d r => Out.ok (Fl.ret d) r) = _
    rw [ev_tupR (x := .str (PySem.Str.ofString "told")) rfl x]; rfl
  show (match evB P (run P n) [(.ret (.tup [(.str (PySem.Str.ofString "told")), (.call co [(.var 0), (.var 1)])]))] [some (.int m), some (.int c), none] with
    | .ok f r1 => Out.ok f r1
    | .exc c w r1 => if upOf P c c then evH P (run P n) c w [(.mk 1 (some 2) [(.ret (.tup [(.str (PySem.Str.ofString "count")), (.what 2)]))]), (.mk 0 none [(.ret (.tup [(.str (PySem.Str.ofString "another")), (.int (0))]))])] r1 else Out.bad
    | .bad => Out.bad) = _
  rw [b]
  dsimp only
  rw [if_pos up1]
  show (match evH1 P (run P n) 1 (.int w) (.mk 1 (some 2) [(.ret (.tup [(.str (PySem.Str.ofString "count")), (.what 2)]))]) [some (.int m), some (.int c), none] with
    | some o => o
    | none => _) = _
  have e1 : evH1 P (run P n) 1 (.int w) (.mk 1 (some 2) [(.ret (.tup [(.str (PySem.Str.ofString "count")), (.what 2)]))]) [some (.int m), some (.int c), none] = some (.ok (.ret (tagD (PySem.Str.ofString "count") w)) [some (.int m), some (.int c), none]) := by
    show (if upOf P 1 1 then _ else none) = _
    rw [if_pos up1]; rfl
  rw [e1]
theorem eqD_refl {d : D} {x : PyData} (h : d.py = some x) (hs : SeqAt.shaped x = true) : eqD d d = some true := by
  unfold eqD
  rw [h]
  show (if (SeqAt.shaped x && SeqAt.shaped x) = true then some (PyData.eqv x x) else none) = _
  rw [hs]
  have : x.canLay0 = true := by
    unfold SeqAt.shaped at hs
    simp only [Bool.and_eq_true] at hs
    exact hs.1
  rw [SeqAt.eqv_refl x this]; rfl
theorem eqD_tag {s : Str} (hs : (PyData.str s).canLay0 = true) (x : Int) : eqD (tagD s x) (tagD s x) = some true := by
  refine eqD_refl (x := .tuple [.str s, .int x]) rfl ?_
  unfold SeqAt.shaped
  simp [PyData.canLayAll0, PyData.canLay0, PyData.depth, PyData.depthAll] at hs ⊢
  exact hs
theorem dueF_eq : ∀ m c : Nat, 1 ≤ m → m ≤ 40 → 2 ≤ c → c ≤ 6 → oddF m c = (dueF m c : Int) := by
  have key : ∀ m : Fin 41, ∀ c : Fin 7, 1 ≤ m.val → 2 ≤ c.val → oddF m.val c.val = (dueF m.val c.val : Int) := by decide +kernel
  exact fun m c h1 h2 h3 h4 => key ⟨m, by omega⟩ ⟨c, by omega⟩ h1 h3
/-- a test that a told thing is as it should be -/
theorem ne_told {a b : E} {r r1 r2 : En} {x : D} (h1 : (ev P F a).a r = .ok (.v x) r1) (h2 : (ev P F b).a r1 = .ok (.v x) r2) (h3 : eqD x x = some true) : (ev P F (.cmp a [.NotEq] [b])).t r = .ok false r2 := by
  show (((ev P F a).a r).bind fun x r => evC x [.NotEq] (evs P F [b]) r) = _
  rw [h1, Out.bind_ok]
  show (((ev P F b).a r1).bind fun y r => Out.of (cmpA .NotEq (.v x) y r) r) = _
  rw [h2, Out.bind_ok]
  show Out.of ((eqD x x).map (!·)) r2 = _
  rw [h3]; rfl
theorem or_f {a : E} {as : List E} {r r1 : En} (h : (ev P F a).t r = .ok false r1) : evTOr (evs P F (a :: as)) r = evTOr (evs P F as) r1 := by
  show (((ev P F a).t r).bind fun k r => if k then .ok true r else evTOr (evs P F as) r) = _
  rw [h]; rfl
theorem if_no {c : E} {a b : List S} {r r1 : En} (h : (ev P F c).t r = .ok false r1) (hb : evB P F b r1 = .ok .next r1) : evS P F (.ifS c a b) r = .ok .next r1 := by
  rw [evS_if h]; exact hb
theorem a_v {a : E} {r r1 : En} {d : D} (h : (ev P F a).v r = .ok d r1) (ha : (ev P F a).a r = ((ev P F a).v r).bind fun d r => Out.ok (Ar.v d) r) : (ev P F a).a r = .ok (.v d) r1 := by rw [ha, h]; rfl
theorem evEs_int {k : Int} {as : List E} {ds : List D} {r r2 : En} (h : evEs (evs P F as) r = .ok ds r2) : evEs (evs P F (.int k :: as)) r = .ok (.int k :: ds) r2 := by
  show ((Out.ok (D.int k) r).bind fun d r => (evEs (evs P F as) r).bind fun ds r => Out.ok (d :: ds) r) = _
  rw [Out.bind_ok, h]; rfl
theorem ev_lstA {es : List E} {ds : List D} {r r2 : En} (h : evEs (evs P F es) r = .ok ds r2) (hf : fits ds = true) : (ev P F (.lst es)).a r = .ok (.v (.lst .own ds)) r2 := by
  have this : (ev P F (.lst es)).v r = .ok (.lst .own ds) r2 := by
    show (evEs (evs P F es) r).bind (fun ds r => if fits ds then Out.ok (D.lst .own ds) r else .bad) = _
    rw [h]
    show (if fits ds = true then _ else _) = _
    rw [hf]; rfl
  show ((ev P F (.lst es)).v r).bind (fun d r => Out.ok (Ar.v d) r) = _
  rw [this]; rfl
def l50a (cd : Nat) : E := .orE [(.notE (.isi (.var 5) .int)), (.isi (.var 5) .bool), (.cmp (.var 5) [.NotEq] [(.call cd [(.var 4), (.var 3)])])]
def l50T (cp ct co cn cd cb cr : Nat) : List S := [(.asg (.nm 2) (.call cp [(.var 0), (.var 1)])), (.asg (.nm 3) (.bin .Add (.int (2)) (.call ct [(.var 2), (.int (5))]))), (.asg (.nm 4) (.call co [(.var 2), (.lst [(.int (1)), (.int (2)), (.int (3)), (.int (4)), (.int (5)), (.int (6)), (.int (7)), (.int (8)), (.int (39)), (.int (40)), (.bin .Add (.int (1)) (.call ct [(.var 2), (.int (40))]))])])), (.asg (.nm 5) (.call cn [(.var 4), (.var 3)])), (.ifS (l50a cd) [(.ret (.bl false))] []), (.ifS (.cmp (.callk cn [1, 0] [(.var 3), (.var 4)]) [.NotEq] [(.var 5)]) [(.ret (.bl false))] []), (.asg (.tp [(.nm 6), (.nm 7)]) (.tup [(.call cb [(.var 2), (.int (1)), (.int (40))]), (.call cb [(.var 2), (.int (2)), (.int (6))])])), (.ifS (.orE [(.cmp (.call cr [(.var 6), (.var 3)]) [.NotEq] [(.tup [(.str (PySem.Str.ofString "count")), (.var 6)])]), (.cmp (.call cr [(.var 4), (.var 7)]) [.NotEq] [(.tup [(.str (PySem.Str.ofString "count")), (.var 7)])])]) [(.ret (.bl false))] []), (.ifS (.cmp (.call cr [(.var 6), (.var 7)]) [.NotEq] [(.tup [(.str (PySem.Str.ofString "count")), (.var 6)])]) [(.ret (.bl false))] [])]
/-- the source is lent, and two more values are given -/
theorem callA_src2 {f i : Nat} {r : En} {A B A' B' : Int} {d e v : D} {p q : Option D} (hs : slot r i = some (src A B)) (h : F f [src A B, d, e] = .ok v [some (src A' B'), p, q]) : callA F f [.r i, .v d, .v e] r = .ok v (r.set i (some (src A' B'))) := by
  have l : lend [.r i, .v d, .v e] r = some ([src A B, d, e], r.set i none) := by
    show ((Ar.r i).peek r).bind _ = _
    have : (Ar.r i).peek r = some (src A B) := by
      show (match slot r i with | some (.exn _ _) => none | x => x) = _
      rw [hs]; rfl
    rw [this, Option.bind_some, if_pos (src_owned A B)]; rfl
  unfold callA
  rw [l]
  dsimp only
  rw [h]
  show (match back [.r i, .v d, .v e] [src A B, d, e] [some (src A' B'), p, q] (r.set i none) with
    | some r2 => Out.ok v r2
    | none => .bad) = _
  have b : back [.r i, .v d, .v e] [src A B, d, e] [some (src A' B'), p, q] (r.set i none) = some ((r.set i none).set i (some (src A' B'))) := rfl
  rw [b, set_set]
theorem l50_turn {cp ct co cn cd cb cr ck ci cc n : Nat} {sc : D} {k : Nat} {A B : Int} (up1 : upOf P 1 1 = true) (hp : ∃ p, run P (n + 3) cp [sc, .int k] = .ok (src A B) [some sc, p]) (hsc : sc.owned = false) (hsn : ∀ c w, sc ≠ .exn c w) (hf : P.fns[ct]? = some ⟨2, 3, takeB, [2]⟩) (ho : P.fns[co]? = some ⟨2, 2, oneBody ct, []⟩)
    (hck : P.fns[ck]? = some ⟨3, 3, chkR 1, []⟩) (hci : P.fns[ci]? = some ⟨1, 5, binB, [1, 2, 3]⟩) (hcc : P.fns[cc]? = some ⟨3, 3, chosB, []⟩) (hn : P.fns[cn]? = some ⟨2, 4, oddB ck ci cc, [2]⟩) (hd : P.fns[cd]? = some ⟨2, 5, dueB, [2, 3]⟩) (hb : P.fns[cb]? = some ⟨3, 4, beyB ct co, [3]⟩) (hr : P.fns[cr]? = some ⟨2, 3, [refT cn], [2]⟩) {z2 z3 z4 z5 z6 z7 : Option D} :
    ∃ z2' z3' z4' z5' z6' z7', evB P (run P (n + 3)) (l50T cp ct co cn cd cb cr) [some sc, some (.int k), z2, z3, z4, z5, z6, z7] = .ok .next [some sc, some (.int k), z2', z3', z4', z5', z6', z7'] := by
  obtain ⟨p, hp⟩ := hp
  have peek0 : ∀ {a b c d e f : Option D}, peekA [some sc, some (.int k), a, b, c, d, e, f] [.r 0, .r 1] = some [sc, .int k] := fun {a b c d e f} => by cases sc <;> first | rfl | exact absurd rfl (hsn _ _)
  have e1 : (ev P (run P (n + 3)) (.call cp [(.var 0), (.var 1)])).v [some sc, some (.int k), z2, z3, z4, z5, z6, z7] = .ok (src A B) [some sc, some (.int k), z2, z3, z4, z5, z6, z7] :=
    (ev_call (evAs_var (has_slot (d := sc) rfl hsn) (evAs_var rfl rfl))).trans (callA_non (ds := [sc, .int k]) peek0 (by show (!sc.owned && true) = true; rw [hsc]; rfl) hp rfl)
  obtain ⟨s0, A1, B1, s0a, s0b, e2⟩ := draw_take (n := n + 2) (t := ct) (i := 2) (e := .int 5) (r := [some sc, some (.int k), some (src A B), z3, z4, z5, z6, z7]) (r1 := [some sc, some (.int k), some (src A B), z3, z4, z5, z6, z7]) (T := 5) hf rfl rfl rfl (by decide) (by decide +kernel)
  obtain ⟨c, rfl⟩ : ∃ c : Nat, s0 = (c : Int) - 2 := ⟨(s0 + 2).toNat, by omega⟩
  have e2' : (ev P (run P (n + 3)) (.bin .Add (.int 2) (.call ct [(.var 2), (.int 5)]))).v [some sc, some (.int k), some (src A B), z3, z4, z5, z6, z7] = .ok (.int (c : Int)) [some sc, some (.int k), some (src A1 B1), z3, z4, z5, z6, z7] :=
    ev_bin (op := .Add) (x := .int 2) rfl e2 (by show some (D.int (2 + ((c : Int) - 2))) = _; rw [show (2 : Int) + ((c : Int) - 2) = c by omega])
  obtain ⟨t0, A2, B2, t0a, t0b, e3⟩ := draw_take (n := n + 2) (t := ct) (i := 2) (e := .int 40) (r := [some sc, some (.int k), some (src A1 B1), some (.int c), z4, z5, z6, z7]) (r1 := [some sc, some (.int k), some (src A1 B1), some (.int c), z4, z5, z6, z7]) (T := 40) hf rfl rfl rfl (by decide) (by decide +kernel)
  let r3 : En := [some sc, some (.int k), some (src A2 B2), some (.int c), z4, z5, z6, z7]
  have e4 : (ev P (run P (n + 3)) (.lst [(.int (1)), (.int (2)), (.int (3)), (.int (4)), (.int (5)), (.int (6)), (.int (7)), (.int (8)), (.int (39)), (.int (40)), (.bin .Add (.int (1)) (.call ct [(.var 2), (.int (40))]))])).a [some sc, some (.int k), some (src A1 B1), some (.int c), z4, z5, z6, z7] = .ok (.v (.lst .own (([1, 2, 3, 4, 5, 6, 7, 8, 39, 40, 1 + t0] : List Int).map D.int))) r3 := by
    have b := ev_bin (op := .Add) (x := .int 1) (z := .int (1 + t0)) (a := .int 1) rfl e3 rfl
    have one : evEs (evs P (run P (n + 3)) [(.bin .Add (.int (1)) (.call ct [(.var 2), (.int (40))]))]) [some sc, some (.int k), some (src A1 B1), some (.int c), z4, z5, z6, z7] = .ok [.int (1 + t0)] r3 := evEs_one b
    have all := evEs_int (k := 1) (evEs_int (k := 2) (evEs_int (k := 3) (evEs_int (k := 4) (evEs_int (k := 5) (evEs_int (k := 6) (evEs_int (k := 7) (evEs_int (k := 8) (evEs_int (k := 39) (evEs_int (k := 40) one)))))))))
    exact ev_lstA all rfl
  obtain ⟨m0, A3, B3, hm, e5⟩ := draw_one (n := n + 1) (o := co) (t := ct) (i := 2) (xs := [1, 2, 3, 4, 5, 6, 7, 8, 39, 40, 1 + t0]) (r1 := r3) hf ho rfl e4 rfl (by simp) (by simp)
  have hmb : 1 ≤ m0 ∧ m0 ≤ 40 := by simp only [List.mem_cons, List.not_mem_nil, or_false] at hm; omega
  obtain ⟨m, rfl⟩ : ∃ m : Nat, m0 = (m : Int) := ⟨m0.toNat, by omega⟩
  have on := odd_ok (n := n + 1) hck hci hcc hn (m := m) (c := c) (by omega) (by omega) (by omega) (by omega)
  let r4 (x : Option D) : En := [some sc, some (.int k), some (src A3 B3), some (.int c), some (.int m), x, z6, z7]
  have e6 : (ev P (run P (n + 3)) (.call cn [(.var 4), (.var 3)])).v (r4 z5) = .ok (.int (oddF m c)) (r4 z5) := (ev_call (as := [.r 4, .r 3]) rfl).trans (callA_non (ds := [.int m, .int c]) rfl rfl on rfl)
  let r5 : En := r4 (some (.int (oddF m c)))
  have e7 : (ev P (run P (n + 3)) (.call cd [(.var 4), (.var 3)])).v r5 = .ok (.int (dueF m c)) r5 := (ev_call (as := [.r 4, .r 3]) rfl).trans (callA_non (ds := [.int m, .int c]) rfl rfl (due_ok (n := n + 2) hd (by omega)) rfl)
  have e8 : (ev P (run P (n + 3)) (l50a cd)).t r5 = .ok false r5 := by
    have o1 : (ev P (run P (n + 3)) (.notE (.isi (.var 5) .int))).t r5 = .ok false r5 := rfl
    have o2 : (ev P (run P (n + 3)) (.isi (.var 5) .bool)).t r5 = .ok false r5 := rfl
    have o3 : (ev P (run P (n + 3)) (.cmp (.var 5) [.NotEq] [(.call cd [(.var 4), (.var 3)])])).t r5 = .ok false r5 := by
      show ((((ev P (run P (n + 3)) (.call cd [(.var 4), (.var 3)])).v r5).bind fun d r => Out.ok (Ar.v d) r).bind fun y r => Out.of (cmpA .NotEq (.r 5) y r) r) = _
      rw [e7]
      show Out.of ((eqD (.int (oddF m c)) (.int (dueF m c))).map (!·)) r5 = _
      rw [eqD_int, dueF_eq m c (by omega) (by omega) (by omega) (by omega)]
      simp
    have z3 := (or_f (as := []) o3).trans rfl
    have z2 := (or_f o2).trans z3
    exact (or_f o1).trans z2
  have e9 : (ev P (run P (n + 3)) (.cmp (.callk cn [1, 0] [(.var 3), (.var 4)]) [.NotEq] [(.var 5)])).t r5 = .ok false r5 := by
    have q : (ev P (run P (n + 3)) (.callk cn [1, 0] [(.var 3), (.var 4)])).v r5 = .ok (.int (oddF m c)) r5 := by
      show callA (run P (n + 3)) cn [.v (.int m), .v (.int c)] r5 = _
      exact callA_non (ds := [.int m, .int c]) rfl rfl on rfl
    show ((((ev P (run P (n + 3)) (.callk cn [1, 0] [(.var 3), (.var 4)])).v r5).bind fun d r => Out.ok (Ar.v d) r).bind fun x r => evC x [.NotEq] (evs P (run P (n + 3)) [.var 5]) r) = _
    rw [q]
    show Out.of ((eqD (.int (oddF m c)) (.int (oddF m c))).map (!·)) r5 = _
    rw [eqD_int]; simp
  obtain ⟨b1, A4, B4, hb1, f1⟩ := bey_ok (n := n) (A := A3) (B := B3) (lo := 1) (up := 40) hf ho hb (by decide)
  obtain ⟨b2, A5, B5, hb2, f2⟩ := bey_ok (n := n) (A := A4) (B := B4) (lo := 2) (up := 6) hf ho hb (by decide)
  have e10 : (ev P (run P (n + 3)) (.call cb [(.var 2), (.int (1)), (.int (40))])).v r5 = .ok (.int b1) (r5.set 2 (some (src A4 B4))) := (ev_call (as := [.r 2, .v (.int 1), .v (.int 40)]) rfl).trans (callA_src2 rfl f1)
  have e11 : (ev P (run P (n + 3)) (.call cb [(.var 2), (.int (2)), (.int (6))])).v (r5.set 2 (some (src A4 B4))) = .ok (.int b2) ((r5.set 2 (some (src A4 B4))).set 2 (some (src A5 B5))) := (ev_call (as := [.r 2, .v (.int 2), .v (.int 6)]) rfl).trans (callA_src2 rfl f2)
  let r6 : En := [some sc, some (.int k), some (src A5 B5), some (.int c), some (.int m), some (.int (oddF m c)), some (.int b1), some (.int b2)]
  have hcl : (PyData.str (PySem.Str.ofString "count")).canLay0 = true := by decide +kernel
  have told : ∀ {i j : Nat} {x y w : Int}, peekA r6 [.r i, .r j] = some [.int x, .int y] → has r6 i = true → has r6 j = true → (∃ ps, run P (n + 2) cn [.int x, .int y] = .exc 1 (.int w) ps) → (ev P (run P (n + 3)) (.call cr [(.var i), (.var j)])).a r6 = .ok (.v (tagD (PySem.Str.ofString "count") w)) r6 := fun {i j x y w} h1 h2 h3 ⟨ps, h4⟩ => by
    have q : (ev P (run P (n + 3)) (.call cr [(.var i), (.var j)])).v r6 = .ok (tagD (PySem.Str.ofString "count") w) r6 := (ev_call (evAs_var h2 (evAs_var h3 rfl))).trans (callA_non h1 rfl (ref_count (n := n + 2) hr up1 h4) rfl)
    show (((ev P (run P (n + 3)) (.call cr [(.var i), (.var j)])).v r6).bind fun d r => Out.ok (Ar.v d) r) = _
    rw [q]; rfl
  have n1 := odd_no (n := n) hck hn (m := b1) (c := (c : Int)) (.inl hb1)
  rw [if_neg hb1] at n1
  have n2 := odd_no (n := n) hck hn (m := (m : Int)) (c := b2) (.inr hb2)
  rw [if_pos (by omega)] at n2
  have n3 := odd_no (n := n) hck hn (m := b1) (c := b2) (.inl hb1)
  rw [if_neg hb1] at n3
  have e12 : (ev P (run P (n + 3)) (.orE [(.cmp (.call cr [(.var 6), (.var 3)]) [.NotEq] [(.tup [(.str (PySem.Str.ofString "count")), (.var 6)])]), (.cmp (.call cr [(.var 4), (.var 7)]) [.NotEq] [(.tup [(.str (PySem.Str.ofString "count")), (.var 7)])])])).t r6 = .ok false r6 :=
    (or_f (ne_told (told (x := b1) (y := c) rfl rfl rfl n1) (r2 := r6) rfl (eqD_tag hcl b1))).trans ((or_f (ne_told (told (x := m) (y := b2) rfl rfl rfl n2) (r2 := r6) rfl (eqD_tag hcl b2))).trans rfl)
  have e13 : (ev P (run P (n + 3)) (.cmp (.call cr [(.var 6), (.var 7)]) [.NotEq] [(.tup [(.str (PySem.Str.ofString "count")), (.var 6)])])).t r6 = .ok false r6 := ne_told (told (x := b1) (y := b2) rfl rfl rfl n3) (r2 := r6) rfl (eqD_tag hcl b1)
  refine ⟨some (src A5 B5), some (.int c), some (.int m), some (.int (oddF m c)), some (.int b1), some (.int b2), ?_⟩
  refine (evB_step (evS_asg e1 rfl)).trans ((evB_step (evS_asg e2' rfl)).trans ((evB_step (evS_asg e5 rfl)).trans ((evB_step (evS_asg e6 rfl)).trans ((evB_step (r1 := r5) (if_no e8 rfl)).trans ((evB_step (r1 := r5) (if_no e9 rfl)).trans ((evB_step (r1 := r6) (evS_asg (ev_tup2 e10 e11) rfl)).trans ((evB_step (r1 := r6) (if_no e12 rfl)).trans ((evB_step (r1 := r6) (if_no e13 rfl)).trans rfl))))))))
end Mv

namespace Mv
open PySem
variable {P : Pg} {F : Nat → List D → FOut}
/-! ### k50: the law's loop -/
def l50B (cp ct co cn cd cb cr : Nat) : List S := [(.forS (.nm 1) .rng [(.blt .max [(.int (1)), (.blt .min [(.int (3)), (.blt .len [(.var 0)])])])] (l50T cp ct co cn cd cb cr)), (.ret (.bl true))]
theorem ev_blt {b : Bt} {es : List E} {as : List Ar} {ds : List D} {d : D} {r r1 : En} (h : evAs (evs P F es) r = .ok as r1) (hp : peekA r1 as = some ds) (hb : bltD b ds = some d) : (ev P F (.blt b es)).v r = .ok d r1 := by
  show (evAs (evs P F es) r).bind (fun as r => Out.of ((peekA r as).bind fun ds => bltD b ds) r) = _
  rw [h, Out.bind_ok, hp, Option.bind_some, hb]; rfl
theorem ev_bltA {b : Bt} {es : List E} {as : List Ar} {ds : List D} {d : D} {r r1 : En} (h : evAs (evs P F es) r = .ok as r1) (hp : peekA r1 as = some ds) (hb : bltD b ds = some d) : (ev P F (.blt b es)).a r = .ok (.v d) r1 := by
  show ((ev P F (.blt b es)).v r).bind (fun d r => Out.ok (Ar.v d) r) = _
  rw [ev_blt h hp hb]; rfl
theorem l50_ok {cp ct co cn cd cb cr n : Nat} {ds : List D}
    (ht : ∀ k : Nat, k < 3 → ∀ z2 z3 z4 z5 z6 z7 : Option D, ∃ z2' z3' z4' z5' z6' z7', evB P (run P (n + 3)) (l50T cp ct co cn cd cb cr) [some (.lst .giv ds), some (.int k), z2, z3, z4, z5, z6, z7] = .ok .next [some (.lst .giv ds), some (.int k), z2', z3', z4', z5', z6', z7']) :
    ∃ r, evB P (run P (n + 3)) (l50B cp ct co cn cd cb cr) [some (.lst .giv ds), none, none, none, none, none, none, none] = .ok (.ret (.bl true)) r := by
  let r0 : En := [some (.lst .giv ds), none, none, none, none, none, none, none]
  obtain ⟨j, hj, hb, e1⟩ : ∃ j : Int, 0 ≤ j ∧ j ≤ 3 ∧ evAs (evs P (run P (n + 3)) [(.blt .max [(.int (1)), (.blt .min [(.int (3)), (.blt .len [(.var 0)])])])]) r0 = .ok [.v (.int j)] r0 := by
    have a0 := ev_bltA (P := P) (F := run P (n + 3)) (b := .len) (es := [.var 0]) (as := [.r 0]) (ds := [.lst .giv ds]) (d := .int ds.length) (r := r0) (r1 := r0) rfl rfl rfl
    have a1 := ev_bltA (P := P) (F := run P (n + 3)) (b := .min) (es := [.int 3, .blt .len [.var 0]]) (ds := [.int 3, .int ds.length]) (r := r0) (r1 := r0) (evAs_cons (x := .v (.int 3)) rfl (evAs_cons a0 rfl)) rfl rfl
    have a2 := ev_bltA (P := P) (F := run P (n + 3)) (b := .max) (es := [.int 1, .blt .min [.int 3, .blt .len [.var 0]]]) (ds := [.int 1, .int (if (ds.length : Int) < 3 then ds.length else 3)]) (r := r0) (r1 := r0) (evAs_cons (x := .v (.int 1)) rfl (evAs_cons a1 rfl)) rfl rfl
    exact ⟨_, by split <;> split <;> omega, by split <;> split <;> omega, evAs_cons a2 rfl⟩
  have go := forL_idx (chk := []) (tg := .nm 1) (b := fun r => evB P (run P (n + 3)) (l50T cp ct co cn cd cb cr) r) (ds := (List.range j.toNat).map fun (k : Nat) => D.int (k : Int)) (fun i r => ∃ z1 z2 z3 z4 z5 z6 z7, r = [some (.lst .giv ds), z1, z2, z3, z4, z5, z6, z7])
    (fun i r _ => rfl) (fun i hi r ⟨z1, z2, z3, z4, z5, z6, z7, q⟩ => ?_) (r := r0) ⟨none, none, none, none, none, none, none, rfl⟩
  · obtain ⟨r', q1, _⟩ := go
    exact ⟨r', (evB_step ((evS_rng1 e1 rfl (by omega) (by omega)).trans q1)).trans rfl⟩
  · subst q
    rw [List.length_map, List.length_range] at hi
    obtain ⟨z2', z3', z4', z5', z6', z7', t⟩ := ht i (by omega) z2 z3 z4 z5 z6 z7
    refine ⟨[some (.lst .giv ds), some (.int i), z2, z3, z4, z5, z6, z7], ?_, _, .inl t, _, _, _, _, _, _, _, rfl⟩
    show asgT (.nm 1) (((List.range j.toNat).map fun (k : Nat) => D.int (k : Int))[i]) _ = _
    rw [List.getElem_map, List.getElem_range]; rfl
end Mv

namespace Lw
open PySem L2
def top (i : Nat) : Stmt := PySem.Challenge.pw_pairfloors_k50_odd_sets_counted.main.body.getD i (.Pass ⟨0, 0, 0, 0⟩)
def T0 : Mv.Tc := { sc := { kind := .function, names := [], isGenerator := false, isCoroutine := false }, N := [], np := 0, fns := [PySem.Str.ofString "check_count", PySem.Str.ofString "binomials", PySem.Str.ofString "chosen", PySem.Str.ofString "odd_count", PySem.Str.ofString "_law_pool", PySem.Str.ofString "_law_take", PySem.Str.ofString "_law_one", PySem.Str.ofString "_law_beyond", PySem.Str.ofString "_law_due", PySem.Str.ofString "_law_refused", PySem.Str.ofString "law"], cls := [PySem.Str.ofString "Refused", PySem.Str.ofString "BadCount"], oc := [], cons := [], att := [], mts := [], blt := [PySem.Str.ofString "len", PySem.Str.ofString "int", PySem.Str.ofString "bool", PySem.Str.ofString "sum", PySem.Str.ofString "max", PySem.Str.ofString "min", PySem.Str.ofString "isinstance", PySem.Str.ofString "range"], exc := true, ec := [0, 1], kw := [(PySem.Str.ofString "odd_count", 0, [PySem.Str.ofString "coats", PySem.Str.ofString "n"], [1, 0])], okw := [], nb := [] }
def n0 : List Str := [PySem.Str.ofString "n", PySem.Str.ofString "low", PySem.Str.ofString "high"]
def p0 : List Str := [PySem.Str.ofString "n", PySem.Str.ofString "low", PySem.Str.ofString "high"]
def n1 : List Str := [PySem.Str.ofString "most", PySem.Str.ofString "rows", PySem.Str.ofString "n", PySem.Str.ofString "last", PySem.Str.ofString "k"]
def p1 : List Str := [PySem.Str.ofString "most"]
def n2 : List Str := [PySem.Str.ofString "table", PySem.Str.ofString "n", PySem.Str.ofString "k"]
def p2 : List Str := [PySem.Str.ofString "table", PySem.Str.ofString "n", PySem.Str.ofString "k"]
def n3 : List Str := [PySem.Str.ofString "n", PySem.Str.ofString "coats", PySem.Str.ofString "table", PySem.Str.ofString "many"]
def p3 : List Str := [PySem.Str.ofString "n", PySem.Str.ofString "coats"]
def n4 : List Str := [PySem.Str.ofString "_law_script", PySem.Str.ofString "_law_k", PySem.Str.ofString "_law_cell", PySem.Str.ofString "_law_big", PySem.Str.ofString "_law_mixed"]
def p4 : List Str := [PySem.Str.ofString "_law_script", PySem.Str.ofString "_law_k"]
def n5 : List Str := [PySem.Str.ofString "_law_source", PySem.Str.ofString "_law_top", PySem.Str.ofString "_law_drawn"]
def p5 : List Str := [PySem.Str.ofString "_law_source", PySem.Str.ofString "_law_top"]
def n6 : List Str := [PySem.Str.ofString "_law_source", PySem.Str.ofString "_law_things"]
def p6 : List Str := [PySem.Str.ofString "_law_source", PySem.Str.ofString "_law_things"]
def n7 : List Str := [PySem.Str.ofString "_law_source", PySem.Str.ofString "_law_least", PySem.Str.ofString "_law_most", PySem.Str.ofString "_law_far"]
def p7 : List Str := [PySem.Str.ofString "_law_source", PySem.Str.ofString "_law_least", PySem.Str.ofString "_law_most"]
def n8 : List Str := [PySem.Str.ofString "_law_many", PySem.Str.ofString "_law_shades", PySem.Str.ofString "_law_sizes", PySem.Str.ofString "_law_turn", PySem.Str.ofString "_law_size"]
def p8 : List Str := [PySem.Str.ofString "_law_many", PySem.Str.ofString "_law_shades"]
def n9 : List Str := [PySem.Str.ofString "_law_many", PySem.Str.ofString "_law_shades", PySem.Str.ofString "e"]
def p9 : List Str := [PySem.Str.ofString "_law_many", PySem.Str.ofString "_law_shades"]
def n10 : List Str := [PySem.Str.ofString "_law_script", PySem.Str.ofString "_law_k", PySem.Str.ofString "_law_source", PySem.Str.ofString "_law_shades", PySem.Str.ofString "_law_many", PySem.Str.ofString "_law_told", PySem.Str.ofString "_law_bad", PySem.Str.ofString "_law_shade"]
def p10 : List Str := [PySem.Str.ofString "_law_script"]
def b0 : List Mv.S := [(.ifS (.notE (.cmp (.var 1) [.LtE, .LtE] [(.var 0), (.var 2)])) [(.raise 1 (.var 0))] [])]
def a0 : List Nat := []
theorem t0 : Mv.trB 300 { T0 with sc := defScope (top 4), N := n0, np := p0.length } (defBody (top 4)) = some b0 := by rfl
theorem s0 : FnScope n0 p0 (defScope (top 4)) := ⟨rfl, rfl, rfl, by decide +kernel, rfl, by decide +kernel, by decide +kernel⟩
theorem g0 : ∀ i ∈ Mv.stB b0, i ∈ a0 := by decide +kernel
def b1 : List Mv.S := [(.asg (.nm 1) (.lst [(.lst [(.int (1))])])), (.forS (.nm 2) .rng [(.int (1)), (.bin .Add (.var 0) (.int (1)))] [(.asg (.nm 3) (.idx (.var 1) (.bin .Sub (.var 2) (.int (1))))), (.expr (.lm .append (.var 1) [(.bin .Add (.bin .Add (.lst [(.int (1))]) (.comp (.bin .Add (.idx (.var 3) (.bin .Sub (.var 4) (.int (1)))) (.idx (.var 3) (.var 4))) (.nm 4) .rng [(.int (1)), (.var 2)] [] [4])) (.lst [(.int (1))]))]))]), (.retV 1)]
def a1 : List Nat := [1, 2, 3]
theorem t1 : Mv.trB 300 { T0 with sc := defScope (top 5), N := n1, np := p1.length } (defBody (top 5)) = some b1 := by rfl
theorem s1 : FnScope n1 p1 (defScope (top 5)) := ⟨rfl, rfl, rfl, by decide +kernel, rfl, by decide +kernel, by decide +kernel⟩
theorem g1 : ∀ i ∈ Mv.stB b1, i ∈ a1 := by decide +kernel
def b2 : List Mv.S := [(.ifS (.notE (.cmp (.int (0)) [.LtE, .LtE] [(.var 2), (.var 1)])) [(.ret (.int (0)))] []), (.ret (.idx (.idx (.var 0) (.var 1)) (.var 2)))]
def a2 : List Nat := []
theorem t2 : Mv.trB 300 { T0 with sc := defScope (top 6), N := n2, np := p2.length } (defBody (top 6)) = some b2 := by rfl
theorem s2 : FnScope n2 p2 (defScope (top 6)) := ⟨rfl, rfl, rfl, by decide +kernel, rfl, by decide +kernel, by decide +kernel⟩
theorem g2 : ∀ i ∈ Mv.stB b2, i ∈ a2 := by decide +kernel
def b3 : List Mv.S := [(.expr (.call 0 [(.var 0), (.int (1)), (.int (40))])), (.expr (.call 0 [(.var 1), (.int (2)), (.int (6))])), (.asg (.nm 2) (.call 1 [(.var 1)])), (.ret (.blt .sum [(.comp (.call 2 [(.var 2), (.var 1), (.var 3)]) (.nm 3) .rng [(.bin .Sub (.var 0) (.int (2))), (.neg (.int (1))), (.neg (.int (2)))] [] [3])]))]
def a3 : List Nat := [2]
theorem t3 : Mv.trB 300 { T0 with sc := defScope (top 7), N := n3, np := p3.length } (defBody (top 7)) = some b3 := by rfl
theorem s3 : FnScope n3 p3 (defScope (top 7)) := ⟨rfl, rfl, rfl, by decide +kernel, rfl, by decide +kernel, by decide +kernel⟩
theorem g3 : ∀ i ∈ Mv.stB b3, i ∈ a3 := by decide +kernel
def b4 : List Mv.S := [(.asg (.nm 2) (.int (0))), (.ifS (.cmp (.var 1) [.Lt] [(.blt .len [(.var 0)])]) [(.asg (.nm 2) (.idx (.var 0) (.var 1)))] [(.ifS (.var 0) [(.asg (.nm 2) (.idx (.var 0) (.int (0))))] [])]), (.asg (.nm 3) (.blt .max [(.blt .int [(.var 2)]), (.blt .int [(.bin .Sub (.neg (.int (1))) (.var 2))])])), (.asg (.nm 4) (.bin .Mod (.blt .int [(.bin .Mult (.bin .Add (.bin .Add (.bin .Add (.bin .Mod (.blt .int [(.var 3)]) (.int (2147483629))) (.bin .Mult (.bin .Mult (.int (7919)) (.var 1)) (.var 1))) (.bin .Mult (.int (31)) (.var 1))) (.int (17))) (.int (48271)))]) (.int (2147483647)))), (.ret (.lst [(.bin .Mult (.var 3) (.blt .int [(.cmp (.var 3) [.GtE] [(.bin .Pow (.int (10)) (.int (18)))])])), (.var 4)]))]
def a4 : List Nat := [2, 3, 4]
theorem t4 : Mv.trB 300 { T0 with sc := defScope (top 9), N := n4, np := p4.length } (defBody (top 9)) = some b4 := by rfl
theorem s4 : FnScope n4 p4 (defScope (top 9)) := ⟨rfl, rfl, rfl, by decide +kernel, rfl, by decide +kernel, by decide +kernel⟩
theorem g4 : ∀ i ∈ Mv.stB b4, i ∈ a4 := by decide +kernel
def b5 : List Mv.S := [(.ifS (.cmp (.idx (.var 0) (.int (0))) [.Gt] [(.int (0))]) [(.asg (.nm 2) (.bin .Mod (.blt .int [(.idx (.var 0) (.int (0)))]) (.var 1))), (.setI (.var 0) (.int (0)) (.bin .FloorDiv (.idx (.var 0) (.int (0))) (.var 1))), (.retV 2)] []), (.setI (.var 0) (.int (1)) (.bin .Mod (.blt .int [(.bin .Add (.bin .Mult (.idx (.var 0) (.int (1))) (.int (39373))) (.int (7)))]) (.int (2147483647)))), (.ret (.bin .Mod (.blt .int [(.bin .FloorDiv (.bin .Mod (.blt .int [(.bin .Mult (.idx (.var 0) (.int (1))) (.idx (.var 0) (.int (1))))]) (.int (2147483629))) (.int (32)))]) (.var 1)))]
def a5 : List Nat := [2]
theorem t5 : Mv.trB 300 { T0 with sc := defScope (top 10), N := n5, np := p5.length } (defBody (top 10)) = some b5 := by rfl
theorem s5 : FnScope n5 p5 (defScope (top 10)) := ⟨rfl, rfl, rfl, by decide +kernel, rfl, by decide +kernel, by decide +kernel⟩
theorem g5 : ∀ i ∈ Mv.stB b5, i ∈ a5 := by decide +kernel
def b6 : List Mv.S := [(.ret (.idx (.var 1) (.call 5 [(.var 0), (.blt .len [(.var 1)])])))]
def a6 : List Nat := []
theorem t6 : Mv.trB 300 { T0 with sc := defScope (top 11), N := n6, np := p6.length } (defBody (top 11)) = some b6 := by rfl
theorem s6 : FnScope n6 p6 (defScope (top 11)) := ⟨rfl, rfl, rfl, by decide +kernel, rfl, by decide +kernel, by decide +kernel⟩
theorem g6 : ∀ i ∈ Mv.stB b6, i ∈ a6 := by decide +kernel
def b7 : List Mv.S := [(.asg (.nm 3) (.call 5 [(.var 0), (.bin .Pow (.int (10)) (.int (18)))])), (.ret (.call 6 [(.var 0), (.lst [(.bin .Sub (.var 1) (.int (1))), (.bin .Add (.var 2) (.int (1))), (.bin .Add (.var 2) (.int (1))), (.bin .Sub (.bin .Sub (.var 1) (.int (2))) (.var 3)), (.bin .Add (.bin .Add (.var 2) (.int (2))) (.var 3))])]))]
def a7 : List Nat := [3]
theorem t7 : Mv.trB 300 { T0 with sc := defScope (top 12), N := n7, np := p7.length } (defBody (top 12)) = some b7 := by rfl
theorem s7 : FnScope n7 p7 (defScope (top 12)) := ⟨rfl, rfl, rfl, by decide +kernel, rfl, by decide +kernel, by decide +kernel⟩
theorem g7 : ∀ i ∈ Mv.stB b7, i ∈ a7 := by decide +kernel
def b8 : List Mv.S := [(.asg (.nm 2) (.lst [(.int (0))])), (.forS (.nm 3) .rng [(.var 1)] [(.asg (.nm 2) (.bin .Add (.var 2) (.comp (.bin .Add (.var 4) (.int (1))) (.nm 4) .val [(.var 2)] [] [4])))]), (.ret (.blt .len [(.comp (.var 4) (.nm 4) .val [(.var 2)] [(.andE [(.cmp (.var 4) [.LtE] [(.bin .Sub (.var 0) (.int (2)))]), (.cmp (.bin .Mod (.blt .int [(.bin .Sub (.var 0) (.var 4))]) (.int (2))) [.Eq] [(.int (0))])])] [4])]))]
def a8 : List Nat := [2, 3]
theorem t8 : Mv.trB 300 { T0 with sc := defScope (top 13), N := n8, np := p8.length } (defBody (top 13)) = some b8 := by rfl
theorem s8 : FnScope n8 p8 (defScope (top 13)) := ⟨rfl, rfl, rfl, by decide +kernel, rfl, by decide +kernel, by decide +kernel⟩
theorem g8 : ∀ i ∈ Mv.stB b8, i ∈ a8 := by decide +kernel
def b9 : List Mv.S := [(.tryS [(.ret (.tup [(.str (PySem.Str.ofString "told")), (.call 3 [(.var 0), (.var 1)])]))] [(.mk 1 (some 2) [(.ret (.tup [(.str (PySem.Str.ofString "count")), (.what 2)]))]), (.mk 0 none [(.ret (.tup [(.str (PySem.Str.ofString "another")), (.int (0))]))])])]
def a9 : List Nat := [2]
theorem t9 : Mv.trB 300 { T0 with sc := defScope (top 14), N := n9, np := p9.length } (defBody (top 14)) = some b9 := by rfl
theorem s9 : FnScope n9 p9 (defScope (top 14)) := ⟨rfl, rfl, rfl, by decide +kernel, rfl, by decide +kernel, by decide +kernel⟩
theorem g9 : ∀ i ∈ Mv.stB b9, i ∈ a9 := by decide +kernel
def b10 : List Mv.S := [(.forS (.nm 1) .rng [(.blt .max [(.int (1)), (.blt .min [(.int (3)), (.blt .len [(.var 0)])])])] [(.asg (.nm 2) (.call 4 [(.var 0), (.var 1)])), (.asg (.nm 3) (.bin .Add (.int (2)) (.call 5 [(.var 2), (.int (5))]))), (.asg (.nm 4) (.call 6 [(.var 2), (.lst [(.int (1)), (.int (2)), (.int (3)), (.int (4)), (.int (5)), (.int (6)), (.int (7)), (.int (8)), (.int (39)), (.int (40)), (.bin .Add (.int (1)) (.call 5 [(.var 2), (.int (40))]))])])), (.asg (.nm 5) (.call 3 [(.var 4), (.var 3)])), (.ifS (.orE [(.notE (.isi (.var 5) .int)), (.isi (.var 5) .bool), (.cmp (.var 5) [.NotEq] [(.call 8 [(.var 4), (.var 3)])])]) [(.ret (.bl false))] []), (.ifS (.cmp (.callk 3 [1, 0] [(.var 3), (.var 4)]) [.NotEq] [(.var 5)]) [(.ret (.bl false))] []), (.asg (.tp [(.nm 6), (.nm 7)]) (.tup [(.call 7 [(.var 2), (.int (1)), (.int (40))]), (.call 7 [(.var 2), (.int (2)), (.int (6))])])), (.ifS (.orE [(.cmp (.call 9 [(.var 6), (.var 3)]) [.NotEq] [(.tup [(.str (PySem.Str.ofString "count")), (.var 6)])]), (.cmp (.call 9 [(.var 4), (.var 7)]) [.NotEq] [(.tup [(.str (PySem.Str.ofString "count")), (.var 7)])])]) [(.ret (.bl false))] []), (.ifS (.cmp (.call 9 [(.var 6), (.var 7)]) [.NotEq] [(.tup [(.str (PySem.Str.ofString "count")), (.var 6)])]) [(.ret (.bl false))] [])]), (.ret (.bl true))]
def a10 : List Nat := [1, 2, 3, 4, 5, 6, 7]
theorem t10 : Mv.trB 300 { T0 with sc := defScope (top 15), N := n10, np := p10.length } (defBody (top 15)) = some b10 := by rfl
theorem s10 : FnScope n10 p10 (defScope (top 15)) := ⟨rfl, rfl, rfl, by decide +kernel, rfl, by decide +kernel, by decide +kernel⟩
theorem g10 : ∀ i ∈ Mv.stB b10, i ∈ a10 := by decide +kernel
def P : Mv.Pg := ⟨[⟨3, 3, b0, a0⟩, ⟨1, 5, b1, a1⟩, ⟨3, 3, b2, a2⟩, ⟨2, 4, b3, a3⟩, ⟨2, 5, b4, a4⟩, ⟨2, 3, b5, a5⟩, ⟨2, 2, b6, a6⟩, ⟨3, 4, b7, a7⟩, ⟨2, 5, b8, a8⟩, ⟨2, 3, b9, a9⟩, ⟨1, 8, b10, a10⟩], [⟨0, [], [0]⟩, ⟨0, [], [1, 0]⟩]⟩
def pO (i : Nat) : List Str := match i with
  | 0 => p0
  | 1 => p1
  | 2 => p2
  | 3 => p3
  | 4 => p4
  | 5 => p5
  | 6 => p6
  | 7 => p7
  | 8 => p8
  | 9 => p9
  | _ => p10
def fas (f0 f1 f2 f3 f4 f5 f6 f7 f8 f9 f10 : Addr) (i : Nat) : Addr := match i with
  | 0 => f0
  | 1 => f1
  | 2 => f2
  | 3 => f3
  | 4 => f4
  | 5 => f5
  | 6 => f6
  | 7 => f7
  | 8 => f8
  | 9 => f9
  | _ => f10
def cAs (C0 C1 : Addr) (i : Nat) : Addr := match i with
  | 0 => C0
  | _ => C1
theorem up_in {c : Nat} (h : Mv.upOf P c c = true) : c ∈ ([0, 1] : List Nat) := by
  match c, h with
  | 0, h => decide
  | 1, h => decide
  | c + 2, h => simp [Mv.upOf, P] at h
theorem ixn {x : Str} {f k : Nat} (h : Mv.ixOf x T0.fns = some f) (e : Mv.ixOf x T0.fns = some k) : f = k := by rw [e] at h; exact (Option.some.inj h).symm
theorem all_mk {p : Program} {K : PySem.W.Frag} {h : Heap} {mg : Str → Option Value} {fa : Addr} (X : K.In h) (G : h.Ns mainGlobals mg) (hfa : mg "law" = some (.ref fa))
    {f0 f1 f2 f3 f4 f5 f6 f7 f8 f9 f10 : Addr} {od0 an0 od1 an1 od2 an2 od3 an3 od4 an4 od5 an5 od6 an6 od7 an7 od8 an8 od9 an9 od10 an10 : Option Addr} {sl0 sl1 sl2 sl3 sl4 sl5 sl6 sl7 sl8 sl9 sl10 : Array (Option Value)} {oc0 kV0 dc0 pm0 cd0 ct0 oc1 kV1 dc1 pm1 cd1 ct1 oc2 kV2 dc2 pm2 cd2 ct2 oc3 kV3 dc3 pm3 cd3 ct3 oc4 kV4 dc4 pm4 cd4 ct4 oc5 kV5 dc5 pm5 cd5 ct5 oc6 kV6 dc6 pm6 cd6 ct6 oc7 kV7 dc7 pm7 cd7 ct7 oc8 kV8 dc8 pm8 cd8 ct8 oc9 kV9 dc9 pm9 cd9 ct9 oc10 kV10 dc10 pm10 cd10 ct10 : Value}
    {C0 C1 : Addr}
    (a0 : PySem.W.nsIn K mainGlobals "check_count" = some (some (.ref f0)))
    (l0 : K.lookup f0 = some ⟨oc0, od0, .func (PySem.W.fnOf "check_count" "check_count" (defArgs (top 4)) (defBody (top 4)) (defScope (top 4)) .none kV0 dc0 pm0 an0 cd0 ct0), sl0⟩)
    (c0 : PySem.W.codeIn K cd0 "check_count" = true)
    (k0 : PySem.W.keepIn K (.ref f0) = true)
    (a1 : PySem.W.nsIn K mainGlobals "binomials" = some (some (.ref f1)))
    (l1 : K.lookup f1 = some ⟨oc1, od1, .func (PySem.W.fnOf "binomials" "binomials" (defArgs (top 5)) (defBody (top 5)) (defScope (top 5)) .none kV1 dc1 pm1 an1 cd1 ct1), sl1⟩)
    (c1 : PySem.W.codeIn K cd1 "binomials" = true)
    (k1 : PySem.W.keepIn K (.ref f1) = true)
    (a2 : PySem.W.nsIn K mainGlobals "chosen" = some (some (.ref f2)))
    (l2 : K.lookup f2 = some ⟨oc2, od2, .func (PySem.W.fnOf "chosen" "chosen" (defArgs (top 6)) (defBody (top 6)) (defScope (top 6)) .none kV2 dc2 pm2 an2 cd2 ct2), sl2⟩)
    (c2 : PySem.W.codeIn K cd2 "chosen" = true)
    (k2 : PySem.W.keepIn K (.ref f2) = true)
    (a3 : PySem.W.nsIn K mainGlobals "odd_count" = some (some (.ref f3)))
    (l3 : K.lookup f3 = some ⟨oc3, od3, .func (PySem.W.fnOf "odd_count" "odd_count" (defArgs (top 7)) (defBody (top 7)) (defScope (top 7)) .none kV3 dc3 pm3 an3 cd3 ct3), sl3⟩)
    (c3 : PySem.W.codeIn K cd3 "odd_count" = true)
    (k3 : PySem.W.keepIn K (.ref f3) = true)
    (a4 : PySem.W.nsIn K mainGlobals "_law_pool" = some (some (.ref f4)))
    (l4 : K.lookup f4 = some ⟨oc4, od4, .func (PySem.W.fnOf "_law_pool" "_law_pool" (defArgs (top 9)) (defBody (top 9)) (defScope (top 9)) .none kV4 dc4 pm4 an4 cd4 ct4), sl4⟩)
    (c4 : PySem.W.codeIn K cd4 "_law_pool" = true)
    (k4 : PySem.W.keepIn K (.ref f4) = true)
    (a5 : PySem.W.nsIn K mainGlobals "_law_take" = some (some (.ref f5)))
    (l5 : K.lookup f5 = some ⟨oc5, od5, .func (PySem.W.fnOf "_law_take" "_law_take" (defArgs (top 10)) (defBody (top 10)) (defScope (top 10)) .none kV5 dc5 pm5 an5 cd5 ct5), sl5⟩)
    (c5 : PySem.W.codeIn K cd5 "_law_take" = true)
    (k5 : PySem.W.keepIn K (.ref f5) = true)
    (a6 : PySem.W.nsIn K mainGlobals "_law_one" = some (some (.ref f6)))
    (l6 : K.lookup f6 = some ⟨oc6, od6, .func (PySem.W.fnOf "_law_one" "_law_one" (defArgs (top 11)) (defBody (top 11)) (defScope (top 11)) .none kV6 dc6 pm6 an6 cd6 ct6), sl6⟩)
    (c6 : PySem.W.codeIn K cd6 "_law_one" = true)
    (k6 : PySem.W.keepIn K (.ref f6) = true)
    (a7 : PySem.W.nsIn K mainGlobals "_law_beyond" = some (some (.ref f7)))
    (l7 : K.lookup f7 = some ⟨oc7, od7, .func (PySem.W.fnOf "_law_beyond" "_law_beyond" (defArgs (top 12)) (defBody (top 12)) (defScope (top 12)) .none kV7 dc7 pm7 an7 cd7 ct7), sl7⟩)
    (c7 : PySem.W.codeIn K cd7 "_law_beyond" = true)
    (k7 : PySem.W.keepIn K (.ref f7) = true)
    (a8 : PySem.W.nsIn K mainGlobals "_law_due" = some (some (.ref f8)))
    (l8 : K.lookup f8 = some ⟨oc8, od8, .func (PySem.W.fnOf "_law_due" "_law_due" (defArgs (top 13)) (defBody (top 13)) (defScope (top 13)) .none kV8 dc8 pm8 an8 cd8 ct8), sl8⟩)
    (c8 : PySem.W.codeIn K cd8 "_law_due" = true)
    (k8 : PySem.W.keepIn K (.ref f8) = true)
    (a9 : PySem.W.nsIn K mainGlobals "_law_refused" = some (some (.ref f9)))
    (l9 : K.lookup f9 = some ⟨oc9, od9, .func (PySem.W.fnOf "_law_refused" "_law_refused" (defArgs (top 14)) (defBody (top 14)) (defScope (top 14)) .none kV9 dc9 pm9 an9 cd9 ct9), sl9⟩)
    (c9 : PySem.W.codeIn K cd9 "_law_refused" = true)
    (k9 : PySem.W.keepIn K (.ref f9) = true)
    (a10 : PySem.W.nsIn K mainGlobals "law" = some (some (.ref f10)))
    (l10 : K.lookup f10 = some ⟨oc10, od10, .func (PySem.W.fnOf "law" "law" (defArgs (top 15)) (defBody (top 15)) (defScope (top 15)) .none kV10 dc10 pm10 an10 cd10 ct10), sl10⟩)
    (c10 : PySem.W.codeIn K cd10 "law" = true)
    (k10 : PySem.W.keepIn K (.ref f10) = true)
    (z0 : PySem.W.nsIn K mainGlobals "len" = some none)
    (z1 : PySem.W.nsIn K mainGlobals "int" = some none)
    (z2 : PySem.W.nsIn K mainGlobals "bool" = some none)
    (z3 : PySem.W.nsIn K mainGlobals "sum" = some none)
    (z4 : PySem.W.nsIn K mainGlobals "max" = some none)
    (z5 : PySem.W.nsIn K mainGlobals "min" = some none)
    (z6 : PySem.W.nsIn K mainGlobals "isinstance" = some none)
    (z7 : PySem.W.nsIn K mainGlobals "range" = some none)
    {fI cda cc : Addr} {ocI ctI dcI pmI clI ccI : Value} {odI anI cdI ccd : Option Addr} {slI cslI ccs : Array (Option Value)} {vsI : Array Value} {fileI : Str} {tfI : Tok} {cdB : PySem.ClassData}
    (aI : PySem.W.findIn K (.ref C0) "__init__" = some (some (.ref fI)))
    (xi : K.lookup fI = some ⟨ocI, odI, .func (PySem.W.ksFn "__init__" "Refused.__init__" (Mv.rfArgs ⟨4, 17, 4, 21⟩ ⟨4, 23, 4, 27⟩) (Mv.rfBody ⟨5, 8, 5, 13⟩ ⟨5, 8, 5, 15⟩ ⟨5, 8, 5, 24⟩ ⟨5, 25, 5, 34⟩ ⟨5, 8, 5, 35⟩ ⟨5, 8, 5, 35⟩ ⟨6, 8, 6, 12⟩ ⟨6, 8, 6, 17⟩ ⟨6, 20, 6, 24⟩ ⟨6, 8, 6, 24⟩ 0) Mv.rfScope .none .none dcI pmI anI (.ref cda) ctI cc), slI⟩)
    (ci : PySem.W.codeIn K (.ref cda) "Refused.__init__" = true)
    (xc : K.lookup cda = some ⟨ccI, ccd, .fields vsI, ccs⟩)
    (xf : vsI[2]? = some (.str fileI tfI))
    (xm : ((p.main.file : Str) == fileI) = true)
    (xl : K.lookup cc = some ⟨clI, cdI, .cell (some (.ref C0)), cslI⟩)
    (xb : PySem.W.clsIn K C0 = some cdB)
    (xs : PySem.W.nsIn K mainGlobals "super" = some none)
    (xt : (p.main.scope.names.lookup ("super" : Str)).isSome = false)
    (xa : PySem.W.nsIn K cStatics "thirdparty.any" = some none)
    (xy : PySem.W.typeIn K (.ref fI) = some (.type "function"))
    {nm0 q0 : Str} {N0 : Addr} {bs0 sub0 : List Value} {sn0 : List Str} {ab0 : Bool} {col0 : Option Bool} {dd0 : Option Addr} {x0_0 x1_0 x2_0 x3_0 x5_0 : Option Value}
    (eg0 : PySem.W.nsIn K mainGlobals "Refused" = some (some (.ref C0)))
    (ex0 : K.lookup C0 = some (excClassObj nm0 q0 C0 N0 bs0 [.type "ValueError", .type "Exception", .type "BaseException", .type "object"] true sn0 sub0 ab0 col0 dd0 x0_0 x1_0 x2_0 x3_0 x5_0 "ValueError.__new__"))
    (es0 : PySem.W.findIn K (.ref C0) "__setattr__" = some (some (.builtin "object.__setattr__")))
    (en0 : PySem.W.findIn K (.ref C0) "what" = some none)
    (ek0 : PySem.W.keepIn K (.ref C0) = true)
    (ee0 : PySem.W.subIn K (.ref C0) (.type "BaseException") = some true)
    (ev0 : PySem.W.subIn K (.ref C0) (.type "ValueError") = some true)
    (et0 : PySem.W.typeIn K (.ref C0) = some (.type "type"))
    (em0 : PySem.W.mroIn K C0 (.ref C0) = some true)
    (eu0 : PySem.W.ks_superIn K C0 C0 "__init__" = some (some (.builtin "ValueError.__init__")))
    (eq0 : PySem.W.excInitIn K C0 [.type "ValueError", .type "Exception", .type "BaseException", .type "object"] "ValueError.__new__" = true)
    (ea0 : PySem.W.findIn K (.ref C0) "__getattribute__" = some (some (.builtin "BaseException.__getattribute__")))
    (eb0 : PySem.W.findIn K (.ref C0) "__getattr__" = some none)
    (eh0 : PySem.W.hasDictIn K C0 = true)
    (ec0 : PySem.W.isClsIn K C0 = true)
    {nm1 q1 : Str} {N1 : Addr} {bs1 sub1 : List Value} {sn1 : List Str} {ab1 : Bool} {col1 : Option Bool} {dd1 : Option Addr} {x0_1 x1_1 x2_1 x3_1 x5_1 : Option Value}
    (eg1 : PySem.W.nsIn K mainGlobals "BadCount" = some (some (.ref C1)))
    (ex1 : K.lookup C1 = some (excClassObj nm1 q1 C1 N1 bs1 [.ref C0, .type "ValueError", .type "Exception", .type "BaseException", .type "object"] true sn1 sub1 ab1 col1 dd1 x0_1 x1_1 x2_1 x3_1 x5_1 "ValueError.__new__"))
    (es1 : PySem.W.findIn K (.ref C1) "__setattr__" = some (some (.builtin "object.__setattr__")))
    (en1 : PySem.W.findIn K (.ref C1) "what" = some none)
    (ei1 : PySem.W.findIn K (.ref C1) "__init__" = some (some (.ref fI)))
    (ek1 : PySem.W.keepIn K (.ref C1) = true)
    (ee1 : PySem.W.subIn K (.ref C1) (.type "BaseException") = some true)
    (ev1 : PySem.W.subIn K (.ref C1) (.type "ValueError") = some true)
    (et1 : PySem.W.typeIn K (.ref C1) = some (.type "type"))
    (em1 : PySem.W.mroIn K C1 (.ref C0) = some true)
    (eu1 : PySem.W.ks_superIn K C1 C0 "__init__" = some (some (.builtin "ValueError.__init__")))
    (eq1 : PySem.W.excInitIn K C1 [.type "ValueError", .type "Exception", .type "BaseException", .type "object"] "ValueError.__new__" = true)
    (ea1 : PySem.W.findIn K (.ref C1) "__getattribute__" = some (some (.builtin "BaseException.__getattribute__")))
    (eb1 : PySem.W.findIn K (.ref C1) "__getattr__" = some none)
    (eh1 : PySem.W.hasDictIn K C1 = true)
    (ec1 : PySem.W.isClsIn K C1 = true)
    (sb0_0 : PySem.W.subIn K (.ref C0) (.ref C0) = some true)
    (sb0_1 : PySem.W.subIn K (.ref C0) (.ref C1) = some false)
    (sb1_0 : PySem.W.subIn K (.ref C1) (.ref C0) = some true)
    (sb1_1 : PySem.W.subIn K (.ref C1) (.ref C1) = some true)
    : ∃ (k : Mv.Kc) (fs : Nat → Addr) (pO : Nat → List Str) (fd : FuncData) (x' q' : Str) (st : Stmt), Mv.PRec p K mg k P T0 fs pO ∧ fs 10 = fa ∧ pO 10 = p10 ∧ L2.Fun K x' q' st fa fd ∧ ∀ (s : Shared) (u : Value), BindsTo s fd ⟨[u], []⟩ [("_law_script", u)] := by
  have e := hfa.symm.trans (PySem.W.mg_of X G a10)
  cases e
  have F0 := fun_mk (st := (top 4)) l0 c0 k0
  have B0 := F0.binds (ps := p0) fun _ _ _ _ _ _ us hl => match us, hl with | [_, _, _], _ => rfl
  have F1 := fun_mk (st := (top 5)) l1 c1 k1
  have B1 := F1.binds (ps := p1) fun _ _ _ _ _ _ us hl => match us, hl with | [_], _ => rfl
  have F2 := fun_mk (st := (top 6)) l2 c2 k2
  have B2 := F2.binds (ps := p2) fun _ _ _ _ _ _ us hl => match us, hl with | [_, _, _], _ => rfl
  have F3 := fun_mk (st := (top 7)) l3 c3 k3
  have B3 := F3.binds (ps := p3) fun _ _ _ _ _ _ us hl => match us, hl with | [_, _], _ => rfl
  have F4 := fun_mk (st := (top 9)) l4 c4 k4
  have B4 := F4.binds (ps := p4) fun _ _ _ _ _ _ us hl => match us, hl with | [_, _], _ => rfl
  have F5 := fun_mk (st := (top 10)) l5 c5 k5
  have B5 := F5.binds (ps := p5) fun _ _ _ _ _ _ us hl => match us, hl with | [_, _], _ => rfl
  have F6 := fun_mk (st := (top 11)) l6 c6 k6
  have B6 := F6.binds (ps := p6) fun _ _ _ _ _ _ us hl => match us, hl with | [_, _], _ => rfl
  have F7 := fun_mk (st := (top 12)) l7 c7 k7
  have B7 := F7.binds (ps := p7) fun _ _ _ _ _ _ us hl => match us, hl with | [_, _, _], _ => rfl
  have F8 := fun_mk (st := (top 13)) l8 c8 k8
  have B8 := F8.binds (ps := p8) fun _ _ _ _ _ _ us hl => match us, hl with | [_, _], _ => rfl
  have F9 := fun_mk (st := (top 14)) l9 c9 k9
  have B9 := F9.binds (ps := p9) fun _ _ _ _ _ _ us hl => match us, hl with | [_, _], _ => rfl
  have F10 := fun_mk (st := (top 15)) l10 c10 k10
  have B10 := F10.binds (ps := p10) fun _ _ _ _ _ _ us hl => match us, hl with | [_], _ => rfl
  let kk : Mv.Kc := ⟨K, (cAs C0 C1), (fun _ => default), 0, by exact fun a b h => absurd h (Nat.not_lt_zero _), fun c => c ∈ ([] : List Nat), by
    intro c hc; cases hc⟩
  refine ⟨kk, fas f0 f1 f2 f3 f4 f5 f6 f7 f8 f9 fa, pO, _, _, _, _, ⟨rfl, fun i fn h => ?_, fun x f h => ?_, fun x c h o => ?_, fun x m h => ?_, fun x f h => ?_, fun x i h => ?_, fun x h => ?_, fun x c h o => ?_, fun c d h1 h2 => ?_, fun c h => ?_, fun x n ks perm h => ?_⟩, rfl, rfl, F10, fun s u => .of_eq rfl⟩
  · match i, h with
    | 0, h => cases Option.some.inj h; exact ⟨_, _, _, _, n0, 300, F0, s0, rfl, rfl, by decide, t0, g0, fun _ => B0⟩
    | 1, h => cases Option.some.inj h; exact ⟨_, _, _, _, n1, 300, F1, s1, rfl, rfl, by decide, t1, g1, fun _ => B1⟩
    | 2, h => cases Option.some.inj h; exact ⟨_, _, _, _, n2, 300, F2, s2, rfl, rfl, by decide, t2, g2, fun _ => B2⟩
    | 3, h => cases Option.some.inj h; exact ⟨_, _, _, _, n3, 300, F3, s3, rfl, rfl, by decide, t3, g3, fun _ => B3⟩
    | 4, h => cases Option.some.inj h; exact ⟨_, _, _, _, n4, 300, F4, s4, rfl, rfl, by decide, t4, g4, fun _ => B4⟩
    | 5, h => cases Option.some.inj h; exact ⟨_, _, _, _, n5, 300, F5, s5, rfl, rfl, by decide, t5, g5, fun _ => B5⟩
    | 6, h => cases Option.some.inj h; exact ⟨_, _, _, _, n6, 300, F6, s6, rfl, rfl, by decide, t6, g6, fun _ => B6⟩
    | 7, h => cases Option.some.inj h; exact ⟨_, _, _, _, n7, 300, F7, s7, rfl, rfl, by decide, t7, g7, fun _ => B7⟩
    | 8, h => cases Option.some.inj h; exact ⟨_, _, _, _, n8, 300, F8, s8, rfl, rfl, by decide, t8, g8, fun _ => B8⟩
    | 9, h => cases Option.some.inj h; exact ⟨_, _, _, _, n9, 300, F9, s9, rfl, rfl, by decide, t9, g9, fun _ => B9⟩
    | 10, h => cases Option.some.inj h; exact ⟨_, _, _, _, n10, 300, F10, s10, rfl, rfl, by decide, t10, g10, fun _ => B10⟩
    | i + 11, h => simp [P] at h
  · have q := Mv.ixOf_get h
    match f, q with
    | 0, q => cases Option.some.inj q; exact ⟨rfl, rfl, PySem.W.mg_of X G a0, k0⟩
    | 1, q => cases Option.some.inj q; exact ⟨rfl, rfl, PySem.W.mg_of X G a1, k1⟩
    | 2, q => cases Option.some.inj q; exact ⟨rfl, rfl, PySem.W.mg_of X G a2, k2⟩
    | 3, q => cases Option.some.inj q; exact ⟨rfl, rfl, PySem.W.mg_of X G a3, k3⟩
    | 4, q => cases Option.some.inj q; exact ⟨rfl, rfl, PySem.W.mg_of X G a4, k4⟩
    | 5, q => cases Option.some.inj q; exact ⟨rfl, rfl, PySem.W.mg_of X G a5, k5⟩
    | 6, q => cases Option.some.inj q; exact ⟨rfl, rfl, PySem.W.mg_of X G a6, k6⟩
    | 7, q => cases Option.some.inj q; exact ⟨rfl, rfl, PySem.W.mg_of X G a7, k7⟩
    | 8, q => cases Option.some.inj q; exact ⟨rfl, rfl, PySem.W.mg_of X G a8, k8⟩
    | 9, q => cases Option.some.inj q; exact ⟨rfl, rfl, PySem.W.mg_of X G a9, k9⟩
    | 10, q => cases Option.some.inj q; exact ⟨rfl, rfl, PySem.W.mg_of X G a10, k10⟩
    | i + 11, q => simp [T0] at q
  · simp [T0] at o
  · simp [T0, Mv.ixOf] at h
  · simp [T0, Mv.ixOf] at h
  · simp [T0] at h
  · have q : x ∈ T0.blt := by simpa using h
    simp only [T0, List.mem_cons, List.not_mem_nil, or_false] at q
    rcases q with rfl | rfl | rfl | rfl | rfl | rfl | rfl | rfl
    · exact PySem.W.mg_none_of X G z0
    · exact PySem.W.mg_none_of X G z1
    · exact PySem.W.mg_none_of X G z2
    · exact PySem.W.mg_none_of X G z3
    · exact PySem.W.mg_none_of X G z4
    · exact PySem.W.mg_none_of X G z5
    · exact PySem.W.mg_none_of X G z6
    · exact PySem.W.mg_none_of X G z7
  · have q := Mv.ixOf_get h
    have o : c ∈ ([0, 1] : List Nat) := by simpa [T0] using o
    simp only [List.mem_cons, List.not_mem_nil, or_false] at o
    have RF : Mv.RfFn p K C0 cc fI := ⟨⟨_, _, _, _, _, _, _, _, _, _, _, _, _, _, _, _, _, _, _, _, _, xi, ci, rfl, _, _, _, _, _, _, xc, xf, xm⟩, ⟨_, _, _, xl⟩, ⟨_, xb⟩, xs, xt, xa, xy⟩
    rcases o with rfl | rfl
    · cases Option.some.inj q; exact ⟨PySem.W.mg_of X G eg0, ⟨C0, cc, fI, _, RF, ⟨⟨_, _, _, _, _, _, _, _, _, _, _, _, _, _, _, ex0, by rfl⟩, es0, en0, aI, ek0, ee0, ev0, et0, em0, eu0, eq0⟩, PySem.F.excBase_ValueError⟩, ⟨ea0, eb0, ee0, eh0⟩⟩
    · cases Option.some.inj q; exact ⟨PySem.W.mg_of X G eg1, ⟨C0, cc, fI, _, RF, ⟨⟨_, _, _, _, _, _, _, _, _, _, _, _, _, _, _, ex1, by rfl⟩, es1, en1, ei1, ek1, ee1, ev1, et1, em1, eu1, eq1⟩, PySem.F.excBase_ValueError⟩, ⟨ea1, eb1, ee1, eh1⟩⟩
  · have h2 : d ∈ ([0, 1] : List Nat) := by simpa [T0] using h2
    have h1 : c ∈ ([0, 1] : List Nat) := up_in h1
    simp only [List.mem_cons, List.not_mem_nil, or_false] at h1 h2
    rcases h1 with rfl | rfl <;> rcases h2 with rfl | rfl
    · exact Mv.exm_of ee0 ec0 et0 sb0_0
    · exact Mv.exm_of ee1 ec1 et1 sb0_1
    · exact Mv.exm_of ee0 ec0 et0 sb1_0
    · exact Mv.exm_of ee1 ec1 et1 sb1_1
  · have h1 : c ∈ ([0, 1] : List Nat) := up_in h
    simp only [List.mem_cons, List.not_mem_nil, or_false] at h1
    rcases h1 with rfl | rfl
    · exact ⟨C0, rfl, ⟨ea0, eb0, ee0, eh0⟩, en0⟩
    · exact ⟨C1, rfl, ⟨ea1, eb1, ee1, eh1⟩, en1⟩
  · have q := Mv.kwOf_mem h
    simp only [T0, List.mem_cons, Prod.mk.injEq, List.not_mem_nil, or_false] at q
    rcases q with ⟨rfl, rfl, rfl, rfl⟩
    · refine ⟨fun f hf x' q' st fd Fx => ?_, fun c hc _ => ?_⟩
      · have q := Mv.ixOf_get hf
        have e : f = 3 := ixn (x := PySem.Str.ofString "odd_count") hf (by decide +kernel)
        subst e
        obtain rfl := Mv.Fun.uniq Fx F3
        exact Mv.fun_ks (n := 0) F3 fun _ _ _ _ _ _ us ws h1 h2 => match us, ws, h1, h2 with | [], [_, _], _, _ => rfl
      · rw [show Mv.ixOf (PySem.Str.ofString "odd_count") T0.cls = none from by decide +kernel] at hc; cases hc

def depth : Nat := 20
theorem law_ok : ∀ ns : List Int, ns.length ≤ 63 → (∀ z ∈ ns, Builtin.Int.intBits z ≤ 1048576) → ∃ ps, (Mv.run P depth 10 [.lst .giv (ns.map Mv.D.int)]).out = .ok (.bl true) ps := by
  intro ns _ _
  obtain ⟨r, h⟩ := Mv.l50_ok (P := P) (n := 16) (cp := 4) (ct := 5) (co := 6) (cn := 3) (cd := 8) (cb := 7) (cr := 9) (ds := ns.map Mv.D.int) fun k hk z2 z3 z4 z5 z6 z7 =>
    Mv.l50_turn (P := P) (n := 16) (ck := 0) (ci := 1) (cc := 2) (by decide) ⟨_, Mv.pool_ok (n := 18) (i := 4) rfl (by omega)⟩ rfl (fun _ _ z => by cases z) rfl rfl rfl rfl rfl rfl rfl rfl rfl
  exact ⟨_, congrArg Mv.FOut.out (Mv.run_ret (i := 10) (fn := ⟨1, 8, Mv.l50B 4 5 6 3 8 7 9, a10⟩) rfl rfl h)⟩
end Lw
open PySem PySem.W PyProof.Rows
set_option maxRecDepth 100000 in
set_option maxHeartbeats 0 in
theorem PySem.Challenge.cw_pairfloors_k50_odd_sets_counted_holds : PySem.Challenge.rw_pairfloors_k50_odd_sets_counted.Holds := by
  w_on; o_law; k_head; (case hw => w_witness2)
  k_fill
  refine Mv.mv_walk (l := PySem.Challenge.rw_pairfloors_k50_odd_sets_counted) (P := Lw.P) (T := Lw.T0) (i := 10) (n := Lw.depth) (x := "_law_script") rfl rfl ⟨rfl, by decide, by decide⟩ (fun w h Y => PySem.W.kIn_of Y) rfl ?F Lw.law_ok
  case F =>
    intro w mg fa h KX G hmg
    refine' Lw.all_mk KX G hmg ?a0 ?l0 ?c0 ?k0 ?a1 ?l1 ?c1 ?k1 ?a2 ?l2 ?c2 ?k2 ?a3 ?l3 ?c3 ?k3 ?a4 ?l4 ?c4 ?k4 ?a5 ?l5 ?c5 ?k5 ?a6 ?l6 ?c6 ?k6 ?a7 ?l7 ?c7 ?k7 ?a8 ?l8 ?c8 ?k8 ?a9 ?l9 ?c9 ?k9 ?a10 ?l10 ?c10 ?k10 ?z0 ?z1 ?z2 ?z3 ?z4 ?z5 ?z6 ?z7 ?aI ?xi ?ci ?xc ?xf ?xm ?xl ?xb ?xs ?xt ?xa ?xy ?eg0 ?ex0 ?es0 ?en0 ?ek0 ?ee0 ?ev0 ?et0 ?em0 ?eu0 ?eq0 ?ea0 ?eb0 ?eh0 ?ec0 ?eg1 ?ex1 ?es1 ?en1 ?ei1 ?ek1 ?ee1 ?ev1 ?et1 ?em1 ?eu1 ?eq1 ?ea1 ?eb1 ?eh1 ?ec1 ?sb0_0 ?sb0_1 ?sb1_0 ?sb1_1
    (case eg0 => k_is)
    (case eg1 => k_is)
    (case a0 => k_is)
    (case l0 => k_is)
    (case c0 => k_is)
    (case k0 => k_is)
    (case a1 => k_is)
    (case l1 => k_is)
    (case c1 => k_is)
    (case k1 => k_is)
    (case a2 => k_is)
    (case l2 => k_is)
    (case c2 => k_is)
    (case k2 => k_is)
    (case a3 => k_is)
    (case l3 => k_is)
    (case c3 => k_is)
    (case k3 => k_is)
    (case a4 => k_is)
    (case l4 => k_is)
    (case c4 => k_is)
    (case k4 => k_is)
    (case a5 => k_is)
    (case l5 => k_is)
    (case c5 => k_is)
    (case k5 => k_is)
    (case a6 => k_is)
    (case l6 => k_is)
    (case c6 => k_is)
    (case k6 => k_is)
    (case a7 => k_is)
    (case l7 => k_is)
    (case c7 => k_is)
    (case k7 => k_is)
    (case a8 => k_is)
    (case l8 => k_is)
    (case c8 => k_is)
    (case k8 => k_is)
    (case a9 => k_is)
    (case l9 => k_is)
    (case c9 => k_is)
    (case k9 => k_is)
    (case a10 => k_is)
    (case l10 => k_is)
    (case c10 => k_is)
    (case k10 => k_is)
    (case z0 => k_is)
    (case z1 => k_is)
    (case z2 => k_is)
    (case z3 => k_is)
    (case z4 => k_is)
    (case z5 => k_is)
    (case z6 => k_is)
    (case z7 => k_is)
    (case aI => k_is)
    (case xi => k_is)
    (case ci => k_is)
    (case xc => k_is)
    (case xf => rfl)
    (case xm => (first | rfl | decide +kernel))
    (case xl => k_is)
    (case xb => k_is)
    (case xs => k_is)
    (case xt => (first | rfl | decide +kernel))
    (case xa => k_is)
    (case xy => k_is)
    (case ex0 => k_is)
    (case es0 => k_is)
    (case en0 => k_is)
    (case ek0 => k_is)
    (case ee0 => k_is)
    (case ev0 => k_is)
    (case et0 => k_is)
    (case em0 => k_is)
    (case eu0 => ks_is)
    (case eq0 => kx_is)
    (case ea0 => k_is)
    (case eb0 => k_is)
    (case eh0 => k_is)
    (case ec0 => k_is)
    (case ex1 => k_is)
    (case es1 => k_is)
    (case en1 => k_is)
    (case ei1 => k_is)
    (case ek1 => k_is)
    (case ee1 => k_is)
    (case ev1 => k_is)
    (case et1 => k_is)
    (case em1 => k_is)
    (case eu1 => ks_is)
    (case eq1 => kx_is)
    (case ea1 => k_is)
    (case eb1 => k_is)
    (case eh1 => k_is)
    (case ec1 => k_is)
    (case sb0_0 => k_is)
    (case sb0_1 => k_is)
    (case sb1_0 => k_is)
    (case sb1_1 => k_is)
