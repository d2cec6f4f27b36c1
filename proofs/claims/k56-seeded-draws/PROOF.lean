import PyProof.Rows.All
import Wide.All
import OpenK.AllK
import Wide.FinOn
import HandS.ForMost
import HandS.Wide
import HandS.TupAny
import HandS.TupLe
import HandS.Style
import HandS.Deep
import HandS.IsInst
import HandS.Conv
import KE.KIndexOf
import HandS.Strs
import HandS.ReCall
import HandS.RevTup
import HandS.Walk
import HandS.Zip
import KE.GoesMore
import PySem.Challenge.RW_eachagainst_k56_whole_seeded_draws
set_option Elab.async false
set_option linter.all false
namespace Ev
open PySem

inductive D where
  | non | bl (b : Bool) | int (i : Int) | str (x : Str) | tup (ds : List D) | loc (l : Nat)
  deriving Inhabited

mutual
def beqD : D → D → Bool
  | .non, b => match b with | .non => true | _ => false
  | .bl x, b => match b with | .bl y => x == y | _ => false
  | .int x, b => match b with | .int y => decide (x = y) | _ => false
  | .str x, b => match b with | .str y => decide (x = y) | _ => false
  | .tup x, b => match b with | .tup y => beqL x y | _ => false
  | .loc x, b => match b with | .loc y => x == y | _ => false
def beqL : List D → List D → Bool
  | [], b => match b with | [] => true | _ => false
  | x :: xs, b => match b with | [] => false | y :: ys => beqD x y && beqL xs ys
end
mutual
theorem beqD_eq : ∀ a b : D, beqD a b = true → a = b
  | .non, b, h => by cases b <;> simp_all [beqD]
  | .bl x, b, h => by cases b <;> simp_all [beqD]
  | .int x, b, h => by cases b <;> simp_all [beqD]
  | .str x, b, h => by cases b <;> simp_all [beqD]
  | .loc x, b, h => by cases b <;> simp_all [beqD]
  | .tup x, b, h => by
    cases b with
    | tup y => rw [beqL_eq x y (by simpa [beqD] using h)]
    | _ => simp [beqD] at h
theorem beqL_eq : ∀ a b : List D, beqL a b = true → a = b
  | [], b, h => by cases b <;> simp_all [beqL]
  | x :: xs, b, h => by
    cases b with
    | nil => simp [beqL] at h
    | cons y ys =>
      have h2 : beqD x y = true ∧ beqL xs ys = true := by simpa [beqL] using h
      rw [beqD_eq x y h2.1, beqL_eq xs ys h2.2]
end
mutual
theorem beqD_rfl : ∀ a : D, beqD a a = true
  | .non => by simp [beqD]
  | .bl x => by simp [beqD]
  | .int x => by simp [beqD]
  | .str x => by simp [beqD]
  | .loc x => by simp [beqD]
  | .tup x => by simp [beqD, beqL_rfl x]
theorem beqL_rfl : ∀ a : List D, beqL a a = true
  | [] => by simp [beqL]
  | x :: xs => by simp [beqL, beqD_rfl x, beqL_rfl xs]
end
instance : DecidableEq D := fun a b => if h : beqD a b = true then isTrue (beqD_eq a b h) else isFalse fun e => h (e ▸ beqD_rfl a)

/-- what stands at a place of the store -/
inductive Cell where
  | lst (ds : List D)
  | frz (ds : List D)
  | dK (kvs : List (L2.Key × D))
  | dT (kvs : List (List L2.Key × D))
abbrev Sg := List Cell
abbrev En := List (Option D)
/-- a value on its way: data, or a list that nobody else holds -/
inductive VX where
  | d (x : D)
  | l (ds : List D)
abbrev Rs (α : Type) := Option (α × Sg)
def bnd {α β : Type} (x : Rs α) (f : α → Sg → Rs β) : Rs β := match x with
  | none => none
  | some p => f p.1 p.2
@[simp] theorem bnd_none {α β : Type} (f : α → Sg → Rs β) : bnd none f = none := rfl
@[simp] theorem bnd_some {α β : Type} (a : α) (S : Sg) (f : α → Sg → Rs β) : bnd (some (a, S)) f = f a S := rfl
theorem bnd_eq {α β : Type} {x : Rs α} {f : α → Sg → Rs β} {r : β × Sg} (h : bnd x f = some r) : ∃ a S, x = some (a, S) ∧ f a S = some r := by
  cases x with
  | none => cases h
  | some p => exact ⟨p.1, p.2, rfl, h⟩

def cap : Nat := 16777216
inductive Bop where | add | sub | mul | fdiv | mod | pow
  deriving DecidableEq
inductive Cop where | lt | le | gt | ge | eq | ne | is | isn | isin | notin
  deriving DecidableEq
inductive Ty where | int | bool | tuple | list | str | dict
  deriving DecidableEq
inductive Bi1 where | len | tuple | list | all | any | sum | abs | int
  deriving DecidableEq
inductive Bi2 where | min | max | divmod
  deriving DecidableEq
inductive Mt where | index | append | extend | pop | popAt
  deriving DecidableEq

mutual
inductive Ex where
  | var (i : Nat)
  | con (c : D)
  | glo (x : Str) (c : D)
  | bin (o : Bop) (a b : Ex)
  | neg (a : Ex)
  | not (a : Ex)
  | and (a b : Ex)
  | or (a b : Ex)
  | cmp (o : Cop) (a b : Ex)
  | chn (o p : Cop) (a b c : Ex)
  | ite (c a b : Ex)
  | tup (as : List Ex)
  | lst (as : List Ex)
  | idx (a b : Ex)
  | sli (a : Ex) (lo hi : Option Ex)
  | rev (a : Ex)
  | call (f : Nat) (as : List Ex)
  | callk (f : Nat) (as ks : List Ex) (perm : List Nat)
  | b1 (f : Bi1) (a : Ex)
  | b2 (f : Bi2) (a b : Ex)
  | rngT (as : List Ex)
  | rngL (as : List Ex)
  | isi (a : Ex) (ts : List Ty)
  | mt (m : Mt) (o : Ex) (as : List Ex)
  | comp (elt : Ex) (tg : Tg) (it : It) (cs : List Ex) (own : List Nat)
  | comp2 (elt : Ex) (tg : Tg) (it : It) (cs : List Ex) (tg2 : Tg) (it2 : It) (cs2 : List Ex) (own own2 : List Nat)
inductive Tg where
  | name (i : Nat)
  | tup (ts : List Tg)
  | sub (o i : Ex)
inductive It where
  | seq (e : Ex)
  | rng (as : List Ex)
  | enm (e : Ex)
  | zip (a b : Ex)
end

inductive St where
  | set (i : Nat) (e : Ex)
  | asg (t : Tg) (e : Ex)
  | par (is : List Nat) (es : List Ex)
  | ite (c : Ex) (a b : List St)
  | whl (c : Ex) (b : List St)
  | for (t : Tg) (it : It) (b : List St)
  | ret (e : Ex)
  | retN
  | exp (e : Ex)
  | pass
  | brk
  | cnt
  | nev

def cellL : Option Cell → Option (List D)
  | some (.lst ds) => some ds
  | some (.frz ds) => some ds
  | _ => none
def lsAt (S : Sg) (l : Nat) : Option (List D) := cellL S[l]?
/-- the contents of a list that may be written -/
def mlOf (S : Sg) : VX → Option (List D)
  | .l ds => some ds
  | .d (.loc l) => match S[l]? with
    | some (.lst ds) => some ds
    | _ => none
  | .d _ => none
/-- the contents of a list -/
def lsOf (S : Sg) : VX → Option (List D)
  | .l ds => some ds
  | .d (.loc l) => lsAt S l
  | .d _ => none
def tpOf : VX → Option (List D)
  | .d (.tup ds) => some ds
  | _ => none
def sqOf (S : Sg) (v : VX) : Option (List D) := match tpOf v with
  | some ds => some ds
  | none => lsOf S v
def intOf : D → Option Int
  | .int i => some i
  | _ => none
def intsOf : List D → Option (List Int)
  | [] => some []
  | .int i :: r => match intsOf r with | some is => some (i :: is) | none => none
  | _ :: _ => none
def blsOf : List D → Option (List Bool)
  | [] => some []
  | .bl b :: r => match blsOf r with | some bs => some (b :: bs) | none => none
  | _ :: _ => none
/-- a fresh list is given a place -/
def toD : VX → Sg → Rs D
  | .d x, S => some (x, S)
  | .l ds, S => some (.loc S.length, S ++ [.lst ds])

def toP (S : Sg) : Nat → D → Option PyData
  | _, .non => some .none
  | _, .bl b => some (.bool b)
  | _, .int i => some (.int i)
  | _, .str x => if PySem.PyData.strOk x = true then some (.str x) else none
  | 0, .tup _ => none
  | 0, .loc _ => none
  | n + 1, .tup ds => match ds.mapM (toP S n) with
    | some ps => some (.tuple ps)
    | none => none
  | n + 1, .loc l => match lsAt S l with
    | some ds => match ds.mapM (toP S n) with
      | some ps => some (.list ps)
      | none => none
    | none => none
def toPX (S : Sg) : VX → Option PyData
  | .d x => toP S 60 x
  | .l ds => match ds.mapM (toP S 59) with
    | some ps => some (.list ps)
    | none => none
def eqV (S : Sg) (a b : VX) : Option Bool := match toPX S a with
  | none => none
  | some p => match toPX S b with
    | none => none
    | some q => some (PyData.eqv p q)
/-- a is among the items ds -/
def inV (S : Sg) (a : VX) (ds : List D) : Option Bool := match toPX S a with
  | none => none
  | some p => match ds.mapM (toP S 59) with
    | none => none
    | some qs => some (qs.any fun q => PyData.eqv q p)

def ret1 (b : Bool) (S : Sg) : Rs VX := some (.d (.bl b), S)
def small (i : Int) : Bool := decide (-(2 ^ 64) < i ∧ i < 2 ^ 64)
def addV : VX → VX → Sg → Rs VX
  | .d (.int i), .d (.int j), S => some (.d (.int (i + j)), S)
  | .d (.tup xs), .d (.tup ys), S => if xs.length + ys.length ≤ cap then some (.d (.tup (xs ++ ys)), S) else none
  | a, b, S => match mlOf S a with
    | none => none
    | some xs => match mlOf S b with
      | none => none
      | some ys => if xs.length + ys.length ≤ cap then some (.l (xs ++ ys), S) else none
def binV : Bop → VX → VX → Sg → Rs VX
  | .add, a, b, S => addV a b S
  | .sub, .d (.int i), .d (.int j), S => some (.d (.int (i - j)), S)
  | .mul, .d (.int i), .d (.int j), S => if (small i || small j) = true then some (.d (.int (i * j)), S) else none
  | .fdiv, .d (.int i), .d (.int j), S => if 0 < j ∧ j < 2 ^ 64 then some (.d (.int (i / j)), S) else none
  | .mod, .d (.int i), .d (.int j), S => if 0 < j then some (.d (.int (i % j)), S) else none
  | .pow, .d (.int i), .d (.int j), S => if 0 ≤ j ∧ j ≤ 1000000 ∧ i.natAbs < 2 ^ 64 then some (.d (.int (i ^ j.toNat)), S) else none
  | _, _, _, _ => none
def ordV (f : Int → Int → Bool) (g : List Int → List Int → Bool) : VX → VX → Sg → Rs VX
  | .d (.int i), .d (.int j), S => ret1 (f i j) S
  | .d (.tup xs), .d (.tup ys), S => match intsOf xs with
    | none => none
    | some is => match intsOf ys with
      | none => none
      | some js => ret1 (g is js) S
  | _, _, _ => none
/-- x is None, x is True -/
def isV : VX → VX → Option Bool
  | a, .d .non => some (match a with | .d .non => true | _ => false)
  | .d (.bl x), .d (.bl y) => some (decide (x = y))
  | _, _ => none
def cmpV : Cop → VX → VX → Sg → Rs VX
  | .lt, a, b, S => ordV (fun i j => decide (i < j)) HT.lexLt a b S
  | .le, .d (.int i), .d (.int j), S => ret1 (decide (i ≤ j)) S
  | .gt, .d (.int i), .d (.int j), S => ret1 (decide (j < i)) S
  | .ge, .d (.int i), .d (.int j), S => ret1 (decide (j ≤ i)) S
  | .eq, a, b, S => match eqV S a b with
    | some r => ret1 r S
    | none => none
  | .ne, a, b, S => match eqV S a b with
    | some r => ret1 (!r) S
    | none => none
  | .is, a, b, S => match isV a b with
    | some r => ret1 r S
    | none => none
  | .isn, a, b, S => match isV a b with
    | some r => ret1 (!r) S
    | none => none
  | .isin, a, b, S => match sqOf S b with
    | none => none
    | some ds => match inV S a ds with
      | some r => ret1 r S
      | none => none
  | .notin, a, b, S => match sqOf S b with
    | none => none
    | some ds => match inV S a ds with
      | some r => ret1 (!r) S
      | none => none
  | _, _, _, _ => none
def truV (S : Sg) : VX → Option Bool
  | .d .non => some false
  | .d (.bl b) => some b
  | .d (.int i) => some (i != 0)
  | .d (.tup ds) => some (!ds.isEmpty)
  | .l ds => some (!ds.isEmpty)
  | .d (.loc l) => match S[l]? with
    | some (.lst ds) => some (!ds.isEmpty)
    | some (.frz ds) => some (!ds.isEmpty)
    | _ => none
  | .d (.str _) => none
def idxV (a b : VX) (S : Sg) : Rs VX := match sqOf S a with
  | none => none
  | some ds => match b with
    | .d (.int i) => match L2.atI ds i with
      | some x => some (.d x, S)
      | none => none
    | _ => none
def cutL {α : Type} (xs : List α) (lo hi : Option Int) : List α := (xs.drop (HT.sIx xs.length 0 lo)).take (HT.sIx xs.length xs.length hi - HT.sIx xs.length 0 lo)
def sliV (a : VX) (lo hi : Option Int) (S : Sg) : Rs VX := match tpOf a with
  | some ds => some (.d (.tup (cutL ds lo hi)), S)
  | none => match lsOf S a with
    | some ds => some (.l (cutL ds lo hi), S)
    | none => none
def revV (a : VX) (S : Sg) : Rs VX := match tpOf a with
  | some ds => some (.d (.tup ds.reverse), S)
  | none => match lsOf S a with
    | some ds => some (.l ds.reverse, S)
    | none => none
def cntOf (S : Sg) (v : VX) : Option Nat := match sqOf S v with
  | some ds => some ds.length
  | none => none
def b1V : Bi1 → VX → Sg → Rs VX
  | .len, v, S => match sqOf S v with
    | some ds => some (.d (.int (ds.length : Nat)), S)
    | none => none
  | .tuple, v, S => match sqOf S v with
    | some ds => some (.d (.tup ds), S)
    | none => none
  | .list, v, S => match sqOf S v with
    | some ds => some (.l ds, S)
    | none => none
  | .all, v, S => match lsOf S v with
    | none => none
    | some ds => match blsOf ds with
      | none => none
      | some bs => ret1 (bs.all id) S
  | .any, v, S => match lsOf S v with
    | none => none
    | some ds => match blsOf ds with
      | none => none
      | some bs => ret1 (bs.any id) S
  | .sum, v, S => match lsOf S v with
    | none => none
    | some ds => match intsOf ds with
      | none => none
      | some is => some (.d (.int is.sum), S)
  | .abs, .d (.int i), S => some (.d (.int (if i < 0 then -i else i)), S)
  | .int, .d (.int i), S => some (.d (.int i), S)
  | .int, .d (.bl b), S => some (.d (.int (if b = true then 1 else 0)), S)
  | _, _, _ => none
def b2V : Bi2 → VX → VX → Sg → Rs VX
  | .min, .d (.int i), .d (.int j), S => some (.d (.int (if j < i then j else i)), S)
  | .max, .d (.int i), .d (.int j), S => some (.d (.int (if j > i then j else i)), S)
  | .divmod, .d (.int i), .d (.int j), S => if 0 < j ∧ j < 1073741824 then some (.d (.tup [.int (i / j), .int (i % j)]), S) else none
  | _, _, _, _ => none
def tyV (S : Sg) : VX → Option Ty
  | .d .non => none
  | .d (.bl _) => some .bool
  | .d (.int _) => some .int
  | .d (.str _) => some .str
  | .d (.tup _) => some .tuple
  | .l _ => some .list
  | .d (.loc l) => match S[l]? with
    | some (.lst _) => some .list
    | some (.frz _) => some .list
    | some (.dK _) => some .dict
    | some (.dT _) => some .dict
    | none => none
def tyIs : Ty → Ty → Bool
  | .bool, .int => true
  | a, b => decide (a = b)
def isiV (S : Sg) (v : VX) (ts : List Ty) : Option Bool := match v with
  | .d .non => some false
  | _ => match tyV S v with
    | none => none
    | some t => some (ts.any (tyIs t))
def rngs (lo hi c : Int) : List D := (List.range (Builtin.Range.rangeSize lo hi c).toNat).map fun (i : Nat) => D.int (lo + (i : Int) * c)
def in62 (i : Int) : Bool := decide (-(2 ^ 62) ≤ i ∧ i < 2 ^ 62)
def rngV : List VX → Option (List D)
  | [.d (.int j)] => if in62 j = true then some ((List.range j.toNat).map fun (i : Nat) => D.int ((i : Nat) : Int)) else none
  | [.d (.int i), .d (.int j)] => if (in62 i && in62 j) = true then some ((List.range (j - i).toNat).map fun (n : Nat) => D.int (i + ((n : Nat) : Int))) else none
  | [.d (.int i), .d (.int j), .d (.int c)] => if (in62 i && in62 j && decide (0 < c ∧ c < 1073741824)) = true then some ((List.range ((j - i + c - 1) / c).toNat).map fun (n : Nat) => D.int (i + ((n : Nat) : Int) * c)) else none
  | _ => none
def rngL1 (v : List VX) (k : List D → VX) (S : Sg) : Rs VX := match rngV v with
  | some ds => if ds.length ≤ cap then some (k ds, S) else none
  | none => none
def setC (S : Sg) (l : Nat) (ds : List D) : Sg := S.set l (.lst ds)
def appendV : VX → List VX → Sg → Rs VX
  | .d (.loc l), [.d x], S => match S[l]? with
    | some (.lst ds) => if ds.length < cap then some (.d .non, setC S l (ds ++ [x])) else none
    | _ => none
  | _, _, _ => none
def extendV : VX → List VX → Sg → Rs VX
  | .d (.loc l), [v], S => match S[l]? with
    | some (.lst ds) => match mlOf S v with
      | some es => if ds.length + es.length ≤ cap then some (.d .non, setC S l (ds ++ es)) else none
      | none => none
    | _ => none
  | _, _, _ => none
def popV : VX → List VX → Sg → Rs VX
  | .d (.loc l), [], S => match S[l]? with
    | some (.lst ds) => match ds[ds.length - 1]? with
      | some x => some (.d x, setC S l ds.dropLast)
      | none => none
    | _ => none
  | _, _, _ => none
def popAtV : VX → List VX → Sg → Rs VX
  | .d (.loc l), [.d (.int i)], S => match S[l]? with
    | some (.lst ds) => if in62 i = true then match PySem.seqIndex? i ds.length with
      | none => none
      | some k => match ds[k]? with
        | some x => some (.d x, setC S l (ds.eraseIdx k))
        | none => none
      else none
    | _ => none
  | _, _, _ => none
def indexV (os : Option (List D)) : List VX → Sg → Rs VX
  | [.d (.int k)], S => match os with
    | none => none
    | some ds => match intsOf ds with
      | none => none
      | some is => if is.contains k = true then some (.d (.int (is.idxOf k : Nat)), S) else none
  | _, _ => none
/-- on a list (true) or on a tuple -/
def kindM (m : Mt) (x : VX) (S : Sg) : Option Bool := match lsOf S x with
  | some _ => some true
  | none => match m with
    | .index => match tpOf x with
      | some _ => some false
      | none => none
    | _ => none
def mtV : Mt → Bool → VX → List VX → Sg → Rs VX
  | .append, true, v, vs, S => appendV v vs S
  | .extend, true, v, vs, S => extendV v vs S
  | .pop, true, v, vs, S => popV v vs S
  | .popAt, true, v, vs, S => popAtV v vs S
  | .index, true, v, vs, S => indexV (lsOf S v) vs S
  | .index, false, v, vs, S => indexV (tpOf v) vs S
  | _, false, _, _, _ => none
def setV : VX → VX → D → Sg → Rs Unit
  | .d (.loc l), .d (.int i), x, S => match S[l]? with
    | some (.lst ds) => match L2.ixN ds.length i with
      | some j => some ((), setC S l (ds.set j x))
      | none => none
    | _ => none
  | _, _, _, _ => none

structure Src where
  gs : List (Nat × List D)
  its : List D
def Src.ok (s : Src) (S : Sg) : Bool := s.gs.all fun p => decide (lsAt S p.1 = some p.2)
def seqSrc (v : VX) (S : Sg) : Option Src := match v with
  | .d (.tup ds) => some ⟨[], ds⟩
  | .l ds => some ⟨[], ds⟩
  | .d (.loc l) => match lsAt S l with
    | some ds => some ⟨[(l, ds)], ds⟩
    | none => none
  | _ => none
def enums (n : Nat) : List D → List D
  | [] => []
  | x :: xs => .tup [.int (n : Nat), x] :: enums (n + 1) xs
def zips : List D → List D → List D
  | x :: xs, y :: ys => .tup [x, y] :: zips xs ys
  | _, _ => []

def compGo (ok : Sg → Bool) (as : D → En → Sg → Rs En) (ts : En → Sg → Rs Bool) (el : En → Sg → Rs (List D)) : List D → En → Sg → Rs (List D)
  | [], _, S => if ok S = true then some ([], S) else none
  | x :: xs, σ, S => if ok S = true then bnd (as x σ S) fun σ' S1 => bnd (ts σ' S1) fun b S2 =>
      if b = true then bnd (el σ' S2) fun ys S3 => bnd (compGo ok as ts el xs σ S3) fun zs S4 => some (ys ++ zs, S4)
      else compGo ok as ts el xs σ S2
    else none
def allGo (f : Ex → En → Sg → Rs Bool) : List Ex → En → Sg → Rs Bool
  | [], _, S => some (true, S)
  | c :: cs, σ, S => bnd (f c σ S) fun b S1 => if b = true then allGo f cs σ S1 else some (false, S1)
def wipeE (σ : En) : List Nat → En
  | [] => σ
  | v :: vs => (wipeE σ vs).set v none
def getV (σ : En) (i : Nat) (S : Sg) : Rs VX := match σ[i]? with
  | some (some x) => some (.d x, S)
  | _ => none
def boolV (v : VX) (S : Sg) : Rs Bool := match v with
  | .d (.bl b) => some (b, S)
  | _ => none
def optI : VX → Option (Option Int)
  | .d (.int i) => some (some i)
  | _ => none
def permute {α : Type} (xs : List α) : List Nat → Option (List α)
  | [] => some []
  | i :: is => match xs[i]? with
    | none => none
    | some x => match permute xs is with
      | none => none
      | some r => some (x :: r)

section
variable (cs : Nat → List D → Sg → Rs VX)
mutual
def evX : Ex → En → Sg → Rs VX
  | .var i, σ, S => getV σ i S
  | .con c, _, S => some (.d c, S)
  | .glo _ c, _, S => some (.d c, S)
  | .bin o a b, σ, S => bnd (evX a σ S) fun x S1 => bnd (evX b σ S1) fun y S2 => binV o x y S2
  | .neg a, σ, S => bnd (evX a σ S) fun x S1 => match x with
    | .d (.int i) => some (.d (.int (-i)), S1)
    | _ => none
  | .not a, σ, S => bnd (evX a σ S) fun x S1 => bnd (boolV x S1) fun b S2 => ret1 (!b) S2
  | .and a b, σ, S => bnd (evX a σ S) fun x S1 => bnd (boolV x S1) fun c S2 => if c = true then evX b σ S2 else ret1 false S2
  | .or a b, σ, S => bnd (evX a σ S) fun x S1 => bnd (boolV x S1) fun c S2 => if c = true then ret1 true S2 else evX b σ S2
  | .cmp o a b, σ, S => bnd (evX a σ S) fun x S1 => bnd (evX b σ S1) fun y S2 => cmpV o x y S2
  | .chn o p a b c, σ, S => bnd (evX a σ S) fun x S1 => bnd (evX b σ S1) fun y S2 => bnd (cmpV o x y S2) fun r S3 => bnd (boolV r S3) fun k S4 =>
      if k = true then bnd (evX c σ S4) fun z S5 => cmpV p y z S5 else ret1 false S4
  | .ite c a b, σ, S => bnd (evT c σ S) fun k S1 => if k = true then evX a σ S1 else evX b σ S1
  | .tup as, σ, S => bnd (evL as σ S) fun ds S1 => if ds.length ≤ cap then some (.d (.tup ds), S1) else none
  | .lst as, σ, S => bnd (evL as σ S) fun ds S1 => if ds.length ≤ cap then some (.l ds, S1) else none
  | .idx a b, σ, S => bnd (evX a σ S) fun x S1 => bnd (evX b σ S1) fun y S2 => idxV x y S2
  | .sli a lo hi, σ, S => bnd (evX a σ S) fun x S1 => bnd (evO lo σ S1) fun l S2 => bnd (evO hi σ S2) fun h S3 => sliV x l h S3
  | .rev a, σ, S => bnd (evX a σ S) fun x S1 => revV x S1
  | .call f as, σ, S => bnd (evL as σ S) fun ds S1 => cs f ds S1
  | .callk f as ks perm, σ, S => bnd (evL as σ S) fun ds S1 => bnd (evL ks σ S1) fun zs S2 => match permute (ds ++ zs) perm with
    | some es => cs f es S2
    | none => none
  | .b1 f a, σ, S => bnd (evX a σ S) fun x S1 => b1V f x S1
  | .b2 f a b, σ, S => bnd (evX a σ S) fun x S1 => bnd (evX b σ S1) fun y S2 => b2V f x y S2
  | .rngT as, σ, S => bnd (evXs as σ S) fun vs S1 => rngL1 vs (fun ds => VX.d (.tup ds)) S1
  | .rngL as, σ, S => bnd (evXs as σ S) fun vs S1 => rngL1 vs VX.l S1
  | .isi a ts, σ, S => bnd (evX a σ S) fun x S1 => match isiV S1 x ts with
    | some b => ret1 b S1
    | none => none
  | .mt m o as, σ, S => bnd (evX o σ S) fun x S1 => match kindM m x S1 with
    | none => none
    | some k => bnd (evXs as σ S1) fun vs S2 => mtV m k x vs S2
  | .comp elt tg it conds own, σ, S => bnd (evI it σ S) fun src S1 => if src.its.length ≤ cap then
      bnd (compGo src.ok (fun x σ S => asT tg x σ S) (fun σ S => evTs conds σ S) (fun σ S => bnd (bnd (evX elt σ S) fun v S' => toD v S') fun y S' => some ([y], S')) src.its (wipeE σ own) S1) fun ds S2 => some (.l ds, S2)
    else none
  | .comp2 elt tg it conds tg2 it2 conds2 own own2, σ, S => bnd (evI it σ S) fun src S1 =>
      bnd (compGo src.ok (fun x σ S => asT tg x σ S) (fun σ S => evTs conds σ S) (fun σ' S' => bnd (evI it2 σ' S') fun src2 S2 =>
        compGo src2.ok (fun x σ S => asT tg2 x σ S) (fun σ S => evTs conds2 σ S) (fun σ S => bnd (bnd (evX elt σ S) fun v S' => toD v S') fun y S' => some ([y], S')) src2.its (wipeE σ' own2) S2) src.its (wipeE σ own) S1) fun ds S2 =>
      if ds.length ≤ cap then some (.l ds, S2) else none
def evT : Ex → En → Sg → Rs Bool
  | .not a, σ, S => bnd (evT a σ S) fun b S1 => some (!b, S1)
  | .and a b, σ, S => bnd (evT a σ S) fun c S1 => if c = true then evT b σ S1 else some (false, S1)
  | .or a b, σ, S => bnd (evT a σ S) fun c S1 => if c = true then some (true, S1) else evT b σ S1
  | .cmp o a b, σ, S => bnd (evX a σ S) fun x S1 => bnd (evX b σ S1) fun y S2 => bnd (cmpV o x y S2) fun r S3 => boolV r S3
  | .chn o p a b c, σ, S => bnd (evX a σ S) fun x S1 => bnd (evX b σ S1) fun y S2 => bnd (cmpV o x y S2) fun r S3 => bnd (boolV r S3) fun k S4 =>
      if k = true then bnd (evX c σ S4) fun z S5 => bnd (cmpV p y z S5) fun r S6 => boolV r S6 else some (false, S4)
  | .var i, σ, S => bnd (getV σ i S) fun v S1 => match truV S1 v with
    | some b => some (b, S1)
    | none => none
  | .call f as, σ, S => bnd (bnd (evL as σ S) fun ds S1 => cs f ds S1) fun v S1 => match truV S1 v with
    | some b => some (b, S1)
    | none => none
  | .b1 f a, σ, S => bnd (bnd (evX a σ S) fun x S1 => b1V f x S1) fun v S1 => match truV S1 v with
    | some b => some (b, S1)
    | none => none
  | .idx a b, σ, S => bnd (bnd (evX a σ S) fun x S1 => bnd (evX b σ S1) fun y S2 => idxV x y S2) fun v S1 => match truV S1 v with
    | some b => some (b, S1)
    | none => none
  | .isi a ts, σ, S => bnd (evX a σ S) fun x S1 => match isiV S1 x ts with
    | some b => some (b, S1)
    | none => none
  | _, _, _ => none
def evL : List Ex → En → Sg → Rs (List D)
  | [], _, S => some ([], S)
  | a :: as, σ, S => bnd (evX a σ S) fun x S1 => bnd (toD x S1) fun y S2 => bnd (evL as σ S2) fun ys S3 => some (y :: ys, S3)
def evXs : List Ex → En → Sg → Rs (List VX)
  | [], _, S => some ([], S)
  | a :: as, σ, S => bnd (evX a σ S) fun x S1 => bnd (evXs as σ S1) fun ys S3 => some (x :: ys, S3)
def evO : Option Ex → En → Sg → Rs (Option Int)
  | none, _, S => some (none, S)
  | some a, σ, S => bnd (evX a σ S) fun x S1 => match x with
    | .d (.int i) => some (some i, S1)
    | _ => none
def evTs : List Ex → En → Sg → Rs Bool
  | [], _, S => some (true, S)
  | c :: rest, σ, S => bnd (evT c σ S) fun b S1 => if b = true then evTs rest σ S1 else some (false, S1)
def evI : It → En → Sg → Rs Src
  | .seq e, σ, S => bnd (evX e σ S) fun v S1 => match seqSrc v S1 with
    | some s => some (s, S1)
    | none => none
  | .rng as, σ, S => bnd (evXs as σ S) fun vs S1 => match rngV vs with
    | some ds => some (⟨[], ds⟩, S1)
    | none => none
  | .enm e, σ, S => bnd (evX e σ S) fun v S1 => match seqSrc v S1 with
    | some s => some (⟨s.gs, enums 0 s.its⟩, S1)
    | none => none
  | .zip a b, σ, S => bnd (evX a σ S) fun v S1 => bnd (evX b σ S1) fun w S2 => match seqSrc v S2 with
    | none => none
    | some s => match seqSrc w S2 with
      | none => none
      | some t => some (⟨s.gs ++ t.gs, zips s.its t.its⟩, S2)
def asT : Tg → D → En → Sg → Rs En
  | .name i, x, σ, S => some (σ.set i (some x), S)
  | .tup ts, x, σ, S => match x with
    | .tup ds => asTs ts ds σ S
    | _ => none
  | .sub o i, x, σ, S => bnd (evX o σ S) fun ov S1 => bnd (evX i σ S1) fun iv S2 => bnd (setV ov iv x S2) fun _ S3 => some (σ, S3)
def asTs : List Tg → List D → En → Sg → Rs En
  | [], ds, σ, S => match ds with
    | [] => some (σ, S)
    | _ => none
  | t :: ts, ds, σ, S => match ds with
    | [] => none
    | x :: xs => bnd (asT t x σ S) fun σ1 S1 => asTs ts xs σ1 S1
end

inductive Fl where
  | nx
  | rt (v : VX)
  | bk
  | ct
def forGo (ok : Sg → Bool) (as : D → En → Sg → Rs En) (b : En → Sg → Rs (Fl × En)) : List D → En → Sg → Rs (Fl × En)
  | [], σ, S => if ok S = true then some ((.nx, σ), S) else none
  | x :: xs, σ, S => if ok S = true then bnd (as x σ S) fun σ1 S1 => bnd (b σ1 S1) fun r S2 => match r with
      | (.nx, σ2) => forGo ok as b xs σ2 S2
      | (.ct, σ2) => forGo ok as b xs σ2 S2
      | (.bk, σ2) => some ((.nx, σ2), S2)
      | (.rt v, σ2) => some ((.rt v, σ2), S2)
    else none
def whGo (c : En → Sg → Rs Bool) (b : En → Sg → Rs (Fl × En)) : Nat → En → Sg → Rs (Fl × En)
  | 0, _, _ => none
  | n + 1, σ, S => bnd (c σ S) fun k S1 => if k = true then bnd (b σ S1) fun r S2 => match r with
      | (.nx, σ2) => whGo c b n σ2 S2
      | (.ct, σ2) => whGo c b n σ2 S2
      | (.bk, σ2) => some ((.nx, σ2), S2)
      | (.rt v, σ2) => some ((.rt v, σ2), S2)
    else some ((.nx, σ), S1)
def wFuel : Nat := 1000000000
def setAll : List Nat → List D → En → En
  | i :: is, d :: ds, σ => setAll is ds (σ.set i (some d))
  | _, _, σ => σ
mutual
def exS : St → En → Sg → Rs (Fl × En)
  | .set i e, σ, S => bnd (evX cs e σ S) fun v S1 => bnd (toD v S1) fun x S2 => some ((.nx, σ.set i (some x)), S2)
  | .asg t e, σ, S => bnd (evX cs e σ S) fun v S1 => bnd (toD v S1) fun x S2 => bnd (asT cs t x σ S2) fun σ' S3 => some ((.nx, σ'), S3)
  | .par is es, σ, S => bnd (evL cs es σ S) fun ds S1 => if ds.length = is.length then some ((.nx, setAll is ds σ), S1) else none
  | .ite c a b, σ, S => bnd (evT cs c σ S) fun k S1 => if k = true then exB a σ S1 else exB b σ S1
  | .whl c b, σ, S => whGo (fun σ S => evT cs c σ S) (fun σ S => exB b σ S) wFuel σ S
  | .for t it b, σ, S => bnd (evI cs it σ S) fun src S1 => forGo src.ok (fun x σ S => asT cs t x σ S) (fun σ S => exB b σ S) src.its σ S1
  | .ret e, σ, S => bnd (evX cs e σ S) fun v S1 => some ((.rt v, σ), S1)
  | .retN, σ, S => some ((.rt (.d .non), σ), S)
  | .exp e, σ, S => bnd (evX cs e σ S) fun _ S1 => some ((.nx, σ), S1)
  | .pass, σ, S => some ((.nx, σ), S)
  | .brk, σ, S => some ((.bk, σ), S)
  | .cnt, σ, S => some ((.ct, σ), S)
  | .nev, _, _ => none
def exB : List St → En → Sg → Rs (Fl × En)
  | [], σ, S => some ((.nx, σ), S)
  | s :: r, σ, S => bnd (exS s σ S) fun p S1 => match p with
    | (.nx, σ1) => exB r σ1 S1
    | q => some (q, S1)
end
def runF (n : Nat) (body : List St) (ds : List D) (S : Sg) : Rs VX := bnd (exB cs body (ds.map some ++ List.replicate (n - ds.length) none) S) fun p S1 => match p with
  | (.nx, _) => some (.d .non, S1)
  | (.rt v, _) => some (v, S1)
  | _ => none
end
end Ev

set_option maxRecDepth 100000
set_option autoImplicit false
namespace Ev
open PySem PySem.Spec PyProof.Rows L2

/-- a place: its address, and whether the evaluator alone may write there -/
abbrev Lc := Addr × Bool
/-- a tuple whose whole object is known (it has no dict of its own) -/
def PTup (K : PySem.W.Frag) (H : Hp) (a : Addr) (xs : List V) : Prop := (∃ o, H a = some (.frz o (.tup xs)) ∧ o.dict = none) ∨
  ∃ (o : Obj) (its : Array Value) (n : Nat), K.lookup a = some o ∧ o.cls = .type "tuple" ∧ o.dict = none ∧ o.data = .seq its n ∧ its.size ≤ sizeLine ∧ Vals xs its.toList
theorem PTup.sqT {K : PySem.W.Frag} {H : Hp} {a : Addr} {xs : List V} (h : PTup K H a xs) : SqT K H a xs := by
  rcases h with ⟨o, h, _⟩ | ⟨o, its, n, h1, h2, h3, h4⟩
  · exact .inl (.inr ⟨o, h⟩)
  · exact .inr ⟨o, its, n, h1, h2, h4⟩
theorem PTup.at {X : Cx} {pins : List (Addr × Obj)} {σ : L2.St} {H : Hp} {s : Shared} {a : Addr} {xs : List V} (I : Inv X pins σ H s) (h : PTup X.K H a xs) : ∃ o its n, s.heap.get? a = some o ∧ o.cls = .type "tuple" ∧ o.dict = none ∧ o.data = .seq its n ∧ Vals xs its.toList ∧ xs.length ≤ sizeLine := by
  rcases h with ⟨o, h, hd⟩ | ⟨o, its, n, h1, h2, h3, h4, h5, h6⟩
  · obtain ⟨e, z, its, r, o', e', hc, n, hd'⟩ := I.hok a _ h
    rw [e] at e'; cases e'
    exact ⟨o, its.toArray, n, e, hc, hd, hd', by simpa using r, z⟩
  · exact ⟨o, its, n, I.kIn a o h1, h2, h3, h4, h6, by have := h6.length; simp at this; omega⟩
section
variable (K : PySem.W.Frag)
mutual
def Rel (ι : List Lc) (H : Hp) : D → V → Prop
  | .non, v => v = .non
  | .bl b, v => v = .bl b
  | .int i, v => v = .int i
  | .str x, v => v = .str x
  | .loc l, v => ∃ p, ι[l]? = some p ∧ v = .ref p.1
  | .tup ds, v => ∃ a xs, v = .ref a ∧ PTup K H a xs ∧ RelL ι H ds xs
def RelL (ι : List Lc) (H : Hp) : List D → List V → Prop
  | [], vs => vs = []
  | d :: ds, vs => ∃ x r, vs = x :: r ∧ Rel ι H d x ∧ RelL ι H ds r
end
def FzL (H : Hp) (a : Addr) (xs : List V) : Prop := (∃ o, H a = some (.frz o (.lst xs))) ∨
  ∃ (o : Obj) (its : Array Value) (n : Nat), K.lookup a = some o ∧ o.cls = .type "list" ∧ o.dict = none ∧ o.data = .seq its n ∧ its.size ≤ sizeLine ∧ Vals xs its.toList
def CellOk (ι : List Lc) (H : Hp) : Cell → Lc → Prop
  | .lst ds, p => p.2 = true ∧ ∃ xs, H p.1 = some (.lst xs) ∧ RelL K ι H ds xs
  | .frz ds, p => p.2 = false ∧ ∃ xs, FzL K H p.1 xs ∧ RelL K ι H ds xs
  | .dK kvs, p => p.2 = true ∧ ∃ ws, H p.1 = some (.dK ws) ∧ Paired (fun (q : Key × D) (r : Key × V) => q.1 = r.1 ∧ Rel K ι H q.2 r.2) kvs ws
  | .dT kvs, p => p.2 = true ∧ ∃ ws, H p.1 = some (.dT ws) ∧ Paired (fun (q : List Key × D) (r : List Key × V) => q.1 = r.1 ∧ Rel K ι H q.2 r.2) kvs ws
structure StO (ι : List Lc) (S : Sg) (H : Hp) : Prop where
  len : S.length = ι.length
  inj : ∀ (i j : Nat) (a : Addr), ι[i]? = some (a, true) → ι[j]? = some (a, true) → i = j
  ok : ∀ (l : Nat) (c : Cell), S[l]? = some c → ∃ p, ι[l]? = some p ∧ CellOk K ι H c p
structure Ge (ι : List Lc) (H : Hp) (ι' : List Lc) (H' : Hp) : Prop where
  pre : ∃ r, ι' = ι ++ r ∧ ∀ b, (b, true) ∈ r → H b = none
  keep : ∀ b o, H b = some o → (b, true) ∉ ι → H' b = some o
  tups : ∀ b xs, H b = some (.tup xs) → H' b = some (.tup xs)
  frzs : ∀ b o u, H b = some (.frz o u) → H' b = some (.frz o u)
  there : ∀ b o, H b = some o → ∃ o', H' b = some o'
def EnO (ι : List Lc) (H : Hp) (σD : En) (σ : L2.St) : Prop := σD.length = σ.length ∧ ∀ (i : Nat) (d : D), σD[i]? = some (some d) → ∃ v : V, σ[i]? = some (some v) ∧ Rel K ι H d v
def RelX (ι : List Lc) (H : Hp) : VX → V → Prop
  | .d x, v => Rel K ι H x v
  | .l ds, v => ∃ a xs, v = .ref a ∧ H a = some (.lst xs) ∧ (a, true) ∉ ι ∧ RelL K ι H ds xs
end
section
variable {K : PySem.W.Frag} {ι ι1 ι2 ι' : List Lc} {H H1 H2 H' : Hp} {S S' : Sg}
theorem Ge.refl : Ge ι H ι H := ⟨⟨[], by simp, by simp⟩, fun _ _ h _ => h, fun _ _ h => h, fun _ _ _ h => h, fun _ o h => ⟨o, h⟩⟩
theorem Ge.trans (g : Ge ι H ι1 H1) (g' : Ge ι1 H1 ι2 H2) : Ge ι H ι2 H2 := by
  obtain ⟨r1, e1, n1⟩ := g.pre
  obtain ⟨r2, e2, n2⟩ := g'.pre
  refine ⟨⟨r1 ++ r2, by rw [e2, e1, List.append_assoc], fun b hb => ?_⟩, fun b o h hn => ?_, fun b xs h => g'.tups b xs (g.tups b xs h), fun b o u h => g'.frzs b o u (g.frzs b o u h), fun b o h => ?_⟩
  · rcases List.mem_append.mp hb with hb | hb
    · exact n1 b hb
    · have z := n2 b hb
      cases q : H b with
      | none => rfl
      | some o =>
        obtain ⟨o', e⟩ := g.there b o q
        rw [e] at z; cases z
  · refine g'.keep b o (g.keep b o h hn) fun hb => ?_
    rw [e1] at hb
    rcases List.mem_append.mp hb with hb | hb
    · exact hn hb
    · rw [n1 b hb] at h; cases h
  · obtain ⟨o', e⟩ := g.there b o h
    exact g'.there b o' e
theorem Ge.get (g : Ge ι H ι' H') {l : Nat} {p : Lc} (h : ι[l]? = some p) : ι'[l]? = some p := by
  obtain ⟨r, e, _⟩ := g.pre
  rw [e, List.getElem?_append_left (List.getElem?_eq_some_iff.mp h).1]
  exact h
theorem Ge.sqT (g : Ge ι H ι' H') {a : Addr} {xs : List V} (h : SqT K H a xs) : SqT K H' a xs := by
  rcases h with (h | ⟨o, h⟩) | h
  · exact .inl (.inl (g.tups _ _ h))
  · exact .inl (.inr ⟨o, g.frzs _ _ _ h⟩)
  · exact .inr h
theorem Ge.pT (g : Ge ι H ι' H') {a : Addr} {xs : List V} (h : PTup K H a xs) : PTup K H' a xs := by
  rcases h with ⟨o, h, hd⟩ | h
  · exact .inl ⟨o, g.frzs _ _ _ h, hd⟩
  · exact .inr h
theorem Ge.fzL (g : Ge ι H ι' H') {a : Addr} {xs : List V} (h : FzL K H a xs) : FzL K H' a xs := by
  rcases h with ⟨o, h⟩ | h
  · exact .inl ⟨o, g.frzs _ _ _ h⟩
  · exact .inr h
theorem FzL.sqL {a : Addr} {xs : List V} (h : FzL K H a xs) : SqL K H a xs := by
  rcases h with ⟨o, h⟩ | h
  · exact .inl (.inr ⟨o, h⟩)
  · exact .inr h
structure Up (K : PySem.W.Frag) (ι : List Lc) (H : Hp) (ι' : List Lc) (H' : Hp) : Prop where
  get : ∀ (l : Nat) (p : Lc), ι[l]? = some p → ι'[l]? = some p
  pT : ∀ (a : Addr) (xs : List V), PTup K H a xs → PTup K H' a xs
  fzL : ∀ (a : Addr) (xs : List V), FzL K H a xs → FzL K H' a xs
theorem Ge.up (g : Ge ι H ι' H') : Up K ι H ι' H' := ⟨fun _ _ h => g.get h, fun _ _ h => g.pT h, fun _ _ h => g.fzL h⟩
mutual
theorem Rel.mono (g : Up K ι H ι' H') : ∀ (d : D) (v : V), Rel K ι H d v → Rel K ι' H' d v
  | .non, v, h => by simpa [Rel] using h
  | .bl b, v, h => by simpa [Rel] using h
  | .int i, v, h => by simpa [Rel] using h
  | .str x, v, h => by simpa [Rel] using h
  | .loc l, v, h => by
    unfold Rel at h ⊢
    obtain ⟨p, e, r⟩ := h
    exact ⟨p, g.get _ _ e, r⟩
  | .tup ds, v, h => by
    unfold Rel at h ⊢
    obtain ⟨a, xs, e, q, r⟩ := h
    exact ⟨a, xs, e, g.pT _ _ q, RelL.mono g ds xs r⟩
theorem RelL.mono (g : Up K ι H ι' H') : ∀ (ds : List D) (vs : List V), RelL K ι H ds vs → RelL K ι' H' ds vs
  | [], vs, h => by simpa [RelL] using h
  | d :: ds, vs, h => by
    unfold RelL at h ⊢
    obtain ⟨x, r, e, h1, h2⟩ := h
    exact ⟨x, r, e, Rel.mono g d x h1, RelL.mono g ds r h2⟩
end
theorem Ge.rel (g : Ge ι H ι' H') {d : D} {v : V} (h : Rel K ι H d v) : Rel K ι' H' d v := Rel.mono g.up d v h
theorem Ge.relL (g : Ge ι H ι' H') {d : List D} {v : List V} (h : RelL K ι H d v) : RelL K ι' H' d v := RelL.mono g.up d v h
theorem Ge.relX (g : Ge ι H ι' H') {x : VX} {v : V} (h : RelX K ι H x v) : RelX K ι' H' x v := by
  cases x with
  | d x => exact g.rel h
  | l ds =>
    obtain ⟨a, xs, e, h1, h2, h3⟩ := h
    refine ⟨a, xs, e, g.keep _ _ h1 h2, fun hm => ?_, g.relL h3⟩
    obtain ⟨r, e2, n⟩ := g.pre
    rw [e2] at hm
    rcases List.mem_append.mp hm with hm | hm
    · exact h2 hm
    · rw [n a hm] at h1; cases h1
theorem Ge.en (g : Ge ι H ι' H') {σD : En} {σ : L2.St} (h : EnO K ι H σD σ) : EnO K ι' H' σD σ :=
  ⟨h.1, fun i d e => let ⟨v, e2, r⟩ := h.2 i d e; ⟨v, e2, g.rel r⟩⟩
theorem RelL.length : ∀ {ds : List D} {vs : List V}, RelL K ι H ds vs → ds.length = vs.length
  | [], vs, h => by unfold RelL at h; subst h; rfl
  | d :: ds, vs, h => by
    unfold RelL at h
    obtain ⟨x, r, e, h1, h2⟩ := h
    subst e
    simp [RelL.length h2]
theorem RelL.get : ∀ {ds : List D} {vs : List V} {i : Nat} {d : D}, RelL K ι H ds vs → ds[i]? = some d → ∃ v, vs[i]? = some v ∧ Rel K ι H d v
  | [], _, _, _, _, e => by simp at e
  | d :: ds, vs, i, x, h, e => by
    unfold RelL at h
    obtain ⟨y, r, e1, h1, h2⟩ := h
    subst e1
    cases i with
    | zero => simp at e; subst e; exact ⟨y, by simp, h1⟩
    | succ i =>
      obtain ⟨v, q1, q2⟩ := RelL.get (i := i) (d := x) h2 (by simpa using e)
      exact ⟨v, by simpa using q1, q2⟩
theorem RelL.of : ∀ {ds : List D} {vs : List V}, ds.length = vs.length → (∀ (i : Nat) (d : D) (v : V), ds[i]? = some d → vs[i]? = some v → Rel K ι H d v) → RelL K ι H ds vs
  | [], vs, e, _ => by
    unfold RelL
    cases vs with
    | nil => rfl
    | cons _ _ => simp at e
  | d :: ds, vs, e, h => by
    cases vs with
    | nil => simp at e
    | cons v vs =>
      unfold RelL
      exact ⟨v, vs, rfl, h 0 d v rfl rfl, RelL.of (by simpa using e) fun i d' v' h1 h2 => h (i + 1) d' v' (by simpa using h1) (by simpa using h2)⟩
theorem RelL.append : ∀ {ds : List D} {vs : List V} {es : List D} {us : List V}, RelL K ι H ds vs → RelL K ι H es us → RelL K ι H (ds ++ es) (vs ++ us)
  | [], vs, es, us, h, h' => by unfold RelL at h; subst h; exact h'
  | d :: ds, vs, es, us, h, h' => by
    unfold RelL at h
    obtain ⟨x, r, e, h1, h2⟩ := h
    subst e
    show RelL K ι H (d :: (ds ++ es)) (x :: (r ++ us))
    unfold RelL
    exact ⟨x, r ++ us, rfl, h1, RelL.append h2 h'⟩
theorem RelL.one {d : D} {v : V} (h : Rel K ι H d v) : RelL K ι H [d] [v] := by
  unfold RelL
  exact ⟨v, [], rfl, h, by unfold RelL; rfl⟩
theorem RelL.nil : RelL K ι H [] [] := by unfold RelL; rfl
theorem RelL.cons {d : D} {v : V} {ds : List D} {vs : List V} (h : Rel K ι H d v) (h' : RelL K ι H ds vs) : RelL K ι H (d :: ds) (v :: vs) := by
  unfold RelL
  exact ⟨v, vs, rfl, h, h'⟩
/-- a list of related things by places -/
theorem RelL.by_ {ds : List D} {vs : List V} (h : RelL K ι H ds vs) {es : List D} {us : List V} (e : es.length = us.length) (f : ∀ (i : Nat) (d : D), es[i]? = some d → ∃ j : Nat, ds[j]? = some d ∧ us[i]? = vs[j]?) : RelL K ι H es us := by
  refine RelL.of e fun i d v h1 h2 => ?_
  obtain ⟨j, q1, q2⟩ := f i d h1
  obtain ⟨w, q3, q4⟩ := h.get q1
  rw [h2, q3] at q2
  cases q2
  exact q4
theorem RelL.take {ds : List D} {vs : List V} (n : Nat) (h : RelL K ι H ds vs) : RelL K ι H (ds.take n) (vs.take n) := by
  refine h.by_ (by simp [h.length]) fun i d e => ⟨i, ?_, ?_⟩
  · have := (List.getElem?_eq_some_iff.mp e).1
    rw [List.length_take] at this
    rw [List.getElem?_take_of_lt (by omega)] at e
    exact e
  · have := (List.getElem?_eq_some_iff.mp e).1
    rw [List.length_take] at this
    exact List.getElem?_take_of_lt (by omega)
theorem RelL.drop {ds : List D} {vs : List V} (n : Nat) (h : RelL K ι H ds vs) : RelL K ι H (ds.drop n) (vs.drop n) :=
  h.by_ (by simp [h.length]) fun i d e => ⟨n + i, by rw [List.getElem?_drop] at e; exact e, by rw [List.getElem?_drop]⟩
theorem RelL.reverse {ds : List D} {vs : List V} (h : RelL K ι H ds vs) : RelL K ι H ds.reverse vs.reverse := by
  refine h.by_ (by simp [h.length]) fun i d e => ⟨ds.length - 1 - i, ?_, ?_⟩
  · have hi := (List.getElem?_eq_some_iff.mp e).1
    rw [List.length_reverse] at hi
    rw [List.getElem?_reverse hi] at e
    exact e
  · have hi := (List.getElem?_eq_some_iff.mp e).1
    rw [List.length_reverse] at hi
    rw [List.getElem?_reverse (by rw [← h.length]; exact hi), h.length]
theorem RelL.cut {ds : List D} {vs : List V} (lo hi : Option Int) (h : RelL K ι H ds vs) : RelL K ι H (cutL ds lo hi) (cutV vs lo hi) := by
  unfold cutL cutV
  rw [h.length]
  exact (h.drop _).take _
theorem RelL.set {ds : List D} {vs : List V} (n : Nat) {d : D} {v : V} (h : RelL K ι H ds vs) (r : Rel K ι H d v) : RelL K ι H (ds.set n d) (vs.set n v) := by
  refine RelL.of (by simp [h.length]) fun i x y h1 h2 => ?_
  by_cases e : n = i
  · subst e
    have hi := (List.getElem?_eq_some_iff.mp h1).1
    rw [List.length_set] at hi
    rw [List.getElem?_set_self hi] at h1
    rw [List.getElem?_set_self (by rw [← h.length]; exact hi)] at h2
    cases h1; cases h2; exact r
  · rw [List.getElem?_set_ne e] at h1 h2
    obtain ⟨w, q3, q4⟩ := h.get h1
    rw [h2] at q3; cases q3; exact q4
theorem RelL.eraseIdx {ds : List D} {vs : List V} (n : Nat) (h : RelL K ι H ds vs) : RelL K ι H (ds.eraseIdx n) (vs.eraseIdx n) := by
  rw [List.eraseIdx_eq_take_drop_succ, List.eraseIdx_eq_take_drop_succ]
  exact (h.take n).append (h.drop (n + 1))
theorem RelL.dropLast {ds : List D} {vs : List V} (h : RelL K ι H ds vs) : RelL K ι H ds.dropLast vs.dropLast := by
  rw [List.dropLast_eq_take, List.dropLast_eq_take, h.length]
  exact h.take _
theorem RelL.ints : ∀ {ds : List D} {vs : List V} {is : List Int}, RelL K ι H ds vs → intsOf ds = some is → vs = is.map V.int
  | [], vs, is, h, e => by
    unfold RelL at h; subst h
    simp [intsOf] at e; subst e; rfl
  | d :: ds, vs, is, h, e => by
    unfold RelL at h
    obtain ⟨x, r, rfl, h1, h2⟩ := h
    cases d with
    | int i =>
      unfold intsOf at e
      cases q : intsOf ds with
      | none => rw [q] at e; cases e
      | some js =>
        rw [q] at e
        cases e
        rw [RelL.ints h2 q]
        have h1' : x = .int i := by simpa [Rel] using h1
        rw [h1']; rfl
    | _ => simp [intsOf] at e
theorem RelL.bls : ∀ {ds : List D} {vs : List V} {bs : List Bool}, RelL K ι H ds vs → blsOf ds = some bs → vs = bs.map V.bl
  | [], vs, is, h, e => by
    unfold RelL at h; subst h
    simp [blsOf] at e; subst e; rfl
  | d :: ds, vs, is, h, e => by
    unfold RelL at h
    obtain ⟨x, r, rfl, h1, h2⟩ := h
    cases d with
    | bl i =>
      unfold blsOf at e
      cases q : blsOf ds with
      | none => rw [q] at e; cases e
      | some js =>
        rw [q] at e
        cases e
        rw [RelL.bls h2 q]
        have h1' : x = .bl i := by simpa [Rel] using h1
        rw [h1']; rfl
    | _ => simp [blsOf] at e

theorem StO.cell (s : StO K ι S H) {l : Nat} {c : Cell} (h : S[l]? = some c) : ∃ p, ι[l]? = some p ∧ CellOk K ι H c p := s.ok l c h
/-- an untracked address was written, or laid: nothing that is told changes -/
theorem Ge.other {p : Addr} {o : HO} (h : H p = none) : Ge ι H ι (upd H p o) :=
  ⟨⟨[], by simp, by simp⟩, fun b u e _ => by rw [upd_ne (ne_of_none e h)]; exact e, fun b u e => by rw [upd_ne (ne_of_none e h)]; exact e,
    fun b u w e => by rw [upd_ne (ne_of_none e h)]; exact e, fun b u e => ⟨u, by rw [upd_ne (ne_of_none e h)]; exact e⟩⟩
theorem Paired.monoP {α β : Type} {F G : α → β → Prop} : ∀ {l : List α} {r : List β}, Paired F l r → (∀ a b, F a b → G a b) → Paired G l r
  | _, _, .nil, _ => .nil
  | _, _, .cons a t, f => .cons (f _ _ a) (Paired.monoP t f)
theorem CellOk.mono (g : Up K ι H ι' H') {c : Cell} {p : Lc} (hk : p.2 = true → H' p.1 = H p.1) (h : CellOk K ι H c p) : CellOk K ι' H' c p := by
  cases c with
  | lst ds => obtain ⟨e, xs, h1, h2⟩ := h; exact ⟨e, xs, by rw [hk e]; exact h1, RelL.mono g _ _ h2⟩
  | frz ds => obtain ⟨e, xs, h1, h2⟩ := h; exact ⟨e, xs, g.fzL _ _ h1, RelL.mono g _ _ h2⟩
  | dK kvs => obtain ⟨e, xs, h1, h2⟩ := h; exact ⟨e, xs, by rw [hk e]; exact h1, Paired.monoP h2 fun a b q => ⟨q.1, Rel.mono g _ _ q.2⟩⟩
  | dT kvs => obtain ⟨e, xs, h1, h2⟩ := h; exact ⟨e, xs, by rw [hk e]; exact h1, Paired.monoP h2 fun a b q => ⟨q.1, Rel.mono g _ _ q.2⟩⟩
theorem CellOk.some {c : Cell} {p : Lc} (h : CellOk K ι H c p) (e : p.2 = true) : ∃ o, H p.1 = .some o := by
  cases c with
  | lst ds => obtain ⟨_, xs, h1, h2⟩ := h; exact ⟨_, h1⟩
  | frz ds => obtain ⟨z, _⟩ := h; rw [e] at z; cases z
  | dK kvs => obtain ⟨_, xs, h1, h2⟩ := h; exact ⟨_, h1⟩
  | dT kvs => obtain ⟨_, xs, h1, h2⟩ := h; exact ⟨_, h1⟩
theorem StO.alive (s : StO K ι S H) {a : Addr} (h : (a, true) ∈ ι) : ∃ o, H a = some o := by
  obtain ⟨l, hl, e⟩ := List.mem_iff_getElem.mp h
  have hl' : l < S.length := by rw [s.len]; exact hl
  obtain ⟨p, e1, c⟩ := s.ok l _ (List.getElem?_eq_getElem hl')
  rw [List.getElem?_eq_getElem hl, e] at e1
  cases e1
  exact c.some rfl
theorem StO.other (s : StO K ι S H) {p : Addr} {o : HO} (h : H p = none) : StO K ι S (upd H p o) :=
  ⟨s.len, s.inj, fun l c e => by
    obtain ⟨q, e1, k⟩ := s.ok l c e
    refine ⟨q, e1, k.mono (Ge.other h).up fun z => ?_⟩
    obtain ⟨u, hu⟩ := k.some z
    rw [upd_ne (ne_of_none hu h)]⟩
theorem StO.fresh (s : StO K ι S H) {p : Addr} (h : H p = none) : (p, true) ∉ ι := fun hm => by
  obtain ⟨o, e⟩ := s.alive hm
  rw [h] at e; cases e
/-- a thing that nobody holds is given a place -/
theorem StO.put (s : StO K ι S H) {a : Addr} {c : Cell} {ι0 : List Lc} {H0 : Hp} (hn : (a, true) ∉ ι) (hc : Up K ι H (ι ++ [(a, true)]) H → CellOk K (ι ++ [(a, true)]) H c (a, true)) (g : Ge ι0 H0 ι H) (h0 : H0 a = none) :
    StO K (ι ++ [(a, true)]) (S ++ [c]) H ∧ Rel K (ι ++ [(a, true)]) H (.loc S.length) (.ref a) ∧ Ge ι0 H0 (ι ++ [(a, true)]) H := by
  have up : Up K ι H (ι ++ [(a, true)]) H := ⟨fun l p e => by rw [List.getElem?_append_left (List.getElem?_eq_some_iff.mp e).1]; exact e, fun _ _ h => h, fun _ _ h => h⟩
  have last : (ι ++ [(a, true)])[S.length]? = some (a, true) := by
    rw [s.len, List.getElem?_append_right (Nat.le_refl _)]
    simp
  refine ⟨⟨by simp [s.len], fun i j b hi hj => ?_, fun l d e => ?_⟩, ?_, ?_⟩
  · have inl : ∀ (i : Nat), (ι ++ [(a, true)])[i]? = some (b, true) → ι[i]? = some (b, true) ∨ (i = ι.length ∧ b = a) := fun i h => by
      by_cases hl : i < ι.length
      · rw [List.getElem?_append_left hl] at h
        exact .inl h
      · rw [List.getElem?_append_right (by omega)] at h
        have hi := (List.getElem?_eq_some_iff.mp h).1
        simp at hi
        have e : i = ι.length := by omega
        subst e
        simp at h
        exact .inr ⟨rfl, h.symm⟩
    have ni : ∀ (i : Nat), ι[i]? = some (b, true) → b = a → False := fun i h e => hn (e ▸ List.mem_of_getElem? h)
    rcases inl i hi with q1 | ⟨q1, q1'⟩ <;> rcases inl j hj with q2 | ⟨q2, q2'⟩
    · exact s.inj i j b q1 q2
    · exact (ni i q1 q2').elim
    · exact (ni j q2 q1').elim
    · rw [q1, q2]
  · by_cases hl : l < S.length
    · rw [List.getElem?_append_left hl] at e
      obtain ⟨p, e1, k⟩ := s.ok l d e
      exact ⟨p, up.get _ _ e1, k.mono up fun _ => rfl⟩
    · have hl2 := (List.getElem?_eq_some_iff.mp e).1
      simp at hl2
      have el : l = S.length := by omega
      subst el
      simp at e
      subst e
      exact ⟨_, last, hc up⟩
  · unfold Rel
    exact ⟨_, last, rfl⟩
  · obtain ⟨r, e, n⟩ := g.pre
    refine ⟨⟨r ++ [(a, true)], by rw [e, List.append_assoc], fun b hb => ?_⟩, g.keep, g.tups, g.frzs, g.there⟩
    rcases List.mem_append.mp hb with hb | hb
    · exact n b hb
    · have : b = a := by simpa using hb
      rw [this]; exact h0
theorem StO.alloc (s : StO K ι S H) {a : Addr} {xs : List V} {ds : List D} {ι0 : List Lc} {H0 : Hp} (h : H a = some (.lst xs)) (hn : (a, true) ∉ ι) (r : RelL K ι H ds xs) (g : Ge ι0 H0 ι H) (h0 : H0 a = none) :
    StO K (ι ++ [(a, true)]) (S ++ [.lst ds]) H ∧ Rel K (ι ++ [(a, true)]) H (.loc S.length) (.ref a) ∧ Ge ι0 H0 (ι ++ [(a, true)]) H :=
  s.put hn (fun up => ⟨rfl, xs, h, RelL.mono up _ _ r⟩) g h0
/-- a cell is written -/
theorem StO.write (s : StO K ι S H) {l : Nat} {a : Addr} {c : Cell} {o o' : HO} (hl : ι[l]? = some (a, true)) (ho : H a = some o) (hnt : ∀ xs, o ≠ .tup xs) (hnf : ∀ b u, o ≠ .frz b u)
    (hc : Up K ι H ι (upd H a o') → CellOk K ι (upd H a o') c (a, true)) : StO K ι (S.set l c) (upd H a o') ∧ Ge ι H ι (upd H a o') := by
  have nt : ∀ b xs, H b = some (.tup xs) → b ≠ a := fun b xs e z => by subst z; rw [ho] at e; cases e; exact hnt _ rfl
  have nf : ∀ b q u, H b = some (.frz q u) → b ≠ a := fun b q u e z => by subst z; rw [ho] at e; cases e; exact hnf _ _ rfl
  have g : Ge ι H ι (upd H a o') := ⟨⟨[], by simp, by simp⟩, fun b u e hm => by
      by_cases z : b = a
      · subst z; exact (hm (List.mem_of_getElem? hl)).elim
      · rw [upd_ne z]; exact e, fun b xs e => by rw [upd_ne (nt b xs e)]; exact e, fun b q u e => by rw [upd_ne (nf b q u e)]; exact e, fun b u e => by
      by_cases z : b = a
      · subst z; exact ⟨o', upd_same⟩
      · exact ⟨u, by rw [upd_ne z]; exact e⟩⟩
  refine ⟨⟨by simp [s.len], s.inj, fun j d e => ?_⟩, g⟩
  by_cases hj : l = j
  · subst hj
    have hlt : l < S.length := by rw [s.len]; exact (List.getElem?_eq_some_iff.mp hl).1
    rw [List.getElem?_set_self hlt] at e
    cases e
    exact ⟨_, hl, hc g.up⟩
  · rw [List.getElem?_set_ne hj] at e
    obtain ⟨p, e1, k⟩ := s.ok j d e
    refine ⟨p, e1, k.mono g.up fun z => upd_ne fun ea => hj ?_⟩
    obtain ⟨b, k2⟩ := p
    have z' : k2 = true := z
    have ea' : b = a := ea
    subst z' ea'
    exact s.inj l j _ hl e1
/-- what the store says of a list -/
theorem StO.list (s : StO K ι S H) {l : Nat} {ds : List D} {v : V} (h : lsAt S l = some ds) (r : Rel K ι H (.loc l) v) : ∃ a xs, v = .ref a ∧ SqL K H a xs ∧ RelL K ι H ds xs := by
  unfold lsAt at h
  unfold Rel at r
  obtain ⟨p, e, rv⟩ := r
  cases q : S[l]? with
  | none => rw [q] at h; cases h
  | some c =>
    rw [q] at h
    obtain ⟨p', e', k⟩ := s.ok l c q
    rw [e] at e'; cases e'
    cases c with
    | lst es => cases h; obtain ⟨_, xs, h1, h2⟩ := k; exact ⟨p.1, xs, rv, .inl (.inl h1), h2⟩
    | frz es => cases h; obtain ⟨_, xs, h1, h2⟩ := k; exact ⟨p.1, xs, rv, h1.sqL, h2⟩
    | dK es => cases h
    | dT es => cases h
/-- .. that may be written -/
theorem StO.mlist (s : StO K ι S H) {l : Nat} {ds : List D} {v : V} (h : S[l]? = some (.lst ds)) (r : Rel K ι H (.loc l) v) : ∃ a xs, v = .ref a ∧ ι[l]? = some (a, true) ∧ H a = some (.lst xs) ∧ RelL K ι H ds xs := by
  unfold Rel at r
  obtain ⟨p, e, rv⟩ := r
  obtain ⟨p', e', k⟩ := s.ok l _ h
  rw [e] at e'; cases e'
  obtain ⟨b, k2⟩ := p
  obtain ⟨hk, xs, h1, h2⟩ := k
  have hk' : k2 = true := hk
  subst hk'
  exact ⟨b, xs, rv, e, h1, h2⟩
theorem lsOf_rel (s : StO K ι S H) {x : VX} {ds : List D} {v : V} (h : lsOf S x = some ds) (r : RelX K ι H x v) : ∃ a xs, v = .ref a ∧ SqL K H a xs ∧ RelL K ι H ds xs := by
  cases x with
  | l es =>
    have e : es = ds := Option.some.inj h
    subst e
    obtain ⟨a, xs, e, h1, _, h3⟩ := r
    exact ⟨a, xs, e, .inl (.inl h1), h3⟩
  | d x =>
    cases x with
    | loc l => exact s.list h r
    | _ => cases h
theorem tpOf_rel {x : VX} {ds : List D} {v : V} (h : tpOf x = some ds) (r : RelX K ι H x v) : ∃ a xs, v = .ref a ∧ PTup K H a xs ∧ RelL K ι H ds xs := by
  cases x with
  | l es => cases h
  | d x =>
    cases x with
    | tup es =>
      have e : es = ds := Option.some.inj h
      subst e
      have r' : Rel K ι H (.tup es) v := r
      unfold Rel at r'
      exact r'
    | _ => cases h
theorem sqOf_rel (s : StO K ι S H) {x : VX} {ds : List D} {v : V} (h : sqOf S x = some ds) (r : RelX K ι H x v) : ∃ a xs, v = .ref a ∧ (SqL K H a xs ∨ PTup K H a xs) ∧ RelL K ι H ds xs := by
  unfold sqOf at h
  cases q : tpOf x with
  | some es =>
    rw [q] at h
    have e : es = ds := Option.some.inj h
    subst e
    obtain ⟨a, xs, e, h1, h2⟩ := tpOf_rel q r
    exact ⟨a, xs, e, .inr h1, h2⟩
  | none =>
    rw [q] at h
    obtain ⟨a, xs, e, h1, h2⟩ := lsOf_rel s h r
    exact ⟨a, xs, e, .inl h1, h2⟩
end
end Ev

namespace Ev
open PySem PySem.Spec PyProof.Rows L2

theorem cap_eq : cap = sizeLine := by rw [sizeLine_eq]; rfl
def NewX (H : Hp) (x : VX) (v : V) : Prop := match x with
  | .d _ => True
  | .l _ => ∀ a, v = .ref a → H a = none
theorem NewX.back {ι ι' : List Lc} {H H1 : Hp} {x : VX} {v : V} (g : Ge ι H ι' H1) (h : NewX H1 x v) : NewX H x v := by
  cases x with
  | d _ => trivial
  | l ds =>
    intro a e
    have z := h a e
    cases q : H a with
    | none => rfl
    | some o =>
      obtain ⟨o', e'⟩ := g.there a o q
      rw [z] at e'; cases e'
section
variable (K : PySem.W.Frag)
/-- what follows a value -/
def FinX (ι : List Lc) (H : Hp) (S' : Sg) (x : VX) (Q : VK) : Prop := ∀ ι' H' v, Ge ι H ι' H' → StO K ι' S' H' → RelX K ι' H' x v → NewX H x v → Q v H'
def tX (f : En → Sg → Rs VX) : TE := fun σ H Q => ∃ ι σD S x S', EnO K ι H σD σ ∧ StO K ι S H ∧ f σD S = some (x, S') ∧ FinX K ι H S' x Q
def tD (f : En → Sg → Rs D) : TE := fun σ H Q => ∃ ι σD S x S', EnO K ι H σD σ ∧ StO K ι S H ∧ f σD S = some (x, S') ∧ ∀ ι' H' v, Ge ι H ι' H' → StO K ι' S' H' → Rel K ι' H' x v → Q v H'
def tT (f : En → Sg → Rs Bool) : TT := fun σ H Q => ∃ ι σD S x S', EnO K ι H σD σ ∧ StO K ι S H ∧ f σD S = some (x, S') ∧ ∀ ι' H', Ge ι H ι' H' → StO K ι' S' H' → Q x H'
def tL (f : En → Sg → Rs (List D)) : TA := fun σ H Q => ∃ ι σD S x S', EnO K ι H σD σ ∧ StO K ι S H ∧ f σD S = some (x, S') ∧ ∀ ι' H' v, Ge ι H ι' H' → StO K ι' S' H' → RelL K ι' H' x v → Q v H'
inductive RelXs (ι : List Lc) (H : Hp) : List VX → List V → Prop
  | nil : RelXs ι H [] []
  | cons {x : VX} {v : V} {xs : List VX} {vs : List V} : RelX K ι H x v → RelXs ι H xs vs → RelXs ι H (x :: xs) (v :: vs)
def tXs (f : En → Sg → Rs (List VX)) : TA := fun σ H Q => ∃ ι σD S x S', EnO K ι H σD σ ∧ StO K ι S H ∧ f σD S = some (x, S') ∧ ∀ ι' H' v, Ge ι H ι' H' → StO K ι' S' H' → RelXs K ι' H' x v → Q v H'
def rB (op : VX → VX → Sg → Rs VX) : R2 := fun v w H Q => ∃ ι S x y z S', StO K ι S H ∧ RelX K ι H x v ∧ RelX K ι H y w ∧ op x y S = some (z, S') ∧ FinX K ι H S' z Q
def rU1 (op : VX → Sg → Rs VX) : V → Hp → VK → Prop := fun v H Q => ∃ ι S x z S', StO K ι S H ∧ RelX K ι H x v ∧ op x S = some (z, S') ∧ FinX K ι H S' z Q
def rCs (op : List VX → Sg → Rs VX) : List V → Hp → VK → Prop := fun vs H Q => ∃ ι S xs z S', StO K ι S H ∧ RelXs K ι H xs vs ∧ op xs S = some (z, S') ∧ FinX K ι H S' z Q
def rMs (op : VX → List VX → Sg → Rs VX) : V → List V → Hp → VK → Prop := fun v vs H Q => ∃ ι S x xs z S', StO K ι S H ∧ RelX K ι H x v ∧ RelXs K ι H xs vs ∧ op x xs S = some (z, S') ∧ FinX K ι H S' z Q
end
section
variable {K : PySem.W.Frag} {ι ι1 ι' : List Lc} {H H1 H' : Hp} {S S' : Sg} {Q : VK}
theorem Ge.relXs (g : Ge ι H ι' H') {xs : List VX} {vs : List V} (h : RelXs K ι H xs vs) : RelXs K ι' H' xs vs := by
  induction h with
  | nil => exact .nil
  | cons a _ ih => exact .cons (g.relX a) ih
theorem FinX.mono {x : VX} {ι0 : List Lc} {H0 : Hp} (q : FinX K ι0 H0 S x Q) (g : Ge ι0 H0 ι H) : FinX K ι H S x Q := fun ι' H' v g' s r n => q ι' H' v (g.trans g') s r (n.back g)
theorem FinX.same (s : StO K ι S H) {d : D} {v : V} (r : Rel K ι H d v) (q : FinX K ι H S (.d d) Q) : Q v H := q ι H v Ge.refl s r trivial
theorem FinX.bl (s : StO K ι S H) {b : Bool} (q : FinX K ι H S (.d (.bl b)) Q) : Q (.bl b) H := q.same s (by simp [Rel])
theorem FinX.int (s : StO K ι S H) {i : Int} (q : FinX K ι H S (.d (.int i)) Q) : Q (.int i) H := q.same s (by simp [Rel])
theorem FinX.non (s : StO K ι S H) (q : FinX K ι H S (.d .non) Q) : Q .non H := q.same s (by simp [Rel])
theorem FinX.tup (s : StO K ι S H) {ds : List D} {xs : List V} (r : RelL K ι H ds xs) (q : FinX K ι H S (.d (.tup ds)) Q) : ∀ p ob, H p = none → ob.dict = none → Q (.ref p) (upd H p (.frz ob (.tup xs))) := fun p ob hp hd =>
  q ι _ _ (Ge.other hp) (s.other hp) (by unfold RelX Rel; exact ⟨p, xs, rfl, .inl ⟨ob, upd_same, hd⟩, (Ge.other hp).relL r⟩) trivial
/-- a new tuple is laid, its object known -/
abbrev tupO (us : List Value) : Obj := { cls := .type "tuple", data := .seq us.toArray }
theorem tupLaid {X : Cx} {pins : List (Addr × Obj)} {σ : L2.St} {H : Hp} {s : Shared} {xs : List V} {us : List Value} (I : Inv X pins σ H s) (r : Vals xs us) (hz : xs.length ≤ sizeLine) (t : Nat) :
    Inv X pins σ (upd H s.heap.objs.size (.frz (tupO us) (.tup xs))) { s with heap := s.heap.push (tupO us), toks := t } :=
  I.laid (fun b o e => Heap.get?_push_of_some _ e) (Nat.le_refl _) ⟨Heap.get?_push_size _ rfl, hz, us, r, IsTup.new _ _⟩
theorem FinX.lst (s : StO K ι S H) {ds : List D} {xs : List V} (r : RelL K ι H ds xs) (q : FinX K ι H S (.l ds) Q) : ∀ p, H p = none → Q (.ref p) (upd H p (.lst xs)) := fun p hp =>
  q ι _ _ (Ge.other hp) (s.other hp) ⟨p, xs, rfl, upd_same, s.fresh hp, (Ge.other hp).relL r⟩ fun a e => by cases e; exact hp
theorem relX_int {i : Int} {v : V} (r : RelX K ι H (.d (.int i)) v) : v = .int i := by simpa [RelX, Rel] using r
theorem relX_bl {b : Bool} {v : V} (r : RelX K ι H (.d (.bl b)) v) : v = .bl b := by simpa [RelX, Rel] using r
theorem relX_non {v : V} (r : RelX K ι H (.d .non) v) : v = .non := by simpa [RelX, Rel] using r
theorem relX_str {z : Str} {v : V} (r : RelX K ι H (.d (.str z)) v) : v = .str z := by simpa [RelX, Rel] using r
theorem relX_tup {ds : List D} {v : V} (r : RelX K ι H (.d (.tup ds)) v) : ∃ a xs, v = .ref a ∧ PTup K H a xs ∧ RelL K ι H ds xs := by
  have r' : Rel K ι H (.tup ds) v := r
  unfold Rel at r'
  exact r'
theorem mlOf_rel (s : StO K ι S H) {x : VX} {ds : List D} {v : V} (h : mlOf S x = some ds) (r : RelX K ι H x v) : ∃ a xs, v = .ref a ∧ H a = some (.lst xs) ∧ RelL K ι H ds xs := by
  cases x with
  | l es =>
    have e : es = ds := Option.some.inj h
    subst e
    obtain ⟨a, xs, e, h1, _, h3⟩ := r
    exact ⟨a, xs, e, h1, h3⟩
  | d x =>
    cases x with
    | loc l =>
      unfold mlOf at h
      simp only at h
      split at h
      · rename_i es q
        cases h
        obtain ⟨a, xs, e, _, h1, h2⟩ := s.mlist q r
        exact ⟨a, xs, e, h1, h2⟩
      · cases h
    | _ => cases h

theorem mapM_cons {α β : Type} (f : α → Option β) (x : α) (xs : List α) (r : List β) (h : (x :: xs).mapM f = some r) : ∃ y ys, f x = some y ∧ xs.mapM f = some ys ∧ r = y :: ys := by
  rw [List.mapM_cons] at h
  cases e : f x with
  | none => rw [e] at h; cases h
  | some y =>
    rw [e] at h
    cases e2 : xs.mapM f with
    | none => rw [e2] at h; cases h
    | some ys =>
      rw [e2] at h
      cases h
      exact ⟨y, ys, rfl, rfl, rfl⟩
structure PdOk (H : Hp) (K : PySem.W.Frag) (n : Nat) (v : V) (p : PyData) : Prop where
  dp : Dp K H v p
  lay : p.canLay0 = true
  dep : p.depth ≤ n
structure PdsOk (H : Hp) (K : PySem.W.Frag) (n : Nat) (vs : List V) (ps : List PyData) : Prop where
  dp : DpAll K H vs ps
  lay : PyData.canLayAll0 ps = true
  dep : PyData.depthAll ps ≤ n
theorem toPs_ok {n : Nat} (ih : ∀ (d : D) (p : PyData) (v : V), toP S n d = some p → Rel K ι H d v → PdOk H K n v p) : ∀ (ds : List D) (ps : List PyData) (vs : List V), ds.mapM (toP S n) = some ps → RelL K ι H ds vs → PdsOk H K n vs ps
  | [], ps, vs, h, r => by
    unfold RelL at r; subst r
    simp at h; subst h
    exact ⟨.nil, by simp [PyData.canLayAll0], by simp [PyData.depthAll]⟩
  | d :: ds, ps, vs, h, r => by
    unfold RelL at r
    obtain ⟨x, t, rfl, r1, r2⟩ := r
    obtain ⟨y, ys, h1, h2, rfl⟩ := mapM_cons _ _ _ _ h
    have a := ih d y x h1 r1
    have b := toPs_ok ih ds ys t h2 r2
    refine ⟨.cons a.dp b.dp, by simp [PyData.canLayAll0, a.lay, b.lay], ?_⟩
    have := a.dep
    have := b.dep
    simp only [PyData.depthAll]
    omega
theorem toP_ok (s : StO K ι S H) : ∀ (n : Nat) (d : D) (p : PyData) (v : V), toP S n d = some p → Rel K ι H d v → PdOk H K n v p := by
  have base : ∀ (n : Nat) (d : D) (p : PyData) (v : V), (∀ ds, d ≠ .tup ds) → (∀ l, d ≠ .loc l) → toP S n d = some p → Rel K ι H d v → PdOk H K n v p := by
    intro n d p v h1 h2 h r
    cases d with
    | non => cases n <;> (simp [toP] at h; subst h; have e : v = .non := (by simpa [Rel] using r); subst e; exact ⟨.non, by simp [PyData.canLay0], by simp [PyData.depth]⟩)
    | bl b => cases n <;> (simp [toP] at h; subst h; have e : v = .bl b := (by simpa [Rel] using r); subst e; exact ⟨.bl b, by simp [PyData.canLay0], by simp [PyData.depth]⟩)
    | int b => cases n <;> (simp [toP] at h; subst h; have e : v = .int b := (by simpa [Rel] using r); subst e; exact ⟨.int b, by simp [PyData.canLay0], by simp [PyData.depth]⟩)
    | str b => cases n <;> (simp [toP] at h; obtain ⟨h0, h⟩ := h; subst h; have e : v = .str b := (by simpa [Rel] using r); subst e; exact ⟨.str b, by simp [PyData.canLay0, h0], by simp [PyData.depth]⟩)
    | tup ds => exact absurd rfl (h1 ds)
    | loc l => exact absurd rfl (h2 l)
  intro n
  induction n with
  | zero =>
    intro d p v h r
    cases d with
    | tup ds => simp [toP] at h
    | loc l => simp [toP] at h
    | _ => exact base 0 _ p v (by intro _ e; cases e) (by intro _ e; cases e) h r
  | succ n ih =>
    intro d p v h r
    cases d with
    | tup ds =>
      unfold toP at h
      split at h
      · rename_i ps q
        cases h
        unfold Rel at r
        obtain ⟨a, xs, rfl, hs, hr⟩ := r
        have z := toPs_ok ih ds ps xs q hr
        exact ⟨.tup hs.sqT z.dp, by simp only [PyData.canLay0]; exact z.lay, by simp only [PyData.depth]; have := z.dep; omega⟩
      · cases h
    | loc l =>
      unfold toP at h
      split at h
      · rename_i ds hl
        split at h
        · rename_i ps q
          cases h
          obtain ⟨a, xs, rfl, hs, hr⟩ := s.list hl r
          have z := toPs_ok ih ds ps xs q hr
          exact ⟨.lst hs z.dp, by simp only [PyData.canLay0]; exact z.lay, by simp only [PyData.depth]; have := z.dep; omega⟩
        · cases h
      · cases h
    | _ => exact base (n + 1) _ p v (by intro _ e; cases e) (by intro _ e; cases e) h r
theorem toPX_ok (s : StO K ι S H) {x : VX} {p : PyData} {v : V} (h : toPX S x = some p) (r : RelX K ι H x v) : PdOk H K 60 v p := by
  cases x with
  | d d => exact toP_ok s 60 d p v h r
  | l ds =>
    unfold toPX at h
    simp only at h
    split at h
    · rename_i ps q
      cases h
      obtain ⟨a, xs, rfl, ha, _, hr⟩ := r
      have z := toPs_ok (toP_ok s 59) ds ps xs q hr
      exact ⟨.lst (.inl (.inl ha)) z.dp, by simp only [PyData.canLay0]; exact z.lay, by simp only [PyData.depth]; have := z.dep; omega⟩
    · cases h
theorem PdOk.shaped {n : Nat} {v : V} {p : PyData} (h : PdOk H K n v p) (hn : n ≤ 64) : SeqAt.shaped p = true := by
  unfold SeqAt.shaped
  rw [h.lay]
  simp only [Bool.true_and, decide_eq_true_eq]
  have := h.dep
  omega
end
section
variable {X : Cx}
theorem opr_bin {o : Bop} {po : Operator} (h : OpR X (binaryOp po) (rB X.K (binV o))) : OpR X (binaryOp po) (rB X.K (binV o)) := h
theorem opr_add : OpR X (binaryOp .Add) (rB X.K (binV .add)) := by
  intro pins s σ H v w vv vw Q I rv rw' h
  obtain ⟨ι, S, x, y, z, S', hS, hx, hy, he, q⟩ := h
  change addV x y S = some (z, S') at he
  unfold addV at he
  split at he
  · rename_i i j
    cases he
    exact op_add pins s σ H v w vv vw Q I rv rw' ⟨i, j, relX_int hx, relX_int hy, q.int hS⟩
  · rename_i xs ys
    split at he
    · rename_i hz
      cases he
      obtain ⟨a, us, rfl, ha, ra⟩ := relX_tup hx
      obtain ⟨b, ws, rfl, hb, rb⟩ := relX_tup hy
      cases rv
      cases rw'
      obtain ⟨its, r1, p1, _⟩ := I.tuple ha.sqT
      obtain ⟨its2, r2, p2, _⟩ := I.tuple hb.sqT
      by_cases hx0 : us = []
      · subst hx0
        cases r1
        have e1 : xs = [] := List.length_eq_zero_iff.mp (by simpa using ra.length)
        subst e1
        exact cat_tup0 p1 p2 ⟨.ref b, H, I, rfl, q.same hS (show Rel X.K ι H (.tup ([] ++ ys)) (.ref b) from hy)⟩
      · refine HT.cat_tup p1 p2 (fun z => hx0 (r1.nil_iff.mp z)) (fun z => ⟨.ref a, H, I, rfl, ?_⟩) (fun z => ?_) (by rw [← r1.length, ← r2.length, ← ra.length, ← rb.length, ← cap_eq]; exact hz)
        · have e0 := r2.nil_iff.mp z
          subst e0
          have e1 : ys = [] := List.length_eq_zero_iff.mp (by simpa using rb.length)
          subst e1
          exact q.same hS (show Rel X.K ι H (.tup (xs ++ [])) (.ref a) by rw [List.append_nil]; exact hx)
        · exact ⟨.ref _, _, tupLaid I (r1.append r2) (by rw [List.length_append, ← ra.length, ← rb.length, ← cap_eq]; exact hz) s.toks, rfl, q.tup hS (ra.append rb) _ _ (I.hok.fresh (Nat.le_refl _)) rfl⟩
    · cases he
  · split at he
    · cases he
    · rename_i xs hxs
      split at he
      · cases he
      · rename_i ys hys
        split at he
        · rename_i hz
          cases he
          obtain ⟨a, us, rfl, ha, ra⟩ := mlOf_rel hS hxs hx
          obtain ⟨b, ws, rfl, hb, rb⟩ := mlOf_rel hS hys hy
          exact op_cat pins s σ H _ _ vv vw Q I rv rw' ⟨a, b, us, ws, rfl, rfl, ha, hb, by rw [← cap_eq, ← ra.length, ← rb.length]; exact hz, q.lst hS (ra.append rb)⟩
        · cases he
theorem opr_sub : OpR X (binaryOp .Sub) (rB X.K (binV .sub)) := by
  intro pins s σ H v w vv vw Q I rv rw' h
  obtain ⟨ι, S, x, y, z, S', hS, hx, hy, he, q⟩ := h
  unfold binV at he
  split at he <;> simp_all
  rename_i i j
  obtain ⟨rfl, rfl⟩ := he
  exact op_sub pins s σ H v w vv vw Q I rv rw' ⟨i, j, relX_int hx, relX_int hy, q.int hS⟩
theorem opr_mul : OpR X (binaryOp .Mult) (rB X.K (binV .mul)) := by
  intro pins s σ H v w vv vw Q I rv rw' h
  obtain ⟨ι, S, x, y, z, S', hS, hx, hy, he, q⟩ := h
  unfold binV at he
  split at he <;> simp_all
  rename_i i j
  obtain ⟨hc, rfl, rfl⟩ := he
  refine op_mul pins s σ H v w vv vw Q I rv rw' ⟨i, j, relX_int hx, relX_int hy, ?_, q.int hS⟩
  rcases hc with hc | hc
  · exact .inl (by simpa [small] using hc)
  · exact .inr (by simpa [small] using hc)
theorem opr_fdiv : OpR X (binaryOp .FloorDiv) (rB X.K (binV .fdiv)) := by
  intro pins s σ H v w vv vw Q I rv rw' h
  obtain ⟨ι, S, x, y, z, S', hS, hx, hy, he, q⟩ := h
  unfold binV at he
  split at he <;> simp_all
  rename_i i j
  obtain ⟨hc, rfl, rfl⟩ := he
  refine op_fdivW pins s σ H v w vv vw Q I rv rw' ⟨i, j, relX_int hx, relX_int hy, wide_div (i := i) (b := 64) hc.1 ?_ (by decide) (by decide), q.int hS⟩
  have := hc.1
  have := hc.2
  omega
theorem opr_mod : OpR X (binaryOp .Mod) (rB X.K (binV .mod)) := by
  intro pins s σ H v w vv vw Q I rv rw' h
  obtain ⟨ι, S, x, y, z, S', hS, hx, hy, he, q⟩ := h
  unfold binV at he
  split at he <;> simp_all
  rename_i i j
  obtain ⟨hc, rfl, rfl⟩ := he
  exact op_mod pins s σ H v w vv vw Q I rv rw' ⟨i, j, relX_int hx, relX_int hy, hc, q.int hS⟩
theorem opr_pow : OpR X (binaryOp .Pow) (rB X.K (binV .pow)) := by
  intro pins s σ H v w vv vw Q I rv rw' h
  obtain ⟨ι, S, x, y, z, S', hS, hx, hy, he, q⟩ := h
  unfold binV at he
  split at he <;> simp_all
  rename_i i j
  obtain ⟨hc, rfl, rfl⟩ := he
  exact op_pow pins s σ H v w vv vw Q I rv rw' ⟨i, j, relX_int hx, relX_int hy, hc, q.int hS⟩
theorem unr_neg : UnR X (unaryOp .USub) (rU1 X.K fun x S => match x with
    | .d (.int i) => some (.d (.int (-i)), S)
    | _ => none) := by
  intro pins s σ H v vv Q I rv h
  obtain ⟨ι, S, x, z, S', hS, hx, he, q⟩ := h
  simp only at he
  split at he
  · rename_i i
    cases he
    exact un_neg pins s σ H v vv Q I rv ⟨i, relX_int hx, q.int hS⟩
  · cases he
theorem opr_lt (hu : X.A.units < cLine) : OpR X (compareOp .Lt) (rB X.K (cmpV .lt)) := by
  intro pins s σ H v w vv vw Q I rv rw' h
  obtain ⟨ι, S, x, y, z, S', hS, hx, hy, he, q⟩ := h
  change ordV (fun i j => decide (i < j)) HT.lexLt x y S = some (z, S') at he
  unfold ordV at he
  split at he
  · rename_i i j
    cases he
    exact op_lt pins s σ H v w vv vw Q I rv rw' ⟨i, j, relX_int hx, relX_int hy, q.bl hS⟩
  · rename_i xs ys
    split at he
    · cases he
    · rename_i is h1
      split at he
      · cases he
      · rename_i js h2
        cases he
        obtain ⟨a, us, rfl, ha, ra⟩ := relX_tup hx
        obtain ⟨b, ws, rfl, hb, rb⟩ := relX_tup hy
        have e1 := ra.ints h1
        have e2 := rb.ints h2
        subst e1 e2
        exact op_ltT hu pins s σ H _ _ vv vw Q I rv rw' ⟨a, b, is, js, rfl, rfl, ha.sqT, hb.sqT, q.bl hS⟩
  · cases he
theorem opr_le : OpR X (compareOp .LtE) (rB X.K (cmpV .le)) := by
  intro pins s σ H v w vv vw Q I rv rw' h
  obtain ⟨ι, S, x, y, z, S', hS, hx, hy, he, q⟩ := h
  unfold cmpV at he
  split at he <;> simp_all [ret1]
  rename_i i j
  obtain ⟨rfl, rfl⟩ := he
  exact op_le pins s σ H v w vv vw Q I rv rw' ⟨i, j, relX_int hx, relX_int hy, q.bl hS⟩
theorem opr_gt : OpR X (compareOp .Gt) (rB X.K (cmpV .gt)) := by
  intro pins s σ H v w vv vw Q I rv rw' h
  obtain ⟨ι, S, x, y, z, S', hS, hx, hy, he, q⟩ := h
  unfold cmpV at he
  split at he <;> simp_all [ret1]
  rename_i i j
  obtain ⟨rfl, rfl⟩ := he
  exact op_gt pins s σ H v w vv vw Q I rv rw' ⟨i, j, relX_int hx, relX_int hy, q.bl hS⟩
theorem opr_ge : OpR X (compareOp .GtE) (rB X.K (cmpV .ge)) := by
  intro pins s σ H v w vv vw Q I rv rw' h
  obtain ⟨ι, S, x, y, z, S', hS, hx, hy, he, q⟩ := h
  unfold cmpV at he
  split at he <;> simp_all [ret1]
  rename_i i j
  obtain ⟨rfl, rfl⟩ := he
  exact op_ge pins s σ H v w vv vw Q I rv rw' ⟨i, j, relX_int hx, relX_int hy, q.bl hS⟩
theorem eqV_ok {K : PySem.W.Frag} {ι : List Lc} {H : Hp} {S : Sg} (s : StO K ι S H) {x y : VX} {v w : V} {r : Bool} (h : eqV S x y = some r) (rx : RelX K ι H x v) (ry : RelX K ι H y w) :
    ∃ p q, Dp K H v p ∧ Dp K H w q ∧ SeqAt.shaped p = true ∧ SeqAt.shaped q = true ∧ r = PyData.eqv p q := by
  unfold eqV at h
  split at h
  · cases h
  · rename_i p hp
    split at h
    · cases h
    · rename_i q hq
      cases h
      have a := toPX_ok s hp rx
      have b := toPX_ok s hq ry
      exact ⟨p, q, a.dp, b.dp, a.shaped (by decide), b.shaped (by decide), rfl⟩
theorem opr_eq (hu : X.A.units + 64 < cLine) : OpR X (compareOp .Eq) (rB X.K (cmpV .eq)) := by
  intro pins s σ H v w vv vw Q I rv rw' h
  obtain ⟨ι, S, x, y, z, S', hS, hx, hy, he, q⟩ := h
  unfold cmpV at he
  split at he <;> simp_all [ret1]
  split at he <;> simp_all
  rename_i r hr
  obtain ⟨rfl, rfl⟩ := he
  obtain ⟨p, p', h1, h2, h3, h4, e⟩ := eqV_ok hS hr hx hy
  exact op_eqD hu pins s σ H v w vv vw Q I rv rw' ⟨p, p', h1, h2, h3, h4, by rw [← e]; exact q.bl hS⟩
theorem opr_ne (hu : X.A.units + 64 < cLine) : OpR X (compareOp .NotEq) (rB X.K (cmpV .ne)) := by
  intro pins s σ H v w vv vw Q I rv rw' h
  obtain ⟨ι, S, x, y, z, S', hS, hx, hy, he, q⟩ := h
  unfold cmpV at he
  split at he <;> simp_all [ret1]
  split at he <;> simp_all
  rename_i r hr
  obtain ⟨rfl, rfl⟩ := he
  obtain ⟨p, p', h1, h2, h3, h4, e⟩ := eqV_ok hS hr hx hy
  exact op_neD hu pins s σ H v w vv vw Q I rv rw' ⟨p, p', h1, h2, h3, h4, by rw [← e]; exact q.bl hS⟩
theorem isV_ok {K : PySem.W.Frag} {ι : List Lc} {H : Hp} {x y : VX} {v w : V} {r : Bool} (h : isV x y = some r) (rx : RelX K ι H x v) (ry : RelX K ι H y w) :
    (w = .non ∧ r = decide (v = .non)) ∨ ∃ a b, v = .bl a ∧ w = .bl b ∧ r = decide (a = b) := by
  unfold isV at h
  split at h
  · left
    cases h
    refine ⟨relX_non ry, ?_⟩
    split
    · rw [relX_non rx]; simp
    · rename_i hx
      symm
      apply decide_eq_false
      intro e
      subst e
      cases x with
      | d d =>
        cases d with
        | non => exact hx rfl
        | bl b => have := relX_bl rx; cases this
        | int b => have := relX_int rx; cases this
        | str b => have := relX_str rx; cases this
        | tup b => obtain ⟨_, _, e, _⟩ := relX_tup rx; cases e
        | loc l => unfold RelX Rel at rx; obtain ⟨_, _, e⟩ := rx; cases e
      | l ds => obtain ⟨_, _, e, _⟩ := rx; cases e
  · rename_i a b
    right
    cases h
    exact ⟨a, b, relX_bl rx, relX_bl ry, rfl⟩
  · cases h
theorem opr_is : OpR X (compareOp .Is) (rB X.K (cmpV .is)) := by
  intro pins s σ H v w vv vw Q I rv rw' h
  obtain ⟨ι, S, x, y, z, S', hS, hx, hy, he, q⟩ := h
  unfold cmpV at he
  split at he <;> simp_all [ret1]
  split at he <;> simp_all
  rename_i r hr
  obtain ⟨rfl, rfl⟩ := he
  rcases isV_ok hr hx hy with ⟨e1, e2⟩ | ⟨a, b, e1, e2, e3⟩
  · exact op_isN pins s σ H v w vv vw Q I rv rw' ⟨e1, by rw [← e2]; exact q.bl hS⟩
  · exact op_isBl pins s σ H v w vv vw Q I rv rw' ⟨a, b, e1, e2, by rw [← e3]; exact q.bl hS⟩
theorem opr_isn : OpR X (compareOp .IsNot) (rB X.K (cmpV .isn)) := by
  intro pins s σ H v w vv vw Q I rv rw' h
  obtain ⟨ι, S, x, y, z, S', hS, hx, hy, he, q⟩ := h
  unfold cmpV at he
  split at he <;> simp_all [ret1]
  split at he <;> simp_all
  rename_i r hr
  obtain ⟨rfl, rfl⟩ := he
  rcases isV_ok hr hx hy with ⟨e1, e2⟩ | ⟨a, b, e1, e2, e3⟩
  · exact op_notN pins s σ H v w vv vw Q I rv rw' ⟨e1, by rw [← e2]; exact q.bl hS⟩
  · exact op_notBl pins s σ H v w vv vw Q I rv rw' ⟨a, b, e1, e2, by rw [← e3]; exact q.bl hS⟩
/-- among the items of a list or a tuple -/
theorem in_core {pins : List (Addr × Obj)} {s : Shared} {σ : L2.St} {H : Hp} {v w : V} {vv vw : Value} {Q : VK} {ι : List Lc} {S : Sg} {x y : VX} {ds : List D} {r : Bool} (neg : Bool) (hu : X.A.units + 65 < cLine) (I : Inv X pins σ H s) (rv : RelV v vv) (rw' : RelV w vw)
    (hS : StO X.K ι S H) (hx : RelX X.K ι H x v) (hy : RelX X.K ι H y w) (hds : sqOf S y = some ds) (hr : inV S x ds = some r) (q : Q (.bl (if neg = true then !r else r)) H) :
    wpAny (model X.prog X.w) X.A (compareOp (if neg = true then .NotIn else .In) vv vw) (EP X pins σ Q) X.xe s := by
  unfold inV at hr
  split at hr
  · cases hr
  · rename_i p hp
    split at hr
    · cases hr
    · rename_i qs hqs
      cases hr
      have a := toPX_ok hS hp hx
      obtain ⟨b, xs, rfl, hk, hrl⟩ := sqOf_rel hS hds hy
      have z := toPs_ok (toP_ok hS 59) ds qs xs hqs hrl
      obtain ⟨as, r1⟩ := Dp.reads I p v vv a.dp rv
      have hroom := room_in_shaped (xs := qs) (a.shaped (by decide)) hu
      rcases hk with hk | hk
      · obtain ⟨bs, r2⟩ := Dp.reads I (.list qs) _ vw (.lst hk z.dp) rw'
        cases neg with
        | true => exact SeqAt.notIn_list_reads r2 r1 z.lay a.lay hroom ⟨.bl _, H, I, rfl, q⟩
        | false => exact SeqAt.in_list_reads r2 r1 z.lay a.lay hroom ⟨.bl _, H, I, rfl, q⟩
      · obtain ⟨bs, r2⟩ := Dp.reads I (.tuple qs) _ vw (.tup hk.sqT z.dp) rw'
        cases neg with
        | true => exact SeqAt.notIn_tuple_reads r2 r1 z.lay a.lay hroom ⟨.bl _, H, I, rfl, q⟩
        | false => exact SeqAt.in_tuple_reads r2 r1 z.lay a.lay hroom ⟨.bl _, H, I, rfl, q⟩
theorem opr_in (hu : X.A.units + 65 < cLine) : OpR X (compareOp .In) (rB X.K (cmpV .isin)) := by
  intro pins s σ H v w vv vw Q I rv rw' h
  obtain ⟨ι, S, x, y, z, S', hS, hx, hy, he, q⟩ := h
  unfold cmpV at he
  simp only at he
  split at he
  · cases he
  rename_i ds hds
  split at he
  · rename_i r hr
    cases he
    exact in_core false hu I rv rw' hS hx hy hds hr (q.bl hS)
  · cases he
theorem opr_notin (hu : X.A.units + 65 < cLine) : OpR X (compareOp .NotIn) (rB X.K (cmpV .notin)) := by
  intro pins s σ H v w vv vw Q I rv rw' h
  obtain ⟨ι, S, x, y, z, S', hS, hx, hy, he, q⟩ := h
  unfold cmpV at he
  simp only at he
  split at he
  · cases he
  rename_i ds hds
  split at he
  · rename_i r hr
    cases he
    exact in_core true hu I rv rw' hS hx hy hds hr (q.bl hS)
  · cases he
end
end Ev

namespace Ev
open PySem PySem.Spec PyProof.Rows L2

theorem L2PEw {X : Cx} {e : Expr} {t t' : TE} (h : PE X e t) (w : ∀ σ H Q, t' σ H Q → t σ H Q) : PE X e t' := ⟨fun pins s σ H Q I q => h.run pins s σ H Q I (w σ H Q q)⟩
theorem L2PTw {X : Cx} {e : Expr} {t t' : TT} (h : PT X e t) (w : ∀ σ H Q, t' σ H Q → t σ H Q) : PT X e t' := ⟨fun pins s σ H Q I q => h.run pins s σ H Q I (w σ H Q q)⟩
theorem L2PWw {X : Cx} {e : Expr} {t t' : TT} (h : PW X e t) (w : ∀ σ H Q, t' σ H Q → t σ H Q) : PW X e t' := ⟨fun wh pins s σ H Q I q => h.run wh pins s σ H Q I (w σ H Q q)⟩
theorem L2PAw {X : Cx} {e : List Expr} {t t' : TA} (h : PA X e t) (w : ∀ σ H Q, t' σ H Q → t σ H Q) : PA X e t' := ⟨fun pos pins s σ H Q I q => h.run pos pins s σ H Q I (w σ H Q q)⟩
theorem L2PKw {X : Cx} {e : List Keyword} {t t' : TA} (h : PK X e t) (w : ∀ σ H Q, t' σ H Q → t σ H Q) : PK X e t' := ⟨fun pos pins s σ H Q I q => h.run pos pins s σ H Q I (w σ H Q q)⟩
theorem L2PSw {X : Cx} {e : Stmt} {t t' : TS} (h : PS X e t) (w : ∀ D σ H, t' D σ H → t D σ H) : PS X e t' := ⟨fun pins s σ H D I q => h.run pins s σ H D I (w D σ H q)⟩
theorem L2PSsw {X : Cx} {e : List Stmt} {t t' : TS} (h : PSs X e t) (w : ∀ D σ H, t' D σ H → t D σ H) : PSs X e t' := ⟨fun pins s σ H D I q => h.run pins s σ H D I (w D σ H q)⟩
section
variable {X : Cx} {a b c : Expr} {es : List Expr} {f g h : En → Sg → Rs VX} {pos p : Pos}
theorem px_var {i : Nat} {x : Str} (hN : X.N[i]? = some x) (hv : Vis X.env.scope x) (hd : (x == ("__debug__" : Str)) = false) (hcd : (x == ("__classdict__" : Str)) = false) : PE X (.Name x pos) (tX X.K fun σ S => getV σ i S) := by
  refine L2PEw (pe_var (i := i) hN hv hd hcd) fun σ H Q ⟨ι, σD, S, x, S', hE, hS, hf, q⟩ => ?_
  change getV σD i S = some (x, S') at hf
  unfold getV at hf
  split at hf
  · rename_i d e
    cases hf
    obtain ⟨v, e2, r⟩ := hE.2 i d e
    exact ⟨v, e2, q.same hS r⟩
  · cases hf
theorem px_int {i : Int} {j : Nat} : PE X (.Constant (.int i) j pos) (tX X.K fun _ S => some (.d (.int i), S)) :=
  L2PEw pe_int fun σ H Q ⟨ι, σD, S, x, S', hE, hS, hf, q⟩ => by cases hf; exact q.int hS
theorem px_bl {i : Bool} {j : Nat} : PE X (.Constant (.bool i) j pos) (tX X.K fun _ S => some (.d (.bl i), S)) :=
  L2PEw pe_bl fun σ H Q ⟨ι, σD, S, x, S', hE, hS, hf, q⟩ => by cases hf; exact q.bl hS
theorem px_non {j : Nat} : PE X (.Constant .none j pos) (tX X.K fun _ S => some (.d .non, S)) :=
  L2PEw pe_non fun σ H Q ⟨ι, σD, S, x, S', hE, hS, hf, q⟩ => by cases hf; exact q.non hS
theorem px_str {i : Str} {j : Nat} : PE X (.Constant (.str i) j pos) (tX X.K fun _ S => some (.d (.str i), S)) :=
  L2PEw pe_str fun σ H Q ⟨ι, σD, S, x, S', hE, hS, hf, q⟩ => by cases hf; exact q.same hS (by simp [Rel])
theorem px_glob {x : Str} {v : V} {u : Value} {d : D} (hg : Gl X x) (hm : X.mg x = some u) (r : RelV v u) (rd : ∀ ι H, Rel X.K ι H d v) (hd : (x == ("__debug__" : Str)) = false) : PE X (.Name x pos) (tX X.K fun _ S => some (.d d, S)) :=
  L2PEw (pe_glob hg hm r hd) fun σ H Q ⟨ι, σD, S, x, S', hE, hS, hf, q⟩ => by cases hf; exact q.same hS (rd _ _)
theorem px_op {op : VX → VX → Sg → Rs VX} {po : Operator} (hr : OpR X (binaryOp po) (rB X.K op)) (ha : PE X a (tX X.K f)) (hb : PE X b (tX X.K g)) :
    PE X (.BinOp a po b pos) (tX X.K fun σ S => bnd (f σ S) fun x S1 => bnd (g σ S1) fun y S2 => op x y S2) :=
  L2PEw (pe_op hr ha hb) fun σ H Q ⟨ι, σD, S, x, S', hE, hS, hf, q⟩ => by
    obtain ⟨xa, S1, fa, hf1⟩ := bnd_eq hf
    obtain ⟨xb, S2, fb, hf2⟩ := bnd_eq hf1
    exact ⟨ι, σD, S, xa, S1, hE, hS, fa, fun ι1 H1 v1 g1 s1 r1 _ => ⟨ι1, σD, S1, xb, S2, g1.en hE, s1, fb, fun ι2 H2 v2 g2 s2 r2 _ => ⟨ι2, S2, xa, xb, x, S', s2, g2.relX r1, r2, hf2, q.mono (g1.trans g2)⟩⟩⟩
theorem px_cmp {op : VX → VX → Sg → Rs VX} {po : CmpOp} (hr : OpR X (compareOp po) (rB X.K op)) (ha : PE X a (tX X.K f)) (hb : PE X b (tX X.K g)) (hm : behindInMarks po b = false) :
    PE X (.Compare a [po] [b] pos) (tX X.K fun σ S => bnd (f σ S) fun x S1 => bnd (g σ S1) fun y S2 => op x y S2) :=
  L2PEw (pe_cmpR hr ha hb hm) fun σ H Q ⟨ι, σD, S, x, S', hE, hS, hf, q⟩ => by
    obtain ⟨xa, S1, fa, hf1⟩ := bnd_eq hf
    obtain ⟨xb, S2, fb, hf2⟩ := bnd_eq hf1
    exact ⟨ι, σD, S, xa, S1, hE, hS, fa, fun ι1 H1 v1 g1 s1 r1 _ => ⟨ι1, σD, S1, xb, S2, g1.en hE, s1, fb, fun ι2 H2 v2 g2 s2 r2 _ => ⟨ι2, S2, xa, xb, x, S', s2, g2.relX r1, r2, hf2, q.mono (g1.trans g2)⟩⟩⟩
theorem boolV_ok {v : VX} {S S' : Sg} {k : Bool} (h : boolV v S = some (k, S')) : v = .d (.bl k) ∧ S' = S := by
  unfold boolV at h
  split at h
  · cases h; exact ⟨rfl, rfl⟩
  · cases h
theorem pt_cmpX {op : VX → VX → Sg → Rs VX} {po : CmpOp} (hr : OpR X (compareOp po) (rB X.K op)) (ha : PE X a (tX X.K f)) (hb : PE X b (tX X.K g)) (hm : behindInMarks po b = false) :
    PT X (.Compare a [po] [b] pos) (tT X.K fun σ S => bnd (f σ S) fun x S1 => bnd (g σ S1) fun y S2 => bnd (op x y S2) fun r S3 => boolV r S3) :=
  L2PTw (pt_cmpR hr ha hb hm) fun σ H Q ⟨ι, σD, S, x, S', hE, hS, hf, q⟩ => by
    obtain ⟨xa, S1, fa, hf1⟩ := bnd_eq hf
    obtain ⟨xb, S2, fb, hf2⟩ := bnd_eq hf1
    obtain ⟨xc, S3, fc, hf3⟩ := bnd_eq hf2
    obtain ⟨rfl, rfl⟩ := boolV_ok hf3
    exact ⟨ι, σD, S, xa, S1, hE, hS, fa, fun ι1 H1 v1 g1 s1 r1 _ => ⟨ι1, σD, S1, xb, S2, g1.en hE, s1, fb, fun ι2 H2 v2 g2 s2 r2 _ => ⟨ι2, S2, xa, xb, _, _, s2, g2.relX r1, r2, fc, fun ι3 H3 v3 g3 s3 r3 _ => ⟨x, relX_bl r3, q ι3 H3 ((g1.trans g2).trans g3) s3⟩⟩⟩⟩
theorem px_chain {op op' : VX → VX → Sg → Rs VX} {po po' : CmpOp} (hr : OpR X (compareOp po) (rB X.K op)) (hr' : OpR X (compareOp po') (rB X.K op')) (ha : PE X a (tX X.K f)) (hb : PE X b (tX X.K g)) (hc : PE X c (tX X.K h)) (hm : lastMarks [po, po'] [b, c] = false) :
    PE X (.Compare a [po, po'] [b, c] pos) (tX X.K fun σ S => bnd (f σ S) fun x S1 => bnd (g σ S1) fun y S2 => bnd (op x y S2) fun r S3 => bnd (boolV r S3) fun k S4 =>
      if k = true then bnd (h σ S4) fun z S5 => op' y z S5 else ret1 false S4) :=
  L2PEw (pe_chain hr hr' ha hb hc hm) fun σ H Q ⟨ι, σD, S, x, S', hE, hS, hf, q⟩ => by
    obtain ⟨xa, S1, fa, hf1⟩ := bnd_eq hf
    obtain ⟨xb, S2, fb, hf2⟩ := bnd_eq hf1
    obtain ⟨xc, S3, fc, hf3⟩ := bnd_eq hf2
    obtain ⟨k, S4, fk, hf4⟩ := bnd_eq hf3
    obtain ⟨rfl, rfl⟩ := boolV_ok fk
    refine ⟨ι, σD, S, xa, S1, hE, hS, fa, fun ι1 H1 v1 g1 s1 r1 _ => ⟨ι1, σD, S1, xb, S2, g1.en hE, s1, fb, fun ι2 H2 v2 g2 s2 r2 _ => ⟨ι2, S2, xa, xb, _, _, s2, g2.relX r1, r2, fc, fun ι3 H3 v3 g3 s3 r3 _ => ⟨k, relX_bl r3, ?_⟩⟩⟩⟩
    have G := (g1.trans g2).trans g3
    cases k with
    | true =>
      rw [if_pos rfl] at hf4 ⊢
      obtain ⟨xd, S5, fd, hf5⟩ := bnd_eq hf4
      exact ⟨ι3, σD, _, xd, S5, G.en hE, s3, fd, fun ι4 H4 v4 g4 s4 r4 _ => ⟨ι4, S5, xb, xd, x, S', s4, g4.relX (g3.relX r2), r4, hf5, q.mono (G.trans g4)⟩⟩
    | false =>
      rw [if_neg Bool.false_ne_true] at hf4 ⊢
      cases hf4
      exact (q.mono G).bl s3
theorem pt_chainX {op op' : VX → VX → Sg → Rs VX} {po po' : CmpOp} (hr : OpR X (compareOp po) (rB X.K op)) (hr' : OpR X (compareOp po') (rB X.K op')) (ha : PE X a (tX X.K f)) (hb : PE X b (tX X.K g)) (hc : PE X c (tX X.K h)) (hm : lastMarks [po, po'] [b, c] = false) :
    PT X (.Compare a [po, po'] [b, c] pos) (tT X.K fun σ S => bnd (f σ S) fun x S1 => bnd (g σ S1) fun y S2 => bnd (op x y S2) fun r S3 => bnd (boolV r S3) fun k S4 =>
      if k = true then bnd (h σ S4) fun z S5 => bnd (op' y z S5) fun r S6 => boolV r S6 else some (false, S4)) :=
  L2PTw (pt_chain hr hr' ha hb hc hm) fun σ H Q ⟨ι, σD, S, x, S', hE, hS, hf, q⟩ => by
    obtain ⟨xa, S1, fa, hf1⟩ := bnd_eq hf
    obtain ⟨xb, S2, fb, hf2⟩ := bnd_eq hf1
    obtain ⟨xc, S3, fc, hf3⟩ := bnd_eq hf2
    obtain ⟨k, S4, fk, hf4⟩ := bnd_eq hf3
    obtain ⟨rfl, rfl⟩ := boolV_ok fk
    refine ⟨ι, σD, S, xa, S1, hE, hS, fa, fun ι1 H1 v1 g1 s1 r1 _ => ⟨ι1, σD, S1, xb, S2, g1.en hE, s1, fb, fun ι2 H2 v2 g2 s2 r2 _ => ⟨ι2, S2, xa, xb, _, _, s2, g2.relX r1, r2, fc, fun ι3 H3 v3 g3 s3 r3 _ => ⟨k, relX_bl r3, ?_⟩⟩⟩⟩
    have G := (g1.trans g2).trans g3
    cases k with
    | true =>
      rw [if_pos rfl] at hf4 ⊢
      obtain ⟨xd, S5, fd, hf5⟩ := bnd_eq hf4
      obtain ⟨xe, S6, fe, hf6⟩ := bnd_eq hf5
      obtain ⟨rfl, rfl⟩ := boolV_ok hf6
      exact ⟨ι3, σD, _, xd, S5, G.en hE, s3, fd, fun ι4 H4 v4 g4 s4 r4 _ => ⟨ι4, S5, xb, xd, _, _, s4, g4.relX (g3.relX r2), r4, fe, fun ι5 H5 v5 g5 s5 r5 _ => ⟨x, relX_bl r5, q ι5 H5 ((G.trans g4).trans g5) s5⟩⟩⟩
    | false =>
      rw [if_neg Bool.false_ne_true] at hf4 ⊢
      cases hf4
      exact ⟨false, rfl, q ι3 H3 G s3⟩
theorem px_neg (ha : PE X a (tX X.K f)) : PE X (.UnaryOp .USub a pos) (tX X.K fun σ S => bnd (f σ S) fun x S1 => match x with
    | .d (.int i) => some (.d (.int (-i)), S1)
    | _ => none) :=
  L2PEw (pe_un unr_neg ha) fun σ H Q ⟨ι, σD, S, x, S', hE, hS, hf, q⟩ => by
    obtain ⟨xa, S1, fa, hf1⟩ := bnd_eq hf
    exact ⟨ι, σD, S, xa, S1, hE, hS, fa, fun ι1 H1 v1 g1 s1 r1 _ => ⟨ι1, S1, xa, x, S', s1, r1, hf1, q.mono g1⟩⟩
theorem px_not (ha : PE X a (tX X.K f)) : PE X (.UnaryOp .Not a pos) (tX X.K fun σ S => bnd (f σ S) fun x S1 => bnd (boolV x S1) fun b S2 => ret1 (!b) S2) :=
  L2PEw (pe_not ha) fun σ H Q ⟨ι, σD, S, x, S', hE, hS, hf, q⟩ => by
    obtain ⟨xa, S1, fa, hf1⟩ := bnd_eq hf
    obtain ⟨k, S2, fb, hf2⟩ := bnd_eq hf1
    obtain ⟨rfl, rfl⟩ := boolV_ok fb
    cases hf2
    exact ⟨ι, σD, S, _, _, hE, hS, fa, fun ι1 H1 v1 g1 s1 r1 _ => ⟨k, relX_bl r1, (q.mono g1).bl s1⟩⟩
variable {rest : List Expr}
theorem px_and (ha : PE X a (tX X.K f)) (hb : PE X (.BoolOp .And (b :: rest) pos) (tX X.K g)) : PE X (.BoolOp .And (a :: b :: rest) pos) (tX X.K fun σ S => bnd (f σ S) fun x S1 => bnd (boolV x S1) fun c S2 => if c = true then g σ S2 else ret1 false S2) :=
  L2PEw (pe_and ha hb) fun σ H Q ⟨ι, σD, S, x, S', hE, hS, hf, q⟩ => by
    obtain ⟨xa, S1, fa, hf1⟩ := bnd_eq hf
    obtain ⟨k, S2, fb, hf2⟩ := bnd_eq hf1
    obtain ⟨rfl, rfl⟩ := boolV_ok fb
    refine ⟨ι, σD, S, _, _, hE, hS, fa, fun ι1 H1 v1 g1 s1 r1 _ => ⟨k, relX_bl r1, ?_⟩⟩
    cases k with
    | true =>
      rw [if_pos rfl] at hf2 ⊢
      exact ⟨ι1, σD, _, x, S', g1.en hE, s1, hf2, q.mono g1⟩
    | false =>
      rw [if_neg Bool.false_ne_true] at hf2 ⊢
      cases hf2
      exact (q.mono g1).bl s1
theorem px_or (ha : PE X a (tX X.K f)) (hb : PE X (.BoolOp .Or (b :: rest) pos) (tX X.K g)) : PE X (.BoolOp .Or (a :: b :: rest) pos) (tX X.K fun σ S => bnd (f σ S) fun x S1 => bnd (boolV x S1) fun c S2 => if c = true then ret1 true S2 else g σ S2) :=
  L2PEw (pe_or ha hb) fun σ H Q ⟨ι, σD, S, x, S', hE, hS, hf, q⟩ => by
    obtain ⟨xa, S1, fa, hf1⟩ := bnd_eq hf
    obtain ⟨k, S2, fb, hf2⟩ := bnd_eq hf1
    obtain ⟨rfl, rfl⟩ := boolV_ok fb
    refine ⟨ι, σD, S, _, _, hE, hS, fa, fun ι1 H1 v1 g1 s1 r1 _ => ⟨k, relX_bl r1, ?_⟩⟩
    cases k with
    | false =>
      rw [if_neg Bool.false_ne_true] at hf2 ⊢
      exact ⟨ι1, σD, _, x, S', g1.en hE, s1, hf2, q.mono g1⟩
    | true =>
      rw [if_pos rfl] at hf2 ⊢
      cases hf2
      exact (q.mono g1).bl s1
variable {ft gt : En → Sg → Rs Bool}
theorem pt_notX (ha : PT X a (tT X.K ft)) : PT X (.UnaryOp .Not a pos) (tT X.K fun σ S => bnd (ft σ S) fun b S1 => some (!b, S1)) :=
  L2PTw (pt_not ha) fun σ H Q ⟨ι, σD, S, x, S', hE, hS, hf, q⟩ => by
    obtain ⟨k, S1, fa, hf1⟩ := bnd_eq hf
    cases hf1
    exact ⟨ι, σD, S, k, _, hE, hS, fa, fun ι1 H1 g1 s1 => q ι1 H1 g1 s1⟩
theorem pw_andX (ha : PT X a (tT X.K ft)) (hb : PW X (.BoolOp .And (b :: rest) pos) (tT X.K gt)) : PW X (.BoolOp .And (a :: b :: rest) pos) (tT X.K fun σ S => bnd (ft σ S) fun c S1 => if c = true then gt σ S1 else some (false, S1)) :=
  L2PWw (pw_and ha hb) fun σ H Q ⟨ι, σD, S, x, S', hE, hS, hf, q⟩ => by
    obtain ⟨k, S1, fa, hf1⟩ := bnd_eq hf
    refine ⟨ι, σD, S, k, _, hE, hS, fa, fun ι1 H1 g1 s1 => ?_⟩
    cases k with
    | true =>
      rw [if_pos rfl] at hf1 ⊢
      exact ⟨ι1, σD, _, x, S', g1.en hE, s1, hf1, fun ι2 H2 g2 s2 => q ι2 H2 (g1.trans g2) s2⟩
    | false =>
      rw [if_neg Bool.false_ne_true] at hf1 ⊢
      cases hf1
      exact q ι1 H1 g1 s1
theorem pw_orX (ha : PT X a (tT X.K ft)) (hb : PW X (.BoolOp .Or (b :: rest) pos) (tT X.K gt)) : PW X (.BoolOp .Or (a :: b :: rest) pos) (tT X.K fun σ S => bnd (ft σ S) fun c S1 => if c = true then some (true, S1) else gt σ S1) :=
  L2PWw (pw_or ha hb) fun σ H Q ⟨ι, σD, S, x, S', hE, hS, hf, q⟩ => by
    obtain ⟨k, S1, fa, hf1⟩ := bnd_eq hf
    refine ⟨ι, σD, S, k, _, hE, hS, fa, fun ι1 H1 g1 s1 => ?_⟩
    cases k with
    | false =>
      rw [if_neg Bool.false_ne_true] at hf1 ⊢
      exact ⟨ι1, σD, _, x, S', g1.en hE, s1, hf1, fun ι2 H2 g2 s2 => q ι2 H2 (g1.trans g2) s2⟩
    | true =>
      rw [if_pos rfl] at hf1 ⊢
      cases hf1
      exact q ι1 H1 g1 s1
theorem px_ite (hc : PT X c (tT X.K ft)) (ha : PE X a (tX X.K f)) (hb : PE X b (tX X.K g)) : PE X (.IfExp c a b pos) (tX X.K fun σ S => bnd (ft σ S) fun k S1 => if k = true then f σ S1 else g σ S1) :=
  L2PEw (pe_ifExp hc ha hb) fun σ H Q ⟨ι, σD, S, x, S', hE, hS, hf, q⟩ => by
    obtain ⟨k, S1, fa, hf1⟩ := bnd_eq hf
    refine ⟨ι, σD, S, k, _, hE, hS, fa, fun ι1 H1 g1 s1 => ?_⟩
    cases k with
    | true =>
      rw [if_pos rfl] at hf1 ⊢
      exact ⟨ι1, σD, _, x, S', g1.en hE, s1, hf1, q.mono g1⟩
    | false =>
      rw [if_neg Bool.false_ne_true] at hf1 ⊢
      exact ⟨ι1, σD, _, x, S', g1.en hE, s1, hf1, q.mono g1⟩
theorem truV_ok {K : PySem.W.Frag} {ι : List Lc} {H : Hp} {S : Sg} (s : StO K ι S H) {x : VX} {v : V} {k : Bool} (h : truV S x = some k) (r : RelX K ι H x v) : TruV K v H k := by
  have emp : ∀ {ds : List D} {xs : List V}, RelL K ι H ds xs → (!ds.isEmpty) = !xs.isEmpty := fun {ds xs} r => by
    have e := r.length
    cases ds <;> cases xs <;> simp_all
  cases x with
  | l ds =>
    obtain ⟨a, xs, rfl, h1, _, h3⟩ := r
    cases h
    exact .inl ⟨xs, .inl (.inl h1), emp h3⟩
  | d d =>
    cases d with
    | non => rw [relX_non r]; cases h; exact rfl
    | bl b => rw [relX_bl r]; cases h; exact rfl
    | int i => rw [relX_int r]; cases h; exact rfl
    | str z => cases h
    | tup ds =>
      obtain ⟨a, xs, rfl, h1, h2⟩ := relX_tup r
      cases h
      exact .inr (.inl ⟨xs, h1.sqT, emp h2⟩)
    | loc l =>
      have hl : ∀ ds, lsAt S l = some ds → k = !ds.isEmpty → TruV K v H k := fun ds e ek => by
        obtain ⟨a, xs, rfl, h1, h2⟩ := s.list e r
        exact .inl ⟨xs, h1, by rw [ek]; exact emp h2⟩
      unfold truV at h
      simp only at h
      split at h
      · rename_i ds e
        cases h
        exact hl ds (by unfold lsAt; rw [e]; rfl) rfl
      · rename_i ds e
        cases h
        exact hl ds (by unfold lsAt; rw [e]; rfl) rfl
      · cases h
theorem pt_tru (ha : PE X a (tX X.K f)) (he : ∀ whole, isTrue a X.env whole = (do let v ← whole; standAt a.pos; holding [v] (truthy v))) : PT X a (tT X.K fun σ S => bnd (f σ S) fun v S1 => match truV S1 v with
    | some b => some (b, S1)
    | none => none) :=
  L2PTw (pt_truth ha he) fun σ H Q ⟨ι, σD, S, x, S', hE, hS, hf, q⟩ => by
    obtain ⟨xa, S1, fa, hf1⟩ := bnd_eq hf
    refine ⟨ι, σD, S, xa, S1, hE, hS, fa, fun ι1 H1 v1 g1 s1 r1 _ => ?_⟩
    split at hf1
    · rename_i b e
      cases hf1
      exact ⟨x, truV_ok s1 e r1, q ι1 H1 g1 s1⟩
    · cases hf1
theorem tD_tX {K : PySem.W.Frag} {σ : L2.St} {H : Hp} {Q : VK} (h : tD K (fun σ S => bnd (f σ S) fun v S1 => toD v S1) σ H Q) : tX K f σ H Q := by
  obtain ⟨ι, σD, S, x, S', hE, hS, hf, q⟩ := h
  obtain ⟨xa, S1, fa, hf1⟩ := bnd_eq hf
  refine ⟨ι, σD, S, xa, S1, hE, hS, fa, fun ι1 H1 v1 g1 s1 r1 n1 => ?_⟩
  cases xa with
  | d d =>
    cases hf1
    exact q ι1 H1 v1 g1 s1 r1
  | l ds =>
    cases hf1
    obtain ⟨b, xs, rfl, h1, h2, h3⟩ := r1
    obtain ⟨z1, z2, z3⟩ := s1.alloc h1 h2 h3 g1 (n1 b rfl)
    exact q _ _ _ z3 z1 z2
theorem px_toD (ha : PE X a (tX X.K f)) : PE X a (tD X.K fun σ S => bnd (f σ S) fun v S1 => toD v S1) := L2PEw ha fun σ H Q h => tD_tX h
theorem pl_nil : PA X [] (tL X.K fun _ S => some ([], S)) :=
  L2PAw pa_nil fun σ H Q ⟨ι, σD, S, x, S', hE, hS, hf, q⟩ => by
    cases hf
    exact q ι H [] Ge.refl hS RelL.nil
variable {fl : En → Sg → Rs (List D)}
theorem pl_cons (ha : PE X a (tX X.K f)) (hr : PA X es (tL X.K fl)) (hs : starEach (a :: es) X.env = (false, eval a X.env) :: starEach es X.env) :
    PA X (a :: es) (tL X.K fun σ S => bnd (f σ S) fun x S1 => bnd (toD x S1) fun y S2 => bnd (fl σ S2) fun ys S3 => some (y :: ys, S3)) :=
  L2PAw (pa_cons (px_toD ha) hr hs) fun σ H Q ⟨ι, σD, S, x, S', hE, hS, hf, q⟩ => by
    obtain ⟨xa, S1, fa, hf1⟩ := bnd_eq hf
    obtain ⟨y, S2, fy, hf2⟩ := bnd_eq hf1
    obtain ⟨ys, S3, fr, hf3⟩ := bnd_eq hf2
    cases hf3
    exact ⟨ι, σD, S, y, S2, hE, hS, by show bnd (f σD S) _ = _; rw [fa]; exact fy, fun ι1 H1 v1 g1 s1 r1 => ⟨ι1, σD, S2, ys, _, g1.en hE, s1, fr, fun ι2 H2 v2 g2 s2 r2 => q ι2 H2 _ (g1.trans g2) s2 (.cons (g2.rel r1) r2)⟩⟩
theorem pxs_nil : PA X [] (tXs X.K fun _ S => some ([], S)) :=
  L2PAw pa_nil fun σ H Q ⟨ι, σD, S, x, S', hE, hS, hf, q⟩ => by
    cases hf
    exact q ι H [] Ge.refl hS .nil
variable {fxs : En → Sg → Rs (List VX)}
theorem pxs_cons (ha : PE X a (tX X.K f)) (hr : PA X es (tXs X.K fxs)) (hs : starEach (a :: es) X.env = (false, eval a X.env) :: starEach es X.env) :
    PA X (a :: es) (tXs X.K fun σ S => bnd (f σ S) fun x S1 => bnd (fxs σ S1) fun ys S3 => some (x :: ys, S3)) :=
  L2PAw (pa_cons ha hr hs) fun σ H Q ⟨ι, σD, S, x, S', hE, hS, hf, q⟩ => by
    obtain ⟨xa, S1, fa, hf1⟩ := bnd_eq hf
    obtain ⟨ys, S3, fr, hf2⟩ := bnd_eq hf1
    cases hf2
    exact ⟨ι, σD, S, xa, S1, hE, hS, fa, fun ι1 H1 v1 g1 s1 r1 _ => ⟨ι1, σD, S1, ys, _, g1.en hE, s1, fr, fun ι2 H2 v2 g2 s2 r2 => q ι2 H2 _ (g1.trans g2) s2 (.cons (g2.relX r1) r2)⟩⟩
def tTupF (t : TA) : TE := fun σ H Q => t σ H fun xs H1 => xs.length ≤ sizeLine ∧ ∀ p ob, H1 p = none → ob.dict = none → Q (.ref p) (upd H1 p (.frz ob (.tup xs)))
theorem pe_tupF {k : Nat} {t : TA} (h : PA X es t) : PE X (.Tuple es k pos) (tTupF t) := by
  refine ⟨fun pins s σ H Q I hq => ?_⟩
  refine wpAny_Tuple_spliced (thn (h.run pos pins s σ H _ I hq) fun us s1 ⟨xs, H1, I1, r, z, q⟩ => ⟨by rw [← r.length]; exact z, ?_⟩)
  exact ⟨.ref _, _, tupLaid I1 r z s1.toks, rfl, q _ _ (I1.hok.fresh (Nat.le_refl _)) rfl⟩
theorem px_tup {k : Nat} (ha : PA X es (tL X.K fl)) : PE X (.Tuple es k pos) (tX X.K fun σ S => bnd (fl σ S) fun ds S1 => if ds.length ≤ cap then some (.d (.tup ds), S1) else none) :=
  L2PEw (pe_tupF ha) fun σ H Q ⟨ι, σD, S, x, S', hE, hS, hf, q⟩ => by
    obtain ⟨ds, S1, fa, hf1⟩ := bnd_eq hf
    split at hf1
    · rename_i hz
      cases hf1
      exact ⟨ι, σD, S, ds, _, hE, hS, fa, fun ι1 H1 v1 g1 s1 r1 => ⟨by rw [← cap_eq, ← r1.length]; exact hz, (q.mono g1).tup s1 r1⟩⟩
    · cases hf1
theorem px_lst (ha : PA X es (tL X.K fl)) : PE X (.List es pos) (tX X.K fun σ S => bnd (fl σ S) fun ds S1 => if ds.length ≤ cap then some (.l ds, S1) else none) :=
  L2PEw (pe_lst ha) fun σ H Q ⟨ι, σD, S, x, S', hE, hS, hf, q⟩ => by
    obtain ⟨ds, S1, fa, hf1⟩ := bnd_eq hf
    split at hf1
    · rename_i hz
      cases hf1
      exact ⟨ι, σD, S, ds, _, hE, hS, fa, fun ι1 H1 v1 g1 s1 r1 => ⟨by rw [← cap_eq, ← r1.length]; exact hz, (q.mono g1).lst s1 r1⟩⟩
    · cases hf1
theorem atI_rel {K : PySem.W.Frag} {ι : List Lc} {H : Hp} {ds : List D} {xs : List V} {i : Int} {d : D} (r : RelL K ι H ds xs) (h : atI ds i = some d) : ∃ v, atI xs i = some v ∧ Rel K ι H d v := by
  unfold atI at h ⊢
  rw [← r.length]
  cases e : ixN ds.length i with
  | none => rw [e] at h; cases h
  | some j =>
    rw [e] at h
    exact r.get h
theorem ixr_seq : IxR X (rB X.K idxV) := by
  intro value slice pins s σ H v w vv vw Q I rv rw' h hs
  obtain ⟨ι, S, x, y, z, S', hS, hx, hy, he, q⟩ := h
  unfold idxV at he
  split at he
  · cases he
  · rename_i ds hds
    split at he
    · rename_i i
      split at he
      · rename_i d hd
        cases he
        obtain ⟨a, xs, rfl, hk, r⟩ := sqOf_rel hS hds hx
        obtain ⟨u, hu, ru⟩ := atI_rel r hd
        have ew := relX_int hy
        refine ix_seq value slice pins s σ H _ w vv vw Q I rv rw' ?_ hs
        rcases hk with hk | hk
        · exact .inl ⟨a, xs, i, u, rfl, ew, hk, hu, q.same hS ru⟩
        · exact .inr (.inl ⟨a, xs, i, u, rfl, ew, hk.sqT, hu, q.same hS ru⟩)
      · cases he
    · cases he
theorem px_idx (ha : PE X a (tX X.K f)) (hb : PE X b (tX X.K g)) (hp : PlainIx b) : PE X (.Subscript a b pos) (tX X.K fun σ S => bnd (f σ S) fun x S1 => bnd (g σ S1) fun y S2 => idxV x y S2) :=
  L2PEw (pe_ix ixr_seq ha hb hp) fun σ H Q ⟨ι, σD, S, x, S', hE, hS, hf, q⟩ => by
    obtain ⟨xa, S1, fa, hf1⟩ := bnd_eq hf
    obtain ⟨xb, S2, fb, hf2⟩ := bnd_eq hf1
    exact ⟨ι, σD, S, xa, S1, hE, hS, fa, fun ι1 H1 v1 g1 s1 r1 _ => ⟨ι1, σD, S1, xb, S2, g1.en hE, s1, fb, fun ι2 H2 v2 g2 s2 r2 _ => ⟨ι2, S2, xa, xb, x, S', s2, g2.relX r1, r2, hf2, q.mono (g1.trans g2)⟩⟩⟩
def tO (K : PySem.W.Frag) (f : En → Sg → Rs (Option Int)) : TO := fun σ H Q => ∃ ι σD S x S', EnO K ι H σD σ ∧ StO K ι S H ∧ f σD S = some (x, S') ∧ ∀ ι' H', Ge ι H ι' H' → StO K ι' S' H' → Q x H'
theorem po_noneX : PO X none (tO X.K fun _ S => some (none, S)) := ⟨fun pins s σ H Q I ⟨ι, σD, S, x, S', hE, hS, hf, q⟩ => by
  cases hf
  exact po_none.run pins s σ H Q I (q ι H Ge.refl hS)⟩
theorem po_someX (ha : PE X a (tX X.K f)) : PO X (some a) (tO X.K fun σ S => bnd (f σ S) fun x S1 => match x with
    | .d (.int i) => some (some i, S1)
    | _ => none) := ⟨fun pins s σ H Q I ⟨ι, σD, S, x, S', hE, hS, hf, q⟩ => (po_some ha).run pins s σ H Q I (by
    obtain ⟨xa, S1, fa, hf1⟩ := bnd_eq hf
    refine ⟨ι, σD, S, xa, S1, hE, hS, fa, fun ι1 H1 v1 g1 s1 r1 _ => ?_⟩
    split at hf1
    · cases hf1
      exact ⟨_, relX_int r1, q ι1 H1 g1 s1⟩
    · cases hf1)⟩
def rSli (K : PySem.W.Frag) : V → Option Int → Option Int → Hp → VK → Prop := fun v lo hi H Q => ∃ ι S x z S', StO K ι S H ∧ RelX K ι H x v ∧ sliV x lo hi S = some (z, S') ∧ FinX K ι H S' z Q
theorem slr_seq : SlR X (rSli X.K) := by
  intro pins s σ H v vv vl vu lo hi sl Q I rv hs pl pu h
  obtain ⟨ι, S, x, z, S', hS, hx, he, q⟩ := h
  unfold sliV at he
  split at he
  · rename_i ds hds
    cases he
    obtain ⟨a, xs, rfl, hk, r⟩ := tpOf_rel hds hx
    cases rv
    obtain ⟨its, r1, ht, hz⟩ := I.tuple hk.sqT
    have hlen : its.toArray.size = xs.length := by rw [List.size_toArray]; exact r1.length.symm
    refine ⟨"tuple", _, PyProof.Rows.slot_tuple_getitem.lookup, ht.typeIs, ?_⟩
    by_cases hw : HT.sIx xs.length 0 lo = 0 ∧ HT.sIx xs.length xs.length hi = xs.length
    · refine getItem_tuple_whole ht hs pl pu (by rw [hlen]; exact hw) ⟨.ref a, H, I, rfl, ?_⟩
      have e : cutL ds lo hi = ds := by
        unfold cutL
        rw [r.length, hw.1, hw.2]
        simp [← r.length]
      rw [e] at q
      exact q.same hS (by unfold Rel; exact ⟨a, xs, rfl, hk, r⟩)
    · refine HT.getItem_tuple_cut ht hs pl pu (by rw [hlen]; exact hw) ?_ (by rw [hlen]; exact hz)
      rw [hlen]
      have rc : Vals (cutV xs lo hi) ((its.drop (HT.sIx xs.length 0 lo)).take (HT.sIx xs.length xs.length hi - HT.sIx xs.length 0 lo)) := (r1.drop (HT.sIx xs.length 0 lo)).take (HT.sIx xs.length xs.length hi - HT.sIx xs.length 0 lo)
      exact ⟨.ref _, _, tupLaid I rc (Nat.le_trans (cutV_length xs lo hi) hz) s.toks, rfl, q.tup hS (r.cut lo hi) _ _ (I.hok.fresh (Nat.le_refl _)) rfl⟩
  · split at he
    · rename_i ds hds
      cases he
      obtain ⟨a, xs, rfl, hk, r⟩ := lsOf_rel hS hds hx
      exact sl_list pins s σ H _ vv vl vu lo hi sl Q I rv hs pl pu ⟨a, xs, rfl, hk, q.lst hS (r.cut lo hi)⟩
    · cases he
variable {lo hi : Option Expr} {fo go : En → Sg → Rs (Option Int)} {p2 : Pos}
theorem px_sli (ha : PE X a (tX X.K f)) (hl : PO X lo (tO X.K fo)) (hh : PO X hi (tO X.K go)) : PE X (.Subscript a (.Slice lo hi none p2) pos) (tX X.K fun σ S => bnd (f σ S) fun x S1 => bnd (fo σ S1) fun l S2 => bnd (go σ S2) fun h S3 => sliV x l h S3) :=
  L2PEw (pe_slice slr_seq ha hl hh) fun σ H Q ⟨ι, σD, S, x, S', hE, hS, hf, q⟩ => by
    obtain ⟨xa, S1, fa, hf1⟩ := bnd_eq hf
    obtain ⟨l, S2, fb, hf2⟩ := bnd_eq hf1
    obtain ⟨u, S3, fc, hf3⟩ := bnd_eq hf2
    exact ⟨ι, σD, S, xa, S1, hE, hS, fa, fun ι1 H1 v1 g1 s1 r1 _ => ⟨ι1, σD, S1, l, S2, g1.en hE, s1, fb, fun ι2 H2 g2 s2 => ⟨ι2, σD, S2, u, S3, (g1.trans g2).en hE, s2, fc, fun ι3 H3 g3 s3 => ⟨ι3, S3, xa, x, S', s3, (g2.trans g3).relX r1, hf3, q.mono ((g1.trans g2).trans g3)⟩⟩⟩⟩
end
end Ev

namespace Ev
open PySem PySem.Spec PyProof.Rows L2

/-- not a starred argument -/
def NoStar (e : Expr) : Prop := ∀ es env, starEach (e :: es) env = (false, eval e env) :: starEach es env
theorem backTo_any (pos : Pos) (l : List (Bool × Sem Value)) : (backTo pos l).any (·.1) = l.any (·.1) := by
  unfold backTo
  rw [List.any_map]
  rfl
/-- none of them is starred -/
def NoStars : List Expr → Prop
  | [] => True
  | e :: es => NoStar e ∧ NoStars es
theorem noStars_any {env : Env} : ∀ {es : List Expr}, NoStars es → (starEach es env).any (·.1) = false
  | [], _ => rfl
  | e :: es, h => by
    rw [h.1, List.any_cons, noStars_any h.2]
    rfl
theorem noStars_plain {env : Env} {pos : Pos} {es : List Expr} (h : NoStars es) : (backTo pos (starEach es env)).any (·.1) = false := by
  rw [backTo_any, noStars_any h]
section
variable {K : PySem.W.Frag} {ι : List Lc} {H : Hp} {S S' : Sg} {Q : VK}
def rC1 (K : PySem.W.Frag) (op : VX → Sg → Rs VX) : List V → Hp → VK → Prop := fun vs H Q => ∃ v, vs = [v] ∧ rU1 K op v H Q
def rC2 (K : PySem.W.Frag) (op : VX → VX → Sg → Rs VX) : List V → Hp → VK → Prop := fun vs H Q => ∃ v w, vs = [v, w] ∧ rB K op v w H Q
end
section
variable {X : Cx} {a b : Expr} {es : List Expr} {f g : En → Sg → Rs VX} {pos p : Pos}
theorem cr_len : CallR X (.builtin "len") (rC1 X.K (b1V .len)) := by
  intro pins s σ H vs us Q I rv h
  obtain ⟨v, rfl, ι, S, x, z, S', hS, hx, he, q⟩ := h
  unfold b1V at he
  simp only at he
  split at he
  · rename_i ds hds
    cases he
    obtain ⟨c, xs, rfl, hk, r⟩ := sqOf_rel hS hds hx
    refine call_len_seq pins s σ H _ us Q I rv ⟨c, xs, rfl, ?_, ?_⟩
    · rcases hk with hk | hk
      · exact .inl hk
      · exact .inr hk.sqT
    · rw [← r.length]; exact q.int hS
  · cases he
theorem cr_tuple : CallR X (.type "tuple") (rC1 X.K (b1V .tuple)) := by
  intro pins s σ H vs us Q I rv h
  obtain ⟨v, rfl, ι, S, x, z, S', hS, hx, he, q⟩ := h
  unfold b1V at he
  simp only at he
  split at he
  · rename_i ds hds
    cases he
    obtain ⟨c, xs, rfl, hk, r⟩ := sqOf_rel hS hds hx
    obtain ⟨u, rfl, rx⟩ := vals1 rv
    cases rx
    rcases hk with hk | hk
    · obtain ⟨its, r', pl, hz⟩ := I.list hk
      have hlen := r'.length
      refine call_tuple_list pl.isList (fun h' kp => ?_) (by simp only [List.size_toArray] <;> omega)
      have I1 : Inv X pins σ H { s with heap := h' } := I.kept (t' := s.toks) kp
      exact ⟨.ref h'.objs.size, _, tupLaid I1 r' hz s.toks, rfl, q.tup hS r _ _ (I1.hok.fresh (Nat.le_refl _)) rfl⟩
    · obtain ⟨its, r', pl, hz⟩ := I.tuple hk.sqT
      exact call_tuple_same pl ⟨.ref c, H, I, rfl, q.same hS (by unfold Rel; exact ⟨c, xs, rfl, hk, r⟩)⟩
  · cases he
theorem cr_list : CallR X (.type "list") (rC1 X.K (b1V .list)) := by
  intro pins s σ H vs us Q I rv h
  obtain ⟨v, rfl, ι, S, x, z, S', hS, hx, he, q⟩ := h
  unfold b1V at he
  simp only at he
  split at he
  · rename_i ds hds
    cases he
    obtain ⟨c, xs, rfl, hk, r⟩ := sqOf_rel hS hds hx
    refine call_list_of pins s σ H _ us Q I rv ⟨c, xs, rfl, ?_, q.lst hS r⟩
    rcases hk with hk | hk
    · exact .inl hk
    · exact .inr hk.sqT
  · cases he
theorem cr_allX (hc : X.calm = true) : CallR X (.builtin "all") (rC1 X.K (b1V .all)) := by
  intro pins s σ H vs us Q I rv h
  obtain ⟨v, rfl, ι, S, x, z, S', hS, hx, he, q⟩ := h
  unfold b1V at he
  simp only at he
  split at he
  · cases he
  · rename_i ds hds
    split at he
    · cases he
    · rename_i bs hbs
      cases he
      obtain ⟨c, xs, rfl, hk, r⟩ := lsOf_rel hS hds hx
      have e := r.bls hbs
      subst e
      exact cr_all hc pins s σ H _ us Q I rv ⟨c, bs, rfl, hk, q.bl hS⟩
theorem cr_anyX (hc : X.calm = true) : CallR X (.builtin "any") (rC1 X.K (b1V .any)) := by
  intro pins s σ H vs us Q I rv h
  obtain ⟨v, rfl, ι, S, x, z, S', hS, hx, he, q⟩ := h
  unfold b1V at he
  simp only at he
  split at he
  · cases he
  · rename_i ds hds
    split at he
    · cases he
    · rename_i bs hbs
      cases he
      obtain ⟨c, xs, rfl, hk, r⟩ := lsOf_rel hS hds hx
      have e := r.bls hbs
      subst e
      exact cr_any hc pins s σ H _ us Q I rv ⟨c, bs, rfl, hk, q.bl hS⟩
theorem cr_sumX (hc : X.calm = true) : CallR X (.builtin "sum") (rC1 X.K (b1V .sum)) := by
  intro pins s σ H vs us Q I rv h
  obtain ⟨v, rfl, ι, S, x, z, S', hS, hx, he, q⟩ := h
  unfold b1V at he
  simp only at he
  split at he
  · cases he
  · rename_i ds hds
    split at he
    · cases he
    · rename_i is his
      cases he
      obtain ⟨c, xs, rfl, hk, r⟩ := lsOf_rel hS hds hx
      have e := r.ints his
      subst e
      exact cr_sum hc pins s σ H _ us Q I rv ⟨c, is, rfl, hk, q.int hS⟩
theorem cr_absX : CallR X (.builtin "abs") (rC1 X.K (b1V .abs)) := by
  intro pins s σ H vs us Q I rv h
  obtain ⟨v, rfl, ι, S, x, z, S', hS, hx, he, q⟩ := h
  unfold b1V at he
  split at he <;> first | (cases he; done) | skip
  all_goals simp_all
  rename_i i
  obtain ⟨rfl, rfl⟩ := he
  exact call_abs pins s σ H _ us Q I rv ⟨i, by rw [relX_int hx], q.int hS⟩
theorem cr_intX : CallR X (.type "int") (rC1 X.K (b1V .int)) := by
  intro pins s σ H vs us Q I rv h
  obtain ⟨v, rfl, ι, S, x, z, S', hS, hx, he, q⟩ := h
  cases x with
  | l ds => cases he
  | d d =>
    cases d with
    | int i => cases he; exact call_int1 pins s σ H _ us Q I rv (.inl ⟨i, by rw [relX_int hx], q.int hS⟩)
    | bl k => cases he; exact call_int1 pins s σ H _ us Q I rv (.inr ⟨k, by rw [relX_bl hx], q.int hS⟩)
    | _ => cases he
theorem cr_min (hc : X.calm = true) : CallR X (.builtin "min") (rC2 X.K (b2V .min)) := by
  intro pins s σ H vs us Q I rv h
  obtain ⟨v, w, rfl, ι, S, x, y, z, S', hS, hx, hy, he, q⟩ := h
  unfold b2V at he
  split at he <;> simp_all
  rename_i i j
  obtain ⟨rfl, rfl⟩ := he
  exact call_min2 hc pins s σ H _ us Q I rv ⟨i, j, by rw [relX_int hx, relX_int hy], q.int hS⟩
theorem cr_max (hc : X.calm = true) : CallR X (.builtin "max") (rC2 X.K (b2V .max)) := by
  intro pins s σ H vs us Q I rv h
  obtain ⟨v, w, rfl, ι, S, x, y, z, S', hS, hx, hy, he, q⟩ := h
  unfold b2V at he
  split at he <;> simp_all
  rename_i i j
  obtain ⟨rfl, rfl⟩ := he
  exact call_max2 hc pins s σ H _ us Q I rv ⟨i, j, by rw [relX_int hx, relX_int hy], q.int hS⟩
theorem cr_divmod : CallR X (.builtin "divmod") (rC2 X.K (b2V .divmod)) := by
  intro pins s σ H vs us Q I rv h
  obtain ⟨v, w, rfl, ι, S, x, y, z, S', hS, hx, hy, he, q⟩ := h
  unfold b2V at he
  split at he <;> simp_all
  rename_i i j
  obtain ⟨⟨h1, h2⟩, rfl, rfl⟩ := he
  rw [relX_int hx, relX_int hy] at rv
  obtain ⟨u, w', rfl, ⟨t, rfl⟩, ⟨t', rfl⟩⟩ := vals2 rv
  refine divmod_int (by omega) ?_ (.inl (PyProof.noPylong_small (by omega)))
  rw [Int.fdiv_eq_ediv_of_nonneg i (by omega), Int.fmod_eq_emod_of_nonneg i (by omega)]
  have rr : Vals [.int (i / j), .int (i % j)] [.int (i / j) s.toks, .int (i % j) (s.toks + 1)] := .cons ⟨_, rfl⟩ (.cons ⟨_, rfl⟩ .nil)
  exact ⟨.ref _, _, tupLaid I rr (by rw [sizeLine_eq]; show 2 ≤ 16777216; decide) _, rfl, q.tup hS (.cons (by simp [Rel]) (.cons (by simp [Rel]) .nil)) _ _ (I.hok.fresh (Nat.le_refl _)) rfl⟩
variable {x : Str} {id T : String} {op : VX → Sg → Rs VX} {op2 : VX → VX → Sg → Rs VX}
theorem w1 {r : List V → Hp → VK → Prop} (h : PE X b (tCB r (tXs X.K fun σ S => bnd (f σ S) fun x S1 => bnd ((fun _ S => some ([], S)) σ S1) fun ys S3 => some (x :: ys, S3)))) (hr : r = rC1 X.K op) :
    PE X b (tX X.K fun σ S => bnd (f σ S) fun x S1 => op x S1) := L2PEw h fun σ H Q ⟨ι, σD, S, x, S', hE, hS, hf, q⟩ => by
  obtain ⟨xa, S1, fa, hf1⟩ := bnd_eq hf
  subst hr
  refine ⟨ι, σD, S, [xa], S1, hE, hS, ?_, fun ι1 H1 v1 g1 s1 r1 => ?_⟩
  · show bnd (f σD S) _ = _
    rw [fa]; rfl
  · cases r1 with
    | cons a1 r1 =>
      cases r1
      exact ⟨_, rfl, ι1, S1, xa, x, S', s1, a1, hf1, q.mono g1⟩
theorem w2 {r : List V → Hp → VK → Prop} {e : Expr} (h : PE X e (tCB r (tXs X.K fun σ S => bnd (f σ S) fun x S1 => bnd (bnd (g σ S1) fun x S1 => bnd ((fun _ S => some ([], S)) σ S1) fun ys S3 => some (x :: ys, S3)) fun ys S3 => some (x :: ys, S3)))) (hr : r = rC2 X.K op2) :
    PE X e (tX X.K fun σ S => bnd (f σ S) fun x S1 => bnd (g σ S1) fun y S2 => op2 x y S2) := L2PEw h fun σ H Q ⟨ι, σD, S, x, S', hE, hS, hf, q⟩ => by
  obtain ⟨xa, S1, fa, hf1⟩ := bnd_eq hf
  obtain ⟨xb, S2, fb, hf2⟩ := bnd_eq hf1
  subst hr
  refine ⟨ι, σD, S, [xa, xb], S2, hE, hS, ?_, fun ι1 H1 v1 g1 s1 r1 => ?_⟩
  · show bnd (f σD S) _ = _
    rw [fa]
    simp only [bnd_some]
    rw [fb]; rfl
  · cases r1 with
    | cons a1 r1 =>
      cases r1 with
      | cons a2 r1 =>
        cases r1
        exact ⟨_, _, rfl, ι1, S2, xa, xb, x, S', s1, a1, a2, hf2, q.mono g1⟩
theorem px_b1B (hc : CallR X (.builtin id) (rC1 X.K op)) (hg : Gl X x) (hm : X.mg x = none) (hv : bootBuiltins x = some (.builtin id)) (ha : PE X a (tX X.K f)) (na : NoStar a) (hn : x ≠ "__name__") (hdb : (x == ("__debug__" : Str)) = false) :
    PE X (.Call (.Name x p) [a] [] pos) (tX X.K fun σ S => bnd (f σ S) fun x S1 => op x S1) :=
  w1 (pe_callB hc hg hm hv (pxs_cons ha pxs_nil (na _ _)) hn hdb (na _ _) rfl) rfl
theorem px_b1T (hc : CallR X (.type T) (rC1 X.K op)) (hg : Gl X x) (hm : X.mg x = none) (hv : bootBuiltins x = some (.type T)) (ha : PE X a (tX X.K f)) (na : NoStar a) (hn : x ≠ "__name__") (hdb : (x == ("__debug__" : Str)) = false) :
    PE X (.Call (.Name x p) [a] [] pos) (tX X.K fun σ S => bnd (f σ S) fun x S1 => op x S1) :=
  w1 (pe_callTy hc hg hm hv (pxs_cons ha pxs_nil (na _ _)) hn hdb (na _ _) rfl) rfl
theorem px_b2B (hc : CallR X (.builtin id) (rC2 X.K op2)) (hg : Gl X x) (hm : X.mg x = none) (hv : bootBuiltins x = some (.builtin id)) (ha : PE X a (tX X.K f)) (hb : PE X b (tX X.K g)) (na : NoStar a) (nb : NoStar b) (hn : x ≠ "__name__") (hdb : (x == ("__debug__" : Str)) = false) :
    PE X (.Call (.Name x p) [a, b] [] pos) (tX X.K fun σ S => bnd (f σ S) fun x S1 => bnd (g σ S1) fun y S2 => op2 x y S2) :=
  w2 (pe_callB hc hg hm hv (pxs_cons ha (pxs_cons hb pxs_nil (nb _ _)) (na _ _)) hn hdb (na _ _) (noStars_plain ⟨nb, trivial⟩)) rfl
def tyS : Ty → String
  | .int => "int" | .bool => "bool" | .tuple => "tuple" | .list => "list" | .str => "str" | .dict => "dict"
theorem kitTab : ∀ t u : Ty, kitB (tyS t) (tyS u) = some (tyIs t u) := by
  intro t u
  cases t <;> cases u <;> decide +kernel
theorem kitNon : ∀ u : Ty, kitB "NoneType" (tyS u) = some false := by
  intro u
  cases u <;> decide +kernel
theorem bootT : ∀ t : Ty, bootBuiltins (Str.ofString (tyS t)) = some (.type (tyS t)) := by
  intro t
  cases t <;> decide +kernel
theorem tyX_of {K : PySem.W.Frag} {ι : List Lc} {H : Hp} {S : Sg} (s : StO K ι S H) {x : VX} {t : Ty} {v : V} (h : tyV S x = some t) (r : RelX K ι H x v) : TyX K H v (.type (tyS t)) := by
  have lst : ∀ {a : Addr} {xs : List V}, SqL K H a xs → TyX K H (.ref a) (.type "list") := fun {a xs} h => by
    rcases h with (h | ⟨o, h⟩) | ⟨o, its, n, h1, h2, _⟩
    · exact .base (.lst h)
    · exact .base (.frz h)
    · exact .kList h1 h2
  cases x with
  | l ds => cases h; obtain ⟨a, xs, rfl, h1, _⟩ := r; exact .base (.lst h1)
  | d d =>
    cases d with
    | non => cases h
    | bl b => cases h; rw [relX_bl r]; exact .base (.bl b)
    | int b => cases h; rw [relX_int r]; exact .base (.int b)
    | str b => cases h; rw [relX_str r]; exact .base (.str b)
    | tup ds =>
      cases h
      obtain ⟨a, xs, rfl, h1, _⟩ := relX_tup r
      rcases h1 with ⟨o, h1, _⟩ | ⟨o, its, n, h1, h2, _⟩
      · exact .fTuple h1
      · exact .kTuple h1 h2
    | loc l =>
      unfold tyV at h
      simp only at h
      have r' : Rel K ι H (.loc l) v := r
      unfold Rel at r'
      obtain ⟨p, e, rfl⟩ := r'
      split at h
      · rename_i ds q; cases h; obtain ⟨a, xs, e, h1, _⟩ := s.list (show lsAt S l = some ds by unfold lsAt; rw [q]; rfl) r; rw [e]; exact lst h1
      · rename_i ds q; cases h; obtain ⟨a, xs, e, h1, _⟩ := s.list (show lsAt S l = some ds by unfold lsAt; rw [q]; rfl) r; rw [e]; exact lst h1
      · rename_i ds q; cases h; obtain ⟨p', e', _, ws, h1, _⟩ := s.ok l _ q; rw [e] at e'; cases e'; exact .base (.dK h1)
      · rename_i ds q; cases h; obtain ⟨p', e', _, ws, h1, _⟩ := s.ok l _ q; rw [e] at e'; cases e'; exact .base (.dT h1)
      · cases h
theorem kit_any {K : PySem.W.Frag} {t : String} {f : Ty → Bool} (h : ∀ u : Ty, kitB t (tyS u) = some (f u)) : ∀ ts : List Ty, PySem.W.kitAny K (.type t) (ts.map fun u => .type (tyS u)) = some (ts.any f)
  | [] => kitAny_nil
  | u :: us => by
    refine kitAny_cons (kit_ty (h u)) (fun e => ?_) (fun e => ?_)
    · rw [List.any_cons, e, Bool.false_or]
      exact kit_any h us
    · rw [List.any_cons, e, Bool.true_or]
theorem isi_core {K : PySem.W.Frag} {ι : List Lc} {H : Hp} {S : Sg} (s : StO K ι S H) {x : VX} {ts : List Ty} {b : Bool} {v : V} (h : isiV S x ts = some b) (r : RelX K ι H x v) :
    ∃ t, TyX K H v (.type t) ∧ PySem.W.kitAny K (.type t) (ts.map fun u => .type (tyS u)) = some b := by
  unfold isiV at h
  split at h
  · cases h
    rw [relX_non r]
    refine ⟨"NoneType", .base .non, ?_⟩
    rw [kit_any kitNon ts]
    simp
  · split at h
    · cases h
    · rename_i t ht
      cases h
      exact ⟨tyS t, tyX_of s ht r, kit_any (kitTab t) ts⟩
theorem px_isi1 {T : Ty} {nx : Str} {pT : Pos} (hx : x = Str.ofString "isinstance") (hnx : nx = Str.ofString (tyS T)) (hg : Gl X x) (hm : X.mg x = none) (hgT : Gl X nx) (hmT : X.mg nx = none) (ha : PE X a (tX X.K f)) (na : NoStar a) :
    PE X (.Call (.Name x p) [a, .Name nx pT] [] pos) (tX X.K fun σ S => bnd (f σ S) fun x S1 => match isiV S1 x [T] with
      | some b => ret1 b S1
      | none => none) := by
  subst hx hnx
  have nT : NoStar (.Name (Str.ofString (tyS T)) pT) := fun _ _ => rfl
  refine L2PEw (pe_callB call_isi hg hm (by decide +kernel) (pa_cons ha (pa_cons (pe_bltn (v := .ty (tyS T)) hgT hmT (bootT T) rfl (by cases T <;> decide +kernel) (by cases T <;> decide +kernel)) pa_nil) (na _ _)) (by decide +kernel) (by decide +kernel) (na _ _) (noStars_plain ⟨nT, trivial⟩)) ?_
  rintro σ H Q ⟨ι, σD, S, x, S', hE, hS, hf, q⟩
  obtain ⟨xa, S1, fa, hf1⟩ := bnd_eq hf
  refine ⟨ι, σD, S, xa, S1, hE, hS, fa, fun ι1 H1 v1 g1 s1 r1 _ => ?_⟩
  split at hf1
  · rename_i b hb
    cases hf1
    obtain ⟨t, h1, h2⟩ := isi_core s1 hb r1
    have h3 : PySem.W.kitOne X.K (.type t) (.type (tyS T)) = some b := by
      have h2' : PySem.W.kitAny X.K (.type t) [.type (tyS T)] = some b := h2
      unfold PySem.W.kitAny at h2'
      split at h2'
      · rename_i e
        rw [e]
        cases h2'; rfl
      · rename_i e
        rw [e]
        exact h2'
      · cases h2'
    exact ⟨v1, _, _, _, b, rfl, .ty _, h1, h3, (q.mono g1).bl s1⟩
  · cases hf1
/-- the names of the classes -/
def tyNames (N : List Str) : List Expr → List Ty → Prop
  | [], [] => True
  | .Name x _ :: es, t :: ts => x = Str.ofString (tyS t) ∧ Gl X x ∧ X.mg x = none ∧ tyNames N es ts
  | _, _ => False
def tTys (ts : List Ty) : TA := fun _ H Q => Q (ts.map fun t => .ty (tyS t)) H
theorem pa_tys (N : List Str) : ∀ {es : List Expr} {ts : List Ty}, tyNames (X := X) N es ts → PA X es (tTys ts)
  | [], [], _ => L2PAw pa_nil fun _ _ _ q => q
  | .Name x p :: es, t :: ts, h => by
    obtain ⟨rfl, h1, h2, h3⟩ := h
    refine L2PAw (pa_cons (pe_bltn (v := .ty (tyS t)) h1 h2 (bootT t) rfl (by cases t <;> decide +kernel) (by cases t <;> decide +kernel)) (pa_tys N h3) rfl) fun _ _ _ q => q
theorem paired_cls : ∀ ts : List Ty, Paired ClsV (ts.map fun t => V.ty (tyS t)) (ts.map fun t => Value.type (tyS t))
  | [] => .nil
  | t :: ts => .cons (.ty _) (paired_cls ts)
theorem px_isiT {Ts : List Ty} {k : Nat} {pT : Pos} (hx : x = Str.ofString "isinstance") (hg : Gl X x) (hm : X.mg x = none) (hT : tyNames (X := X) [] es Ts) (hl : Ts.length ≤ cap) (ha : PE X a (tX X.K f)) (na : NoStar a) :
    PE X (.Call (.Name x p) [a, .Tuple es k pT] [] pos) (tX X.K fun σ S => bnd (f σ S) fun x S1 => match isiV S1 x Ts with
      | some b => ret1 b S1
      | none => none) := by
  subst hx
  have nT : NoStar (.Tuple es k pT) := fun _ _ => rfl
  refine L2PEw (pe_callB call_isiT hg hm (by decide +kernel) (pa_cons ha (pa_cons (pe_tup (pa_tys [] hT)) pa_nil) (na _ _)) (by decide +kernel) (by decide +kernel) (na _ _) (noStars_plain ⟨nT, trivial⟩)) ?_
  rintro σ H Q ⟨ι, σD, S, x, S', hE, hS, hf, q⟩
  obtain ⟨xa, S1, fa, hf1⟩ := bnd_eq hf
  refine ⟨ι, σD, S, xa, S1, hE, hS, fa, fun ι1 H1 v1 g1 s1 r1 _ => ⟨by rw [← cap_eq, List.length_map]; exact hl, fun tp hp => ?_⟩⟩
  split at hf1
  · rename_i b hb
    cases hf1
    have g2 := Ge.other (ι := ι1) (o := .tup (Ts.map fun t => .ty (tyS t))) hp
    obtain ⟨t, h1, h2⟩ := isi_core (s1.other (o := .tup (Ts.map fun t => .ty (tyS t))) hp) hb (g2.relX r1)
    exact ⟨v1, tp, _, _, _, b, rfl, upd_same, paired_cls Ts, h1, h2, (q.mono (g1.trans g2)).bl (s1.other hp)⟩
  · cases hf1
end
end Ev

namespace Ev
open PySem PySem.Spec PyProof.Rows L2
section
variable {X : Cx} {a b o e : Expr} {es : List Expr} {f g : En → Sg → Rs VX} {pos p apos cpos : Pos} {name : Str}
def GoodM (X : Cx) (name : Str) (T id : String) (r : V → List V → Hp → VK → Prop) : Prop := PlainAttrs T ∧ Slot T name id ∧ typeOf (.builtin id) = pure (.type "method_descriptor") ∧ MtR X id r
def TyK (X : Cx) (x : V) (H : Hp) (T : String) : Prop := ∀ (pins : List (Addr × Obj)) (σ : L2.St) (s : Shared) (v : Value), Inv X pins σ H s → RelV x v → s.TypeIs v T ∧ ∀ a, v = .ref a → ∃ ob, s.heap.get? a = some ob ∧ ob.dict = none
/-- o.m(..), the type known when o is -/
def tMX (X : Cx) (name : Str) (to : TE) (t : TA) : TE := fun σ H Q => to σ H fun x H1 => ∃ T id r, GoodM X name T id r ∧ TyK X x H1 T ∧ t σ H1 fun xs H2 => r x xs H2 Q
theorem pe_mX {to : TE} {t : TA} (ho : PE X o to) (ha : PA X (e :: es) t)
    (hbase : attributeBase o name X.env (eval o X.env) = eval o X.env)
    (hfew : ((backTo cpos (starEach (e :: es) X.env)).all (fun x => !x.1) && (backToKw cpos (keywordEach [] X.env)).all (fun x => x.1.isSome)
      && decide ((e :: es).length + ([] : List Keyword).length + (if ([] : List Keyword).isEmpty then 0 else 1) < 30)) = true)
    (hline : (apos.endLine == cpos.line) = true) (hs : starEach (e :: es) X.env = (false, eval e X.env) :: starEach es X.env) (hplain : (backTo cpos (starEach es X.env)).any (·.1) = false) :
    PE X (.Call (.Attribute o name apos) (e :: es) [] cpos) (tMX X name to t) := by
  refine ⟨fun pins s σ H Q I h => ?_⟩
  refine wpAny_Call_method_late hbase hfew hline rfl (thn (ho.run pins s σ H _ I h) fun v s1 ⟨x, H1, I1, r1, T, id, r, ⟨pa, slot, hty, hm⟩, ht, q1⟩ => ?_)
  obtain ⟨h1, h2⟩ := ht _ _ _ _ I1 r1
  refine ⟨T, id, pa, slot, hty, h1, h2, ?_⟩
  have hA := ha.run cpos pins s1 σ H1 _ I1 q1
  rw [hs] at hA ⊢
  refine Calls.callWith_builtin (by show (false || (backTo cpos (starEach es X.env)).any (·.1)) = false; rw [hplain] <;> rfl) (Calls.evalArgs_plain ?_)
  exact thn hA fun us s2 ⟨vs, H2, I2, r2, q2⟩ => hm pins s2 σ H2 x vs v us Q I2 r1 r2 q2
theorem pe_mX0 {to : TE} (ho : PE X o to) (hbase : attributeBase o name X.env (eval o X.env) = eval o X.env) (hline : (apos.endLine == cpos.line) = true) :
    PE X (.Call (.Attribute o name apos) [] [] cpos) (tMX X name to tNil) := by
  refine ⟨fun pins s σ H Q I h => ?_⟩
  refine wpAny_Call_method0_late hbase hline (thn (ho.run pins s σ H _ I h) fun v s1 ⟨x, H1, I1, r1, T, id, r, ⟨pa, slot, hty, hm⟩, ht, q1⟩ => ?_)
  obtain ⟨h1, h2⟩ := ht _ _ _ _ I1 r1
  exact ⟨T, id, pa, slot, hty, h1, h2, Calls.callWith_builtin rfl (PySem.evalArgs_none (hm pins s1 σ H1 x [] v [] Q I1 r1 .nil q1))⟩
theorem tyK_list {a : Addr} {xs : List V} {H : Hp} (h : SqL X.K H a xs) : TyK X (.ref a) H "list" := fun pins σ s v I r => by
  cases r
  obtain ⟨its, _, pl, _⟩ := I.list h
  refine ⟨pl.isList.typeIs, fun b e => ?_⟩
  cases e
  obtain ⟨o, n, e, c, hd, _⟩ := pl
  exact ⟨o, e, hd⟩
theorem tyK_tup {a : Addr} {xs : List V} {H : Hp} (h : PTup X.K H a xs) : TyK X (.ref a) H "tuple" := fun pins σ s v I r => by
  cases r
  obtain ⟨o, its, n, e, hc, hd, _⟩ := h.at I
  refine ⟨⟨o, e, hc⟩, fun b eb => ?_⟩
  cases eb
  exact ⟨o, e, hd⟩
theorem vals_intsAre : ∀ {ns : List Int} {us : List Value}, Vals (ns.map V.int) us → IntsAre us ns
  | [], _, h => by cases h; exact .nil
  | n :: ns, _, h => by
    cases h with
    | cons r t =>
      obtain ⟨k, rfl⟩ := r
      exact .cons n k (vals_intsAre t)
theorem mr_append : MtR X "list.append" (rMs X.K appendV) := by
  intro pins s σ H v vs vv us Q I rv rvs h
  obtain ⟨ι, S, x, xs, z, S', hS, hx, hxs, he, q⟩ := h
  unfold appendV at he
  split at he
  · rename_i l y
    cases hxs with
    | cons h1 ht =>
      cases ht
      rename_i w
      split at he
      · rename_i ds hds
        split at he
        · rename_i hz
          cases he
          obtain ⟨c, us', rfl, hl, hc, r⟩ := hS.mlist hds hx
          have g := hS.write (c := .lst (ds ++ [y])) (o' := .lst (us' ++ [w])) hl hc (fun _ e => by cases e) (fun _ _ e => by cases e) fun up => ⟨rfl, _, upd_same, (RelL.mono up _ _ r).append (.one (Rel.mono up _ _ h1))⟩
          exact mt_append pins s σ H _ _ vv us Q I rv rvs ⟨c, us', w, rfl, rfl, hc, by rw [← r.length, ← cap_eq]; exact hz, (q.mono g.2).non g.1⟩
        · cases he
      · cases he
  · cases he
theorem mr_extend : MtR X "list.extend" (rMs X.K extendV) := by
  intro pins s σ H v vs vv us Q I rv rvs h
  obtain ⟨ι, S, x, xs, z, S', hS, hx, hxs, he, q⟩ := h
  unfold extendV at he
  split at he
  · rename_i l y
    cases hxs with
    | cons h1 ht =>
      cases ht
      split at he
      · rename_i ds hds
        split at he
        · rename_i ee hee
          split at he
          · rename_i hz
            cases he
            obtain ⟨c, us', rfl, hl, hc, r⟩ := hS.mlist hds hx
            obtain ⟨c2, us2, rfl, hc2, r2⟩ := mlOf_rel hS hee h1
            have g := hS.write (c := .lst (ds ++ ee)) (o' := .lst (us' ++ us2)) hl hc (fun _ e => by cases e) (fun _ _ e => by cases e) fun up => ⟨rfl, _, upd_same, (RelL.mono up _ _ r).append (RelL.mono up _ _ r2)⟩
            exact mt_extend pins s σ H _ _ vv us Q I rv rvs ⟨c, c2, us', us2, rfl, rfl, hc, hc2, by rw [← r.length, ← r2.length, ← cap_eq]; exact hz, (q.mono g.2).non g.1⟩
          · cases he
        · cases he
      · cases he
  · cases he
theorem mr_pop : MtR X "list.pop" (rMs X.K popV) := by
  intro pins s σ H v vs vv us Q I rv rvs h
  obtain ⟨ι, S, x, xs, z, S', hS, hx, hxs, he, q⟩ := h
  unfold popV at he
  split at he
  · rename_i l
    cases hxs
    split at he
    · rename_i ds hds
      split at he
      · rename_i y hy
        cases he
        obtain ⟨c, us', rfl, hl, hc, r⟩ := hS.mlist hds hx
        obtain ⟨w, hw, rw'⟩ := r.get hy
        have g := hS.write (c := .lst ds.dropLast) (o' := .lst us'.dropLast) hl hc (fun _ e => by cases e) (fun _ _ e => by cases e) fun up => ⟨rfl, _, upd_same, (RelL.mono up _ _ r).dropLast⟩
        exact mt_pop pins s σ H _ _ vv us Q I rv rvs ⟨c, us', w, rfl, rfl, hc, by rw [← r.length]; exact hw, (q.mono g.2).same g.1 (g.2.rel rw')⟩
      · cases he
    · cases he
  · cases he
theorem mr_popAt : MtR X "list.pop" (rMs X.K popAtV) := by
  intro pins s σ H v vs vv us Q I rv rvs h
  obtain ⟨ι, S, x, xs, z, S', hS, hx, hxs, he, q⟩ := h
  unfold popAtV at he
  split at he
  · rename_i l i
    cases hxs with
    | cons h1 ht =>
      cases ht
      split at he
      · rename_i ds hds
        split at he
        · rename_i hi
          split at he
          · cases he
          · rename_i k hk
            split at he
            · rename_i y hy
              cases he
              obtain ⟨c, us', rfl, hl, hc, r⟩ := hS.mlist hds hx
              obtain ⟨w', hw, rw'⟩ := r.get hy
              have g := hS.write (c := .lst (ds.eraseIdx k)) (o' := .lst (us'.eraseIdx k)) hl hc (fun _ e => by cases e) (fun _ _ e => by cases e) fun up => ⟨rfl, _, upd_same, (RelL.mono up _ _ r).eraseIdx _⟩
              have hi' : -(2 ^ 62) ≤ i ∧ i < 2 ^ 62 := by simpa [in62] using hi
              exact mt_popAt pins s σ H _ _ vv us Q I rv rvs ⟨c, us', i, k, w', rfl, by rw [relX_int h1], hc, by omega, by omega, by rw [← r.length]; exact hk, hw, (q.mono g.2).same g.1 (g.2.rel rw')⟩
            · cases he
        · cases he
      · cases he
  · cases he
theorem index_cases {os : Option (List D)} {vs : List VX} {S S' : Sg} {z : VX} (h : indexV os vs S = some (z, S')) : ∃ ds k is, vs = [.d (.int k)] ∧ os = some ds ∧ intsOf ds = some is ∧ k ∈ is ∧ z = .d (.int (is.idxOf k : Nat)) ∧ S' = S := by
  unfold indexV at h
  split at h
  · rename_i k
    split at h
    · cases h
    · rename_i ds
      split at h
      · cases h
      · rename_i is his
        split at h
        · rename_i hk
          cases h
          exact ⟨ds, k, is, rfl, rfl, his, by simpa using hk, rfl, rfl⟩
        · cases h
  · cases h
theorem mr_indexL : MtR X "list.index" (rMs X.K fun x xs S => indexV (lsOf S x) xs S) := by
  intro pins s σ H v vs vv us Q I rv rvs h
  obtain ⟨ι, S, x, xs, z, S', hS, hx, hxs, he, q⟩ := h
  obtain ⟨ds, k, is, rfl, h1, h2, h3, rfl, rfl⟩ := index_cases he
  obtain ⟨c, ws, rfl, hk, r⟩ := lsOf_rel hS h1 hx
  have e := r.ints h2
  subst e
  cases rv
  obtain ⟨its, r1, pl, hz⟩ := I.list hk
  cases hxs with
  | cons g1 g2 =>
    cases g2
    cases rvs with
    | cons t1 t2 =>
      cases t2
      have e1 := relX_int g1
      subst e1
      obtain ⟨tk, rfl⟩ := t1
      exact SeqAt.list_index_ints pl.isList (vals_intsAre r1) (by simpa using hz) h3 ⟨V.int (is.idxOf k : Nat), H, I.tok _, ⟨_, rfl⟩, q.int hS⟩
theorem mr_indexT : MtR X "tuple.index" (rMs X.K fun x xs S => indexV (tpOf x) xs S) := by
  intro pins s σ H v vs vv us Q I rv rvs h
  obtain ⟨ι, S, x, xs, z, S', hS, hx, hxs, he, q⟩ := h
  obtain ⟨ds, k, is, rfl, h1, h2, h3, rfl, rfl⟩ := index_cases he
  obtain ⟨c, ws, rfl, hk, r⟩ := tpOf_rel h1 hx
  have e := r.ints h2
  subst e
  cases rv
  obtain ⟨its, r1, pl, hz⟩ := I.tuple hk.sqT
  cases hxs with
  | cons g1 g2 =>
    cases g2
    cases rvs with
    | cons t1 t2 =>
      cases t2
      have e1 := relX_int g1
      subst e1
      obtain ⟨tk, rfl⟩ := t1
      exact SeqAt.tuple_index_ints (show s.heap.IsTuple c its.toArray from pl) (vals_intsAre r1) h3 ⟨V.int (is.idxOf k : Nat), H, I.tok _, ⟨_, rfl⟩, q.int hS⟩
/-- what a method is called on, decided by the own value -/
def mtN : Mt → Str
  | .index => "index" | .append => "append" | .extend => "extend" | .pop => "pop" | .popAt => "pop"
theorem mt_disp (m : Mt) (k : Bool) : (∀ x xs S, mtV m k x xs S = none) ∨ ∃ id, GoodM X (mtN m) (if k = true then "list" else "tuple") id (rMs X.K (mtV m k)) := by
  cases m <;> cases k
  · exact .inr ⟨_, PySem.F.plainAttrs_tuple, PySem.F.slot_tuple_index, PySem.F.type_tuple_index, mr_indexT⟩
  · exact .inr ⟨_, PySem.F.plainAttrs_list, PySem.F.slot_list_index, PySem.F.type_list_index, mr_indexL⟩
  · exact .inl fun _ _ _ => rfl
  · exact .inr ⟨_, PySem.F.plainAttrs_list, PySem.F.slot_list_append, PySem.F.type_list_append, mr_append⟩
  · exact .inl fun _ _ _ => rfl
  · exact .inr ⟨_, PySem.F.plainAttrs_list, PySem.F.slot_list_extend, PySem.F.type_list_extend, mr_extend⟩
  · exact .inl fun _ _ _ => rfl
  · exact .inr ⟨_, PySem.F.plainAttrs_list, PySem.F.slot_list_pop, PySem.F.type_list_pop, mr_pop⟩
  · exact .inl fun _ _ _ => rfl
  · exact .inr ⟨_, PySem.F.plainAttrs_list, PySem.F.slot_list_pop, PySem.F.type_list_pop, mr_popAt⟩
theorem kindM_ty {ι : List Lc} {H : Hp} {S : Sg} (s : StO X.K ι S H) {m : Mt} {x : VX} {k : Bool} {v : V} (h : kindM m x S = some k) (r : RelX X.K ι H x v) : TyK X v H (if k = true then "list" else "tuple") := by
  unfold kindM at h
  split at h
  · rename_i ds hds
    cases h
    obtain ⟨a, xs, rfl, h1, _⟩ := lsOf_rel s hds r
    exact tyK_list h1
  · split at h
    · split at h
      · rename_i ds hds
        cases h
        obtain ⟨a, xs, rfl, h1, _⟩ := tpOf_rel hds r
        exact tyK_tup h1
      · cases h
    · cases h
variable {fxs : En → Sg → Rs (List VX)} {m : Mt}
theorem mt_core {σ : L2.St} {H : Hp} {Q : VK} {t : TA} {to : TE} (hto : to = tX X.K f) (ht : t = tXs X.K fxs)
    (h : tX X.K (fun σ S => bnd (f σ S) fun x S1 => match kindM m x S1 with
    | none => none
    | some k => bnd (fxs σ S1) fun vs S2 => mtV m k x vs S2) σ H Q) : tMX X (mtN m) to t σ H Q := by
  subst hto ht
  obtain ⟨ι, σD, S, x, S', hE, hS, hf, q⟩ := h
  obtain ⟨xa, S1, fa, hf1⟩ := bnd_eq hf
  refine ⟨ι, σD, S, xa, S1, hE, hS, fa, fun ι1 H1 v1 g1 s1 r1 _ => ?_⟩
  split at hf1
  · cases hf1
  · rename_i k hk
    obtain ⟨xs, S2, fb, hf2⟩ := bnd_eq hf1
    rcases mt_disp (X := X) m k with z | ⟨id, G⟩
    · rw [z] at hf2; cases hf2
    · exact ⟨_, id, _, G, kindM_ty s1 hk r1, ι1, σD, S1, xs, S2, g1.en hE, s1, fb, fun ι2 H2 vs g2 s2 r2 => ⟨ι2, S2, xa, xs, x, S', s2, g2.relX r1, r2, hf2, q.mono (g1.trans g2)⟩⟩
theorem px_mt0 (ho : PE X o (tX X.K f)) (hn : name = mtN m) (hbase : attributeBase o name X.env (eval o X.env) = eval o X.env) (hline : (apos.endLine == cpos.line) = true) :
    PE X (.Call (.Attribute o name apos) [] [] cpos) (tX X.K fun σ S => bnd (f σ S) fun x S1 => match kindM m x S1 with
    | none => none
    | some k => bnd ((fun _ S => some ([], S)) σ S1) fun vs S2 => mtV m k x vs S2) := by
  subst hn
  refine L2PEw (pe_mX0 ho hbase hline) fun σ H Q h => ?_
  obtain ⟨ι, σD, S, x, S', hE, hS, hf, q⟩ := h
  obtain ⟨xa, S1, fa, hf1⟩ := bnd_eq hf
  refine ⟨ι, σD, S, xa, S1, hE, hS, fa, fun ι1 H1 v1 g1 s1 r1 _ => ?_⟩
  split at hf1
  · cases hf1
  · rename_i k hk
    obtain ⟨xs, S2, fb, hf2⟩ := bnd_eq hf1
    cases fb
    rcases mt_disp (X := X) m k with z | ⟨id, G⟩
    · rw [z] at hf2; cases hf2
    · exact ⟨_, id, _, G, kindM_ty s1 hk r1, ⟨ι1, S1, xa, [], x, S', s1, r1, .nil, hf2, q.mono g1⟩⟩
theorem noStars_few {pos : Pos} {env : Env} : ∀ {es : List Expr}, NoStars es → (backTo pos (starEach es env)).all (fun x => !x.1) = true
  | [], _ => rfl
  | e :: es, h => by
    rw [h.1]
    show (true && (backTo pos (starEach es env)).all (fun x => !x.1)) = true
    rw [noStars_few h.2]; rfl
theorem px_mt (ho : PE X o (tX X.K f)) (ha : PA X (e :: es) (tXs X.K fxs)) (hn : name = mtN m) (hbase : attributeBase o name X.env (eval o X.env) = eval o X.env) (hline : (apos.endLine == cpos.line) = true) (ne : NoStar e) (ns : NoStars es) (hfew : (e :: es).length < 30) :
    PE X (.Call (.Attribute o name apos) (e :: es) [] cpos) (tX X.K fun σ S => bnd (f σ S) fun x S1 => match kindM m x S1 with
    | none => none
    | some k => bnd (fxs σ S1) fun vs S2 => mtV m k x vs S2) := by
  subst hn
  refine L2PEw (pe_mX ho ha hbase ?_ hline (ne _ _) (noStars_plain ns)) fun σ H Q h => mt_core rfl rfl h
  rw [noStars_few (es := e :: es) ⟨ne, ns⟩]
  show (true && true && decide ((e :: es).length + 0 + 0 < 30)) = true
  rw [decide_eq_true (by omega)]
  rfl
end
end Ev

namespace HT
open PySem PySem.Spec PyProof.Rows L2
section
variable {prog : Program} {w : World} {A : Around} {E : Value → Shared → Prop} {s : Shared}
theorem rev_adjust (n : Nat) : Builtin.Slice.sliceAdjust none none (-1) (n : Int) = ((n : Int) - 1, -1) := by
  unfold Builtin.Slice.sliceAdjust
  simp
theorem rev_places (n : Nat) : Builtin.Slice.slicePlaces ((n : Int) - 1) (-1) (-1) = n := by
  unfold Builtin.Slice.slicePlaces
  have h1 : ¬ ((-1 : Int) > 0) := by omega
  rw [if_neg h1]
  by_cases h : (n : Int) - 1 > -1
  · rw [if_pos h]
    have e : ((n : Int) - 1 - -1 - 1) / (- -1) = (n : Int) - 1 := by
      rw [show (- -1 : Int) = 1 by decide, Int.ediv_one]
      omega
    rw [e]
    omega
  · rw [if_neg h]
    omega
theorem rev_pick (xs : Array Value) : ((List.range xs.size).filterMap fun (m : Nat) => xs[((xs.size : Int) - 1 + (m : Int) * -1).toNat]?).toArray = xs.toList.reverse.toArray := by
  congr 1
  have e : ∀ m ∈ List.range xs.size, xs[((xs.size : Int) - 1 + (m : Int) * -1).toNat]? = xs.toList.reverse[m]? := fun m hm => by
    have hm := List.mem_range.mp hm
    have e1 : ((xs.size : Int) - 1 + (m : Int) * -1).toNat = xs.size - 1 - m := by omega
    rw [e1, List.getElem?_reverse (by simpa using hm)]
    simp
  have e2 : ∀ (l : List Nat) (f g : Nat → Option Value), (∀ m ∈ l, f m = g m) → l.filterMap f = l.filterMap g := by
    intro l f g h
    induction l with
    | nil => rfl
    | cons a t ih =>
      rw [List.filterMap_cons, List.filterMap_cons, h a List.mem_cons_self, ih fun m hm => h m (List.mem_cons_of_mem _ hm)]
  rw [e2 _ _ _ e]
  have := PySem.W.krv_all xs.toList.reverse.toArray
  simpa using this
theorem sliceApplied_rev {sl : Addr} {vl vu vc : Value} {n : Nat} {Q : Int × Int × Nat → Shared → Prop} (hs : s.heap.IsSliceOf sl vl vu vc) (pl : IsPart vl none) (pu : IsPart vu none) (pc : IsPart vc (some (-1)))
    (h : Q ((n : Int) - 1, -1, n) s) : wpAny (model prog w) A (Builtin.Slice.sliceApplied (.ref sl) (pure (n : Int))) Q E s := by
  obtain ⟨os, hos, hcs, hds⟩ := id hs
  unfold Builtin.Slice.sliceApplied Builtin.Slice.sliceFields
  refine wpAny_bind (wpAny_bind (wpAny_field hos hds (x := vl) rfl (wpAny_bind (wpAny_field hos hds (x := vu) rfl (wpAny_bind (wpAny_field hos hds (x := vc) rfl (wpAny_pure ?_)))))))
  refine wpAny_bind (slicePart_ pc ?_)
  show wpAny _ _ (if ((-1 : Int) == 0) = true then _ else _) _ _ s
  rw [if_neg (by decide)]
  refine wpAny_bind (slicePart_ pl (wpAny_bind (slicePart_ pu (wpAny_bind (wpAny_pure ?_)))))
  show wpAny _ _ (match Builtin.Slice.sliceAdjust none none (-1) (n : Int) with | (lo, hi) => pure (lo, (-1 : Int), Builtin.Slice.slicePlaces lo hi (-1))) _ _ s
  rw [rev_adjust n]
  show wpAny _ _ (pure ((n : Int) - 1, (-1 : Int), Builtin.Slice.slicePlaces ((n : Int) - 1) (-1) (-1))) _ _ s
  rw [rev_places]
  exact wpAny_pure h
theorem getItem_tuple_rev {t sl : Addr} {items : Array Value} {vl vu vc : Value} {Q : Value → Shared → Prop} (ht : IsTup s.heap t items) (hs : s.heap.IsSliceOf sl vl vu vc) (pl : IsPart vl none) (pu : IsPart vu none) (pc : IsPart vc (some (-1)))
    (h : Q (.ref s.heap.objs.size) { s with heap := s.heap.push { cls := .type "tuple", data := .seq items.toList.reverse.toArray } })
    (hsz : items.size ≤ sizeLine) : wpAny (model prog w) A (getItem (.ref t) (.ref sl)) Q E s := by
  have htake : sizeOk (.seq items.toList.reverse.toArray) := by
    show items.toList.reverse.toArray.size ≤ sizeLine
    rw [List.size_toArray, List.length_reverse, Array.length_toList]
    exact hsz
  obtain ⟨os, hos, hcs, hds⟩ := id hs
  have hTs : s.TypeIs (.ref sl) "slice" := ⟨os, hos, hcs⟩
  unfold getItem
  try with_reducible refine wpAny_holding ?_
  first | refine wpAny_bind (wpAny_pure ?_) | skip
  refine wpAny_bind (wpAny_sequenceKey ht.typeIs (by decide) ?_)
  refine wpAny_bind (wpAny_callSpecial?_slot (name := Str.ofString "__getitem__") ht.typeIs PyProof.Rows.slot_tuple_getitem
    (wpAny_call_entry PyProof.Rows.slot_tuple_getitem ht.typeIs entry_tuple_getitem ?_ (args_tuple_getitem _ _)))
  show wpAny _ _ (Builtin.Tuple.tupleItemsOf (.ref t) >>= _) _ _ s
  refine wpAny_bind (tupleItemsOf_ ht ?_)
  refine wpAny_bind (wpAny_typeOf hTs ?_)
  rw [if_pos (by decide)]
  refine wpAny_bind (sliceApplied_rev hs pl pu pc ?_)
  show wpAny _ _ (if ((((items.size : Nat) : Int) - 1) == 0 && (-1 : Int) == 1 && items.size == items.size) = true then _ else _) _ _ s
  rw [if_neg (by intro q; rw [Bool.and_eq_true, Bool.and_eq_true] at q; exact absurd q.1.2 (by decide)), rev_pick]
  first
    | exact wpAny_bind (m := Builtin.Tuple.tupleExact _) (wpAny_newObj_type (wpAny_pure ⟨_, rfl, wpAny_pure h⟩) htake)
    | exact wpAny_bind (m := Builtin.Tuple.tupleExact _) (wpAny_newObj_type (wpAny_bind (wpAny_pure (wpAny_pure ⟨_, rfl, wpAny_pure h⟩))) htake)
    | exact wpAny_bind (wpAny_bind (m := Builtin.Tuple.tupleExact _) (wpAny_newObj_type (wpAny_pure (wpAny_pure ⟨_, rfl, wpAny_pure h⟩)) htake))
    | exact wpAny_bind (wpAny_bind (m := Builtin.Tuple.tupleExact _) (wpAny_newObj_type (wpAny_pure ⟨_, rfl, wpAny_pure h⟩) htake))
end
end HT
namespace Ev
open PySem PySem.Spec PyProof.Rows L2
section
variable {X : Cx} {a b o e : Expr} {es : List Expr} {f g : En → Sg → Rs VX} {pos p apos cpos : Pos} {x name : Str}
def tRevX (K : PySem.W.Frag) (te : TE) : TE := fun σ H Q => te σ H fun x H1 => (∃ a xs, x = .ref a ∧ SqL K H1 a xs ∧ ∀ p, H1 p = none → Q (.ref p) (upd H1 p (.lst xs.reverse))) ∨
  ∃ a xs, x = .ref a ∧ PTup K H1 a xs ∧ ∀ p ob, H1 p = none → ob.dict = none → Q (.ref p) (upd H1 p (.frz ob (.tup xs.reverse)))
theorem pe_revX {k : Nat} {p1 p2 p3 : Pos} {te : TE} (he : PE X e te) : PE X (.Subscript e (.Slice none none (some (.UnaryOp .USub (.Constant (.int 1) k p1) p2)) p3) pos) (tRevX X.K te) := by
  refine ⟨fun pins s σ H Q I h => ?_⟩
  refine Subscript_ (thn (he.run pins s σ H _ I h) fun v s1 ⟨x, H1, I1, r1, q1⟩ => ?_)
  have hst : PO X (some (.UnaryOp .USub (.Constant (.int 1) k p1) p2)) (tPart (tUn (rU fun i => .int (-i)) (tC (.int 1)))) := po_some (pe_un un_neg pe_int)
  refine wpAny_Slice (thn (po_none.run pins s1 σ H1 (fun o H2 => o = none ∧ H2 = H1) I1 ⟨rfl, rfl⟩) fun vl s2 ⟨l, H2, I2, pl, el, e2⟩ => ?_)
  subst el e2
  refine thn (po_none.run pins s2 σ H2 (fun o H3 => o = none ∧ H3 = H2) I2 ⟨rfl, rfl⟩) fun vu s3 ⟨u, H3, I3, pu, eu, e3⟩ => ?_
  subst eu e3
  refine thn (hst.run pins s3 σ H3 (fun o H4 => o = some (-1) ∧ H4 = H3) I3 ⟨1, rfl, -1, rfl, rfl, rfl⟩) fun vs s4 ⟨o, H4, I4, ps, eo, e4⟩ => ?_
  subst eo e4
  have I5 : Inv X pins σ H4 { s4 with heap := s4.heap.push { cls := .type "slice", data := .fields #[vl, vu, vs] } } := I4.kept (t' := s4.toks) fun b ob q => Heap.get?_push_of_some _ q
  rcases q1 with ⟨a, xs, rfl, hx, q⟩ | ⟨a, xs, rfl, hx, q⟩
  · cases r1
    obtain ⟨its, r, ht, hz⟩ := I5.list hx
    have hlen := r.length
    show wpAny (model X.prog X.w) X.A (subscriptTail e (.Slice none none (some (.UnaryOp .USub (.Constant (.int 1) k p1) p2)) p3) (.ref a) (.ref s4.heap.objs.size)) (EP X pins σ Q) X.xe { s4 with heap := s4.heap.push { cls := .type "slice", data := .fields #[vl, vu, vs] } }
    refine tail_any (ops := [.ref a, .ref s4.heap.objs.size]) ht.isList.typeIs (PySem.slot_list_getitem.lookup) ?_ (by with_unfolding_all rfl)
    refine wpAny_getItem_list_slice ht.isList (Heap.IsSliceOf.new _ vl vu vs) pl pu ps (by decide) ?_ (by rw [List.size_toArray]; omega)
    rw [PySem.W.krv_pick]
    refine ⟨.ref _, _, I5.laid (t' := s4.toks) (o := .lst xs.reverse) (fun b ob q => Heap.get?_push_of_some _ q) (Nat.le_refl _) ?_, rfl, q _ (I5.hok.fresh (Nat.le_refl _))⟩
    exact ⟨by rw [List.length_reverse]; exact hz, _, 0, r.reverse, Heap.get?_push_size _ rfl⟩
  · cases r1
    obtain ⟨its, r, ht, hz⟩ := I5.tuple hx.sqT
    have hlen := r.length
    show wpAny (model X.prog X.w) X.A (subscriptTail e (.Slice none none (some (.UnaryOp .USub (.Constant (.int 1) k p1) p2)) p3) (.ref a) (.ref s4.heap.objs.size)) (EP X pins σ Q) X.xe { s4 with heap := s4.heap.push { cls := .type "slice", data := .fields #[vl, vu, vs] } }
    refine tail_any (ops := [.ref a, .ref s4.heap.objs.size]) ht.typeIs (PyProof.Rows.slot_tuple_getitem.lookup) ?_ (by with_unfolding_all rfl)
    refine HT.getItem_tuple_rev ht (Heap.IsSliceOf.new _ vl vu vs) pl pu ps ?_ (by rw [List.size_toArray]; omega)
    exact ⟨.ref _, _, tupLaid I5 (us := its.reverse) r.reverse (by rw [List.length_reverse]; exact hz) s4.toks, rfl, q _ _ (I5.hok.fresh (Nat.le_refl _)) rfl⟩
theorem px_rev {k : Nat} {p1 p2 p3 : Pos} (ha : PE X a (tX X.K f)) : PE X (.Subscript a (.Slice none none (some (.UnaryOp .USub (.Constant (.int 1) k p1) p2)) p3) pos) (tX X.K fun σ S => bnd (f σ S) fun x S1 => revV x S1) :=
  L2PEw (pe_revX ha) fun σ H Q ⟨ι, σD, S, x, S', hE, hS, hf, q⟩ => by
    obtain ⟨xa, S1, fa, hf1⟩ := bnd_eq hf
    refine ⟨ι, σD, S, xa, S1, hE, hS, fa, fun ι1 H1 v1 g1 s1 r1 _ => ?_⟩
    unfold revV at hf1
    split at hf1
    · rename_i ds hds
      cases hf1
      obtain ⟨c, xs, rfl, hk, r⟩ := tpOf_rel hds r1
      exact .inr ⟨c, xs, rfl, hk, (q.mono g1).tup s1 r.reverse⟩
    · split at hf1
      · rename_i ds hds
        cases hf1
        obtain ⟨c, xs, rfl, hk, r⟩ := lsOf_rel s1 hds r1
        exact .inl ⟨c, xs, rfl, hk, (q.mono g1).lst s1 r.reverse⟩
      · cases hf1

theorem range_relL {K : PySem.W.Frag} {ι : List Lc} {H : Hp} (lo : Int) (n : Nat) (c : Int) : RelL K ι H ((List.range n).map fun (i : Nat) => D.int (lo + ((i : Nat) : Int) * c)) ((List.range n).map fun (i : Nat) => V.int (lo + ((i : Nat) : Int) * c)) := by
  refine RelL.of (by simp) fun i d v h1 h2 => ?_
  rw [List.getElem?_map] at h1 h2
  cases e : (List.range n)[i]? with
  | none => rw [e] at h1; cases h1
  | some j =>
    rw [e] at h1 h2
    cases h1; cases h2
    simp [Rel]
def rgOk (lo hi : Int) : Bool := in62 lo && in62 hi && decide ((hi - lo).toNat ≤ 16777216)
theorem rgOk_of {lo hi : Int} (h : rgOk lo hi = true) : RgOk lo hi := by
  unfold rgOk in62 at h
  simp only [Bool.and_eq_true, decide_eq_true_eq] at h
  exact ⟨h.1.1.1, h.1.1.2, h.1.2.1, h.1.2.2, by have := h.2; omega⟩
theorem rel_rgV {K : PySem.W.Frag} {ι : List Lc} {H : Hp} (lo hi : Int) : RelL K ι H ((List.range (hi - lo).toNat).map fun (i : Nat) => D.int (lo + ((i : Nat) : Int))) (rgV lo hi) := by
  have h := range_relL (K := K) (ι := ι) (H := H) lo (hi - lo).toNat 1
  simpa [rgV] using h
def tTupRgF (te : L2.St → Hp → (Int → Int → Hp → Prop) → Prop) : TE := fun σ H Q => te σ H fun a b H1 => RgOk a b ∧ ∀ q ob, H1 q = none → ob.dict = none → Q (.ref q) (upd H1 q (.frz ob (.tup (rgV a b))))
theorem pe_tupRgF {te : L2.St → Hp → (Int → Int → Hp → Prop) → Prop} (hc : X.calm = true) (hg : Gl X "tuple") (hm : X.mg "tuple" = none) (he : PRg X e te) (na : starEach [e] X.env = (false, eval e X.env) :: starEach [] X.env) :
    PE X (.Call (.Name "tuple" p) [e] [] pos) (tTupRgF te) := by
  refine ⟨fun pins s σ H Q I h => ?_⟩
  refine Call_ (ld_blt I hg hm boot_tuple (PyProof.Rows.callWith_type1 (args_cons (thn (he pins s σ H _ I h) fun x s1 ⟨r, a, b, t, u, v, H1, ex, hr, I1, ok, q⟩ => args_nil ?_) na) na))
  subst ex
  obtain ⟨b1, b2, b3, b4, b5⟩ := ok
  refine call_tuple_range (n := (b - a).toNat) (I1.ok.hd hc) hr (small_one b1 b2 b3 b4) (rangeSize_nat a b) b5 fun h' tk acc hk hi => ?_
  have I2 : Inv X pins σ H1 { s1 with heap := h', toks := tk } := I1.kept hk
  have J := tupLaid I2 (us := acc.toList) (vals_rg hi) (by rw [rgV_length, sizeLine_eq]; omega) tk
  exact ⟨.ref h'.objs.size, _, by simpa using J, rfl, q _ _ (I2.hok.fresh (Nat.le_refl _)) rfl⟩
theorem rng1_ok {n : Int} {ds : List D} (h : rngV [.d (.int n)] = some ds) (hz : ds.length ≤ cap) : RgOk 0 n ∧ ds = (List.range (n - 0).toNat).map fun (i : Nat) => D.int (0 + ((i : Nat) : Int)) := by
  unfold rngV at h
  simp only at h
  split at h
  · rename_i hi
    cases h
    have hz' : n.toNat ≤ cap := by simpa using hz
    have hi' : -(2 ^ 62) ≤ n ∧ n < 2 ^ 62 := by simpa [in62] using hi
    refine ⟨⟨by omega, by omega, hi'.1, hi'.2, ?_⟩, by simp⟩
    rw [Int.sub_zero]
    exact hz'
  · cases h
theorem rng2_ok {m n : Int} {ds : List D} (h : rngV [.d (.int m), .d (.int n)] = some ds) (hz : ds.length ≤ cap) : RgOk m n ∧ ds = (List.range (n - m).toNat).map fun (i : Nat) => D.int (m + ((i : Nat) : Int)) := by
  unfold rngV at h
  simp only at h
  split at h
  · rename_i hi
    cases h
    have hz' : (n - m).toNat ≤ cap := by simpa using hz
    simp only [in62, Bool.and_eq_true, decide_eq_true_eq] at hi
    exact ⟨⟨hi.1.1, hi.1.2, hi.2.1, hi.2.2, hz'⟩, rfl⟩
  · cases h
theorem rngV_int1 {x : VX} {ds : List D} (h : rngV [x] = some ds) : ∃ n, x = .d (.int n) := by
  unfold rngV at h
  split at h <;> first | (cases h; done) | simp_all
theorem rngV_int2 {x y : VX} {ds : List D} (h : rngV [x, y] = some ds) : ∃ m n, x = .d (.int m) ∧ y = .d (.int n) := by
  unfold rngV at h
  split at h <;> first | (cases h; done) | simp_all
variable {pr posr : Pos} {xr : Str}
theorem prg1X {Q : Int → Int → Hp → Prop} {σ : L2.St} {H : Hp} {k : List D → VX} {Q' : VK} (h : tX X.K (fun σ S => bnd (bnd (f σ S) fun x S1 => bnd (some ([], S1)) fun ys S3 => some (x :: ys, S3)) fun vs S1 => rngL1 vs k S1) σ H Q')
    (hQ : ∀ ι1 S1 H1 lo hi, StO X.K ι1 S1 H1 → RgOk lo hi → FinX X.K ι1 H1 S1 (k ((List.range (hi - lo).toNat).map fun (i : Nat) => D.int (lo + ((i : Nat) : Int)))) Q' → Q lo hi H1) : tRg1 (tX X.K f) σ H Q := by
  obtain ⟨ι, σD, S, x, S', hE, hS, hf, q⟩ := h
  obtain ⟨vs, S2, fv, hf1⟩ := bnd_eq hf
  obtain ⟨xa, S1, fa, hf2⟩ := bnd_eq fv
  cases hf2
  unfold rngL1 at hf1
  split at hf1
  · rename_i ds hds
    split at hf1
    · rename_i hz
      cases hf1
      obtain ⟨n, rfl⟩ := rngV_int1 hds
      obtain ⟨h1, h2⟩ := rng1_ok hds hz
      subst h2
      exact ⟨ι, σD, S, _, _, hE, hS, fa, fun ι1 H1 v1 g1 s1 r1 _ => ⟨n, relX_int r1, hQ ι1 _ H1 0 n s1 h1 (q.mono g1)⟩⟩
    · cases hf1
  · cases hf1
theorem prg2X {Q : Int → Int → Hp → Prop} {σ : L2.St} {H : Hp} {k : List D → VX} {Q' : VK} (h : tX X.K (fun σ S => bnd (bnd (f σ S) fun x S1 => bnd (bnd (g σ S1) fun x S1 => bnd (some ([], S1)) fun ys S3 => some (x :: ys, S3)) fun ys S3 => some (x :: ys, S3)) fun vs S1 => rngL1 vs k S1) σ H Q')
    (hQ : ∀ ι1 S1 H1 lo hi, StO X.K ι1 S1 H1 → RgOk lo hi → FinX X.K ι1 H1 S1 (k ((List.range (hi - lo).toNat).map fun (i : Nat) => D.int (lo + ((i : Nat) : Int)))) Q' → Q lo hi H1) : tRg2 (tX X.K f) (tX X.K g) σ H Q := by
  obtain ⟨ι, σD, S, x, S', hE, hS, hf, q⟩ := h
  obtain ⟨vs, S2, fv, hf1⟩ := bnd_eq hf
  obtain ⟨xa, S1, fa, hf2⟩ := bnd_eq fv
  obtain ⟨xs, S3, fb, hf3⟩ := bnd_eq hf2
  obtain ⟨xb, S4, fc, hf4⟩ := bnd_eq fb
  cases hf4
  cases hf3
  unfold rngL1 at hf1
  split at hf1
  · rename_i ds hds
    split at hf1
    · rename_i hz
      cases hf1
      obtain ⟨m, n, rfl, rfl⟩ := rngV_int2 hds
      obtain ⟨h1, h2⟩ := rng2_ok hds hz
      subst h2
      exact ⟨ι, σD, S, _, _, hE, hS, fa, fun ι1 H1 v1 g1 s1 r1 _ => ⟨ι1, σD, S1, _, _, g1.en hE, s1, fc, fun ι2 H2 v2 g2 s2 r2 _ => ⟨m, n, relX_int r1, relX_int r2, hQ ι2 _ H2 m n s2 h1 (q.mono (g1.trans g2))⟩⟩⟩
    · cases hf1
  · cases hf1
theorem px_rngL1 (hx : x = "list") (hr : xr = "range") (hc : X.calm = true) (hg : Gl X x) (hm : X.mg x = none) (hgr : Gl X xr) (hmr : X.mg xr = none) (ha : PE X a (tX X.K f)) (na : NoStar a) :
    PE X (.Call (.Name x p) [.Call (.Name xr pr) [a] [] posr] [] pos) (tX X.K fun σ S => bnd (bnd (f σ S) fun x S1 => bnd (some ([], S1)) fun ys S3 => some (x :: ys, S3)) fun vs S1 => rngL1 vs VX.l S1) := by
  subst hx hr
  exact L2PEw (pe_listRg hc hg hm (prg_1 hgr hmr ha (na _ _)) rfl) fun σ H Q h => prg1X h fun ι1 S1 H1 lo hi s ok q => ⟨ok, q.lst s (rel_rgV lo hi)⟩
theorem px_rngL2 (hx : x = "list") (hr : xr = "range") (hc : X.calm = true) (hg : Gl X x) (hm : X.mg x = none) (hgr : Gl X xr) (hmr : X.mg xr = none) (ha : PE X a (tX X.K f)) (na : NoStar a) (hb : PE X b (tX X.K g)) (nb : NoStar b) :
    PE X (.Call (.Name x p) [.Call (.Name xr pr) [a, b] [] posr] [] pos) (tX X.K fun σ S => bnd (bnd (f σ S) fun x S1 => bnd (bnd (g σ S1) fun x S1 => bnd (some ([], S1)) fun ys S3 => some (x :: ys, S3)) fun ys S3 => some (x :: ys, S3)) fun vs S1 => rngL1 vs VX.l S1) := by
  subst hx hr
  exact L2PEw (pe_listRg hc hg hm (prg_2 hgr hmr ha hb (na _ _) (nb _ _) (noStars_plain ⟨nb, trivial⟩)) rfl) fun σ H Q h => prg2X h fun ι1 S1 H1 lo hi s ok q => ⟨ok, q.lst s (rel_rgV lo hi)⟩
theorem px_rngT1 (hx : x = "tuple") (hr : xr = "range") (hc : X.calm = true) (hg : Gl X x) (hm : X.mg x = none) (hgr : Gl X xr) (hmr : X.mg xr = none) (ha : PE X a (tX X.K f)) (na : NoStar a) :
    PE X (.Call (.Name x p) [.Call (.Name xr pr) [a] [] posr] [] pos) (tX X.K fun σ S => bnd (bnd (f σ S) fun x S1 => bnd (some ([], S1)) fun ys S3 => some (x :: ys, S3)) fun vs S1 => rngL1 vs (fun ds => VX.d (.tup ds)) S1) := by
  subst hx hr
  exact L2PEw (pe_tupRgF hc hg hm (prg_1 hgr hmr ha (na _ _)) rfl) fun σ H Q h => prg1X h fun ι1 S1 H1 lo hi s ok q => ⟨ok, q.tup s (rel_rgV lo hi)⟩
theorem px_rngT2 (hx : x = "tuple") (hr : xr = "range") (hc : X.calm = true) (hg : Gl X x) (hm : X.mg x = none) (hgr : Gl X xr) (hmr : X.mg xr = none) (ha : PE X a (tX X.K f)) (na : NoStar a) (hb : PE X b (tX X.K g)) (nb : NoStar b) :
    PE X (.Call (.Name x p) [.Call (.Name xr pr) [a, b] [] posr] [] pos) (tX X.K fun σ S => bnd (bnd (f σ S) fun x S1 => bnd (bnd (g σ S1) fun x S1 => bnd (some ([], S1)) fun ys S3 => some (x :: ys, S3)) fun ys S3 => some (x :: ys, S3)) fun vs S1 => rngL1 vs (fun ds => VX.d (.tup ds)) S1) := by
  subst hx hr
  exact L2PEw (pe_tupRgF hc hg hm (prg_2 hgr hmr ha hb (na _ _) (nb _ _) (noStars_plain ⟨nb, trivial⟩)) rfl) fun σ H Q h => prg2X h fun ι1 S1 H1 lo hi s ok q => ⟨ok, q.tup s (rel_rgV lo hi)⟩

abbrev Fsem := List D → Sg → Rs VX
def spF (K : PySem.W.Frag) (m : Fsem) : Sp := fun vs H Q _ => ∃ ι ds S x S', RelL K ι H ds vs ∧ StO K ι S H ∧ m ds S = some (x, S') ∧ FinX K ι H S' x Q
variable {k : Nat} {fa : Addr} {fd : FuncData} {ps ks : List Str} {m : Fsem} {fl : En → Sg → Rs (List D)}
theorem px_call (F : FnOk X.prog X.w X.K X.mg X.base CX0 k fa fd ps (spF X.K m)) (hr : Room k X.A) (hg : Gl X x) (hm : X.mg x = some (.ref fa)) (hk : PySem.W.keepIn X.K (.ref fa) = true) (hb : Binds X.K fd ps [])
    (ha : PA X (e :: es) (tL X.K fl)) (hdb : (x == ("__debug__" : Str)) = false) (ne : NoStar e) (ns : NoStars es) :
    PE X (.Call (.Name x p) (e :: es) [] pos) (tX X.K fun σ S => bnd (fl σ S) fun ds S1 => m ds S1) :=
  L2PEw (pe_call F hr hg hm hk hb .nil pass0 ha hdb (ne _ _) (noStars_plain ns)) fun σ H Q ⟨ι, σD, S, x, S', hE, hS, hf, q⟩ => by
    obtain ⟨ds, S1, fb, hf1⟩ := bnd_eq hf
    exact ⟨ι, σD, S, ds, S1, hE, hS, fb, fun ι1 H1 v1 g1 s1 r1 => ⟨ι1, ds, S1, x, S', by rw [List.append_nil]; exact r1, s1, hf1, q.mono g1⟩⟩
/-- the keywords' values put into the parameters' order -/
def permG {α : Type} (nu nk : Nat) (perm : List Nat) (us ws : List α) : List α := if us.length = nu ∧ ws.length = nk then (permute (us ++ ws) perm).getD [] else []
theorem Vals.perm {xs : List V} {us : List Value} (h : Vals xs us) : ∀ {perm : List Nat}, (∃ ys ws, permute xs perm = some ys ∧ permute us perm = some ws ∧ Vals ys ws) ∨ (permute xs perm = none ∧ permute us perm = none)
  | [] => .inl ⟨[], [], rfl, rfl, .nil⟩
  | i :: is => by
    have hl := h.length
    unfold permute
    cases e : xs[i]? with
    | none =>
      right
      rw [h.none_of e]
      exact ⟨rfl, rfl⟩
    | some x =>
      obtain ⟨u, hu, r⟩ := h.get e
      rw [hu]
      rcases Vals.perm h (perm := is) with ⟨ys, ws, h1, h2, h3⟩ | ⟨h1, h2⟩
      · left
        rw [h1, h2]
        exact ⟨x :: ys, u :: ws, rfl, rfl, .cons r h3⟩
      · right
        rw [h1, h2]
        exact ⟨rfl, rfl⟩
theorem kBinds_perm {K : PySem.W.Frag} {nu nk : Nat} {perm : List Nat} (hps : ps ≠ []) (h : ∀ us ws : List Value, us.length = nu → ws.length = nk → bindArgs fd ⟨us, ks.zip ws⟩ = pure (ps.zip ((permute (us ++ ws) perm).getD []))) :
    KBinds K fd ps ks (permG nu nk perm) (permG nu nk perm) where
  to := fun s us ws _ hl => by
    unfold permG at hl ⊢
    by_cases c : us.length = nu ∧ ws.length = nk
    · rw [if_pos c]
      exact .of_eq (h us ws c.1 c.2)
    · rw [if_neg c] at hl
      cases ps with
      | nil => exact absurd rfl hps
      | cons _ _ => simp at hl
  rel := fun {vs us zs ws} r1 r2 => by
    unfold permG
    rw [r1.length, r2.length]
    split
    · rcases Vals.perm (r1.append r2) (perm := perm) with ⟨ys, ts, h1, h2, h3⟩ | ⟨h1, h2⟩
      · rw [h1, h2]; exact h3
      · rw [h1, h2]; exact .nil
    · exact .nil
/-- f(k = v, ..), keywords alone -/
theorem pe_callK0 {t : TA} {kws : List Keyword} {sp : Sp} {g : List Value → List Value → List Value} {gV : List V → List V → List V} (F : FnOk X.prog X.w X.K X.mg X.base CX0 k fa fd ps sp) (hr : Room k X.A) (hg : Gl X x) (hm : X.mg x = some (.ref fa)) (hk : PySem.W.keepIn X.K (.ref fa) = true) (hb : KBinds X.K fd ps ks g gV)
    (hkw : PK X kws t) (hall : (backToKw pos (keywordEach kws X.env)).all (·.1.isSome) = true) (hks : (backToKw pos (keywordEach kws X.env)).filterMap (·.1) = ks) (hdb : (x == ("__debug__" : Str)) = false) (hpl : (backToKw pos (keywordEach kws X.env)).any (·.1.isNone) = false) :
    PE X (.Call (.Name x p) [] kws pos) (fun σ H Q => t σ H fun zs H2 => sp (gV [] zs) H2 Q E0) := by
  refine ⟨fun pins s σ H Q I h => ?_⟩
  refine wpAny_Call_Name_kw (ld_glob I hg hm ?_ hdb)
  refine PySem.W.callWith_KW0 (h₀ := X.base) I.ok.mod.kin hk hall (thn (hkw.run pos pins s σ H _ I h) fun ws s2 ⟨zs, H2, I2, rz, q2⟩ => ⟨I2.kIn, ?_⟩) (by show (false || (backToKw pos (keywordEach kws X.env)).any (·.1.isNone)) = false; rw [hpl]; rfl)
  rw [hks]
  exact run_fnk F hr hb pass0 I2 .nil rz q2
theorem kw_all (pos : Pos) {env : Env} : ∀ {kws : List Keyword} {ks : List Str}, kws.map (·.arg) = ks.map some → (backToKw pos (keywordEach kws env)).all (·.1.isSome) = true ∧ (backToKw pos (keywordEach kws env)).filterMap (·.1) = ks ∧ (backToKw pos (keywordEach kws env)).any (·.1.isNone) = false
  | [], [], _ => ⟨rfl, rfl, rfl⟩
  | [], _ :: _, h => by simp at h
  | _ :: _, [], h => by simp at h
  | ⟨nm, v, kp⟩ :: kws, n :: ns, h => by
    rw [List.map_cons, List.map_cons] at h
    injection h with h1 h2
    have h1' : nm = some n := h1
    subst h1'
    obtain ⟨a1, a2, a3⟩ := kw_all pos h2
    refine ⟨?_, ?_, ?_⟩
    · show (true && (backToKw pos (keywordEach kws env)).all (·.1.isSome)) = true
      rw [a1]; rfl
    · show n :: (backToKw pos (keywordEach kws env)).filterMap (·.1) = n :: ns
      rw [a2]
    · show (false || (backToKw pos (keywordEach kws env)).any (·.1.isNone)) = false
      rw [a3]; rfl
/-- the keywords' values, from the left -/
theorem pk_nilX : PK X [] (tL X.K fun _ S => some ([], S)) :=
  L2PKw pk_nil fun σ H Q ⟨ι, σD, S, x, S', hE, hS, hf, q⟩ => by
    cases hf
    exact q ι H [] Ge.refl hS RelL.nil
theorem pk_consX {nm : Option Str} {kp : Pos} {kws : List Keyword} (ha : PE X a (tX X.K f)) (hr : PK X kws (tL X.K fl)) :
    PK X (⟨nm, a, kp⟩ :: kws) (tL X.K fun σ S => bnd (f σ S) fun x S1 => bnd (toD x S1) fun y S2 => bnd (fl σ S2) fun ys S3 => some (y :: ys, S3)) :=
  L2PKw (pk_cons (px_toD ha) hr) fun σ H Q ⟨ι, σD, S, x, S', hE, hS, hf, q⟩ => by
    obtain ⟨xa, S1, fa, hf1⟩ := bnd_eq hf
    obtain ⟨y, S2, fy, hf2⟩ := bnd_eq hf1
    obtain ⟨ys, S3, fr, hf3⟩ := bnd_eq hf2
    cases hf3
    exact ⟨ι, σD, S, y, S2, hE, hS, by show bnd (f σD S) _ = _; rw [fa]; exact fy, fun ι1 H1 v1 g1 s1 r1 => ⟨ι1, σD, S2, ys, _, g1.en hE, s1, fr, fun ι2 H2 v2 g2 s2 r2 => q ι2 H2 _ (g1.trans g2) s2 (.cons (g2.rel r1) r2)⟩⟩
theorem RelL.perm {K : PySem.W.Frag} {ι : List Lc} {H : Hp} {ds : List D} {vs : List V} (h : RelL K ι H ds vs) : ∀ {perm : List Nat} {es : List D}, permute ds perm = some es → ∃ us, permute vs perm = some us ∧ RelL K ι H es us
  | [], es, e => by cases e; exact ⟨[], rfl, RelL.nil⟩
  | i :: is, es, e => by
    unfold permute at e
    split at e
    · cases e
    · rename_i d hd
      split at e
      · cases e
      · rename_i r hr
        cases e
        obtain ⟨v, hv, rv⟩ := h.get hd
        obtain ⟨us, hu, ru⟩ := h.perm hr
        refine ⟨v :: us, ?_, .cons rv ru⟩
        unfold permute
        rw [hv, hu]
theorem px_callk0 {kws : List Keyword} {nk : Nat} {perm : List Nat} (F : FnOk X.prog X.w X.K X.mg X.base CX0 k fa fd ps (spF X.K m)) (hr : Room k X.A) (hg : Gl X x) (hm : X.mg x = some (.ref fa)) (hk : PySem.W.keepIn X.K (.ref fa) = true) (hb : KBinds X.K fd ps ks (permG 0 nk perm) (permG 0 nk perm))
    (hkw : PK X kws (tL X.K fl)) (hks : kws.map (·.arg) = ks.map some) (hdb : (x == ("__debug__" : Str)) = false) (hlen : ∀ σ S ds S', fl σ S = some (ds, S') → ds.length = nk) :
    PE X (.Call (.Name x p) [] kws pos) (tX X.K fun σ S => bnd (fl σ S) fun ds S1 => match permute ds perm with
      | some es => m es S1
      | none => none) := by
  obtain ⟨a1, a2, a3⟩ := kw_all pos (env := X.env) hks
  refine L2PEw (pe_callK0 F hr hg hm hk hb hkw a1 a2 hdb a3) fun σ H Q ⟨ι, σD, S, x, S', hE, hS, hf, q⟩ => ?_
  obtain ⟨ds, S1, fb, hf1⟩ := bnd_eq hf
  refine ⟨ι, σD, S, ds, S1, hE, hS, fb, fun ι1 H1 v1 g1 s1 r1 => ?_⟩
  split at hf1
  · rename_i es he
    obtain ⟨us, hu, ru⟩ := r1.perm he
    have e : permG 0 nk perm [] v1 = us := by
      unfold permG
      rw [if_pos ⟨rfl, by rw [← r1.length]; exact hlen _ _ _ _ fb⟩, List.nil_append, hu]
      rfl
    exact ⟨ι1, es, S1, x, S', by rw [e]; exact ru, s1, hf1, q.mono g1⟩
  · cases hf1
variable {flk : En → Sg → Rs (List D)}
theorem px_callk {kws : List Keyword} {nu nk : Nat} {perm : List Nat} (F : FnOk X.prog X.w X.K X.mg X.base CX0 k fa fd ps (spF X.K m)) (hr : Room k X.A) (hg : Gl X x) (hm : X.mg x = some (.ref fa)) (hk : PySem.W.keepIn X.K (.ref fa) = true) (hb : KBinds X.K fd ps ks (permG nu nk perm) (permG nu nk perm))
    (ha : PA X (e :: es) (tL X.K fl)) (hkw : PK X kws (tL X.K flk)) (hks : kws.map (·.arg) = ks.map some) (hdb : (x == ("__debug__" : Str)) = false) (ne : NoStar e) (ns : NoStars es) (hlen : ∀ σ S ds S', fl σ S = some (ds, S') → ds.length = nu) (hlenk : ∀ σ S ds S', flk σ S = some (ds, S') → ds.length = nk) :
    PE X (.Call (.Name x p) (e :: es) kws pos) (tX X.K fun σ S => bnd (fl σ S) fun ds S1 => bnd (flk σ S1) fun zs S2 => match permute (ds ++ zs) perm with
      | some es => m es S2
      | none => none) := by
  obtain ⟨a1, a2, a3⟩ := kw_all pos (env := X.env) hks
  refine L2PEw (pe_callK F hr hg hm hk hb pass0 ha hkw a1 a2 hdb (ne _ _) (by rw [a3, Bool.or_false]; exact noStars_plain (es := e :: es) ⟨ne, ns⟩)) fun σ H Q ⟨ι, σD, S, x, S', hE, hS, hf, q⟩ => ?_
  obtain ⟨ds, S1, fb, hf1⟩ := bnd_eq hf
  obtain ⟨zs, S2, fc, hf2⟩ := bnd_eq hf1
  refine ⟨ι, σD, S, ds, S1, hE, hS, fb, fun ι1 H1 v1 g1 s1 r1 => ⟨ι1, σD, S1, zs, S2, g1.en hE, s1, fc, fun ι2 H2 v2 g2 s2 r2 => ?_⟩⟩
  split at hf2
  · rename_i es he
    obtain ⟨us, hu, ru⟩ := ((g2.relL r1).append r2).perm he
    have e : permG nu nk perm v1 v2 = us := by
      unfold permG
      rw [if_pos ⟨by rw [← r1.length]; exact hlen _ _ _ _ fb, by rw [← r2.length]; exact hlenk _ _ _ _ fc⟩, hu]
      rfl
    exact ⟨ι2, es, S2, x, S', by rw [e]; exact ru, s2, hf2, q.mono (g1.trans g2)⟩
  · cases hf2
end
end Ev

namespace Ev
open PySem PySem.Spec PyProof.Rows L2
section
variable (K : PySem.W.Frag)
/-- a tuple on its way into names: its object need not be known -/
def RelW (ι : List Lc) (H : Hp) (d : D) (v : V) : Prop := Rel K ι H d v ∨ ∃ ds a xs, d = .tup ds ∧ v = .ref a ∧ SqT K H a xs ∧ RelL K ι H ds xs
def tG (R : List Lc → Hp → D → V → Prop) (own : List Nat) (as : D → En → Sg → Rs En) : TG := fun v σ H Q => ∃ ι σD S d σD' S', EnO K ι H σD σ ∧ StO K ι S H ∧ R ι H d v ∧ as d σD S = some (σD', S') ∧
  ∀ ι' H' σv, Ge ι H ι' H' → StO K ι' S' H' → EnO K ι' H' σD' σv → (∀ vs : List Nat, (∀ i ∈ own, i ∈ vs) → wipe σv vs = wipe σ vs) → Q σv H'
def tGs (own : List Nat) (as : List D → En → Sg → Rs En) : TGs := fun v σ H Q => ∃ ι σD S d σD' S', EnO K ι H σD σ ∧ StO K ι S H ∧ RelL K ι H d v ∧ as d σD S = some (σD', S') ∧
  ∀ ι' H' σv, Ge ι H ι' H' → StO K ι' S' H' → EnO K ι' H' σD' σv → (∀ vs : List Nat, (∀ i ∈ own, i ∈ vs) → wipe σv vs = wipe σ vs) → Q σv H'
/-- as Ge; of what nobody else holds only what is new since H0 need stand still -/
structure Gq (H0 : Hp) (ι : List Lc) (H : Hp) (ι' : List Lc) (H' : Hp) : Prop where
  pre : ∃ r, ι' = ι ++ r ∧ ∀ b, (b, true) ∈ r → H b = none
  keep : ∀ b o, H0 b = none → H b = some o → (b, true) ∉ ι → H' b = some o
  tups : ∀ b xs, H b = some (.tup xs) → H' b = some (.tup xs)
  frzs : ∀ b o u, H b = some (.frz o u) → H' b = some (.frz o u)
  there : ∀ b o, H b = some o → ∃ o', H' b = some o'
structure SrcOk (R : List Lc → Hp → D → V → Prop) (H0 : Hp) (ι : List Lc) (H : Hp) (src : Src) (J : L2.It) : Prop where
  ex : ∃ G Y, Walk J src.its.length G Y ∧ (∀ ι2 S2 H2, Gq H0 ι H ι2 H2 → StO K ι2 S2 H2 → src.ok S2 = true → G H2) ∧
    ∀ (i : Nat) H2 x H3 ι2 S2 (d : D), Y i H2 x H3 → src.its[i]? = some d → Gq H0 ι H ι2 H2 → StO K ι2 S2 H2 → src.ok S2 = true → Ge ι2 H2 ι2 H3 ∧ StO K ι2 S2 H3 ∧ R ι2 H3 d x
def tI (R : List Lc → Hp → D → V → Prop) (f : En → Sg → Rs Src) : TI := fun σ H Q => ∃ ι σD S src S', EnO K ι H σD σ ∧ StO K ι S H ∧ f σD S = some (src, S') ∧ ∀ ι' H' J, Ge ι H ι' H' → StO K ι' S' H' → SrcOk K R H ι' H' src J → Q J H'
def FinS (ι : List Lc) (H : Hp) (S' : Sg) (σ' : En) (fl : Fl) (D : Ends) : Prop := match fl with
  | .nx => ∀ ι' H' σv, Ge ι H ι' H' → StO K ι' S' H' → EnO K ι' H' σ' σv → D.nx σv H'
  | .bk => ∀ ι' H' σv, Ge ι H ι' H' → StO K ι' S' H' → EnO K ι' H' σ' σv → D.bk σv H'
  | .ct => ∀ ι' H' σv, Ge ι H ι' H' → StO K ι' S' H' → EnO K ι' H' σ' σv → D.ct σv H'
  | .rt x => FinX K ι H S' x D.rt
def tS (f : En → Sg → Rs (Fl × En)) : TS := fun D σ H => ∃ ι σD S p S', EnO K ι H σD σ ∧ StO K ι S H ∧ f σD S = some (p, S') ∧ FinS K ι H S' p.2 p.1 D
end
section
variable {K : PySem.W.Frag} {ι ι' : List Lc} {H H' : Hp} {S S' : Sg}
theorem Ge.q {H0 : Hp} (g : Ge ι H ι' H') : Gq H0 ι H ι' H' := ⟨g.pre, fun b o _ h n => g.keep b o h n, g.tups, g.frzs, g.there⟩
theorem Gq.get {H0 : Hp} (g : Gq H0 ι H ι' H') {l : Nat} {p : Lc} (h : ι[l]? = some p) : ι'[l]? = some p := by
  obtain ⟨r, e, _⟩ := g.pre
  rw [e, List.getElem?_append_left (List.getElem?_eq_some_iff.mp h).1]
  exact h
theorem Gq.trans {H0 : Hp} {ι2 : List Lc} {H2 : Hp} (g : Gq H0 ι H ι' H') (g' : Ge ι' H' ι2 H2) : Gq H0 ι H ι2 H2 := by
  obtain ⟨r1, e1, n1⟩ := g.pre
  obtain ⟨r2, e2, n2⟩ := g'.pre
  refine ⟨⟨r1 ++ r2, by rw [e2, e1, List.append_assoc], fun b hb => ?_⟩, fun b o h0 h hn => ?_, fun b xs h => g'.tups b xs (g.tups b xs h), fun b o u h => g'.frzs b o u (g.frzs b o u h), fun b o h => ?_⟩
  · rcases List.mem_append.mp hb with hb | hb
    · exact n1 b hb
    · have z := n2 b hb
      cases q : H b with
      | none => rfl
      | some o =>
        obtain ⟨o', e⟩ := g.there b o q
        rw [e] at z; cases z
  · refine g'.keep b o (g.keep b o h0 h hn) fun hb => ?_
    rw [e1] at hb
    rcases List.mem_append.mp hb with hb | hb
    · exact hn hb
    · rw [n1 b hb] at h; cases h
  · obtain ⟨o', e⟩ := g.there b o h
    exact g'.there b o' e
theorem Gq.grow {H0 : Hp} {D : Addr} {w : HO} {o vs} (g : Gq H0 ι H ι' H') (h0 : H0 D = some o) (h1 : H D = some (.lst vs)) : Gq H0 ι H ι' (upd H' D w) := by
  refine ⟨g.pre, fun b o z h n => ?_, fun b xs h => ?_, fun b o u h => ?_, fun b o h => ?_⟩
  · rw [upd_ne fun e => by rw [e, h0] at z; cases z]
    exact g.keep b o z h n
  · rw [upd_ne fun e => by rw [e, h1] at h; cases h]
    exact g.tups b xs h
  · rw [upd_ne fun e => by rw [e, h1] at h; cases h]
    exact g.frzs b o u h
  · by_cases e : b = D
    · subst e
      exact ⟨_, upd_same⟩
    · rw [upd_ne e]
      exact g.there b o h
theorem Gq.pT {H0 : Hp} (g : Gq H0 ι H ι' H') {a : Addr} {xs : List V} (h : PTup K H a xs) : PTup K H' a xs := by
  rcases h with ⟨o, h, hd⟩ | h
  · exact .inl ⟨o, g.frzs _ _ _ h, hd⟩
  · exact .inr h
theorem Gq.up {H0 : Hp} (g : Gq H0 ι H ι' H') : Up K ι H ι' H' := ⟨fun _ _ h => g.get h, fun _ _ h => g.pT h, fun a xs h => by
  rcases h with ⟨o, h⟩ | h
  · exact .inl ⟨o, g.frzs _ _ _ h⟩
  · exact .inr h⟩
theorem Gq.relL {H0 : Hp} (g : Gq H0 ι H ι' H') {ds : List D} {vs : List V} (r : RelL K ι H ds vs) : RelL K ι' H' ds vs := RelL.mono g.up _ _ r
theorem FinS.mono {σ' : En} {fl : Fl} {D : Ends} {ι0 : List Lc} {H0 : Hp} (q : FinS K ι0 H0 S σ' fl D) (g : Ge ι0 H0 ι H) : FinS K ι H S σ' fl D := by
  cases fl with
  | nx => exact fun ι' H' σv g' s e => q ι' H' σv (g.trans g') s e
  | bk => exact fun ι' H' σv g' s e => q ι' H' σv (g.trans g') s e
  | ct => exact fun ι' H' σv g' s e => q ι' H' σv (g.trans g') s e
  | rt x => exact FinX.mono q g
theorem EnO.set {σD : En} {σ : L2.St} (h : EnO K ι H σD σ) (i : Nat) {d : D} {v : V} (r : Rel K ι H d v) : EnO K ι H (σD.set i (some d)) (σ.set i (some v)) := by
  refine ⟨by simp [h.1], fun j x e => ?_⟩
  by_cases hj : i = j
  · subst hj
    have hl := (List.getElem?_eq_some_iff.mp e).1
    rw [List.length_set] at hl
    rw [List.getElem?_set_self hl] at e
    cases e
    exact ⟨v, by rw [List.getElem?_set_self (by rw [← h.1]; exact hl)], r⟩
  · rw [List.getElem?_set_ne hj] at e
    obtain ⟨w, e2, r2⟩ := h.2 j x e
    exact ⟨w, by rw [List.getElem?_set_ne hj]; exact e2, r2⟩
theorem wipe_get (σ : L2.St) (i : Nat) : ∀ vs : List Nat, (wipe σ vs)[i]? = if i ∈ vs then (if i < σ.length then some none else none) else σ[i]?
  | [] => by simp [wipe]
  | v :: vs => by
    unfold wipe
    by_cases h : v = i
    · subst h
      by_cases hl : v < σ.length
      · rw [List.getElem?_set_self (by rw [wipe_length]; exact hl)]
        simp [hl]
      · rw [List.getElem?_eq_none (by rw [List.length_set, wipe_length]; omega)]
        simp [hl]
    · rw [List.getElem?_set_ne h, wipe_get σ i vs]
      have h' : ¬ i = v := fun e => h e.symm
      simp [h']
theorem wipe_set {σ : L2.St} {i : Nat} {x : Option V} {vs : List Nat} (h : i ∈ vs) : wipe (σ.set i x) vs = wipe σ vs := by
  apply List.ext_getElem?
  intro j
  rw [wipe_get, wipe_get, List.length_set]
  by_cases hj : j ∈ vs
  · simp [hj]
  · have : i ≠ j := fun e => hj (e ▸ h)
    simp [hj, List.getElem?_set_ne this]
theorem wipeE_len (σ : En) : ∀ vs : List Nat, (wipeE σ vs).length = σ.length
  | [] => rfl
  | v :: vs => by unfold wipeE; rw [List.length_set, wipeE_len σ vs]
theorem wipeE_some {σ : En} {i : Nat} {d : D} : ∀ {vs : List Nat}, (wipeE σ vs)[i]? = some (some d) → σ[i]? = some (some d) ∧ i ∉ vs
  | [], h => ⟨h, by simp⟩
  | v :: vs, h => by
    unfold wipeE at h
    by_cases hi : v = i
    · subst hi
      by_cases hv : v < (wipeE σ vs).length
      · rw [List.getElem?_set_self hv] at h; cases h
      · rw [List.getElem?_eq_none (by simpa using hv)] at h; cases h
    · rw [List.getElem?_set_ne hi] at h
      obtain ⟨h1, h2⟩ := wipeE_some h
      exact ⟨h1, by simp only [List.mem_cons, not_or]; exact ⟨fun e => hi e.symm, h2⟩⟩
theorem EnO.wipe {σD : En} {σ : L2.St} (h : EnO K ι H σD σ) (vs : List Nat) : EnO K ι H (wipeE σD vs) (L2.wipe σ vs) := by
  refine ⟨by rw [wipeE_len, wipe_length, h.1], fun i d e => ?_⟩
  obtain ⟨e1, e2⟩ := wipeE_some e
  obtain ⟨v, e3, r⟩ := h.2 i d e1
  exact ⟨v, by rw [wipe_get, if_neg e2]; exact e3, r⟩
theorem EnO.wiped {σD : En} {σ σv : L2.St} {vs : List Nat} (h : EnO K ι H (wipeE σD vs) (L2.wipe σ vs)) (e : L2.wipe σv vs = L2.wipe σ vs) : EnO K ι H (wipeE σD vs) σv := by
  have hl : σv.length = σ.length := by
    have := congrArg List.length e
    rwa [wipe_length, wipe_length] at this
  refine ⟨by rw [h.1, wipe_length, hl], fun i d q => ?_⟩
  obtain ⟨v, e3, r⟩ := h.2 i d q
  have ni := (wipeE_some q).2
  have e4 : (L2.wipe σv vs)[i]? = σv[i]? := by rw [wipe_get, if_neg ni]
  exact ⟨v, by rw [← e4, e]; exact e3, r⟩
end
section
variable {X : Cx} {a b o e : Expr} {es : List Expr} {f g : En → Sg → Rs VX} {pos p : Pos} {x : Str}
theorem L2PGw {t t' : TG} (h : PG X e t) (w : ∀ v σ H Q, t' v σ H Q → t v σ H Q) : PG X e t' := ⟨fun pins s σ H v u Q I r q => h.run pins s σ H v u Q I r (w v σ H Q q)⟩
theorem L2PGsw {t t' : TGs} (h : PGs X es t) (w : ∀ v σ H Q, t' v σ H Q → t v σ H Q) : PGs X es t' := ⟨fun pins s σ H v u Q I r q => h.run pins s σ H v u Q I r (w v σ H Q q)⟩
theorem pg_nameX {i : Nat} (hN : X.N.Nodup) (hi : X.N[i]? = some x) (hx : Loc X.env.scope x) (hf : X.fn x = true ∨ X.env.scope.names.lookup x = some .local) :
    PG X (.Name x pos) (tG X.K (Rel X.K) [i] fun d σ S => some (σ.set i (some d), S)) :=
  L2PGw (pg_name hN hi hx hf) fun v σ H Q ⟨ι, σD, S, d, σD', S', hE, hS, r, hf, q⟩ => by
    cases hf
    exact q ι H _ Ge.refl hS (hE.set i r) fun vs h => wipe_set (h i (by simp))
theorem pgs_nilX : PGs X [] (tGs X.K [] fun ds σ S => match ds with
    | [] => some (σ, S)
    | _ => none) :=
  L2PGsw pgs_nil fun v σ H Q ⟨ι, σD, S, d, σD', S', hE, hS, r, hf, q⟩ => by
    cases d with
    | nil =>
      cases hf
      unfold RelL at r
      exact ⟨r, q ι H _ Ge.refl hS hE fun _ _ => rfl⟩
    | cons _ _ => cases hf
variable {own own2 : List Nat} {as : D → En → Sg → Rs En} {ass : List D → En → Sg → Rs En} {R : List Lc → Hp → D → V → Prop}
theorem pgs_consX (h1 : PG X e (tG X.K (Rel X.K) own as)) (h2 : PGs X es (tGs X.K own2 ass)) (hs : (assignEach (e :: es) X.env).map (·.2) = assign e X.env :: (assignEach es X.env).map (·.2)) :
    PGs X (e :: es) (tGs X.K (own ++ own2) fun ds σ S => match ds with
    | [] => none
    | d :: r => bnd (as d σ S) fun σ1 S1 => ass r σ1 S1) :=
  L2PGsw (pgs_cons h1 h2 hs) fun v σ H Q ⟨ι, σD, S, d, σD', S', hE, hS, r, hf, q⟩ => by
    cases d with
    | nil => cases hf
    | cons d ds =>
      unfold RelL at r
      obtain ⟨x, t, rfl, r1, r2⟩ := r
      obtain ⟨σ1, S1, fa, hf1⟩ := bnd_eq hf
      exact ⟨x, t, rfl, ι, σD, S, d, σ1, S1, hE, hS, r1, fa, fun ι1 H1 σv g1 s1 e1 w1 => ⟨ι1, σ1, S1, ds, σD', S', e1, s1, g1.relL r2, hf1, fun ι2 H2 σw g2 s2 e2 w2 => q ι2 H2 σw (g1.trans g2) s2 e2 fun vs hv =>
        (w2 vs fun i hi => hv i (List.mem_append_right _ hi)).trans (w1 vs fun i hi => hv i (List.mem_append_left _ hi))⟩⟩
theorem pg_tupX {k n : Nat} (hc : X.calm = true) (h : PGs X es (tGs X.K own ass)) (hlen : ∀ ds σ S r, ass ds σ S = some r → ds.length = n) (hn : (assignEach es X.env).length = n) (hst : (assignEach es X.env).findIdx? (·.1) = none) :
    PG X (.Tuple es k pos) (tG X.K (RelW X.K) own fun d σ S => match d with
    | .tup ds => ass ds σ S
    | _ => none) :=
  L2PGw (pg_tup hc h hn hst) fun v σ H Q ⟨ι, σD, S, d, σD', S', hE, hS, r, hf, q⟩ => by
    cases d with
    | tup ds =>
      have z : ∃ a xs, v = .ref a ∧ SqT X.K H a xs ∧ RelL X.K ι H ds xs := by
        rcases r with r | ⟨ds', a, xs, e, h1, h2, h3⟩
        · unfold Rel at r
          obtain ⟨a, xs, h1, h2, h3⟩ := r
          exact ⟨a, xs, h1, h2.sqT, h3⟩
        · cases e
          exact ⟨a, xs, h1, h2, h3⟩
      obtain ⟨a, xs, rfl, h2, h3⟩ := z
      exact ⟨a, xs, rfl, h2, by rw [← h3.length]; exact hlen _ _ _ _ hf, ι, σD, S, ds, σD', S', hE, hS, h3, hf, q⟩
    | _ => cases hf
/-- a target that takes any related value takes it where it is known as a whole -/
theorem pg_strong (h : PG X e (tG X.K (RelW X.K) own as)) : PG X e (tG X.K (Rel X.K) own as) :=
  L2PGw h fun v σ H Q ⟨ι, σD, S, d, σD', S', hE, hS, r, hf, q⟩ => ⟨ι, σD, S, d, σD', S', hE, hS, .inl r, hf, q⟩
def tSetX (K : PySem.W.Frag) : TSet := fun o i v H Q => ∃ ι S ov iv d S', StO K ι S H ∧ RelX K ι H ov o ∧ RelX K ι H iv i ∧ Rel K ι H d v ∧ setV ov iv d S = some ((), S') ∧ ∀ ι' H', Ge ι H ι' H' → StO K ι' S' H' → Q H'
theorem pset_X : PSet X (tSetX X.K) := by
  intro pins s σ H o i v ov iv u Q I ro ri rv h
  obtain ⟨ι, S, xo, xi, d, S', hS, hx, hy, hd, he, q⟩ := h
  unfold setV at he
  split at he
  · rename_i l j
    split at he
    · rename_i ds hds
      split at he
      · rename_i n hn
        cases he
        obtain ⟨c, us', rfl, hl, hc, r⟩ := hS.mlist hds hx
        have g := hS.write (c := .lst (ds.set n d)) (o' := .lst (us'.set n v)) hl hc (fun _ e => by cases e) (fun _ _ e => by cases e) fun up => ⟨rfl, _, upd_same, (RelL.mono up _ _ r).set n (Rel.mono up _ _ hd)⟩
        exact set_list pins s σ H _ _ _ ov iv u Q I ro ri rv ⟨c, us', j, n, rfl, relX_int hy, hc, by rw [← r.length]; exact hn, q ι _ g.2 g.1⟩
      · cases he
    · cases he
  · cases he
theorem pg_subX (ho : PE X o (tX X.K f)) (hi : PE X a (tX X.K g)) (ha : ∀ v, assign (.Subscript o a pos) X.env v = (do
      let ov ← holding [v] (eval o X.env)
      let iv ← holding [v, ov] (eval a X.env)
      standAt pos
      holding [v, ov, iv] (setItem ov iv v)
      release [v, ov, iv] [])) :
    PG X (.Subscript o a pos) (tG X.K (Rel X.K) [] fun d σ S => bnd (f σ S) fun ov S1 => bnd (g σ S1) fun iv S2 => bnd (setV ov iv d S2) fun _ S3 => some (σ, S3)) :=
  L2PGw (pg_sub ho hi pset_X ha) fun v σ H Q ⟨ι, σD, S, d, σD', S', hE, hS, r, hf, q⟩ => by
    obtain ⟨ov, S1, fa, hf1⟩ := bnd_eq hf
    obtain ⟨iv, S2, fb, hf2⟩ := bnd_eq hf1
    obtain ⟨u, S3, fc, hf3⟩ := bnd_eq hf2
    cases hf3
    exact ⟨ι, σD, S, ov, S1, hE, hS, fa, fun ι1 H1 v1 g1 s1 r1 _ => ⟨ι1, _, S1, iv, S2, g1.en hE, s1, fb, fun ι2 H2 v2 g2 s2 r2 _ => ⟨ι2, S2, ov, iv, d, _, s2, g2.relX r1, r2, (g1.trans g2).rel r, fc, fun ι3 H3 g3 s3 =>
      q ι3 H3 σ ((g1.trans g2).trans g3) s3 (((g1.trans g2).trans g3).en hE) fun _ _ => rfl⟩⟩⟩
end
end Ev

namespace Ev
open PySem PySem.Spec PyProof.Rows L2
theorem meets_enum_tup (t : Addr) (items : Array Value) :
    Meets (Builtin.«enumerate.__new__» ⟨[.type "enumerate", .ref t], []⟩) (fun _ R s => s.heap.IsTuple t items ∧
      R (.ok (.ret (.ref (s.heap.push { cls := .type "tuple_iterator", data := .fields #[.ref t, .int 0 0] }).objs.size)))
        { s with heap := (s.heap.push { cls := .type "tuple_iterator", data := .fields #[.ref t, .int 0 0] }).push { cls := .type "enumerate", data := .fields #[.none, .bool false, .ref s.heap.objs.size, rawInt 0, .none, .none] } }) :=
  .of_wp fun prog w A R s h => by
    obtain ⟨hp, g, d, tk, os⟩ := s
    obtain ⟨hl, h⟩ := h
    have hsub := sub_enumerate
    have q1 : ∀ {A' : Around} {E : Value → Shared → Prop} {Q : Value → Shared → Prop}, Q (.ref hp.objs.size) ⟨hp.push { cls := .type "tuple_iterator", data := .fields #[.ref t, .int 0 0] }, g, d, tk, os⟩ → wpAny (model prog w) A' (pyIter (.ref t)) Q E ⟨hp, g, d, tk, os⟩ :=
      fun q => wpAny_pyIter_tuple (s := ⟨hp, g, d, tk, os⟩) hl q
    wp_walk using q1
    refine wpAny_stack_any fun st => wpAny_pure ?_
    split
    · rename_i c _ _ _ _ _
      cases (c == Value.type "enumerate") <;> (wp_walk using q1; exact ⟨_, rfl, h⟩)
    · wp_walk using q1
      exact ⟨_, rfl, h⟩
theorem call_enum_tup {prog : Program} {w : World} {A : Around} {E : Value → Shared → Prop} {s : Shared} {t : Addr} {items : Array Value} {Q : Value → Shared → Prop} (hL : s.heap.IsTuple t items)
    (h : ∀ h', IsEnum h' (s.heap.objs.size + 1) s.heap.objs.size 0 .none → h'.IsTupleIter s.heap.objs.size t 0 → (∀ b o, s.heap.get? b = some o → h'.get? b = some o) → Q (.ref (s.heap.objs.size + 1)) { s with heap := h' }) :
    wpAny (model prog w) A (call (.type "enumerate") [.ref t]) Q E s := by
  refine callType_new F.called_enumerate (by decide) (F.typeCall_enumerate_1 _) (F.newCall_enumerate_1 _) (fun obj => F.args_object_init_2 obj _) F.entry_enumerate_new
    (meets_enum_tup t items) ⟨hL, ?_⟩
  have hz : (s.heap.push { cls := .type "tuple_iterator", data := .fields #[.ref t, .int 0 0] }).objs.size = s.heap.objs.size + 1 := Heap.size_push ..
  show _ ∧ _
  rw [hz]
  have he : IsEnum ((s.heap.push { cls := .type "tuple_iterator", data := .fields #[.ref t, .int 0 0] }).push
      { cls := .type "enumerate", data := .fields #[.none, .bool false, .ref s.heap.objs.size, rawInt 0, .none, .none] }) (s.heap.objs.size + 1) s.heap.objs.size 0 .none := by
    have := Heap.get?_push_size (s.heap.push { cls := .type "tuple_iterator", data := .fields #[.ref t, .int 0 0] })
      (o := { cls := .type "enumerate", data := .fields #[.none, .bool false, .ref s.heap.objs.size, rawInt 0, .none, .none] }) rfl
    rw [hz] at this; exact this
  exact ⟨⟨_, he, rfl⟩, h _ he ⟨_, Heap.get?_push_of_some _ (Heap.get?_push_size _ rfl), rfl, rfl⟩ fun b o x => Heap.get?_push_of_some _ (Heap.get?_push_of_some _ x)⟩
/-- the tuple at a, each item in a new pair -/
def IteT (K : PySem.W.Frag) (a : Addr) : L2.It :=
  ⟨fun i H => ∃ (xs : List V) (x : V), SqT K H a xs ∧ xs[i]? = some x, fun i H v H' => ∃ T x, v = .ref T ∧ H T = none ∧ H' = upd H T (.tup [.int (i : Nat), x]) ∧ ∀ xs, SqT K H a xs → xs[i]? = some x, fun i H => ∃ xs : List V, SqT K H a xs ∧ xs.length = i⟩
theorem turn_enumT {P : Program} {w : World} {K : PySem.W.Frag} {elts : List Expr} {kk : Nat} {tpos : Pos} (a e it : Addr) :
    Turn P w K (.Tuple elts kk tpos) (IteT K a) [e, it] e (fun i h => (∃ old, IsEnum h e it ((i : Nat) : Int) old) ∧ h.IsTupleIter it a i ∧ e ≠ it ∧ a ≠ it ∧ e ≠ a) where
  mem := by simp
  obj := fun i h st b hb => by
    obtain ⟨⟨old, he⟩, ⟨o, ho, hc, hd⟩, _⟩ := st
    have e' : b = e ∨ b = it := by simpa using hb
    rcases e' with z | z
    · rw [z]; exact ⟨_, he, fun v q => nomatch q⟩
    · rw [z]; exact ⟨o, ho, fun v q => by rw [hd] at q; cases q⟩
  keep := fun i h h' st k => let ⟨⟨old, he⟩, hi, hne⟩ := st; ⟨⟨old, k e (by simp) _ he⟩, hi.at fun o q => k it (by simp) o q, hne⟩
  item := by
    intro X hP hw hK hc i pins s σ H E I hf st hg
    subst hP hw hK
    obtain ⟨⟨old, he⟩, hit, hne, hai, hea⟩ := st
    obtain ⟨xs, x, hq, hx⟩ := hg
    obtain ⟨its, rv, p, hz⟩ := I.tuple hq
    obtain ⟨u, hu, ru⟩ := rv.get hx
    have hel : e < s.heap.objs.size := Heap.lt_size he
    have hil : it < s.heap.objs.size := by obtain ⟨_, q, _⟩ := hit; exact Heap.lt_size q
    have hlt : i < its.toArray.size := by have := (List.getElem?_eq_some_iff.mp hu).1; simpa using this
    refine wpAny_pyNext_enum_itemD (Draws.tuple (prog := X.prog) (w := X.w) (A := X.A.in1) (I.ok.hd hc) it a hai its.toArray) he ⟨hit, show s.heap.IsTuple a its.toArray from p⟩ hlt hne (by simp [hne, hea]) fun y h' tk hy ho hit' hT hsz hk => ?_
    have eu : y = u := by
      have h1 : its.toArray[i]? = some u := by simpa using hu
      exact Option.some.inj (hy.symm.trans h1)
    subst eu
    refine ⟨_, rfl, wpAny_letOwnedTupleGo_enum (s := { s with heap := h', toks := tk + 1 }) ho fun h'' he' sb => ?_⟩
    have hT2 : h''.get? s.heap.objs.size = some { cls := .type "tuple", data := .seq #[.int i tk, y] } := (sb.2 _ (Nat.ne_of_gt hel)).trans hT
    have new : ObjOk X.prog X.w (upd H s.heap.objs.size (.tup [.int (i : Nat), x])) h'' s.heap.objs.size (.tup [.int (i : Nat), x]) :=
      ⟨by show 2 ≤ sizeLine; decide, [.int i tk, y], .cons ⟨_, rfl⟩ (.cons ru .nil), ⟨_, hT2, rfl, _, rfl⟩⟩
    have I1 : Inv X pins σ (upd H s.heap.objs.size (.tup [.int (i : Nat), x])) { s with heap := h'', toks := tk + 1 } :=
      I.turnedNew (ch := [e, it]) (fun b ob hb q => (sb.2 b (fun z => hb (by simp [z]))).trans (hk b ob (fun z => hb (by simp [z])) (fun z => hb (by simp [z])) q)) hf (Nat.le_refl _) new
    refine ⟨.ref s.heap.objs.size, _, I1, rfl, ⟨_, x, rfl, I.hok.fresh (Nat.le_refl _), rfl, fun ys hy => by rw [I.tuple_inj hy hq]; exact hx⟩, ⟨⟨y, ?_⟩, hit'.1.at fun o q => (sb.2 it (Ne.symm hne)).trans q, hne, hai, hea⟩, fun b hb => ?_⟩
    · have e1 : ((i + 1 : Nat) : Int) = (i : Int) + 1 := by omega
      rw [e1]; exact he'
    · have hb' : b < s.heap.objs.size := by
        have e' : b = e ∨ b = it := by simpa using hb
        rcases e' with z | z
        · rw [z]; exact hel
        · rw [z]; exact hil
      rw [upd_ne (Nat.ne_of_lt hb')]
      exact (hf b hb).1
  done := by
    intro X hP hw hK hc i pins s σ H E I hf st hg
    subst hP hw hK
    obtain ⟨⟨old, he⟩, hit, hne, hai, hea⟩ := st
    obtain ⟨xs, hq, hx⟩ := hg
    obtain ⟨its, rv, p, hz⟩ := I.tuple hq
    obtain ⟨f0, f1, f2, f3, f4, f5⟩ := hf it (by simp)
    have hl := rv.length
    have e1 : i = its.toArray.size := by simp; omega
    subst e1
    exact wpAny_pyNext_enum_endD (Draws.tuple (prog := X.prog) (w := X.w) (A := X.A.in1) (I.ok.hd hc) it a hai its.toArray) he ⟨hit, show s.heap.IsTuple a its.toArray from p⟩ fun h' eb => ⟨rfl, I.turned (t' := s.toks) (fun b o hb q => eb b o hb q) f0 f1 f3 f4 f5⟩
  self := fun A i s Q E st h => let ⟨⟨_, he⟩, _⟩ := st; wpAny_pyIter_enum he h
section
variable {X : Cx} {a b e : Expr} {es : List Expr} {f g : En → Sg → Rs VX} {pos p : Pos} {x : Str} {tg : Expr}
theorem L2PIw {it : Expr} {t t' : TI} (h : PI X tg it t) (w : ∀ σ H R, t' σ H R → t σ H R) : PI X tg it t' := ⟨fun pins s σ H R I q => h.run pins s σ H R I (w σ H R q)⟩
theorem pi_or {it : Expr} {t t' : TI} (h : PI X tg it t) (h' : PI X tg it t') : PI X tg it (fun σ H R => t σ H R ∨ t' σ H R) := ⟨fun pins s σ H R I q => q.elim (fun q => h.run pins s σ H R I q) fun q => h'.run pins s σ H R I q⟩
/-- how a sequence stands still: its address and what is told of it -/
structure Still (K : PySem.W.Frag) (H0 : Hp) (ι : List Lc) (H : Hp) (src : Src) (a : Addr) (ds : List D) : Prop where
  at_ : ∀ ι2 S2 H2, Gq H0 ι H ι2 H2 → StO K ι2 S2 H2 → src.ok S2 = true → (∃ xs, SqL K H2 a xs ∧ RelL K ι2 H2 ds xs)
structure StillT (K : PySem.W.Frag) (H0 : Hp) (ι : List Lc) (H : Hp) (src : Src) (a : Addr) (ds : List D) : Prop where
  at_ : ∀ ι2 S2 H2, Gq H0 ι H ι2 H2 → StO K ι2 S2 H2 → src.ok S2 = true → (∃ xs, SqT K H2 a xs ∧ RelL K ι2 H2 ds xs)
/-- which of both, and where -/
inductive Seq2 (K : PySem.W.Frag) (H0 : Hp) (ι : List Lc) (H : Hp) (v : V) (gs : List (Nat × List D)) (ds : List D) : Bool → Prop
  | lst {a : Addr} (ev : v = .ref a) (h : ∀ src : Src, (∀ S2, src.ok S2 = true → (⟨gs, ds⟩ : Src).ok S2 = true) → Still K H0 ι H src a ds) : Seq2 K H0 ι H v gs ds true
  | tup {a : Addr} (ev : v = .ref a) (h : ∀ src : Src, StillT K H0 ι H src a ds) : Seq2 K H0 ι H v gs ds false
def isTupX : VX → Bool
  | .d (.tup _) => true
  | _ => false
theorem seqSrc_ok {K : PySem.W.Frag} {H0 : Hp} {ι : List Lc} {H : Hp} {S : Sg} (s : StO K ι S H) {x : VX} {src : Src} {v : V} (h : seqSrc x S = some src) (r : RelX K ι H x v) (n : NewX H0 x v) : Seq2 K H0 ι H v src.gs src.its (!isTupX x) := by
  cases x with
  | l ds =>
    cases h
    obtain ⟨a, xs, rfl, h1, h2, h3⟩ := r
    exact .lst rfl fun src _ => ⟨fun ι2 S2 H2 g s2 _ => ⟨xs, .inl (.inl (g.keep _ _ (n a rfl) h1 h2)), g.relL h3⟩⟩
  | d d =>
    cases d with
    | tup ds =>
      cases h
      obtain ⟨a, xs, rfl, h1, h2⟩ := relX_tup r
      exact .tup rfl fun src => ⟨fun ι2 S2 H2 g s2 _ => ⟨xs, (g.pT h1).sqT, g.relL h2⟩⟩
    | loc l =>
      unfold seqSrc at h
      simp only at h
      split at h
      · rename_i ds hds
        cases h
        have r' : Rel K ι H (.loc l) v := r
        unfold Rel at r'
        obtain ⟨p, ep, rfl⟩ := r'
        refine .lst rfl fun src hsrc => ⟨fun ι2 S2 H2 g s2 ok => ?_⟩
        have hl : lsAt S2 l = some ds := by
          have q := hsrc S2 ok
          unfold Src.ok at q
          simpa using q
        obtain ⟨c, us, ev, h1, h2⟩ := s2.list hl (show Rel K ι2 H2 (.loc l) (.ref p.1) by unfold Rel; exact ⟨p, g.get ep, rfl⟩)
        cases ev
        exact ⟨us, h1, h2⟩
      · cases h
    | _ => cases h
theorem walk_listD {K : PySem.W.Frag} {a : Addr} {n : Nat} : Walk (Itl K a) n (fun H => ∃ xs, SqL K H a xs ∧ xs.length = n) (fun i H x H' => H' = H ∧ ∀ xs, SqL K H a xs → xs[i]? = some x) :=
  ⟨fun i H hi ⟨xs, q, e⟩ => ⟨xs, xs[i]'(by omega), q, by simp [show i < xs.length by omega]⟩, fun H ⟨xs, q, e⟩ => ⟨xs, q, by omega⟩, fun _ _ _ _ _ _ y => y⟩
theorem walk_tupD {K : PySem.W.Frag} {a : Addr} {n : Nat} : Walk (Itt K a) n (fun H => ∃ xs, SqT K H a xs ∧ xs.length = n) (fun i H x H' => H' = H ∧ ∀ xs, SqT K H a xs → xs[i]? = some x) :=
  ⟨fun i H hi ⟨xs, q, e⟩ => ⟨xs, xs[i]'(by omega), q, by simp [show i < xs.length by omega]⟩, fun H ⟨xs, q, e⟩ => ⟨xs, q, by omega⟩, fun _ _ _ _ _ _ y => y⟩
theorem src_list {K : PySem.W.Frag} {H0 : Hp} {ι : List Lc} {H : Hp} {src : Src} {a : Addr} (h : Still K H0 ι H src a src.its) : SrcOk K (Rel K) H0 ι H src (Itl K a) := ⟨_, _, walk_listD,
  fun ι2 S2 H2 g s ok => let ⟨xs, q, r⟩ := h.at_ ι2 S2 H2 g s ok; ⟨xs, q, r.length.symm⟩,
  fun i H2 x H3 ι2 S2 d y e g s ok => by
    obtain ⟨rfl, y⟩ := y
    obtain ⟨xs, q, r⟩ := h.at_ ι2 S2 H3 g s ok
    obtain ⟨v, hv, rv⟩ := r.get e
    have := y xs q
    rw [hv] at this
    cases this
    exact ⟨Ge.refl, s, rv⟩⟩
theorem src_tup {K : PySem.W.Frag} {H0 : Hp} {ι : List Lc} {H : Hp} {src : Src} {a : Addr} (h : StillT K H0 ι H src a src.its) : SrcOk K (Rel K) H0 ι H src (Itt K a) := ⟨_, _, walk_tupD,
  fun ι2 S2 H2 g s ok => let ⟨xs, q, r⟩ := h.at_ ι2 S2 H2 g s ok; ⟨xs, q, r.length.symm⟩,
  fun i H2 x H3 ι2 S2 d y e g s ok => by
    obtain ⟨rfl, y⟩ := y
    obtain ⟨xs, q, r⟩ := h.at_ ι2 S2 H3 g s ok
    obtain ⟨v, hv, rv⟩ := r.get e
    have := y xs q
    rw [hv] at this
    cases this
    exact ⟨Ge.refl, s, rv⟩⟩
theorem pi_seqX (ha : PE X a (tX X.K f)) : PI X tg a (tI X.K (Rel X.K) fun σ S => bnd (f σ S) fun v S1 => match seqSrc v S1 with
    | some s => some (s, S1)
    | none => none) :=
  L2PIw (pi_or (pi_list ha) (pi_tup ha)) fun σ H R ⟨ι, σD, S, src, S', hE, hS, hf, q⟩ => by
    obtain ⟨xa, S1, fa, hf1⟩ := bnd_eq hf
    split at hf1
    · rename_i sr hs
      cases hf1
      cases ht : isTupX xa with
      | false =>
        left
        refine ⟨ι, σD, S, xa, _, hE, hS, fa, fun ι1 H1 v1 g1 s1 r1 n1 => ?_⟩
        have z := seqSrc_ok s1 hs r1 n1
        rw [ht] at z
        cases z with
        | lst ev h =>
          have h2 := h src fun _ e => e
          obtain ⟨xs, q2, _⟩ := h2.at_ ι1 _ H1 Ge.refl.q s1 (by
            cases xa with
            | l ds => cases hs; rfl
            | d d =>
              cases d with
              | loc l =>
                unfold seqSrc at hs
                simp only at hs
                split at hs
                · rename_i ds hds
                  cases hs
                  unfold Src.ok
                  simp [hds]
                · cases hs
              | tup _ => cases ht
              | _ => cases hs)
          exact ⟨_, ev, ⟨xs, q2⟩, q ι1 H1 _ g1 s1 (src_list h2)⟩
      | true =>
        right
        refine ⟨ι, σD, S, xa, _, hE, hS, fa, fun ι1 H1 v1 g1 s1 r1 n1 => ?_⟩
        have z := seqSrc_ok s1 hs r1 n1
        rw [ht] at z
        cases z with
        | tup ev h =>
          have h2 := h src
          obtain ⟨xs, q2, _⟩ := h2.at_ ι1 _ H1 Ge.refl.q s1 (by
            cases xa with
            | l ds => cases ht
            | d d =>
              cases d with
              | tup _ => cases hs; rfl
              | _ => cases ht)
          exact ⟨_, ev, ⟨xs, q2⟩, q ι1 H1 _ g1 s1 (src_tup h2)⟩
    · cases hf1
theorem seqSrc_now {x : VX} {S : Sg} {src : Src} (h : seqSrc x S = some src) : src.ok S = true := by
  cases x with
  | l ds => cases h; rfl
  | d d =>
    cases d with
    | loc l =>
      unfold seqSrc at h
      simp only at h
      split at h
      · rename_i ds hds
        cases h
        unfold Src.ok
        simp [hds]
      · cases h
    | tup _ => cases h; rfl
    | _ => cases h
theorem range_get {n : Nat} {F : Nat → D} {i : Nat} {d : D} (e : ((List.range n).map F)[i]? = some d) : d = F i ∧ i < n := by
  rw [List.getElem?_map] at e
  cases q : (List.range n)[i]? with
  | none => rw [q] at e; cases e
  | some j =>
    rw [q] at e
    obtain ⟨h1, h2⟩ := List.getElem?_eq_some_iff.mp q
    rw [List.getElem_range] at h2
    subst h2
    cases e
    exact ⟨rfl, by simpa using h1⟩
theorem src_rng {K : PySem.W.Frag} {H0 : Hp} {ι : List Lc} {H : Hp} {n : Nat} {lo c : Int} {J : L2.It} (w : Walk J n (fun _ => True) (YFn fun i => .int (lo + (i : Nat) * c))) : SrcOk K (Rel K) H0 ι H ⟨[], (List.range n).map fun (i : Nat) => D.int (lo + ((i : Nat) : Int) * c)⟩ J :=
  ⟨_, _, by simpa using w, fun _ _ _ _ _ _ => trivial, fun i H2 x H3 ι2 S2 d y e g s ok => by
    obtain ⟨rfl, rfl⟩ := y
    obtain ⟨rfl, _⟩ := range_get e
    exact ⟨Ge.refl, s, by simp [Rel]⟩⟩
theorem pi_rng1X (hg : Gl X x) (hx : x = "range") (hm : X.mg x = none) (ha : PE X a (tX X.K f)) (na : NoStar a) : PI X tg (.Call (.Name x p) [a] [] pos) (tI X.K (Rel X.K) fun σ S => bnd (bnd (f σ S) fun x S1 => bnd (some ([], S1)) fun ys S3 => some (x :: ys, S3)) fun vs S1 => match rngV vs with
    | some ds => some (⟨[], ds⟩, S1)
    | none => none) := by
  subst hx
  refine L2PIw (pi_range1 hg hm (pxs_cons ha pxs_nil (na _ _)) (na _ _)) fun σ H R ⟨ι, σD, S, src, S', hE, hS, hf, q⟩ => ?_
  obtain ⟨vs, S1, fv, hf1⟩ := bnd_eq hf
  refine ⟨ι, σD, S, vs, S1, hE, hS, fv, fun ι1 H1 v1 g1 s1 r1 => ?_⟩
  split at hf1
  · rename_i ds hds
    cases hf1
    obtain ⟨xa, S2, fa, hf2⟩ := bnd_eq fv
    cases hf2
    obtain ⟨n, rfl⟩ := rngV_int1 hds
    unfold rngV at hds
    simp only at hds
    split at hds
    · rename_i hi
      cases hds
      have hi' : -(2 ^ 62) ≤ n ∧ n < 2 ^ 62 := by simpa [in62] using hi
      cases r1 with
      | cons t1 t2 =>
        cases t2
        refine ⟨n, by rw [relX_int t1], hi'.1, hi'.2, q ι1 H1 _ g1 s1 ?_⟩
        have z := src_rng (K := X.K) (H0 := H) (ι := ι1) (H := H1) (lo := 0) (c := 1) (n := n.toNat) (J := Itr 0 n.toNat) (walk_range.mono (fun _ h => h) fun i H x H' _ _ y => by
          obtain ⟨e1, e2⟩ := y
          exact ⟨e1, by rw [e2]; simp⟩)
        simpa using z
    · cases hds
  · cases hf1
theorem pi_rng2X (hg : Gl X x) (hx : x = "range") (hm : X.mg x = none) (ha : PE X a (tX X.K f)) (na : NoStar a) (hb : PE X b (tX X.K g)) (nb : NoStar b) : PI X tg (.Call (.Name x p) [a, b] [] pos) (tI X.K (Rel X.K) fun σ S => bnd (bnd (f σ S) fun x S1 => bnd (bnd (g σ S1) fun x S1 => bnd (some ([], S1)) fun ys S3 => some (x :: ys, S3)) fun ys S3 => some (x :: ys, S3)) fun vs S1 => match rngV vs with
    | some ds => some (⟨[], ds⟩, S1)
    | none => none) := by
  subst hx
  refine L2PIw (pi_range2 hg hm (pxs_cons ha (pxs_cons hb pxs_nil (nb _ _)) (na _ _)) (by rw [na, nb]; rfl) (nb _ _)) fun σ H R ⟨ι, σD, S, src, S', hE, hS, hf, q⟩ => ?_
  obtain ⟨vs, S1, fv, hf1⟩ := bnd_eq hf
  refine ⟨ι, σD, S, vs, S1, hE, hS, fv, fun ι1 H1 v1 g1 s1 r1 => ?_⟩
  split at hf1
  · rename_i ds hds
    cases hf1
    obtain ⟨xa, S2, fa, hf2⟩ := bnd_eq fv
    obtain ⟨ws, S3, fb, hf3⟩ := bnd_eq hf2
    obtain ⟨xb, S4, fc, hf4⟩ := bnd_eq fb
    cases hf4
    cases hf3
    obtain ⟨m, n, rfl, rfl⟩ := rngV_int2 hds
    unfold rngV at hds
    simp only at hds
    split at hds
    · rename_i hi
      cases hds
      simp only [in62, Bool.and_eq_true, decide_eq_true_eq] at hi
      cases r1 with
      | cons t1 t2 =>
        cases t2 with
        | cons t2 t3 =>
          cases t3
          refine ⟨m, n, by rw [relX_int t1, relX_int t2], ⟨hi.1.1, hi.1.2, hi.2.1, hi.2.2⟩, q ι1 H1 _ g1 s1 ?_⟩
          have z := src_rng (K := X.K) (H0 := H) (ι := ι1) (H := H1) (lo := m) (c := 1) (n := (n - m).toNat) (J := Itr m (n - m).toNat) (walk_range.mono (fun _ h => h) fun i H x H' _ _ y => by
            obtain ⟨e1, e2⟩ := y
            exact ⟨e1, by rw [e2]; simp⟩)
          simpa using z
    · cases hds
  · cases hf1
theorem rngC_ok {i j c : Int} (hi : -(2 ^ 62) ≤ i ∧ i < 2 ^ 62) (hj : -(2 ^ 62) ≤ j ∧ j < 2 ^ 62) (hc : 0 < c ∧ c < 1073741824) : RgC i j c ((j - i + c - 1) / c).toNat := by
  have hsz : Builtin.Range.rangeSize i j c = (((j - i + c - 1) / c).toNat : Nat) := by
    unfold Builtin.Range.rangeSize
    rw [if_pos (show c > 0 from hc.1)]
    by_cases h : i < j
    · rw [if_pos h]
      have e : (j - i + c - 1) / c = (j - i - 1) / c + 1 := by
        rw [show j - i + c - 1 = (j - i - 1) + c by omega, Int.add_ediv_of_dvd_right (Int.dvd_refl c), Int.ediv_self (by omega)]
      have h0 : 0 ≤ (j - i - 1) / c := Int.ediv_nonneg (by omega) (by omega)
      rw [e]
      omega
    · rw [if_neg h]
      have h0 : (j - i + c - 1) / c < 1 := Int.ediv_lt_of_lt_mul hc.1 (by omega)
      omega
  have hs0 : 0 ≤ Builtin.Range.rangeSize i j c := by rw [hsz]; exact Int.natCast_nonneg _
  have hs1 : Builtin.Range.rangeSize i j c < 2 ^ 63 := by
    rw [hsz]
    by_cases h : i < j
    · have e : (j - i + c - 1) / c = (j - i - 1) / c + 1 := by
        rw [show j - i + c - 1 = (j - i - 1) + c by omega, Int.add_ediv_of_dvd_right (Int.dvd_refl c), Int.ediv_self (by omega)]
      have h1 : (j - i - 1) / c ≤ j - i - 1 := Int.ediv_le_self _ (by omega)
      omega
    · have h0 : (j - i + c - 1) / c < 1 := Int.ediv_lt_of_lt_mul hc.1 (by omega)
      omega
  refine ⟨by omega, by omega, ?_, hsz⟩
  unfold Builtin.Range.small
  have fits : ∀ k : Int, -(2 ^ 63) ≤ k → k < 2 ^ 63 → Builtin.Range.rangeFitsLong k = true := fun k h1 h2 => by
    unfold Builtin.Range.rangeFitsLong
    simp
    omega
  rw [fits i (by omega) (by omega), fits j (by omega) (by omega), fits c (by omega) (by omega), fits _ (by omega) hs1, if_pos (show c > 0 from hc.1), fits _ (by omega) (by omega)]
  simp
theorem pi_rng3X {c : Expr} {h : En → Sg → Rs VX} (hg : Gl X x) (hx : x = "range") (hm : X.mg x = none) (ha : PE X a (tX X.K f)) (na : NoStar a) (hb : PE X b (tX X.K g)) (nb : NoStar b) (hc : PE X c (tX X.K h)) (nc : NoStar c) :
    PI X tg (.Call (.Name x p) [a, b, c] [] pos) (tI X.K (Rel X.K) fun σ S => bnd (bnd (f σ S) fun x S1 => bnd (bnd (g σ S1) fun x S1 => bnd (bnd (h σ S1) fun x S1 => bnd (some ([], S1)) fun ys S3 => some (x :: ys, S3)) fun ys S3 => some (x :: ys, S3)) fun ys S3 => some (x :: ys, S3)) fun vs S1 => match rngV vs with
    | some ds => some (⟨[], ds⟩, S1)
    | none => none) := by
  subst hx
  refine L2PIw (pi_range3 hg hm (pxs_cons ha (pxs_cons hb (pxs_cons hc pxs_nil (nc _ _)) (nb _ _)) (na _ _)) (na _ _) (noStars_plain ⟨nb, nc, trivial⟩)) fun σ H R ⟨ι, σD, S, src, S', hE, hS, hf, q⟩ => ?_
  obtain ⟨vs, S1, fv, hf1⟩ := bnd_eq hf
  refine ⟨ι, σD, S, vs, S1, hE, hS, fv, fun ι1 H1 v1 g1 s1 r1 => ?_⟩
  split at hf1
  · rename_i ds hds
    cases hf1
    obtain ⟨xa, S2, fa, hf2⟩ := bnd_eq fv
    obtain ⟨ws, S3, fb, hf3⟩ := bnd_eq hf2
    obtain ⟨xb, S4, fc, hf4⟩ := bnd_eq fb
    obtain ⟨us, S5, fd, hf5⟩ := bnd_eq hf4
    obtain ⟨xc, S6, fe, hf6⟩ := bnd_eq fd
    cases hf6
    cases hf5
    cases hf3
    unfold rngV at hds
    split at hds
    · rename_i q' e'; cases e'
    · rename_i q' e'; cases e'
    · rename_i i j k e'
      cases e'
      split at hds
      · rename_i hi
        cases hds
        simp only [in62, Bool.and_eq_true, decide_eq_true_eq] at hi
        cases r1 with
        | cons t1 t2 =>
          cases t2 with
          | cons t2 t3 =>
            cases t3 with
            | cons t3 t4 =>
              cases t4
              exact ⟨i, j, k, _, by rw [relX_int t1, relX_int t2, relX_int t3], rngC_ok hi.1.1 hi.1.2 hi.2, q ι1 H1 _ g1 s1 (src_rng walk_rangeC)⟩
      · cases hds
    · cases hds
  · cases hf1
def tX1 (K : PySem.W.Frag) (f : En → Sg → Rs VX) : TA := fun σ H Q => ∃ ι σD S x S', EnO K ι H σD σ ∧ StO K ι S H ∧ f σD S = some (x, S') ∧ ∀ ι' H' v, Ge ι H ι' H' → StO K ι' S' H' → RelX K ι' H' x v → NewX H x v → Q [v] H'
theorem pxs_one (ha : PE X a (tX X.K f)) (na : NoStar a) : PA X [a] (tX1 X.K f) :=
  L2PAw (pa_cons ha pa_nil (na _ _)) fun σ H Q ⟨ι, σD, S, x, S', hE, hS, hf, q⟩ => ⟨ι, σD, S, x, S', hE, hS, hf, fun ι1 H1 v1 g1 s1 r1 n1 => q ι1 H1 v1 g1 s1 r1 n1⟩
def tX2 (K : PySem.W.Frag) (f g : En → Sg → Rs VX) : TA := fun σ H Q => ∃ ι σD S x S1 y S', EnO K ι H σD σ ∧ StO K ι S H ∧ f σD S = some (x, S1) ∧ g σD S1 = some (y, S') ∧ ∀ ι' H' v w, Ge ι H ι' H' → StO K ι' S' H' → RelX K ι' H' x v → NewX H x v → RelX K ι' H' y w → NewX H y w → Q [v, w] H'
theorem pxs_two (ha : PE X a (tX X.K f)) (na : NoStar a) (hb : PE X b (tX X.K g)) (nb : NoStar b) : PA X [a, b] (tX2 X.K f g) :=
  L2PAw (pa_cons ha (pa_cons hb pa_nil (nb _ _)) (na _ _)) fun σ H Q ⟨ι, σD, S, x, S1, y, S', hE, hS, hf, hg, q⟩ => ⟨ι, σD, S, x, S1, hE, hS, hf, fun ι1 H1 v1 g1 s1 r1 n1 => ⟨ι1, σD, S1, y, S', g1.en hE, s1, hg, fun ι2 H2 v2 g2 s2 r2 n2 => q ι2 H2 v1 v2 (g1.trans g2) s2 (g2.relX r1) n1 r2 (n2.back g1)⟩⟩
theorem enums_get : ∀ {ds : List D} {n i : Nat} {d : D}, (enums n ds)[i]? = some d → ∃ y, ds[i]? = some y ∧ d = .tup [.int ((n + i : Nat) : Int), y]
  | [], _, _, _, e => by simp [enums] at e
  | y :: ys, n, 0, d, e => by
    simp [enums] at e
    exact ⟨y, by simp, by rw [← e]; simp⟩
  | y :: ys, n, i + 1, d, e => by
    simp only [enums, List.getElem?_cons_succ] at e
    obtain ⟨z, h1, h2⟩ := enums_get e
    exact ⟨z, by simpa using h1, by rw [h2, Nat.add_assoc, Nat.add_comm 1 i]⟩
theorem enums_len : ∀ (ds : List D) (n : Nat), (enums n ds).length = ds.length
  | [], _ => rfl
  | _ :: ys, n => by simp [enums, enums_len ys]
theorem pair_rel {K : PySem.W.Frag} {ι : List Lc} {H : Hp} {S : Sg} {T : Addr} {d1 d2 : D} {v1 v2 : V} (s : StO K ι S H) (hT : H T = none) (r1 : Rel K ι H d1 v1) (r2 : Rel K ι H d2 v2) :
    Ge ι H ι (upd H T (.tup [v1, v2])) ∧ StO K ι S (upd H T (.tup [v1, v2])) ∧ RelW K ι (upd H T (.tup [v1, v2])) (.tup [d1, d2]) (.ref T) := by
  have g : Ge ι H ι (upd H T (.tup [v1, v2])) := Ge.other hT
  exact ⟨g, s.other hT, .inr ⟨_, T, _, rfl, rfl, .of upd_same, .cons (g.rel r1) (.cons (g.rel r2) .nil)⟩⟩
variable {elts : List Expr} {kk : Nat} {tpos : Pos}
theorem walk_enumD {K : PySem.W.Frag} {a : Addr} {n : Nat} : Walk (Ite K a) n (fun H => ∃ xs, SqL K H a xs ∧ xs.length = n) (fun i H v H' => ∃ T x, v = .ref T ∧ H T = none ∧ H' = upd H T (.tup [.int (i : Nat), x]) ∧ ∀ xs, SqL K H a xs → xs[i]? = some x) :=
  ⟨fun i H hi ⟨xs, q, e⟩ => ⟨xs, xs[i]'(by omega), q, by simp [show i < xs.length by omega]⟩, fun H ⟨xs, q, e⟩ => ⟨xs, q, by omega⟩, fun _ _ _ _ _ _ y => y⟩
theorem walk_enumTD {K : PySem.W.Frag} {a : Addr} {n : Nat} : Walk (IteT K a) n (fun H => ∃ xs, SqT K H a xs ∧ xs.length = n) (fun i H v H' => ∃ T x, v = .ref T ∧ H T = none ∧ H' = upd H T (.tup [.int (i : Nat), x]) ∧ ∀ xs, SqT K H a xs → xs[i]? = some x) :=
  ⟨fun i H hi ⟨xs, q, e⟩ => ⟨xs, xs[i]'(by omega), q, by simp [show i < xs.length by omega]⟩, fun H ⟨xs, q, e⟩ => ⟨xs, q, by omega⟩, fun _ _ _ _ _ _ y => y⟩
def iEnumT (K : PySem.W.Frag) (ta : TA) : TI := fun σ H R => ta σ H fun vs H1 => ∃ a xs, vs = [.ref a] ∧ SqT K H1 a xs ∧ R (IteT K a) H1
theorem pi_enumT {ta : TA} (hg : Gl X "enumerate") (hm : X.mg "enumerate" = none) (ha : PA X [e] ta) (hs : starEach [e] X.env = [(false, eval e X.env)]) :
    PI X (.Tuple elts kk tpos) (.Call (.Name "enumerate" p) [e] [] pos) (iEnumT X.K ta) := by
  refine ⟨fun pins s σ H R I h => ?_⟩
  refine Call_ (ld_blt I hg hm boot_enumerate (PyProof.Rows.callWith_type1 (thn (ha.run pos pins s σ H _ I h) fun us s1 ⟨vs, H1, I1, r1, q1⟩ => ?_) hs rfl))
  obtain ⟨a, xs, ex, hq, q⟩ := q1
  subst ex
  cases r1 with
  | cons r rr =>
    cases rr
    cases r
    obtain ⟨its, rv, p', hz⟩ := I1.tuple hq
    have hal : a < s1.heap.objs.size := by obtain ⟨o, ho, _⟩ := p'; exact Heap.lt_size ho
    refine call_enum_tup (show s1.heap.IsTuple a its.toArray from p') fun h' he hit hk => wpAny_pyIter_enum he ?_
    have I2 : Inv X pins σ H1 { s1 with heap := h' } := I1.kept (t' := s1.toks) hk
    refine ⟨s1.heap.objs.size + 1, [s1.heap.objs.size + 1, s1.heap.objs.size], _, _, H1, rfl, I2, turn_enumT a (s1.heap.objs.size + 1) s1.heap.objs.size, ⟨⟨.none, he⟩, hit, Nat.succ_ne_self _, Nat.ne_of_lt hal, by have : a ≠ s1.heap.objs.size + 1 := Nat.ne_of_lt (Nat.lt_succ_of_lt hal); exact this.symm⟩, fun b hb => ?_, q⟩
    have e' : b = s1.heap.objs.size + 1 ∨ b = s1.heap.objs.size := by simpa using hb
    have hle : s1.heap.objs.size ≤ b := by
      rcases e' with z | z
      · rw [z]; exact Nat.le_add_right _ _
      · rw [z]; exact Nat.le_refl _
    exact I1.fpOk hle (I1.hok.fresh hle)
theorem pi_enmX (hx : x = "enumerate") (hg : Gl X x) (hm : X.mg x = none) (ha : PE X a (tX X.K f)) (na : NoStar a) : PI X (.Tuple elts kk tpos) (.Call (.Name x p) [a] [] pos) (tI X.K (RelW X.K) fun σ S => bnd (f σ S) fun v S1 => match seqSrc v S1 with
    | some s => some (⟨s.gs, enums 0 s.its⟩, S1)
    | none => none) := by
  subst hx
  refine L2PIw (pi_or (pi_enum hg hm (pxs_one ha na) (na _ _)) (pi_enumT hg hm (pxs_one ha na) (na _ _))) fun σ H R ⟨ι, σD, S, src, S', hE, hS, hf, q⟩ => ?_
  obtain ⟨xa, S1, fa, hf1⟩ := bnd_eq hf
  split at hf1
  · rename_i sr hs
    cases hf1
    have okc : ∀ S2, (⟨sr.gs, enums 0 sr.its⟩ : Src).ok S2 = true → (⟨sr.gs, sr.its⟩ : Src).ok S2 = true := fun _ h => h
    cases ht : isTupX xa with
    | false =>
      left
      refine ⟨ι, σD, S, xa, S', hE, hS, fa, fun ι1 H1 v1 g1 s1 t1 n1 => ?_⟩
      · have z := seqSrc_ok s1 hs t1 n1
        rw [ht] at z
        cases z with
        | lst ev h =>
          have h2 := h ⟨sr.gs, enums 0 sr.its⟩ okc
          obtain ⟨xs, q2, _⟩ := h2.at_ ι1 _ H1 Ge.refl.q s1 (show (⟨sr.gs, sr.its⟩ : Src).ok S' = true from seqSrc_now hs)
          refine ⟨_, xs, by rw [ev], q2, q ι1 H1 _ g1 s1 ⟨_, _, walk_enumD, fun ι2 S2 H2 g s ok => ?_, fun i H2 x H3 ι2 S2 d y e g s ok => ?_⟩⟩
          · obtain ⟨ys, q3, r3⟩ := h2.at_ ι2 S2 H2 g s ok
            exact ⟨ys, q3, by rw [enums_len]; exact r3.length.symm⟩
          · obtain ⟨T, w, rfl, hT, rfl, hy⟩ := y
            obtain ⟨ys, q3, r3⟩ := h2.at_ ι2 S2 H2 g s ok
            obtain ⟨d', e1, rfl⟩ := enums_get e
            obtain ⟨v, hv, rv⟩ := r3.get e1
            have := hy ys q3
            rw [hv] at this
            cases this
            exact pair_rel s hT (by simp [Rel]) rv
    | true =>
      right
      refine ⟨ι, σD, S, xa, S', hE, hS, fa, fun ι1 H1 v1 g1 s1 t1 n1 => ?_⟩
      · have z := seqSrc_ok s1 hs t1 n1
        rw [ht] at z
        cases z with
        | tup ev h =>
          have h2 := h ⟨sr.gs, enums 0 sr.its⟩
          obtain ⟨xs, q2, _⟩ := h2.at_ ι1 _ H1 Ge.refl.q s1 (show (⟨sr.gs, sr.its⟩ : Src).ok S' = true from seqSrc_now hs)
          refine ⟨_, xs, by rw [ev], q2, q ι1 H1 _ g1 s1 ⟨_, _, walk_enumTD, fun ι2 S2 H2 g s ok => ?_, fun i H2 x H3 ι2 S2 d y e g s ok => ?_⟩⟩
          · obtain ⟨ys, q3, r3⟩ := h2.at_ ι2 S2 H2 g s ok
            exact ⟨ys, q3, by rw [enums_len]; exact r3.length.symm⟩
          · obtain ⟨T, w, rfl, hT, rfl, hy⟩ := y
            obtain ⟨ys, q3, r3⟩ := h2.at_ ι2 S2 H2 g s ok
            obtain ⟨d', e1, rfl⟩ := enums_get e
            obtain ⟨v, hv, rv⟩ := r3.get e1
            have := hy ys q3
            rw [hv] at this
            cases this
            exact pair_rel s hT (by simp [Rel]) rv
  · cases hf1
end
end Ev

namespace Ev
open PySem PySem.Spec PyProof.Rows L2
section
variable {X : Cx} {a b c e tg iter : Expr} {es : List Expr} {f g : En → Sg → Rs VX} {ft : En → Sg → Rs Bool} {fb gb : En → Sg → Rs (Fl × En)} {fi : En → Sg → Rs Src} {as : D → En → Sg → Rs En} {own : List Nat} {R : List Lc → Hp → D → V → Prop} {pos p : Pos} {x : Str} {body rest : List Stmt} {st : Stmt}
theorem forGo_ok {ok : Sg → Bool} {its : List D} {σ : En} {S : Sg} {r : (Fl × En) × Sg} (h : forGo ok as fb its σ S = some r) : ok S = true := by
  cases its with
  | nil =>
    unfold forGo at h
    split at h
    · assumption
    · cases h
  | cons x xs =>
    unfold forGo at h
    split at h
    · assumption
    · cases h
theorem drop_cons {α : Type} {xs : List α} {i : Nat} (h : i < xs.length) : ∃ x, xs[i]? = some x ∧ xs.drop i = x :: xs.drop (i + 1) := ⟨xs[i], by simp [h], by rw [List.drop_eq_getElem_cons h]⟩
theorem ps_forX (hp : PassesOwn (model X.prog X.w) X.A X.env X.xe) (hc : X.calm = true) (hi : PI X tg iter (tI X.K R fi)) (hg : PG X tg (tG X.K R own as)) (hb : PSs X body (tS X.K fb)) (hs : ∀ x, foldedSetIterable iter X.env x = pure x) :
    PS X (.For tg iter body [] pos) (tS X.K fun σ S => bnd (fi σ S) fun src S1 => forGo src.ok as fb src.its σ S1) :=
  L2PSw (ps_for hp hc hi hg hb hs) fun D σ H ⟨ι, σD, S, pr, S', hE, hS, hf, q⟩ => by
    obtain ⟨src, S1, fa, hf1⟩ := bnd_eq hf
    refine ⟨ι, σD, S, src, S1, hE, hS, fa, fun ι1 H1 J g1 s1 so => ?_⟩
    obtain ⟨G, Y, w, hG, hY⟩ := so.ex
    refine for_it w (fun i σv Hv => ∃ ι2 σ2 S2, Ge ι1 H1 ι2 Hv ∧ StO X.K ι2 S2 Hv ∧ EnO X.K ι2 Hv σ2 σv ∧ forGo src.ok as fb (src.its.drop i) σ2 S2 = some (pr, S')) ?_ ?_ ?_ ?_
    · exact ⟨ι1, σD, S1, Ge.refl, s1, g1.en hE, by simpa using hf1⟩
    · rintro i σv Hv _ ⟨ι2, σ2, S2, g2, s2, _, hq⟩
      exact hG ι2 S2 Hv g2.q s2 (forGo_ok hq)
    · rintro i x σv Hv Hw hi ⟨ι2, σ2, S2, g2, s2, e2, hq⟩ y
      obtain ⟨d, hd, hdrop⟩ := drop_cons hi
      have hok := forGo_ok hq
      obtain ⟨g3, s3, r3⟩ := hY i Hv x Hw ι2 S2 d y hd g2.q s2 hok
      rw [hdrop] at hq
      unfold forGo at hq
      rw [if_pos hok] at hq
      obtain ⟨σ3, S3, fas, hq1⟩ := bnd_eq hq
      obtain ⟨p3, S4, ffb, hq2⟩ := bnd_eq hq1
      refine ⟨ι2, σ2, S2, d, σ3, S3, g3.en e2, s3, r3, fas, fun ι4 H4 σ4 g4 s4 e4 _ => ⟨ι4, σ3, S3, p3, S4, e4, s4, ffb, ?_⟩⟩
      have G3 := (g2.trans g3).trans g4
      obtain ⟨fl, σ5⟩ := p3
      cases fl with
      | nx => exact fun ι' H' σv' g' s' e' => ⟨ι', σ5, S4, G3.trans g', s', e', hq2⟩
      | ct => exact fun ι' H' σv' g' s' e' => ⟨ι', σ5, S4, G3.trans g', s', e', hq2⟩
      | bk => cases hq2; exact fun ι' H' σv' g' s' e' => q ι' H' σv' ((g1.trans G3).trans g') s' e'
      | rt v => cases hq2; exact FinX.mono q (g1.trans G3)
    · rintro σv Hv ⟨ι2, σ2, S2, g2, s2, e2, hq⟩
      rw [List.drop_of_length_le (Nat.le_refl _)] at hq
      unfold forGo at hq
      split at hq
      · cases hq
        exact q ι2 Hv σv (g1.trans g2) s2 e2
      · cases hq
theorem ps_whileX (hp : PassesOwn (model X.prog X.w) X.A X.env X.xe) (hc : PT X c (tT X.K ft)) (hb : PSs X body (tS X.K fb)) (n : Nat) : PS X (.While c body [] pos) (tS X.K fun σ S => whGo ft fb n σ S) :=
  L2PSw (ps_while hp hc hb) fun D σ H ⟨ι, σD, S, pr, S', hE, hS, hf, q⟩ => by
    refine ⟨fun m σv Hv => ∃ ι2 σ2 S2, Ge ι H ι2 Hv ∧ StO X.K ι2 S2 Hv ∧ EnO X.K ι2 Hv σ2 σv ∧ whGo ft fb m σ2 S2 = some (pr, S'), ⟨n, ι, σD, S, Ge.refl, hS, hE, hf⟩, ?_⟩
    rintro m σv Hv ⟨ι2, σ2, S2, g2, s2, e2, hq⟩
    cases m with
    | zero => cases hq
    | succ m =>
      unfold whGo at hq
      obtain ⟨k, S3, fc, hq1⟩ := bnd_eq hq
      refine ⟨ι2, σ2, S2, k, S3, e2, s2, fc, fun ι3 H3 g3 s3 => ?_⟩
      have G3 := g2.trans g3
      cases k with
      | true =>
        rw [if_pos rfl] at hq1; dsimp only; rw [if_pos rfl]
        obtain ⟨p3, S4, ffb, hq2⟩ := bnd_eq hq1
        refine ⟨fun σ' H' => ∃ ι2 σ2 S2, Ge ι H ι2 H' ∧ StO X.K ι2 S2 H' ∧ EnO X.K ι2 H' σ2 σ' ∧ whGo ft fb m σ2 S2 = some (pr, S'), fun σ' H' h => ⟨m, Nat.lt_succ_self m, h⟩, ι3, σ2, S3, p3, S4, g3.en e2, s3, ffb, ?_⟩
        obtain ⟨fl, σ5⟩ := p3
        cases fl with
        | nx => exact fun ι' H' σv' g' s' e' => ⟨ι', σ5, S4, G3.trans g', s', e', hq2⟩
        | ct => exact fun ι' H' σv' g' s' e' => ⟨ι', σ5, S4, G3.trans g', s', e', hq2⟩
        | bk => cases hq2; exact fun ι' H' σv' g' s' e' => q ι' H' σv' (G3.trans g') s' e'
        | rt v => cases hq2; exact FinX.mono q G3
      | false =>
        rw [if_neg Bool.false_ne_true] at hq1; dsimp only; rw [if_neg Bool.false_ne_true]
        cases hq1
        exact q ι3 H3 σv G3 s3 (g3.en e2)
theorem pss_nilX : PSs X [] (tS X.K fun σ S => some ((.nx, σ), S)) :=
  L2PSsw pss_nil fun D σ H ⟨ι, σD, S, pr, S', hE, hS, hf, q⟩ => by
    cases hf
    exact q ι H σ Ge.refl hS hE
theorem pss_consX (h1 : PS X st (tS X.K fb)) (h2 : PSs X rest (tS X.K gb)) : PSs X (st :: rest) (tS X.K fun σ S => bnd (fb σ S) fun p S1 => match p with
    | (.nx, σ1) => gb σ1 S1
    | q => some (q, S1)) :=
  L2PSsw (pss_cons h1 h2) fun D σ H ⟨ι, σD, S, pr, S', hE, hS, hf, q⟩ => by
    obtain ⟨p1, S1, fa, hf1⟩ := bnd_eq hf
    refine ⟨ι, σD, S, p1, S1, hE, hS, fa, ?_⟩
    obtain ⟨fl, σ1⟩ := p1
    cases fl with
    | nx => exact fun ι1 H1 σv g1 s1 e1 => ⟨ι1, σ1, S1, pr, S', e1, s1, hf1, q.mono g1⟩
    | bk => cases hf1; exact q
    | ct => cases hf1; exact q
    | rt v => cases hf1; exact q
theorem ps_setX {i : Nat} {px : Pos} (hN : X.N.Nodup) (hi : X.N[i]? = some x) (hx : Loc X.env.scope x) (he : PE X e (tX X.K f)) (hs : swapsWith e (some (.Name x px)) pos.line X.env = pure false) (hf : X.fn x = true ∨ X.env.scope.names.lookup x = some .local) :
    PS X (.Assign [.Name x px] e pos) (tS X.K fun σ S => bnd (f σ S) fun v S1 => bnd (toD v S1) fun y S2 => some ((.nx, σ.set i (some y)), S2)) :=
  L2PSw (ps_set hN hi hx (px_toD he) hs hf) fun D σ H ⟨ι, σD, S, pr, S', hE, hS, hf, q⟩ => by
    obtain ⟨v, S1, fa, hf1⟩ := bnd_eq hf
    obtain ⟨y, S2, fb, hf2⟩ := bnd_eq hf1
    cases hf2
    exact ⟨ι, σD, S, y, _, hE, hS, by show bnd (f σD S) _ = _; rw [fa]; exact fb, fun ι1 H1 v1 g1 s1 r1 => q ι1 H1 _ g1 s1 ((g1.en hE).set i r1)⟩
theorem ps_asgX (he : PE X e (tX X.K f)) (hg : PG X tg (tG X.K (Rel X.K) own as)) (hs : swapsWithSole [tg] e pos.line X.env = pure false) (hw : swappedStores [tg] e X.env = pure none) (h1 : (assignEach [tg] X.env).map (·.2) = [assign tg X.env]) :
    PS X (.Assign [tg] e pos) (tS X.K fun σ S => bnd (f σ S) fun v S1 => bnd (toD v S1) fun y S2 => bnd (as y σ S2) fun σ' S3 => some ((.nx, σ'), S3)) :=
  L2PSw (ps_asg (px_toD he) hg hs hw h1) fun D σ H ⟨ι, σD, S, pr, S', hE, hS, hf, q⟩ => by
    obtain ⟨v, S1, fa, hf1⟩ := bnd_eq hf
    obtain ⟨y, S2, fb, hf2⟩ := bnd_eq hf1
    obtain ⟨σ', S3, fc, hf3⟩ := bnd_eq hf2
    cases hf3
    exact ⟨ι, σD, S, y, S2, hE, hS, by show bnd (f σD S) _ = _; rw [fa]; exact fb, fun ι1 H1 v1 g1 s1 r1 => ⟨ι1, σD, S2, y, σ', _, g1.en hE, s1, r1, fc, fun ι2 H2 σv g2 s2 e2 _ => q ι2 H2 σv (g1.trans g2) s2 e2⟩⟩
variable {fl : En → Sg → Rs (List D)}
theorem ps_parX {i j : Nat} {y : Str} {px py pt pt2 : Pos} {kt k2 : Nat} (hc : X.calm = true) (hN : X.N.Nodup) (hi : X.N[i]? = some x) (hj : X.N[j]? = some y) (hij : i ≠ j)
    (hx : X.env.scope.names.lookup x = some .local) (hy : X.env.scope.names.lookup y = some .local) (ha : PA X [a, b] (tL X.K fl))
    (hw : swappedStores [.Tuple [.Name x px, .Name y py] kt pt] (.Tuple [a, b] k2 pt2) X.env = pure (some [x, y])) :
    PS X (.Assign [.Tuple [.Name x px, .Name y py] kt pt] (.Tuple [a, b] k2 pt2) pos) (tS X.K fun σ S => bnd (fl σ S) fun ds S1 => if ds.length = 2 then some ((.nx, setAll [i, j] ds σ), S1) else none) :=
  L2PSw (ps_par hc hN hi hj hij hx hy ha hw) fun D σ H ⟨ι, σD, S, pr, S', hE, hS, hf, q⟩ => by
    obtain ⟨ds, S1, fa, hf1⟩ := bnd_eq hf
    split at hf1
    · rename_i hl
      cases hf1
      match ds, hl with
      | [d1, d2], _ =>
        refine ⟨ι, σD, S, [d1, d2], _, hE, hS, fa, fun ι1 H1 v1 g1 s1 r1 => ?_⟩
        unfold RelL at r1
        obtain ⟨w1, t1, rfl, h1, r1⟩ := r1
        unfold RelL at r1
        obtain ⟨w2, t2, rfl, h2, r1⟩ := r1
        unfold RelL at r1
        subst r1
        exact ⟨w1, w2, rfl, q ι1 H1 _ g1 s1 (((g1.en hE).set i h1).set j h2)⟩
    · cases hf1
theorem ps_par3X {i j l : Nat} {y z : Str} {px py pz pt pt2 : Pos} {kt k2 : Nat} (hc : X.calm = true) (hN : X.N.Nodup) (hi : X.N[i]? = some x) (hj : X.N[j]? = some y) (hl : X.N[l]? = some z) (hij : i ≠ j) (hil : i ≠ l) (hjl : j ≠ l)
    (hx : X.env.scope.names.lookup x = some .local) (hy : X.env.scope.names.lookup y = some .local) (hz : X.env.scope.names.lookup z = some .local) (ha : PA X [a, b, c] (tL X.K fl))
    (hw : swappedStores [.Tuple [.Name x px, .Name y py, .Name z pz] kt pt] (.Tuple [a, b, c] k2 pt2) X.env = pure (some [x, y, z])) :
    PS X (.Assign [.Tuple [.Name x px, .Name y py, .Name z pz] kt pt] (.Tuple [a, b, c] k2 pt2) pos) (tS X.K fun σ S => bnd (fl σ S) fun ds S1 => if ds.length = 3 then some ((.nx, setAll [i, j, l] ds σ), S1) else none) :=
  L2PSw (ps_par3 hc hN hi hj hl hij hil hjl hx hy hz ha hw) fun D σ H ⟨ι, σD, S, pr, S', hE, hS, hf, q⟩ => by
    obtain ⟨ds, S1, fa, hf1⟩ := bnd_eq hf
    split at hf1
    · rename_i hl
      cases hf1
      match ds, hl with
      | [d1, d2, d3], _ =>
        refine ⟨ι, σD, S, [d1, d2, d3], _, hE, hS, fa, fun ι1 H1 v1 g1 s1 r1 => ?_⟩
        unfold RelL at r1
        obtain ⟨w1, t1, rfl, h1, r1⟩ := r1
        unfold RelL at r1
        obtain ⟨w2, t2, rfl, h2, r1⟩ := r1
        unfold RelL at r1
        obtain ⟨w3, t3, rfl, h3, r1⟩ := r1
        unfold RelL at r1
        subst r1
        exact ⟨w1, w2, w3, rfl, q ι1 H1 _ g1 s1 ((((g1.en hE).set i h1).set j h2).set l h3)⟩
    · cases hf1
theorem ps_iteX {q1 q2 : List Stmt} (hc : PT X c (tT X.K ft)) (ha : PSs X q1 (tS X.K fb)) (hb : PSs X q2 (tS X.K gb)) : PS X (.If c q1 q2 pos) (tS X.K fun σ S => bnd (ft σ S) fun k S1 => if k = true then fb σ S1 else gb σ S1) :=
  L2PSw (ps_if hc ha hb) fun D σ H ⟨ι, σD, S, pr, S', hE, hS, hf, q⟩ => by
    obtain ⟨k, S1, fa, hf1⟩ := bnd_eq hf
    refine ⟨ι, σD, S, k, S1, hE, hS, fa, fun ι1 H1 g1 s1 => ?_⟩
    cases k with
    | true =>
      rw [if_pos rfl] at hf1 ⊢
      exact ⟨ι1, σD, S1, pr, S', g1.en hE, s1, hf1, q.mono g1⟩
    | false =>
      rw [if_neg Bool.false_ne_true] at hf1 ⊢
      exact ⟨ι1, σD, S1, pr, S', g1.en hE, s1, hf1, q.mono g1⟩
theorem ps_retX (he : PE X e (tX X.K f)) : PS X (.Return (some e) pos) (tS X.K fun σ S => bnd (f σ S) fun v S1 => some ((.rt v, σ), S1)) :=
  L2PSw (ps_ret he) fun D σ H ⟨ι, σD, S, pr, S', hE, hS, hf, q⟩ => by
    obtain ⟨v, S1, fa, hf1⟩ := bnd_eq hf
    cases hf1
    exact ⟨ι, σD, S, v, _, hE, hS, fa, q⟩
theorem ps_retNX : PS X (.Return none pos) (tS X.K fun σ S => some ((.rt (.d .non), σ), S)) :=
  L2PSw ps_retN fun D σ H ⟨ι, σD, S, pr, S', hE, hS, hf, q⟩ => by
    cases hf
    exact FinX.non hS q
theorem ps_expX (he : PE X e (tX X.K f)) (hs : swapsWith e none pos.line X.env = pure false) : PS X (.Expr e pos) (tS X.K fun σ S => bnd (f σ S) fun _ S1 => some ((.nx, σ), S1)) :=
  L2PSw (ps_expr he hs) fun D σ H ⟨ι, σD, S, pr, S', hE, hS, hf, q⟩ => by
    obtain ⟨v, S1, fa, hf1⟩ := bnd_eq hf
    cases hf1
    exact ⟨ι, σD, S, v, _, hE, hS, fa, fun ι1 H1 v1 g1 s1 _ _ => q ι1 H1 σ g1 s1 (g1.en hE)⟩
theorem ps_passX : PS X (.Pass pos) (tS X.K fun σ S => some ((.nx, σ), S)) :=
  L2PSw ps_pass fun D σ H ⟨ι, σD, S, pr, S', hE, hS, hf, q⟩ => by cases hf; exact q ι H σ Ge.refl hS hE
theorem ps_brkX : PS X (.Break pos) (tS X.K fun σ S => some ((.bk, σ), S)) :=
  L2PSw ps_break fun D σ H ⟨ι, σD, S, pr, S', hE, hS, hf, q⟩ => by cases hf; exact q ι H σ Ge.refl hS hE
theorem ps_cntX : PS X (.Continue pos) (tS X.K fun σ S => some ((.ct, σ), S)) :=
  L2PSw ps_continue fun D σ H ⟨ι, σD, S, pr, S', hE, hS, hf, q⟩ => by cases hf; exact q ι H σ Ge.refl hS hE
theorem ps_nevX : PS X st (tS X.K fun _ _ => none) :=
  L2PSw ps_never fun D σ H ⟨ι, σD, S, pr, S', hE, hS, hf, q⟩ => by cases hf
theorem compGo_ok {ok : Sg → Bool} {ts : En → Sg → Rs Bool} {el : En → Sg → Rs (List D)} {its : List D} {σ : En} {S : Sg} {r : List D × Sg} (h : compGo ok as ts el its σ S = some r) : ok S = true := by
  cases its with
  | nil =>
    unfold compGo at h
    split at h
    · assumption
    · cases h
  | cons x xs =>
    unfold compGo at h
    split at h
    · assumption
    · cases h
/-- the new list in the making: nobody holds it -/
structure Mk1 (K : PySem.W.Frag) (ι0 : List Lc) (H0 : Hp) (D : Addr) (ι : List Lc) (S : Sg) (H : Hp) (acc : List Ev.D) : Prop where
  ge : Ge ι0 H0 ι H
  st : StO K ι S H
  nt : (D, true) ∉ ι
  ls : ∃ vs, H D = some (.lst vs) ∧ RelL K ι H acc vs
theorem Mk1.step {K : PySem.W.Frag} {ι0 ι ι' : List Lc} {H0 H H' : Hp} {D : Addr} {S S' : Sg} {acc : List Ev.D} (m : Mk1 K ι0 H0 D ι S H acc) (g : Ge ι H ι' H') (s : StO K ι' S' H') : Mk1 K ι0 H0 D ι' S' H' acc := by
  obtain ⟨vs, h1, h2⟩ := m.ls
  refine ⟨m.ge.trans g, s, fun hm => ?_, vs, g.keep _ _ h1 m.nt, g.relL h2⟩
  obtain ⟨r, e, n⟩ := g.pre
  rw [e] at hm
  rcases List.mem_append.mp hm with hm | hm
  · exact m.nt hm
  · rw [n _ hm] at h1; cases h1
/-- something untracked is written: the list in the making grows -/
theorem Mk1.grow {K : PySem.W.Frag} {ι0 ι : List Lc} {H0 H : Hp} {D : Addr} {S : Sg} {acc : List Ev.D} {d : Ev.D} {v : V} (m : Mk1 K ι0 H0 D ι S H acc) (h0 : H0 D = none) (r : Rel K ι H d v) :
    ∃ vs, H D = some (.lst vs) ∧ acc.length = vs.length ∧ Mk1 K ι0 H0 D ι S (upd H D (.lst (vs ++ [v]))) (acc ++ [d]) := by
  obtain ⟨vs, h1, h2⟩ := m.ls
  have up : Up K ι H ι (upd H D (.lst (vs ++ [v]))) := by
    have nt : ∀ b o u, H b = some (.frz o u) → b ≠ D := fun b o u e z => by rw [z, h1] at e; cases e
    refine ⟨fun _ _ h => h, fun a xs h => ?_, fun a xs h => ?_⟩
    · rcases h with ⟨o, h, hd⟩ | h
      · exact .inl ⟨o, by rw [upd_ne (nt _ _ _ h)]; exact h, hd⟩
      · exact .inr h
    · rcases h with ⟨o, h⟩ | h
      · exact .inl ⟨o, by rw [upd_ne (nt _ _ _ h)]; exact h⟩
      · exact .inr h
  refine ⟨vs, h1, h2.length, ⟨m.ge.pre, fun b o e hn => ?_, fun b xs e => ?_, fun b o u e => ?_, fun b o e => ?_⟩, ⟨m.st.len, m.st.inj, fun l c e => ?_⟩, m.nt, _, upd_same, (RelL.mono up _ _ h2).append (.one (Rel.mono up _ _ r))⟩
  · rw [upd_ne (ne_of_none e h0)]; exact m.ge.keep b o e hn
  · rw [upd_ne (ne_of_none e h0)]; exact m.ge.tups b xs e
  · rw [upd_ne (ne_of_none e h0)]; exact m.ge.frzs b o u e
  · rw [upd_ne (ne_of_none e h0)]; exact m.ge.there b o e
  · obtain ⟨q, e1, k⟩ := m.st.ok l c e
    refine ⟨q, e1, k.mono up fun z => upd_ne fun eq => m.nt ?_⟩
    obtain ⟨qa, qb⟩ := q
    have z' : qb = true := z
    have eq' : qa = D := eq
    subst z' eq'
    exact List.mem_of_getElem? e1
theorem Mk1.start {K : PySem.W.Frag} {ι : List Lc} {H : Hp} {S : Sg} {D : Addr} (s : StO K ι S H) (h : H D = none) : Mk1 K ι H D ι S (upd H D (.lst [])) [] :=
  ⟨Ge.other h, s.other h, s.fresh h, [], upd_same, RelL.nil⟩
variable {ts : En → Sg → Rs Bool} {elt : Expr} {ifs : List Expr} {scope : Scope} {ownp : List (Str × Nat)}
theorem comp_w {K : PySem.W.Frag} {σ : L2.St} {H : Hp} {Q : VK} (hown : ∀ i ∈ own, i ∈ ownp.map (·.2))
    (h : tX K (fun σ S => bnd (fi σ S) fun src S1 => if src.its.length ≤ cap then
      bnd (compGo src.ok as ts (fun σ S => bnd (bnd (f σ S) fun v S' => toD v S') fun y S' => some ([y], S')) src.its (wipeE σ (ownp.map (·.2))) S1) fun ds S2 => some (.l ds, S2)
    else none) σ H Q) : tLc (tI K R fi) (tG K R own as) (tT K ts) (tD K fun σ S => bnd (f σ S) fun v S' => toD v S') (ownp.map (·.2)) σ H Q := by
  obtain ⟨ι, σD, S, x, S', hE, hS, hf, q⟩ := h
  obtain ⟨src, S1, fa, hf1⟩ := bnd_eq hf
  split at hf1
  · rename_i hz
    obtain ⟨ds, S2, fc, hf2⟩ := bnd_eq hf1
    cases hf2
    refine ⟨ι, σD, S, src, S1, hE, hS, fa, fun ι1 H1 J g1 s1 so D hD => ?_⟩
    obtain ⟨G, Y, w, hG, hY⟩ := so.ex
    refine lc_it w (fun i Hv => ∃ ι2 S2 acc ds2, Mk1 K ι1 H1 D ι2 S2 Hv acc ∧ acc.length ≤ i ∧ EnO K ι2 Hv (wipeE σD (ownp.map (·.2))) (L2.wipe σ (ownp.map (·.2))) ∧
      compGo src.ok as ts (fun σ S => bnd (bnd (f σ S) fun v S' => toD v S') fun y S' => some ([y], S')) (src.its.drop i) (wipeE σD (ownp.map (·.2))) S2 = some (ds2, S') ∧ ds = acc ++ ds2) ?_ ?_ ?_ ?_
    · have m := Mk1.start s1 hD
      exact ⟨ι1, S1, [], ds, m, Nat.le_refl _, (g1.trans m.ge).en hE |>.wipe _, by simpa using fc, rfl⟩
    · rintro i Hv _ ⟨ι2, S2, acc, ds2, m, _, _, hq, _⟩
      exact hG ι2 S2 Hv m.ge.q m.st (compGo_ok hq)
    · rintro i x Hv Hw hi ⟨ι2, S2, acc, ds2, m, hl, e2, hq, hds⟩ y
      obtain ⟨d, hd, hdrop⟩ := drop_cons hi
      have hok := compGo_ok hq
      obtain ⟨g3, s3, r3⟩ := hY i Hv x Hw ι2 S2 d y hd m.ge.q m.st hok
      rw [hdrop] at hq
      unfold compGo at hq
      rw [if_pos hok] at hq
      obtain ⟨σ3, S3, fas, hq1⟩ := bnd_eq hq
      obtain ⟨b, S4, fts, hq2⟩ := bnd_eq hq1
      refine ⟨ι2, _, S2, d, σ3, S3, g3.en e2, s3, r3, fas, fun ι4 H4 σ4 g4 s4 e4 w4 => ⟨?_, ι4, σ3, S3, b, S4, e4, s4, fts, fun ι5 H5 g5 s5 => ?_⟩⟩
      · rw [w4 _ hown]
        apply List.ext_getElem?
        intro j
        rw [wipe_get, wipe_get, wipe_length]
        split <;> rfl
      · have G5 := (g3.trans g4).trans g5
        cases b with
        | true =>
          rw [if_pos rfl] at hq2; dsimp only; rw [if_pos rfl]
          obtain ⟨ys, S6, fel, hq3⟩ := bnd_eq hq2
          obtain ⟨zs, S7, fr, hq4⟩ := bnd_eq hq3
          obtain ⟨yv, S8, fy, fel2⟩ := bnd_eq fel
          cases fel2
          cases hq4
          refine ⟨ι5, σ3, S4, yv, S6, g5.en e4, s5, fy, fun ι6 H6 v6 g6 s6 r6 => ?_⟩
          have m6 := m.step (G5.trans g6) s6
          obtain ⟨vs, h1, h2, m7⟩ := m6.grow hD r6
          have hcap : acc.length < cap := by omega
          have e7 := (m7.ge.en (g1.en hE)).wipe (ownp.map (·.2))
          exact ⟨vs, h1, by rw [← h2, ← cap_eq]; exact hcap, ι6, S6, _, zs, m7, by simp; omega, e7, fr, by rw [hds]; simp⟩
        | false =>
          rw [if_neg Bool.false_ne_true] at hq2; dsimp only; rw [if_neg Bool.false_ne_true]
          have m6 := m.step G5 s5
          exact ⟨ι5, S4, acc, ds2, m6, by omega, (m6.ge.en (g1.en hE)).wipe _, hq2, hds⟩
    · rintro Hv ⟨ι2, S2, acc, ds2, m, _, _, hq, hds⟩
      rw [List.drop_of_length_le (Nat.le_refl _)] at hq
      unfold compGo at hq
      split at hq
      · cases hq
        obtain ⟨vs, h1, h2⟩ := m.ls
        rw [List.append_nil] at hds
        subst hds
        refine q ι2 Hv (.ref D) (g1.trans m.ge) m.st ⟨D, vs, rfl, h1, m.nt, h2⟩ fun a e => ?_
        cases e
        cases z : H D with
        | none => rfl
        | some o =>
          obtain ⟨o', e'⟩ := g1.there D o z
          rw [hD] at e'; cases e'
      · cases hq
  · cases hf1
/-- what the block needs -/
structure CmpOk (X : Cx) (R : List Lc → Hp → D → V → Prop) (tg iter elt : Expr) (ifs : List Expr) (scope : Scope) (own : List Nat) (ownp : List (Str × Nat)) (fi : En → Sg → Rs Src) (as : D → En → Sg → Rs En) (ts : En → Sg → Rs Bool) (f : En → Sg → Rs VX) : Prop where
  hc : X.calm = true
  hN : X.N.Nodup
  hi : PI X tg iter (tI X.K R fi)
  ok : BlkOk X.N X.env.scope scope ownp
  hg : ∀ (s : Shared) (H : Hp) (C : Addr) (cl : List (Str × Addr)) (fp : List Addr), PG (X.blk s H scope (compEnvC scope cl C X.env) fp) tg (tG X.K R own as)
  hown : ∀ i ∈ own, i ∈ ownp.map (·.2)
  ht : ∀ (s : Shared) (H : Hp) (C : Addr) (cl : List (Str × Addr)) (fp : List Addr), PTs (X.blk s H scope (compEnvC scope cl C X.env) fp) ifs (tT X.K ts)
  he : ∀ (s : Shared) (H : Hp) (C : Addr) (cl : List (Str × Addr)) (fp : List Addr), PE (X.blk s H scope (compEnvC scope cl C X.env) fp) elt (tD X.K fun σ S => bnd (f σ S) fun v S' => toD v S')
  hs : ∀ x, foldedSetIterable iter X.env x = pure x
theorem px_comp (k : CmpOk X R tg iter elt ifs scope own ownp fi as ts f) :
    PE X (.ListComp elt [⟨tg, iter, ifs, 0⟩] scope pos) (tX X.K fun σ S => bnd (fi σ S) fun src S1 => if src.its.length ≤ cap then
      bnd (compGo src.ok as ts (fun σ S => bnd (bnd (f σ S) fun v S' => toD v S') fun y S' => some ([y], S')) src.its (wipeE σ (ownp.map (·.2))) S1) fun ds S2 => some (.l ds, S2)
    else none) :=
  L2PEw (pe_lc k.hc k.hN k.hi k.ok k.hg k.ht k.he k.hs) fun σ H Q h => comp_w k.hown h
theorem set_w {K : PySem.W.Frag} {te : TE} {i : Nat} {D : Ends} {σ : L2.St} {H : Hp} (hw : ∀ σ H Q, tX K f σ H Q → te σ H Q) (h : tS K (fun σ S => bnd (f σ S) fun v S1 => bnd (toD v S1) fun y S2 => some ((.nx, σ.set i (some y)), S2)) D σ H) : tAsg te (gName i) D σ H := by
  obtain ⟨ι, σD, S, pr, S', hE, hS, hf, q⟩ := h
  obtain ⟨v, S1, fa, hf1⟩ := bnd_eq hf
  obtain ⟨y, S2, fb, hf2⟩ := bnd_eq hf1
  cases hf2
  exact hw σ H _ (tD_tX ⟨ι, σD, S, y, _, hE, hS, by show bnd (f σD S) _ = _; rw [fa]; exact fb, fun ι1 H1 v1 g1 s1 r1 => q ι1 H1 _ g1 s1 ((g1.en hE).set i r1)⟩)
theorem ps_compX {i : Nat} {px spos : Pos} (k : CmpOk X R tg iter elt ifs scope own ownp fi as ts f) (hi : X.N[i]? = some x) (hx : X.env.scope.names.lookup x = some .local)
    (hsw : swapsWith (.ListComp elt [⟨tg, iter, ifs, 0⟩] scope pos) (some (.Name x px)) spos.line X.env = pure true) :
    PS X (.Assign [.Name x px] (.ListComp elt [⟨tg, iter, ifs, 0⟩] scope pos) spos) (tS X.K fun σ S => bnd (bnd (fi σ S) fun src S1 => if src.its.length ≤ cap then
      bnd (compGo src.ok as ts (fun σ S => bnd (bnd (f σ S) fun v S' => toD v S') fun y S' => some ([y], S')) src.its (wipeE σ (ownp.map (·.2))) S1) fun ds S2 => some (.l ds, S2)
    else none) fun v S1 => bnd (toD v S1) fun y S2 => some ((.nx, σ.set i (some y)), S2)) :=
  L2PSw (ps_setLc k.hc k.hN hi hx hsw k.hi k.ok k.hg k.ht k.he k.hs) fun D σ H h => set_w (fun σ H Q h => comp_w k.hown h) h
theorem Mk1.en {K : PySem.W.Frag} {ι0 ι : List Lc} {H0 H : Hp} {D : Addr} {S : Sg} {acc : List Ev.D} (m : Mk1 K ι0 H0 D ι S H acc) {w : HO} (hw : ∃ vs, w = .lst vs) {σD : En} {σ : L2.St} (e : EnO K ι H σD σ) : EnO K ι (upd H D w) σD σ := by
  obtain ⟨vs, h1, h2⟩ := m.ls
  obtain ⟨ws, rfl⟩ := hw
  have nt : ∀ b o u, H b = some (.frz o u) → b ≠ D := fun b o u e z => by rw [z, h1] at e; cases e
  have up : Up K ι H ι (upd H D (.lst ws)) := by
    refine ⟨fun _ _ h => h, fun a xs h => ?_, fun a xs h => ?_⟩
    · rcases h with ⟨o, h, hd⟩ | h
      · exact .inl ⟨o, by rw [upd_ne (nt _ _ _ h)]; exact h, hd⟩
      · exact .inr h
    · rcases h with ⟨o, h⟩ | h
      · exact .inl ⟨o, by rw [upd_ne (nt _ _ _ h)]; exact h⟩
      · exact .inr h
  exact ⟨e.1, fun i d q => let ⟨v, a, b⟩ := e.2 i d q; ⟨v, a, Rel.mono up _ _ b⟩⟩
theorem walk_gen {J : L2.It} {n : Nat} {G : Hp → Prop} {Y : Nat → Hp → V → Hp → Prop} (w : Walk J n G Y) {H1 : Hp} {Qd : Hp → Prop} {B : (Hp → Prop) → V → Hp → Prop} (Pv : Nat → Hp → Prop) (h0 : Pv 0 H1) (hG : ∀ i H, i ≤ n → Pv i H → G H)
    (hs : ∀ i x H H', i < n → Pv i H → Y i H x H' → B (Pv (i + 1)) x H') (hd : ∀ H, Pv n H → Qd H) :
    ∃ W : Nat → Nat → Hp → Prop, (∃ m, W 0 m H1) ∧ ∀ i m H, W i m H → (J.stop i H ∧ Qd H) ∨ (J.go i H ∧ ∃ Nx : Hp → Prop, (∀ H', Nx H' → ∃ m', m' < m ∧ W (i + 1) m' H') ∧ ∀ x H', J.yld i H x H' → B Nx x H') := by
  refine ⟨fun i m H => m = n - i ∧ i ≤ n ∧ Pv i H, ⟨n, by simp, Nat.zero_le _, h0⟩, ?_⟩
  rintro i m H ⟨rfl, hi, p⟩
  have q := hG i H hi p
  by_cases hlt : i < n
  · refine .inr ⟨w.goes i H hlt q, Pv (i + 1), fun H' p' => ⟨n - (i + 1), by omega, rfl, hlt, p'⟩, fun x H' y => hs i x H H' hlt p (w.yields i H x H' hlt q y)⟩
  · have e : i = n := by omega
    subst e
    exact .inl ⟨w.stops H q, hd H p⟩
variable {tg1 iter1 : Expr} {ifs1 : List Expr} {R1 : List Lc → Hp → D → V → Prop} {fi1 : En → Sg → Rs Src} {as1 : D → En → Sg → Rs En} {ts1 : En → Sg → Rs Bool} {own1 vs1 : List Nat}
abbrev elD (f : En → Sg → Rs VX) : En → Sg → Rs (List D) := fun σ S => bnd (bnd (f σ S) fun v S' => toD v S') fun y S' => some ([y], S')
abbrev inGo (fi1 : En → Sg → Rs Src) (as1 : D → En → Sg → Rs En) (ts1 : En → Sg → Rs Bool) (f : En → Sg → Rs VX) (vs1 : List Nat) : En → Sg → Rs (List D) := fun σ' S' => bnd (fi1 σ' S') fun src2 S2 => compGo src2.ok as1 ts1 (elD f) src2.its (wipeE σ' vs1) S2
theorem wipe_wipe {σ σ4 : L2.St} {vs : List Nat} (w : wipe σ4 vs = wipe (wipe σ vs) vs) : wipe σ4 vs = wipe σ vs := by
  rw [w]
  apply List.ext_getElem?
  intro j
  rw [wipe_get, wipe_get, wipe_length]
  split <;> rfl
theorem comp2_w {K : PySem.W.Frag} {σ : L2.St} {H : Hp} {Q : VK} {vs0 : List Nat} (hown : ∀ i ∈ own, i ∈ vs0) (hown1 : ∀ i ∈ own1, i ∈ vs1)
    (h : tX K (fun σ S => bnd (fi σ S) fun src S1 => bnd (compGo src.ok as ts (inGo fi1 as1 ts1 f vs1) src.its (wipeE σ vs0) S1) fun ds S2 => if ds.length ≤ cap then some (.l ds, S2) else none) σ H Q) :
    tLc2 (tI K R fi) (tG K R own as) (tT K ts) (tI K R1 fi1) (tG K R1 own1 as1) (tT K ts1) (tD K fun σ S => bnd (f σ S) fun v S' => toD v S') vs0 vs1 σ H Q := by
  obtain ⟨ι, σD, S, x, S', hE, hS, hf, q⟩ := h
  obtain ⟨src, S1, fa, hf1⟩ := bnd_eq hf
  obtain ⟨ds, S2, fc, hf2⟩ := bnd_eq hf1
  split at hf2
  · rename_i hz
    cases hf2
    refine ⟨ι, σD, S, src, S1, hE, hS, fa, fun ι1 H1 J g1 s1 so D hD => ?_⟩
    obtain ⟨G, Y, w, hG, hY⟩ := so.ex
    refine walk_gen w (fun i Hv => ∃ ι2 S2 acc ds2, Mk1 K ι1 H1 D ι2 S2 Hv acc ∧ EnO K ι2 Hv (wipeE σD vs0) (L2.wipe σ vs0) ∧
      compGo src.ok as ts (inGo fi1 as1 ts1 f vs1) (src.its.drop i) (wipeE σD vs0) S2 = some (ds2, S') ∧ ds = acc ++ ds2) ?_ ?_ ?_ ?_
    · have m := Mk1.start s1 hD
      exact ⟨ι1, S1, [], ds, m, (g1.trans m.ge).en hE |>.wipe _, by simpa using fc, rfl⟩
    · rintro i Hv _ ⟨ι2, S2, acc, ds2, m, _, hq, _⟩
      exact hG ι2 S2 Hv m.ge.q m.st (compGo_ok hq)
    · rintro i x Hv Hw hi ⟨ι2, S2, acc, ds2, m, e2, hq, hds⟩ y
      obtain ⟨d, hd, hdrop⟩ := drop_cons hi
      have hok := compGo_ok hq
      obtain ⟨g3, s3, r3⟩ := hY i Hv x Hw ι2 S2 d y hd m.ge.q m.st hok
      rw [hdrop] at hq
      unfold compGo at hq
      rw [if_pos hok] at hq
      obtain ⟨σ3, S3, fas, hq1⟩ := bnd_eq hq
      obtain ⟨b, S4, fts, hq2⟩ := bnd_eq hq1
      refine ⟨ι2, _, S2, d, σ3, S3, g3.en e2, s3, r3, fas, fun ι4 H4 σ4 g4 s4 e4 w4 => ⟨wipe_wipe (w4 _ hown), ι4, σ3, S3, b, S4, e4, s4, fts, fun ι5 H5 g5 s5 => ?_⟩⟩
      have G5 := (g3.trans g4).trans g5
      have m5 := m.step G5 s5
      cases b with
      | true =>
        rw [if_pos rfl] at hq2; dsimp only; rw [if_pos rfl]
        obtain ⟨ys, S6, fel, hq3⟩ := bnd_eq hq2
        obtain ⟨zs, S7, fr, hq4⟩ := bnd_eq hq3
        obtain ⟨src2, S8, fi2, fgo⟩ := bnd_eq fel
        cases hq4
        refine ⟨ι5, σ3, S4, src2, S8, g5.en e4, s5, fi2, fun ι6 H6 J1 g6 s6 so1 => ?_⟩
        obtain ⟨G1, Y1, w1, hG1, hY1⟩ := so1.ex
        have m6 := m5.step g6 s6
        obtain ⟨us5, hus5, _⟩ := m5.ls
        obtain ⟨us6, hus6, _⟩ := m6.ls
        refine walk_gen w1 (fun j Hv => ∃ ι7 S7' acc7 ds7, Mk1 K ι1 H1 D ι7 S7' Hv acc7 ∧ Gq H5 ι6 H6 ι7 Hv ∧ EnO K ι7 Hv (wipeE σ3 vs1) (L2.wipe σ4 vs1) ∧
          compGo src2.ok as1 ts1 (elD f) (src2.its.drop j) (wipeE σ3 vs1) S7' = some (ds7, S6) ∧ acc ++ ys = acc7 ++ ds7) ?_ ?_ ?_ ?_
        · exact ⟨ι6, S8, acc, ys, m6, Ge.refl.q, (g6.en (g5.en e4)).wipe _, by simpa using fgo, rfl⟩
        · rintro j Hx _ ⟨ι7, S7', acc7, ds7, m7, q7, _, hr, _⟩
          exact hG1 ι7 S7' Hx q7 m7.st (compGo_ok hr)
        · rintro j x1 Hx Hy hj ⟨ι7, S7', acc7, ds7, m7, q7, e7, hr, hds7⟩ y1
          obtain ⟨d1, hd1, hdrop1⟩ := drop_cons hj
          have hok1 := compGo_ok hr
          obtain ⟨g8, s8, r8⟩ := hY1 j Hx x1 Hy ι7 S7' d1 y1 hd1 q7 m7.st hok1
          rw [hdrop1] at hr
          unfold compGo at hr
          rw [if_pos hok1] at hr
          obtain ⟨σ9, S9, fas1, hr1⟩ := bnd_eq hr
          obtain ⟨b1, S10, fts1, hr2⟩ := bnd_eq hr1
          refine ⟨ι7, _, S7', d1, σ9, S9, g8.en e7, s8, r8, fas1, fun ι10 H10 σ10 g10 s10 e10 w10 => ⟨wipe_wipe (w10 _ hown1), ι10, σ9, S9, b1, S10, e10, s10, fts1, fun ι11 H11 g11 s11 => ?_⟩⟩
          have G11 := (g8.trans g10).trans g11
          cases b1 with
          | true =>
            rw [if_pos rfl] at hr2; dsimp only; rw [if_pos rfl]
            obtain ⟨ws, S12, fel1, hr3⟩ := bnd_eq hr2
            obtain ⟨zs1, S13, fr1, hr4⟩ := bnd_eq hr3
            obtain ⟨yv, S14, fy, fel2⟩ := bnd_eq fel1
            cases fel2
            cases hr4
            refine ⟨ι11, σ9, S10, yv, S12, g11.en e10, s11, fy, fun ι12 H12 v12 g12 s12 r12 => ?_⟩
            have m12 := m7.step (G11.trans g12) s12
            have e12 := (G11.trans g12).en e7
            obtain ⟨vs, h1, h2, m13⟩ := m12.grow hD r12
            have hcap : acc7.length < cap := by
              have z1 : ds.length = (acc ++ ys ++ zs).length := by rw [hds, List.append_assoc]
              rw [hds7] at z1
              simp only [List.length_append, List.length_cons] at z1
              omega
            exact ⟨vs, h1, by rw [← h2, ← cap_eq]; exact hcap, ι12, S12, _, zs1, m13, (q7.trans (G11.trans g12)).grow hus5 hus6, m12.en ⟨_, rfl⟩ e12, fr1, by rw [hds7]; simp⟩
          | false =>
            rw [if_neg Bool.false_ne_true] at hr2; dsimp only; rw [if_neg Bool.false_ne_true]
            exact ⟨ι11, S10, acc7, ds7, m7.step G11 s11, q7.trans G11, G11.en e7, hr2, hds7⟩
        · rintro Hx ⟨ι7, S7', acc7, ds7, m7, q7, e7, hr, hds7⟩
          rw [List.drop_of_length_le (Nat.le_refl _)] at hr
          unfold compGo at hr
          split at hr
          · cases hr
            rw [List.append_nil] at hds7
            subst hds7
            exact ⟨ι7, _, _, zs, m7, (m7.ge.en (g1.en hE)).wipe _, fr, by rw [hds, List.append_assoc]⟩
          · cases hr
      | false =>
        rw [if_neg Bool.false_ne_true] at hq2; dsimp only; rw [if_neg Bool.false_ne_true]
        exact ⟨ι5, S4, acc, ds2, m5, (m5.ge.en (g1.en hE)).wipe _, hq2, hds⟩
    · rintro Hv ⟨ι2, S2, acc, ds2, m, _, hq, hds⟩
      rw [List.drop_of_length_le (Nat.le_refl _)] at hq
      unfold compGo at hq
      split at hq
      · cases hq
        obtain ⟨vs, h1, h2⟩ := m.ls
        rw [List.append_nil] at hds
        subst hds
        refine q ι2 Hv (.ref D) (g1.trans m.ge) m.st ⟨D, vs, rfl, h1, m.nt, h2⟩ fun a e => ?_
        cases e
        cases z : H D with
        | none => rfl
        | some o =>
          obtain ⟨o', e'⟩ := g1.there D o z
          rw [hD] at e'; cases e'
      · cases hq
  · cases hf2
structure Cmp2Ok (X : Cx) (R R1 : List Lc → Hp → D → V → Prop) (tg iter tg1 iter1 elt : Expr) (ifs ifs1 : List Expr) (scope : Scope) (own own1 vs1 : List Nat) (ownp : List (Str × Nat)) (fi fi1 : En → Sg → Rs Src) (as as1 : D → En → Sg → Rs En) (ts ts1 : En → Sg → Rs Bool) (f : En → Sg → Rs VX) : Prop where
  one : CmpOk X R tg iter elt ifs scope own ownp fi as ts f
  hv : ∀ i ∈ vs1, i ∈ ownp.map (·.2)
  hi1 : ∀ (s : Shared) (H : Hp) (C : Addr) (cl : List (Str × Addr)) (fp : List Addr), PI (X.blk s H scope (compEnvC scope cl C X.env) fp) tg1 iter1 (tI X.K R1 fi1)
  hg1 : ∀ (s : Shared) (H : Hp) (C : Addr) (cl : List (Str × Addr)) (fp : List Addr), PG (X.blk s H scope (compEnvC scope cl C X.env) fp) tg1 (tG X.K R1 own1 as1)
  ht1 : ∀ (s : Shared) (H : Hp) (C : Addr) (cl : List (Str × Addr)) (fp : List Addr), PTs (X.blk s H scope (compEnvC scope cl C X.env) fp) ifs1 (tT X.K ts1)
  hown1 : ∀ i ∈ own1, i ∈ vs1
  hs1 : ∀ env x, foldedSetIterable iter1 env x = pure x
theorem px_comp2 (k : Cmp2Ok X R R1 tg iter tg1 iter1 elt ifs ifs1 scope own own1 vs1 ownp fi fi1 as as1 ts ts1 f) :
    PE X (.ListComp elt [⟨tg, iter, ifs, 0⟩, ⟨tg1, iter1, ifs1, 0⟩] scope pos) (tX X.K fun σ S => bnd (fi σ S) fun src S1 => bnd (compGo src.ok as ts (inGo fi1 as1 ts1 f vs1) src.its (wipeE σ (ownp.map (·.2))) S1) fun ds S2 => if ds.length ≤ cap then some (.l ds, S2) else none) :=
  L2PEw (pe_lc2 k.one.hc k.one.hN k.one.hi k.one.ok k.hv k.one.hg k.one.ht k.hi1 k.hg1 k.ht1 k.one.he k.one.hs k.hs1) fun σ H Q h => comp2_w k.one.hown k.hown1 h
theorem ps_comp2X {i : Nat} {px spos : Pos} (k : Cmp2Ok X R R1 tg iter tg1 iter1 elt ifs ifs1 scope own own1 vs1 ownp fi fi1 as as1 ts ts1 f) (hi : X.N[i]? = some x) (hx : X.env.scope.names.lookup x = some .local)
    (hsw : swapsWith (.ListComp elt [⟨tg, iter, ifs, 0⟩, ⟨tg1, iter1, ifs1, 0⟩] scope pos) (some (.Name x px)) spos.line X.env = pure true) :
    PS X (.Assign [.Name x px] (.ListComp elt [⟨tg, iter, ifs, 0⟩, ⟨tg1, iter1, ifs1, 0⟩] scope pos) spos) (tS X.K fun σ S => bnd (bnd (fi σ S) fun src S1 => bnd (compGo src.ok as ts (inGo fi1 as1 ts1 f vs1) src.its (wipeE σ (ownp.map (·.2))) S1) fun ds S2 => if ds.length ≤ cap then some (.l ds, S2) else none) fun v S1 => bnd (toD v S1) fun y S2 => some ((.nx, σ.set i (some y)), S2)) :=
  L2PSw (ps_setLc2 k.one.hc k.one.hN hi hx hsw k.one.hi k.one.ok k.hv k.one.hg k.one.ht k.hi1 k.hg1 k.ht1 k.one.he k.one.hs k.hs1) fun D σ H h => set_w (fun σ H Q h => comp2_w k.one.hown k.hown1 h) h
end
end Ev

namespace Ev
open PySem PySem.Spec PyProof.Rows L2
/-- a def that may be called: its name, its place, its parameters, the keywords it is called by -/
structure Fe where
  x : Str
  ix : Nat
  ps : List Str
  kws : List (Nat × List Str × List Nat)
structure Cf where
  N : List Str
  fns : List Fe
  con : List (Str × D)
  blt : List Str
def opP : Bop → Operator
  | .add => .Add | .sub => .Sub | .mul => .Mult | .fdiv => .FloorDiv | .mod => .Mod | .pow => .Pow
def coP : Cop → CmpOp
  | .lt => .Lt | .le => .LtE | .gt => .Gt | .ge => .GtE | .eq => .Eq | .ne => .NotEq | .is => .Is | .isn => .IsNot | .isin => .In | .notin => .NotIn
def vis (sc : Scope) (x : Str) : Bool := match sc.names.lookup x with
  | some .local => true
  | some .cell => true
  | some .free => true
  | _ => false
def lcl (sc : Scope) (x : Str) : Bool := decide (sc.names.lookup x = some .local)
def cel (sc : Scope) (x : Str) : Bool := decide (sc.names.lookup x = some .cell)
def glb (sc : Scope) (x : Str) : Bool := decide (sc.names.lookup x = some .globalImplicit)
def nmOk (x : Str) : Bool := decide ((x == ("__debug__" : Str)) = false ∧ (x == ("__classdict__" : Str)) = false ∧ x ≠ "__name__")
def noStar : Expr → Bool
  | .Starred .. => false
  | _ => true
def notSet : Expr → Bool
  | .Set .. => false
  | _ => true
def notComp : Expr → Bool
  | .ListComp .. => false
  | .SetComp .. => false
  | .DictComp .. => false
  | _ => true
def notSlice : Expr → Bool
  | .Slice .. => false
  | _ => true
def notCall0 : Expr → Bool
  | .Call (.Name _ _) [] [] _ => false
  | _ => true
def isTupE : Expr → Bool
  | .Tuple .. => true
  | _ => false
def chC : Const → D → Bool
  | .none, .non => true
  | .bool a, .bl b => decide (a = b)
  | .int a, .int b => decide (a = b)
  | .str a, .str b => decide (a = b)
  | _, _ => false
def b1N : Bi1 → String
  | .len => "len" | .tuple => "tuple" | .list => "list" | .all => "all" | .any => "any" | .sum => "sum" | .abs => "abs" | .int => "int"
def b2N : Bi2 → String
  | .min => "min" | .max => "max" | .divmod => "divmod"
mutual
def tgOwn : Tg → List Nat
  | .name i => [i]
  | .tup ts => tgsOwn ts
  | .sub _ _ => []
def tgsOwn : List Tg → List Nat
  | [] => []
  | t :: ts => tgOwn t ++ tgsOwn ts
end
def chTy (sc : Scope) (blt : List Str) : List Expr → List Ty → Bool
  | [], [] => true
  | .Name x _ :: es, t :: ts => decide (x = Str.ofString (tyS t)) && glb sc x && blt.contains x && chTy sc blt es ts
  | _, _ => false
/-- the block of a comprehension -/
def blkB (N : List Str) (sc scope : Scope) (own : List (Str × Nat)) : Bool :=
  decide (scope.kind = .function) && scope.names.all (fun y => decide (scope.names.lookup y.1 = some y.2)) && own.all (fun p => decide (N[p.2]? = some p.1))
    && scope.names.all (fun y => match y.2 with
      | .free => decide (sc.names.lookup y.1 = some .cell) || decide (sc.names.lookup y.1 = some .free)
      | .local => (own.map (·.1)).contains y.1 || !(N.contains y.1)
      | .cell => (own.map (·.1)).contains y.1 || !(N.contains y.1)
      | _ => true)
def ownP (N : List Str) (own : List Nat) : List (Str × Nat) := own.map fun i => (N.getD i "", i)
def blkFn (scope : Scope) : Str → Bool := fun x => scope.names.lookup x == some .cell

structure Ck where
  e : Scope → (Str → Bool) → Expr → Ex → Bool
  t : Scope → (Str → Bool) → Expr → Ex → Bool
  l : Scope → (Str → Bool) → List Expr → List Ex → Bool
  xs : Scope → (Str → Bool) → List Expr → List Ex → Bool
  o : Scope → (Str → Bool) → Option Expr → Option Ex → Bool
  ts : Scope → (Str → Bool) → List Expr → List Ex → Bool
  k : Scope → (Str → Bool) → List Keyword → List Ex → Bool
  i : Scope → (Str → Bool) → Expr → Expr → It → Bool
  g : Scope → (Str → Bool) → Expr → Tg → Bool
  gs : Scope → (Str → Bool) → List Expr → List Tg → Bool
section
variable (C : Cf)
def bltOk (sc : Scope) (x : Str) (s : String) : Bool := decide (x = Str.ofString s) && glb sc x && C.blt.contains x
def fnAt (sc : Scope) (x : Str) (f : Nat) : Option Fe := if glb sc x && nmOk x then C.fns.find? (fun g => decide (g.x = x) && decide (g.ix = f)) else none
def stE (k : Ck) (sc : Scope) (fn : Str → Bool) (e : Expr) (t : Ex) : Bool :=
  match e with
  | .BoolOp _ [y] _ => k.e sc fn y t
  | _ => match t with
    | .var i => match e with
      | .Name x _ => decide (C.N[i]? = some x) && vis sc x
      | _ => false
    | .con c => match e with
      | .Constant k _ _ => chC k c
      | _ => false
    | .glo y c => match e with
      | .Name x _ => decide (x = y) && glb sc x && nmOk x && decide (C.con.lookup x = some c)
      | _ => false
    | .bin o a b => match e with
      | .BinOp l op r _ => decide (op = opP o) && k.e sc fn l a && k.e sc fn r b
      | _ => false
    | .neg a => match e with
      | .UnaryOp .USub l _ => k.e sc fn l a
      | _ => false
    | .not a => match e with
      | .UnaryOp .Not l _ => k.e sc fn l a
      | _ => false
    | .and a b => match e with
      | .BoolOp .And (x :: y :: r) p => k.e sc fn x a && k.e sc fn (.BoolOp .And (y :: r) p) b
      | _ => false
    | .or a b => match e with
      | .BoolOp .Or (x :: y :: r) p => k.e sc fn x a && k.e sc fn (.BoolOp .Or (y :: r) p) b
      | _ => false
    | .cmp o a b => match e with
      | .Compare l [op] [r] _ => decide (op = coP o) && notSet r && k.e sc fn l a && k.e sc fn r b
      | _ => false
    | .chn o o2 a b c => match e with
      | .Compare l [op, op2] [m, r] _ => decide (op = coP o) && decide (op2 = coP o2) && notSet r && k.e sc fn l a && k.e sc fn m b && k.e sc fn r c
      | _ => false
    | .ite c a b => match e with
      | .IfExp t l r _ => k.t sc fn t c && k.e sc fn l a && k.e sc fn r b
      | _ => false
    | .tup as => match e with
      | .Tuple es _ _ => k.l sc fn es as
      | _ => false
    | .lst as => match e with
      | .List es _ => k.l sc fn es as
      | _ => false
    | .idx a b => match e with
      | .Subscript l r _ => notSlice r && k.e sc fn l a && k.e sc fn r b
      | _ => false
    | .sli a lo hi => match e with
      | .Subscript l (.Slice u v none _) _ => k.e sc fn l a && k.o sc fn u lo && k.o sc fn v hi
      | _ => false
    | .rev a => match e with
      | .Subscript l (.Slice none none (some (.UnaryOp .USub (.Constant (.int 1) _ _) _)) _) _ => k.e sc fn l a
      | _ => false
    | .call f as => match e with
      | .Call (.Name x _) (y :: es) [] _ => (fnAt C sc x f).isSome && k.l sc fn (y :: es) as
      | _ => false
    | .callk f as ks perm => match e with
      | .Call (.Name x _) es kws _ => match fnAt C sc x f with
        | some g => (g.kws.any fun s => decide (s = (as.length, (kws.filterMap fun k => k.arg), perm))) && decide (kws.map (fun k => k.arg) = (kws.filterMap fun k => k.arg).map some) && k.l sc fn es as && k.k sc fn kws ks && decide (ks.length = kws.length)
        | none => false
      | _ => false
    | .b1 f a => match e with
      | .Call (.Name x _) [y] [] _ => bltOk C sc x (b1N f) && noStar y && k.e sc fn y a
      | _ => false
    | .b2 f a b => match e with
      | .Call (.Name x _) [y, z] [] _ => bltOk C sc x (b2N f) && noStar y && noStar z && k.e sc fn y a && k.e sc fn z b
      | _ => false
    | .rngT as => match e with
      | .Call (.Name x _) [.Call (.Name r _) [a] [] _] [] _ => bltOk C sc x "tuple" && bltOk C sc r "range" && noStar a && k.xs sc fn [a] as
      | .Call (.Name x _) [.Call (.Name r _) [a, b] [] _] [] _ => bltOk C sc x "tuple" && bltOk C sc r "range" && noStar a && noStar b && k.xs sc fn [a, b] as
      | _ => false
    | .rngL as => match e with
      | .Call (.Name x _) [.Call (.Name r _) [a] [] _] [] _ => bltOk C sc x "list" && bltOk C sc r "range" && noStar a && k.xs sc fn [a] as
      | .Call (.Name x _) [.Call (.Name r _) [a, b] [] _] [] _ => bltOk C sc x "list" && bltOk C sc r "range" && noStar a && noStar b && k.xs sc fn [a, b] as
      | _ => false
    | .isi a ts => match e with
      | .Call (.Name x _) [y, .Name nx q] [] _ => bltOk C sc x "isinstance" && noStar y && k.e sc fn y a && chTy sc C.blt [.Name nx q] ts
      | .Call (.Name x _) [y, .Tuple es _ _] [] _ => bltOk C sc x "isinstance" && noStar y && k.e sc fn y a && decide (ts.length ≤ cap) && chTy sc C.blt es ts
      | _ => false
    | .mt m o as => match e with
      | .Call (.Attribute l nm apos) [] [] cpos => decide (nm = mtN m) && notCall0 l && (apos.endLine == cpos.line) && k.e sc fn l o && as.isEmpty
      | .Call (.Attribute l nm apos) (y :: es) [] cpos => decide (nm = mtN m) && notCall0 l && (apos.endLine == cpos.line) && k.e sc fn l o && k.xs sc fn (y :: es) as && decide ((y :: es).length < 30)
      | _ => false
    | .comp elt tg it cs own => match e with
      | .ListComp el [⟨g, iter, ifs, ia⟩] scope _ => decide (ia = 0) && blkB C.N sc scope (ownP C.N own) && k.i sc fn g iter it && (tgOwn tg).all (own.contains ·) && k.g (relS scope sc) (blkFn scope) g tg && k.ts (relS scope sc) (blkFn scope) ifs cs && k.e (relS scope sc) (blkFn scope) el elt
      | _ => false
    | .comp2 elt tg it cs tg2 it2 cs2 own own2 => match e with
      | .ListComp el [⟨g, iter, ifs, ia⟩, ⟨g2, iter2, ifs2, ia2⟩] scope _ => decide (ia = 0) && decide (ia2 = 0) && blkB C.N sc scope (ownP C.N own) && k.i sc fn g iter it && (tgOwn tg).all (own.contains ·) && k.g (relS scope sc) (blkFn scope) g tg && k.ts (relS scope sc) (blkFn scope) ifs cs && k.e (relS scope sc) (blkFn scope) el elt
          && own2.all (own.contains ·) && k.i (relS scope sc) (blkFn scope) g2 iter2 it2 && (tgOwn tg2).all (own2.contains ·) && k.g (relS scope sc) (blkFn scope) g2 tg2 && k.ts (relS scope sc) (blkFn scope) ifs2 cs2
      | _ => false
def stT (k : Ck) (sc : Scope) (fn : Str → Bool) (e : Expr) (t : Ex) : Bool :=
  match e with
    | .BoolOp .And [y] _ => k.t sc fn y t
    | .BoolOp .Or [y] _ => k.t sc fn y t
    | .BoolOp .And (x :: y :: r) p => match t with
      | .and a b => k.t sc fn x a && k.t sc fn (.BoolOp .And (y :: r) p) b
      | _ => false
    | .BoolOp .Or (x :: y :: r) p => match t with
      | .or a b => k.t sc fn x a && k.t sc fn (.BoolOp .Or (y :: r) p) b
      | _ => false
    | .UnaryOp .Not l _ => match t with
      | .not a => k.t sc fn l a
      | _ => false
    | .Compare l [op] [r] _ => match t with
      | .cmp o a b => decide (op = coP o) && notSet r && k.e sc fn l a && k.e sc fn r b
      | _ => false
    | .Compare l [op, op2] [m, r] _ => match t with
      | .chn o o2 a b c => decide (op = coP o) && decide (op2 = coP o2) && notSet r && k.e sc fn l a && k.e sc fn m b && k.e sc fn r c
      | _ => false
    | .Name x p => match t with
      | .var i => k.e sc fn (.Name x p) (.var i)
      | _ => false
    | .Call a b c d => match t with
      | .call f as => k.e sc fn (.Call a b c d) (.call f as)
      | .b1 f x => k.e sc fn (.Call a b c d) (.b1 f x)
      | .isi x ts => k.e sc fn (.Call a b c d) (.isi x ts)
      | _ => false
    | .Subscript a b c => match t with
      | .idx x y => k.e sc fn (.Subscript a b c) (.idx x y)
      | _ => false
    | _ => false
def stL (k : Ck) (sc : Scope) (fn : Str → Bool) (es : List Expr) (ts : List Ex) : Bool := match es, ts with
  | [], [] => true
  | e :: es, t :: ts => noStar e && k.e sc fn e t && k.l sc fn es ts
  | _, _ => false
def stXs (k : Ck) (sc : Scope) (fn : Str → Bool) (es : List Expr) (ts : List Ex) : Bool := match es, ts with
  | [], [] => true
  | e :: es, t :: ts => noStar e && k.e sc fn e t && k.xs sc fn es ts
  | _, _ => false
def stO (k : Ck) (sc : Scope) (fn : Str → Bool) (es : Option Expr) (ts : Option Ex) : Bool := match es, ts with
  | none, none => true
  | some e, some t => k.e sc fn e t
  | _, _ => false
def stTs (k : Ck) (sc : Scope) (fn : Str → Bool) (es : List Expr) (ts : List Ex) : Bool := match es, ts with
  | [], [] => true
  | [e], [t] => k.t sc fn e t
  | _, _ => false
def stK (k : Ck) (sc : Scope) (fn : Str → Bool) (es : List Keyword) (ts : List Ex) : Bool := match es, ts with
  | [], [] => true
  | ⟨_, e, _⟩ :: es, t :: ts => k.e sc fn e t && k.k sc fn es ts
  | _, _ => false
def stI (k : Ck) (sc : Scope) (fn : Str → Bool) (g e : Expr) (t : It) : Bool :=
  notSet e && match t with
    | .seq a => k.e sc fn e a
    | .rng as => match e with
      | .Call (.Name x _) [a] [] _ => bltOk C sc x "range" && noStar a && k.xs sc fn [a] as
      | .Call (.Name x _) [a, b] [] _ => bltOk C sc x "range" && noStar a && noStar b && k.xs sc fn [a, b] as
      | .Call (.Name x _) [a, b, c] [] _ => bltOk C sc x "range" && noStar a && noStar b && noStar c && k.xs sc fn [a, b, c] as
      | _ => false
    | .enm a => match e with
      | .Call (.Name x _) [y] [] _ => isTupE g && bltOk C sc x "enumerate" && noStar y && k.e sc fn y a
      | _ => false
    | .zip a b => false
def stG (k : Ck) (sc : Scope) (fn : Str → Bool) (e : Expr) (t : Tg) : Bool :=
  match t with
    | .name i => match e with
      | .Name x _ => decide (C.N[i]? = some x) && (lcl sc x || (cel sc x && fn x))
      | _ => false
    | .tup ts => match e with
      | .Tuple es _ _ => k.gs sc fn es ts
      | _ => false
    | .sub o i => match e with
      | .Subscript a b _ => k.e sc fn a o && k.e sc fn b i && notSlice b
      | _ => false
def stGs (k : Ck) (sc : Scope) (fn : Str → Bool) (es : List Expr) (ts : List Tg) : Bool := match es, ts with
  | [], [] => true
  | e :: es, t :: ts => noStar e && k.g sc fn e t && k.gs sc fn es ts
  | _, _ => false
def ck : Nat → Ck
  | 0 => ⟨fun _ _ _ _ => false, fun _ _ _ _ => false, fun _ _ _ _ => false, fun _ _ _ _ => false, fun _ _ _ _ => false, fun _ _ _ _ => false, fun _ _ _ _ => false, fun _ _ _ _ _ => false, fun _ _ _ _ => false, fun _ _ _ _ => false⟩
  | n + 1 => ⟨stE C (ck n), stT (ck n), stL (ck n), stXs (ck n), stO (ck n), stTs (ck n), stK (ck n), stI C (ck n), stG C (ck n), stGs (ck n)⟩
end
end Ev

namespace Ev
open PySem PySem.Spec PyProof.Rows L2
section
variable {C : Cf} {cs : Nat → List D → Sg → Rs VX} {X : Cx} {sc : Scope} {fn : Str → Bool} {n : Nat}
/-- a def stands ready -/
structure FeOk (X : Cx) (g : Fe) (m : Fsem) : Prop where
  ok : ∃ (k : Nat) (fa : Addr) (fd : FuncData), FnOk X.prog X.w X.K X.mg X.base CX0 k fa fd g.ps (spF X.K m) ∧ Room k X.A ∧ X.mg g.x = some (.ref fa) ∧ PySem.W.keepIn X.K (.ref fa) = true ∧ Binds X.K fd g.ps [] ∧
    ∀ q ∈ g.kws, KBinds X.K fd g.ps q.2.1 (permG q.1 q.2.1.length q.2.2) (permG q.1 q.2.1.length q.2.2)
structure XOk (C : Cf) (cs : Nat → List D → Sg → Rs VX) (X : Cx) (sc : Scope) (fn : Str → Bool) : Prop where
  nn : X.N = C.N
  nd : X.N.Nodup
  sc : X.env.scope = sc
  fn : X.fn = fn
  calm : X.calm = true
  xe : X.xe = fun _ _ => False
  hu : X.A.units + 65 < cLine
  nm : C.N.all nmOk = true
  fe : ∀ g ∈ C.fns, FeOk X g (cs g.ix)
  con : ∀ (x : Str) (d : D), C.con.lookup x = some d → ∃ (v : V) (u : Value), X.mg x = some u ∧ RelV v u ∧ ∀ ι H, Rel X.K ι H d v
  blt : ∀ x ∈ C.blt, X.mg x = none
theorem noStar_ok {e : Expr} (h : noStar e = true) : NoStar e := by
  intro es env
  cases e <;> first | rfl | cases h
theorem notSet_fold {e : Expr} (h : notSet e = true) (env : Env) (x : Value) : foldedSetIterable e env x = pure x := by
  cases e <;> first | rfl | cases h
theorem notSet_mark {e : Expr} (h : notSet e = true) (op : CmpOp) : behindInMarks op e = false := by
  cases e <;> first | rfl | cases h
theorem notSlice_ix {e : Expr} (h : notSlice e = true) : PlainIx e := by
  intro o i
  cases e <;> first | rfl | cases h
theorem vis_ok {x : Str} (h : vis sc x = true) : Vis sc x := by
  unfold vis at h
  split at h
  · exact .inl ‹_›
  · exact .inr (.inl ‹_›)
  · exact .inr (.inr ‹_›)
  · cases h
theorem glb_ok (ok : XOk C cs X sc fn) {x : Str} (h : glb sc x = true) : Gl X x := by
  unfold glb at h
  show X.env.scope.names.lookup x = _
  rw [ok.sc]
  exact of_decide_eq_true h
theorem nmOk_ok {x : Str} (h : nmOk x = true) : (x == ("__debug__" : Str)) = false ∧ (x == ("__classdict__" : Str)) = false ∧ x ≠ "__name__" := of_decide_eq_true h
theorem blt_ok (ok : XOk C cs X sc fn) {x : Str} {s : String} (h : bltOk C sc x s = true) : x = Str.ofString s ∧ Gl X x ∧ X.mg x = none := by
  unfold bltOk at h
  simp only [Bool.and_eq_true, decide_eq_true_eq] at h
  exact ⟨h.1.1, glb_ok ok h.1.2, ok.blt x (by simpa using h.2)⟩
theorem base_ok {l : Expr} {nm : Str} {env : Env} (h : notCall0 l = true) : attributeBase l nm env (eval l env) = eval l env := by
  unfold attributeBase
  split
  · cases h
  · rfl
theorem evL_len {as : List Ex} : ∀ {σ : En} {S : Sg} {ds : List D} {S' : Sg}, evL cs as σ S = some (ds, S') → ds.length = as.length := by
  induction as with
  | nil =>
    intro σ S ds S' h
    unfold evL at h
    cases h
    rfl
  | cons a as ih =>
    intro σ S ds S' h
    unfold evL at h
    obtain ⟨x, S1, _, h1⟩ := bnd_eq h
    obtain ⟨y, S2, _, h2⟩ := bnd_eq h1
    obtain ⟨ys, S3, h3, h4⟩ := bnd_eq h2
    cases h4
    simp [ih h3]
theorem asTs_len {ts : List Tg} : ∀ {ds : List D} {σ : En} {S : Sg} {r : En × Sg}, asTs cs ts ds σ S = some r → ds.length = ts.length := by
  induction ts with
  | nil =>
    intro ds σ S r h
    unfold asTs at h
    cases ds with
    | nil => rfl
    | cons _ _ => cases h
  | cons t ts ih =>
    intro ds σ S r h
    unfold asTs at h
    cases ds with
    | nil => cases h
    | cons d ds =>
      obtain ⟨σ1, S1, _, h1⟩ := bnd_eq h
      simp [ih h1]
theorem assignEach_plain : ∀ {es : List Expr} {env : Env}, es.all noStar = true → (assignEach es env).length = es.length ∧ (assignEach es env).findIdx? (·.1) = none
  | [], _, _ => ⟨rfl, rfl⟩
  | e :: es, env, h => by
    simp only [List.all_cons, Bool.and_eq_true] at h
    obtain ⟨h1, h2⟩ := assignEach_plain (env := env) h.2
    have he : assignEach (e :: es) env = (false, assign e env) :: assignEach es env := by
      cases e <;> first | rfl | cases h.1
    rw [he]
    refine ⟨by simp [h1], ?_⟩
    rw [List.findIdx?_cons, h2]
    rfl
theorem assign_cons {e : Expr} {es : List Expr} {env : Env} (h : noStar e = true) : (assignEach (e :: es) env).map (·.2) = assign e env :: (assignEach es env).map (·.2) := by
  cases e <;> first | rfl | cases h
theorem opr_of (o : Bop) : OpR X (binaryOp (opP o)) (rB X.K (binV o)) := by
  cases o
  · exact opr_add
  · exact opr_sub
  · exact opr_mul
  · exact opr_fdiv
  · exact opr_mod
  · exact opr_pow
theorem opc_of (hu : X.A.units + 65 < cLine) (o : Cop) : OpR X (compareOp (coP o)) (rB X.K (cmpV o)) := by
  cases o
  · exact opr_lt (by omega)
  · exact opr_le
  · exact opr_gt
  · exact opr_ge
  · exact opr_eq (by omega)
  · exact opr_ne (by omega)
  · exact opr_is
  · exact opr_isn
  · exact opr_in hu
  · exact opr_notin hu
theorem ofS_nm (s : String) (h : nmOk (Str.ofString s) = true) {x : Str} (e : x = Str.ofString s) : (x == ("__debug__" : Str)) = false ∧ x ≠ "__name__" := by
  subst e
  exact ⟨(nmOk_ok h).1, (nmOk_ok h).2.2⟩
theorem var_ok (ok : XOk C cs X sc fn) {i : Nat} {x : Str} {p : Pos} (h1 : C.N[i]? = some x) (h2 : vis sc x = true) : PE X (.Name x p) (tX X.K fun σ S => evX cs (.var i) σ S) := by
  have hn := nmOk_ok (List.all_eq_true.mp ok.nm x (List.mem_of_getElem? h1))
  exact px_var (by rw [ok.nn]; exact h1) (by rw [ok.sc]; exact vis_ok h2) hn.1 hn.2.1
theorem b1_ok (ok : XOk C cs X sc fn) (f : Bi1) {x : Str} {p pos : Pos} {y : Expr} {a : Ex} (h : bltOk C sc x (b1N f) = true) (hs : noStar y = true) (ha : PE X y (tX X.K fun σ S => evX cs a σ S)) : PE X (.Call (.Name x p) [y] [] pos) (tX X.K fun σ S => evX cs (.b1 f a) σ S) := by
  obtain ⟨h1, h2, h3⟩ := blt_ok ok h
  have na := noStar_ok hs
  cases f
  · exact px_b1B cr_len h2 h3 (by rw [h1]; decide +kernel) ha na (ofS_nm "len" (by decide +kernel) h1).2 (ofS_nm "len" (by decide +kernel) h1).1
  · exact px_b1T cr_tuple h2 h3 (by rw [h1]; decide +kernel) ha na (ofS_nm "tuple" (by decide +kernel) h1).2 (ofS_nm "tuple" (by decide +kernel) h1).1
  · exact px_b1T cr_list h2 h3 (by rw [h1]; decide +kernel) ha na (ofS_nm "list" (by decide +kernel) h1).2 (ofS_nm "list" (by decide +kernel) h1).1
  · exact px_b1B (cr_allX ok.calm) h2 h3 (by rw [h1]; decide +kernel) ha na (ofS_nm "all" (by decide +kernel) h1).2 (ofS_nm "all" (by decide +kernel) h1).1
  · exact px_b1B (cr_anyX ok.calm) h2 h3 (by rw [h1]; decide +kernel) ha na (ofS_nm "any" (by decide +kernel) h1).2 (ofS_nm "any" (by decide +kernel) h1).1
  · exact px_b1B (cr_sumX ok.calm) h2 h3 (by rw [h1]; decide +kernel) ha na (ofS_nm "sum" (by decide +kernel) h1).2 (ofS_nm "sum" (by decide +kernel) h1).1
  · exact px_b1B cr_absX h2 h3 (by rw [h1]; decide +kernel) ha na (ofS_nm "abs" (by decide +kernel) h1).2 (ofS_nm "abs" (by decide +kernel) h1).1
  · exact px_b1T cr_intX h2 h3 (by rw [h1]; decide +kernel) ha na (ofS_nm "int" (by decide +kernel) h1).2 (ofS_nm "int" (by decide +kernel) h1).1
theorem b2_ok (ok : XOk C cs X sc fn) (f : Bi2) {x : Str} {p pos : Pos} {y z : Expr} {a b : Ex} (h : bltOk C sc x (b2N f) = true) (hs : noStar y = true) (hz : noStar z = true) (ha : PE X y (tX X.K fun σ S => evX cs a σ S)) (hb : PE X z (tX X.K fun σ S => evX cs b σ S)) :
    PE X (.Call (.Name x p) [y, z] [] pos) (tX X.K fun σ S => evX cs (.b2 f a b) σ S) := by
  obtain ⟨h1, h2, h3⟩ := blt_ok ok h
  have na := noStar_ok hs
  have nb := noStar_ok hz
  cases f
  · exact px_b2B (cr_min ok.calm) h2 h3 (by rw [h1]; decide +kernel) ha hb na nb (ofS_nm "min" (by decide +kernel) h1).2 (ofS_nm "min" (by decide +kernel) h1).1
  · exact px_b2B (cr_max ok.calm) h2 h3 (by rw [h1]; decide +kernel) ha hb na nb (ofS_nm "max" (by decide +kernel) h1).2 (ofS_nm "max" (by decide +kernel) h1).1
  · exact px_b2B cr_divmod h2 h3 (by rw [h1]; decide +kernel) ha hb na nb (ofS_nm "divmod" (by decide +kernel) h1).2 (ofS_nm "divmod" (by decide +kernel) h1).1
theorem chTy_ok (ok : XOk C cs X sc fn) : ∀ {es : List Expr} {ts : List Ty}, chTy sc C.blt es ts = true → tyNames (X := X) [] es ts
  | [], [], _ => trivial
  | [], _ :: _, h => by simp [chTy] at h
  | e :: es, [], h => by cases e <;> simp [chTy] at h
  | e :: es, t :: ts, h => by
    cases e with
    | Name x p =>
      simp only [chTy, Bool.and_eq_true, decide_eq_true_eq] at h
      exact ⟨h.1.1.1, glb_ok ok h.1.1.2, ok.blt x (by simpa using h.1.2), chTy_ok ok h.2⟩
    | _ => simp [chTy] at h
theorem chC_ok {k : Const} {c : D} {j : Nat} {p : Pos} (h : chC k c = true) : PE X (.Constant k j p) (tX X.K fun σ S => evX cs (.con c) σ S) := by
  unfold chC at h
  split at h
  · exact px_non
  · rw [← of_decide_eq_true h]; exact px_bl
  · rw [← of_decide_eq_true h]; exact px_int
  · rw [← of_decide_eq_true h]; exact px_str
  · cases h
theorem glo_ok (ok : XOk C cs X sc fn) {x : Str} {c : D} {p : Pos} (h1 : glb sc x = true) (h2 : nmOk x = true) (h3 : C.con.lookup x = some c) : PE X (.Name x p) (tX X.K fun σ S => evX cs (.glo x c) σ S) := by
  obtain ⟨v, u, a, b, r⟩ := ok.con x c h3
  exact px_glob (glb_ok ok h1) a b r (nmOk_ok h2).1
theorem fnAt_ok (ok : XOk C cs X sc fn) {x : Str} {f : Nat} {g : Fe} (h : fnAt C sc x f = some g) : Gl X x ∧ (x == ("__debug__" : Str)) = false ∧ g.x = x ∧ FeOk X g (cs f) := by
  unfold fnAt at h
  split at h
  · rename_i hc
    simp only [Bool.and_eq_true] at hc
    have h1 := List.find?_some h
    simp only [Bool.and_eq_true, decide_eq_true_eq] at h1
    have h2 := ok.fe g (List.mem_of_find?_eq_some h)
    rw [h1.2] at h2
    exact ⟨glb_ok ok hc.1, (nmOk_ok hc.2).1, h1.1, h2⟩
  · cases h
theorem ownP_ix (N : List Str) (own : List Nat) : (ownP N own).map (·.2) = own := by
  unfold ownP
  rw [List.map_map]
  exact List.map_id'' (fun _ => rfl) own
theorem blkB_ok {N : List Str} {scope : Scope} {own : List (Str × Nat)} (h : blkB N sc scope own = true) : BlkOk N sc scope own := by
  unfold blkB at h
  simp only [Bool.and_eq_true, decide_eq_true_eq, List.all_eq_true] at h
  refine ⟨h.1.1.1, fun y hy => h.1.1.2 y hy, fun p hp => h.1.2 p hp, fun y hy e => ?_, fun y hy e => ?_⟩
  · have z := h.2 y hy
    rw [e] at z
    simpa using z
  · have z := h.2 y hy
    rcases e with e | e <;> rw [e] at z <;> simpa using z
theorem XOk.blk (ok : XOk C cs X sc fn) (scope : Scope) (s : Shared) (H : Hp) (C' : Addr) (cl : List (Str × Addr)) (fp : List Addr) : XOk C cs (X.blk s H scope (compEnvC scope cl C' X.env) fp) (relS scope sc) (blkFn scope) where
  nn := ok.nn
  nd := ok.nd
  sc := by
    show relS scope X.env.scope = _
    rw [ok.sc]
  fn := rfl
  calm := ok.calm
  xe := rfl
  hu := ok.hu
  nm := ok.nm
  fe := fun g hg => ⟨(ok.fe g hg).ok⟩
  con := ok.con
  blt := ok.blt
def itW : It → Bool
  | .enm _ => true
  | .zip _ _ => true
  | _ => false
def itR (K : PySem.W.Frag) (t : It) : List Lc → Hp → D → V → Prop := if itW t = true then RelW K else Rel K
inductive PEs (cs : Nat → List D → Sg → Rs VX) (X : Cx) : List Expr → List Ex → Prop
  | nil : PEs cs X [] []
  | cons {e : Expr} {t : Ex} {es : List Expr} {ts : List Ex} (h : PE X e (tX X.K fun σ S => evX cs t σ S)) (n : NoStar e) (r : PEs cs X es ts) : PEs cs X (e :: es) (t :: ts)
structure Snd (C : Cf) (cs : Nat → List D → Sg → Rs VX) (n : Nat) : Prop where
  e : ∀ X sc fn e t, XOk C cs X sc fn → (ck C n).e sc fn e t = true → PE X e (tX X.K fun σ S => evX cs t σ S)
  t : ∀ X sc fn e t, XOk C cs X sc fn → (ck C n).t sc fn e t = true → PT X e (tT X.K fun σ S => evT cs t σ S) ∧ ∀ op vs p, e = .BoolOp op vs p → PW X e (tT X.K fun σ S => evT cs t σ S)
  l : ∀ X sc fn es ts, XOk C cs X sc fn → (ck C n).l sc fn es ts = true → PA X es (tL X.K fun σ S => evL cs ts σ S) ∧ NoStars es ∧ es.length = ts.length
  xs : ∀ X sc fn es ts, XOk C cs X sc fn → (ck C n).xs sc fn es ts = true → PA X es (tXs X.K fun σ S => evXs cs ts σ S) ∧ NoStars es
  xp : ∀ X sc fn es ts, XOk C cs X sc fn → (ck C n).xs sc fn es ts = true → PEs cs X es ts
  o : ∀ X sc fn es ts, XOk C cs X sc fn → (ck C n).o sc fn es ts = true → PO X es (tO X.K fun σ S => evO cs ts σ S)
  ts : ∀ X sc fn es ts, XOk C cs X sc fn → (ck C n).ts sc fn es ts = true → PTs X es (tT X.K fun σ S => evTs cs ts σ S)
  k : ∀ X sc fn es ts, XOk C cs X sc fn → (ck C n).k sc fn es ts = true → PK X es (tL X.K fun σ S => evL cs ts σ S)
  i : ∀ X sc fn g e t, XOk C cs X sc fn → (ck C n).i sc fn g e t = true → PI X g e (tI X.K (itR X.K t) fun σ S => evI cs t σ S)
  iw : ∀ sc fn g e t, (ck C n).i sc fn g e t = true → itW t = true → isTupE g = true
  is : ∀ sc fn g e t, (ck C n).i sc fn g e t = true → notSet e = true
  g : ∀ X sc fn e t, XOk C cs X sc fn → (ck C n).g sc fn e t = true → PG X e (tG X.K (Rel X.K) (tgOwn t) fun d σ S => asT cs t d σ S) ∧ (isTupE e = true → PG X e (tG X.K (RelW X.K) (tgOwn t) fun d σ S => asT cs t d σ S))
  gs : ∀ X sc fn es ts, XOk C cs X sc fn → (ck C n).gs sc fn es ts = true → PGs X es (tGs X.K (tgsOwn ts) fun d σ S => asTs cs ts d σ S) ∧ es.all noStar = true ∧ es.length = ts.length
theorem Snd.ig (h : Snd C cs n) (ok : XOk C cs X sc fn) {sc0 : Scope} {fn0 : Str → Bool} {g e : Expr} {t : It} {tg : Tg} (hi : (ck C n).i sc0 fn0 g e t = true) (hg : (ck C n).g sc fn g tg = true) : PG X g (tG X.K (itR X.K t) (tgOwn tg) fun d σ S => asT cs tg d σ S) := by
  unfold itR
  by_cases w : itW t = true
  · rw [if_pos w]
    exact (h.g X sc fn g tg ok hg).2 (h.iw _ _ _ _ _ hi w)
  · rw [if_neg w]
    exact (h.g X sc fn g tg ok hg).1
theorem Snd.zero : Snd C cs 0 := by
  constructor <;> intros <;> first | (rename_i h; cases h; done) | (rename_i h _; cases h; done)
end
end Ev

namespace Ev
open PySem PySem.Spec PyProof.Rows L2
section
variable {C : Cf} {cs : Nat → List D → Sg → Rs VX} {X : Cx} {sc : Scope} {fn : Str → Bool} {n : Nat}
theorem comp_ok (h : Snd C cs n) (ok : XOk C cs X sc fn) {el g iter : Expr} {ifs : List Expr} {scope : Scope} {elt : Ex} {tg : Tg} {it : It} {conds : List Ex} {own : List Nat} (hb : blkB C.N sc scope (ownP C.N own) = true) (h1 : (ck C n).i sc fn g iter it = true) (h2 : ∀ x ∈ tgOwn tg, own.contains x = true)
    (h3 : (ck C n).g (relS scope sc) (blkFn scope) g tg = true) (h4 : (ck C n).ts (relS scope sc) (blkFn scope) ifs conds = true) (h5 : (ck C n).e (relS scope sc) (blkFn scope) el elt = true) :
    CmpOk X (itR X.K it) g iter el ifs scope (tgOwn tg) (ownP C.N own) (fun σ S => evI cs it σ S) (fun d σ S => asT cs tg d σ S) (fun σ S => evTs cs conds σ S) (fun σ S => evX cs elt σ S) where
  hc := ok.calm
  hN := ok.nd
  hi := h.i X sc fn _ _ _ ok h1
  ok := by rw [ok.nn, ok.sc]; exact blkB_ok hb
  hg := fun s H C' cl fp => h.ig (ok.blk scope s H C' cl fp) h1 h3
  hown := by rw [ownP_ix]; intro i hi; simpa using h2 i hi
  ht := fun s H C' cl fp => h.ts _ _ _ _ _ (ok.blk scope s H C' cl fp) h4
  he := fun s H C' cl fp => px_toD (h.e _ _ _ _ _ (ok.blk scope s H C' cl fp) h5)
  hs := fun x => notSet_fold (h.is _ _ _ _ _ h1) _ x
theorem comp2_ok (h : Snd C cs n) (ok : XOk C cs X sc fn) {el g iter g2 iter2 : Expr} {ifs ifs2 : List Expr} {scope : Scope} {elt : Ex} {tg tg2 : Tg} {it it2 : It} {conds conds2 : List Ex} {own own2 : List Nat} (hb : blkB C.N sc scope (ownP C.N own) = true) (h1 : (ck C n).i sc fn g iter it = true) (h2 : ∀ x ∈ tgOwn tg, own.contains x = true)
    (h3 : (ck C n).g (relS scope sc) (blkFn scope) g tg = true) (h4 : (ck C n).ts (relS scope sc) (blkFn scope) ifs conds = true) (h5 : (ck C n).e (relS scope sc) (blkFn scope) el elt = true)
    (k1 : ∀ x ∈ own2, own.contains x = true) (k2 : (ck C n).i (relS scope sc) (blkFn scope) g2 iter2 it2 = true) (k3 : ∀ x ∈ tgOwn tg2, own2.contains x = true) (k4 : (ck C n).g (relS scope sc) (blkFn scope) g2 tg2 = true) (k5 : (ck C n).ts (relS scope sc) (blkFn scope) ifs2 conds2 = true) :
    Cmp2Ok X (itR X.K it) (itR X.K it2) g iter g2 iter2 el ifs ifs2 scope (tgOwn tg) (tgOwn tg2) own2 (ownP C.N own) (fun σ S => evI cs it σ S) (fun σ S => evI cs it2 σ S) (fun d σ S => asT cs tg d σ S) (fun d σ S => asT cs tg2 d σ S) (fun σ S => evTs cs conds σ S) (fun σ S => evTs cs conds2 σ S) (fun σ S => evX cs elt σ S) where
  one := comp_ok h ok hb h1 h2 h3 h4 h5
  hv := by rw [ownP_ix]; intro i hi; simpa using k1 i hi
  hi1 := fun s H C' cl fp => h.i _ _ _ _ _ _ (ok.blk scope s H C' cl fp) k2
  hg1 := fun s H C' cl fp => h.ig (ok.blk scope s H C' cl fp) k2 k4
  ht1 := fun s H C' cl fp => h.ts _ _ _ _ _ (ok.blk scope s H C' cl fp) k5
  hown1 := by intro i hi; simpa using k3 i hi
  hs1 := fun env x => notSet_fold (h.is _ _ _ _ _ k2) _ x
theorem stE_ok (h : Snd C cs n) (ok : XOk C cs X sc fn) {e : Expr} {t : Ex} (hc : stE C (ck C n) sc fn e t = true) : PE X e (tX X.K fun σ S => evX cs t σ S) := by
  unfold stE at hc
  split at hc
  · exact pe_one (h.e X sc fn _ _ ok hc)
  · cases t with
    | var i =>
      simp only at hc
      split at hc
      · simp only [Bool.and_eq_true, decide_eq_true_eq] at hc
        exact var_ok ok hc.1 hc.2
      · cases hc
    | con c =>
      simp only at hc
      split at hc
      · exact chC_ok hc
      · cases hc
    | glo y c =>
      simp only at hc
      split at hc
      · simp only [Bool.and_eq_true, decide_eq_true_eq] at hc
        obtain ⟨⟨⟨rfl, h1⟩, h2⟩, h3⟩ := hc
        exact glo_ok ok h1 h2 h3
      · cases hc
    | bin o a b =>
      simp only at hc
      split at hc
      · simp only [Bool.and_eq_true, decide_eq_true_eq] at hc
        obtain ⟨⟨rfl, h1⟩, h2⟩ := hc
        exact px_op (opr_of o) (h.e X sc fn _ _ ok h1) (h.e X sc fn _ _ ok h2)
      · cases hc
    | neg a =>
      simp only at hc
      split at hc
      · exact px_neg (h.e X sc fn _ _ ok hc)
      · cases hc
    | not a =>
      simp only at hc
      split at hc
      · exact px_not (h.e X sc fn _ _ ok hc)
      · cases hc
    | and a b =>
      simp only at hc
      split at hc
      · simp only [Bool.and_eq_true] at hc
        exact px_and (h.e X sc fn _ _ ok hc.1) (h.e X sc fn _ _ ok hc.2)
      · cases hc
    | or a b =>
      simp only at hc
      split at hc
      · simp only [Bool.and_eq_true] at hc
        exact px_or (h.e X sc fn _ _ ok hc.1) (h.e X sc fn _ _ ok hc.2)
      · cases hc
    | cmp o a b =>
      simp only at hc
      split at hc
      · simp only [Bool.and_eq_true, decide_eq_true_eq] at hc
        obtain ⟨⟨⟨rfl, h0⟩, h1⟩, h2⟩ := hc
        exact px_cmp (opc_of ok.hu o) (h.e X sc fn _ _ ok h1) (h.e X sc fn _ _ ok h2) (notSet_mark h0 _)
      · cases hc
    | chn o o2 a b c =>
      simp only at hc
      split at hc
      · simp only [Bool.and_eq_true, decide_eq_true_eq] at hc
        obtain ⟨⟨⟨⟨⟨rfl, rfl⟩, h0⟩, h1⟩, h2⟩, h3⟩ := hc
        exact px_chain (opc_of ok.hu o) (opc_of ok.hu o2) (h.e X sc fn _ _ ok h1) (h.e X sc fn _ _ ok h2) (h.e X sc fn _ _ ok h3) (notSet_mark h0 _)
      · cases hc
    | ite c a b =>
      simp only at hc
      split at hc
      · simp only [Bool.and_eq_true] at hc
        exact px_ite (h.t X sc fn _ _ ok hc.1.1).1 (h.e X sc fn _ _ ok hc.1.2) (h.e X sc fn _ _ ok hc.2)
      · cases hc
    | tup as =>
      simp only at hc
      split at hc
      · exact px_tup (h.l X sc fn _ _ ok hc).1
      · cases hc
    | lst as =>
      simp only at hc
      split at hc
      · exact px_lst (h.l X sc fn _ _ ok hc).1
      · cases hc
    | idx a b =>
      simp only at hc
      split at hc
      · simp only [Bool.and_eq_true] at hc
        exact px_idx (h.e X sc fn _ _ ok hc.1.2) (h.e X sc fn _ _ ok hc.2) (notSlice_ix hc.1.1)
      · cases hc
    | sli a lo hi =>
      simp only at hc
      split at hc
      · simp only [Bool.and_eq_true] at hc
        exact px_sli (h.e X sc fn _ _ ok hc.1.1) (h.o X sc fn _ _ ok hc.1.2) (h.o X sc fn _ _ ok hc.2)
      · cases hc
    | rev a =>
      simp only at hc
      split at hc
      · exact px_rev (h.e X sc fn _ _ ok hc)
      · cases hc
    | call f as =>
      simp only at hc
      split at hc
      · simp only [Bool.and_eq_true] at hc
        obtain ⟨h1, h2⟩ := hc
        obtain ⟨g, hg⟩ := Option.isSome_iff_exists.mp h1
        obtain ⟨a1, a2, a3, ⟨k, fa, fd, b1, b2, b3, b4, b5, b6⟩⟩ := fnAt_ok ok hg
        obtain ⟨c1, c2, c3⟩ := h.l X sc fn _ _ ok h2
        exact px_call b1 b2 a1 (by rw [← a3]; exact b3) b4 b5 c1 a2 c2.1 c2.2
      · cases hc
    | callk f as ks perm =>
      simp only at hc
      split at hc
      · rename_i x _ es kws _ _
        split at hc
        · rename_i g hg
          simp only [Bool.and_eq_true, decide_eq_true_eq] at hc
          obtain ⟨⟨⟨⟨h1, h2⟩, h3⟩, h4⟩, h5⟩ := hc
          obtain ⟨q, hq, eq⟩ := List.any_eq_true.mp h1
          simp only [decide_eq_true_eq] at eq
          obtain ⟨a1, a2, a3, ⟨k, fa, fd, b1, b2, b3, b4, b5, b6⟩⟩ := fnAt_ok ok hg
          obtain ⟨c1, c2, c3⟩ := h.l X sc fn _ _ ok h3
          have d1 := h.k X sc fn _ _ ok h4
          have kb := b6 q hq
          rw [eq] at kb
          simp only at kb
          have hlk : (kws.filterMap fun k => k.arg).length = ks.length := by
            have z := congrArg List.length h2
            simp only [List.length_map] at z
            rw [← z, h5]
          rw [hlk] at kb
          cases es with
          | nil =>
            cases as with
            | cons _ _ => simp at c3
            | nil =>
              exact L2PEw (px_callk0 b1 b2 a1 (by rw [← a3]; exact b3) b4 kb d1 h2 a2 (fun σ S ds S' hh => evL_len hh)) fun σ H Q ⟨ι, σD, S, x, S', hE, hS, hf, q⟩ => ⟨ι, σD, S, x, S', hE, hS, hf, q⟩
          | cons y es =>
            exact px_callk b1 b2 a1 (by rw [← a3]; exact b3) b4 kb c1 d1 h2 a2 c2.1 c2.2 (fun σ S ds S' hh => evL_len hh) (fun σ S ds S' hh => evL_len hh)
        · cases hc
      · cases hc
    | b1 f a =>
      simp only at hc
      split at hc
      · simp only [Bool.and_eq_true] at hc
        exact b1_ok ok f hc.1.1 hc.1.2 (h.e X sc fn _ _ ok hc.2)
      · cases hc
    | b2 f a b =>
      simp only at hc
      split at hc
      · simp only [Bool.and_eq_true] at hc
        exact b2_ok ok f hc.1.1.1.1 hc.1.1.1.2 hc.1.1.2 (h.e X sc fn _ _ ok hc.1.2) (h.e X sc fn _ _ ok hc.2)
      · cases hc
    | rngT as =>
      simp only at hc
      split at hc
      · simp only [Bool.and_eq_true] at hc
        obtain ⟨z1, z2, z3⟩ := blt_ok ok hc.1.1.1
        obtain ⟨y1, y2, y3⟩ := blt_ok ok hc.1.1.2
        cases h.xp X sc fn _ _ ok hc.2 with
        | cons p1 n1 r =>
          cases r
          exact px_rngT1 z1 y1 ok.calm z2 z3 y2 y3 p1 n1
      · simp only [Bool.and_eq_true] at hc
        obtain ⟨z1, z2, z3⟩ := blt_ok ok hc.1.1.1.1
        obtain ⟨y1, y2, y3⟩ := blt_ok ok hc.1.1.1.2
        cases h.xp X sc fn _ _ ok hc.2 with
        | cons p1 n1 r =>
          cases r with
          | cons p2 n2 r =>
            cases r
            exact px_rngT2 z1 y1 ok.calm z2 z3 y2 y3 p1 n1 p2 n2
      · cases hc
    | rngL as =>
      simp only at hc
      split at hc
      · simp only [Bool.and_eq_true] at hc
        obtain ⟨z1, z2, z3⟩ := blt_ok ok hc.1.1.1
        obtain ⟨y1, y2, y3⟩ := blt_ok ok hc.1.1.2
        cases h.xp X sc fn _ _ ok hc.2 with
        | cons p1 n1 r =>
          cases r
          exact px_rngL1 z1 y1 ok.calm z2 z3 y2 y3 p1 n1
      · simp only [Bool.and_eq_true] at hc
        obtain ⟨z1, z2, z3⟩ := blt_ok ok hc.1.1.1.1
        obtain ⟨y1, y2, y3⟩ := blt_ok ok hc.1.1.1.2
        cases h.xp X sc fn _ _ ok hc.2 with
        | cons p1 n1 r =>
          cases r with
          | cons p2 n2 r =>
            cases r
            exact px_rngL2 z1 y1 ok.calm z2 z3 y2 y3 p1 n1 p2 n2
      · cases hc
    | isi a ts =>
      simp only at hc
      split at hc
      · simp only [Bool.and_eq_true] at hc
        obtain ⟨z1, z2, z3⟩ := blt_ok ok hc.1.1.1
        cases ts with
        | nil => have := hc.2; simp [chTy] at this
        | cons T ts =>
          cases ts with
          | cons _ _ => have := hc.2; simp [chTy] at this
          | nil =>
            obtain ⟨e1, e2, e3, _⟩ := chTy_ok ok hc.2
            exact px_isi1 z1 e1 z2 z3 e2 e3 (h.e X sc fn _ _ ok hc.1.2) (noStar_ok hc.1.1.2)
      · simp only [Bool.and_eq_true, decide_eq_true_eq] at hc
        obtain ⟨z1, z2, z3⟩ := blt_ok ok hc.1.1.1.1
        exact px_isiT z1 z2 z3 (chTy_ok ok hc.2) hc.1.2 (h.e X sc fn _ _ ok hc.1.1.2) (noStar_ok hc.1.1.1.2)
      · cases hc
    | mt m o as =>
      simp only at hc
      split at hc
      · simp only [Bool.and_eq_true, decide_eq_true_eq] at hc
        have e0 : as = [] := List.isEmpty_iff.mp hc.2
        subst e0
        exact L2PEw (px_mt0 (h.e X sc fn _ _ ok hc.1.2) hc.1.1.1.1 (base_ok hc.1.1.1.2) hc.1.1.2) fun σ H Q ⟨ι, σD, S, x, S', hE, hS, hf, q⟩ => ⟨ι, σD, S, x, S', hE, hS, hf, q⟩
      · simp only [Bool.and_eq_true, decide_eq_true_eq] at hc
        obtain ⟨c1, c2⟩ := h.xs X sc fn _ _ ok hc.1.2
        exact px_mt (h.e X sc fn _ _ ok hc.1.1.2) c1 hc.1.1.1.1.1 (base_ok hc.1.1.1.1.2) hc.1.1.1.2 c2.1 c2.2 hc.2
      · cases hc
    | comp elt tg it conds own =>
      simp only at hc
      split at hc
      · simp only [Bool.and_eq_true, decide_eq_true_eq, List.all_eq_true] at hc
        obtain ⟨⟨⟨⟨⟨⟨rfl, hb⟩, h1⟩, h2⟩, h3⟩, h4⟩, h5⟩ := hc
        rename_i el g iter ifs scope _ _
        have z := px_comp (pos := ‹Pos›) (comp_ok h ok (el := el) (g := g) (iter := iter) (ifs := ifs) (scope := scope) (elt := elt) (tg := tg) (it := it) (conds := conds) (own := own) hb h1 h2 h3 h4 h5)
        rw [ownP_ix] at z
        exact z
      · cases hc
    | comp2 elt tg it conds tg2 it2 conds2 own own2 =>
      simp only at hc
      split at hc
      · simp only [Bool.and_eq_true, decide_eq_true_eq, List.all_eq_true] at hc
        obtain ⟨⟨⟨⟨⟨⟨⟨⟨⟨⟨⟨⟨rfl, rfl⟩, hb⟩, h1⟩, h2⟩, h3⟩, h4⟩, h5⟩, k1⟩, k2⟩, k3⟩, k4⟩, k5⟩ := hc
        rename_i el g iter ifs g2 iter2 ifs2 scope _ _
        have z := px_comp2 (pos := ‹Pos›) (comp2_ok h ok (el := el) (g := g) (iter := iter) (ifs := ifs) (scope := scope) (elt := elt) (tg := tg) (it := it) (conds := conds) (own := own) (g2 := g2) (iter2 := iter2) (ifs2 := ifs2) (tg2 := tg2) (it2 := it2) (conds2 := conds2) (own2 := own2) hb h1 h2 h3 h4 h5 k1 k2 k3 k4 k5)
        rw [ownP_ix] at z
        exact z
      · cases hc
theorem evT_tru {e : Expr} {f : En → Sg → Rs VX} {ft : En → Sg → Rs Bool} (ha : PE X e (tX X.K f)) (he : ∀ whole, isTrue e X.env whole = (do let v ← whole; standAt e.pos; holding [v] (truthy v)))
    (hf : ∀ σ S r, ft σ S = some r → (bnd (f σ S) fun v S1 => match truV S1 v with
      | some b => some (b, S1)
      | none => none) = some r) : PT X e (tT X.K ft) :=
  L2PTw (pt_tru ha he) fun σ H Q ⟨ι, σD, S, x, S', hE, hS, h, q⟩ => ⟨ι, σD, S, x, S', hE, hS, hf _ _ _ h, q⟩
theorem pw_of {op : BoolOp} {x : Expr} {p : Pos} {t : TT} (h : PT X x t) : PW X (.BoolOp op [x] p) t := by
  cases op
  · exact pw_and1 h
  · exact pw_or1 h
theorem stT_ok (h : Snd C cs n) (ok : XOk C cs X sc fn) {e : Expr} {t : Ex} (hc : stT (ck C n) sc fn e t = true) : PT X e (tT X.K fun σ S => evT cs t σ S) ∧ ∀ op vs p, e = .BoolOp op vs p → PW X e (tT X.K fun σ S => evT cs t σ S) := by
  unfold stT at hc
  split at hc
  · have z := pw_of (op := .And) (p := ‹_›) (h.t X sc fn _ _ ok hc).1
    exact ⟨z.pt, fun _ _ _ _ => z⟩
  · have z := pw_of (op := .Or) (p := ‹_›) (h.t X sc fn _ _ ok hc).1
    exact ⟨z.pt, fun _ _ _ _ => z⟩
  · split at hc
    · simp only [Bool.and_eq_true] at hc
      have z := pw_andX (h.t X sc fn _ _ ok hc.1).1 ((h.t X sc fn _ _ ok hc.2).2 _ _ _ rfl)
      exact ⟨z.pt, fun _ _ _ _ => z⟩
    · cases hc
  · split at hc
    · simp only [Bool.and_eq_true] at hc
      have z := pw_orX (h.t X sc fn _ _ ok hc.1).1 ((h.t X sc fn _ _ ok hc.2).2 _ _ _ rfl)
      exact ⟨z.pt, fun _ _ _ _ => z⟩
    · cases hc
  · split at hc
    · exact ⟨pt_notX (h.t X sc fn _ _ ok hc).1, fun _ _ _ e => by cases e⟩
    · cases hc
  · split at hc
    · simp only [Bool.and_eq_true, decide_eq_true_eq] at hc
      obtain ⟨⟨⟨rfl, h0⟩, h1⟩, h2⟩ := hc
      exact ⟨pt_cmpX (opc_of ok.hu _) (h.e X sc fn _ _ ok h1) (h.e X sc fn _ _ ok h2) (notSet_mark h0 _), fun _ _ _ e => by cases e⟩
    · cases hc
  · split at hc
    · simp only [Bool.and_eq_true, decide_eq_true_eq] at hc
      obtain ⟨⟨⟨⟨⟨rfl, rfl⟩, h0⟩, h1⟩, h2⟩, h3⟩ := hc
      exact ⟨pt_chainX (opc_of ok.hu _) (opc_of ok.hu _) (h.e X sc fn _ _ ok h1) (h.e X sc fn _ _ ok h2) (h.e X sc fn _ _ ok h3) (notSet_mark h0 _), fun _ _ _ e => by cases e⟩
    · cases hc
  · split at hc
    · exact ⟨evT_tru (h.e X sc fn _ _ ok hc) (fun _ => rfl) fun _ _ _ h => h, fun _ _ _ e => by cases e⟩
    · cases hc
  · split at hc
    · exact ⟨evT_tru (h.e X sc fn _ _ ok hc) (fun _ => rfl) fun _ _ _ h => h, fun _ _ _ e => by cases e⟩
    · exact ⟨evT_tru (h.e X sc fn _ _ ok hc) (fun _ => rfl) fun _ _ _ h => h, fun _ _ _ e => by cases e⟩
    · refine ⟨evT_tru (h.e X sc fn _ _ ok hc) (fun _ => rfl) fun σ S r hh => ?_, fun _ _ _ e => by cases e⟩
      unfold evT at hh
      unfold evX
      obtain ⟨v, S1, h1, h2⟩ := bnd_eq (r := (r.1, r.2)) hh
      rw [h1, bnd_some]
      split at h2
      · rename_i b hb
        cases h2
        rfl
      · cases h2
    · cases hc
  · split at hc
    · exact ⟨evT_tru (h.e X sc fn _ _ ok hc) (fun _ => rfl) fun _ _ _ h => h, fun _ _ _ e => by cases e⟩
    · cases hc
  · cases hc
theorem stL_ok (h : Snd C cs n) (ok : XOk C cs X sc fn) {es : List Expr} {ts : List Ex} (hc : stL (ck C n) sc fn es ts = true) : PA X es (tL X.K fun σ S => evL cs ts σ S) ∧ NoStars es ∧ es.length = ts.length := by
  unfold stL at hc
  split at hc
  · exact ⟨pl_nil, trivial, rfl⟩
  · simp only [Bool.and_eq_true] at hc
    obtain ⟨a, b, c⟩ := h.l X sc fn _ _ ok hc.2
    have ns := noStar_ok hc.1.1
    exact ⟨pl_cons (h.e X sc fn _ _ ok hc.1.2) a (ns _ _), ⟨ns, b⟩, by simp [c]⟩
  · cases hc
theorem stXs_ok (h : Snd C cs n) (ok : XOk C cs X sc fn) {es : List Expr} {ts : List Ex} (hc : stXs (ck C n) sc fn es ts = true) : (PA X es (tXs X.K fun σ S => evXs cs ts σ S) ∧ NoStars es) ∧ PEs cs X es ts := by
  unfold stXs at hc
  split at hc
  · exact ⟨⟨pxs_nil, trivial⟩, .nil⟩
  · simp only [Bool.and_eq_true] at hc
    obtain ⟨a, b⟩ := h.xs X sc fn _ _ ok hc.2
    have ns := noStar_ok hc.1.1
    have p := h.e X sc fn _ _ ok hc.1.2
    exact ⟨⟨pxs_cons p a (ns _ _), ⟨ns, b⟩⟩, .cons p ns (h.xp X sc fn _ _ ok hc.2)⟩
  · cases hc
theorem stO_ok (h : Snd C cs n) (ok : XOk C cs X sc fn) {es : Option Expr} {ts : Option Ex} (hc : stO (ck C n) sc fn es ts = true) : PO X es (tO X.K fun σ S => evO cs ts σ S) := by
  unfold stO at hc
  split at hc
  · exact po_noneX
  · exact po_someX (h.e X sc fn _ _ ok hc)
  · cases hc
theorem stTs_ok (h : Snd C cs n) (ok : XOk C cs X sc fn) {es : List Expr} {ts : List Ex} (hc : stTs (ck C n) sc fn es ts = true) : PTs X es (tT X.K fun σ S => evTs cs ts σ S) := by
  unfold stTs at hc
  split at hc
  · exact ⟨fun pins s σ H Q I ⟨ι, σD, S, x, S', hE, hS, hf, q⟩ => pts_nil.run pins s σ H Q I (by
      have hf' : some (true, S) = some (x, S') := hf
      cases hf'
      exact q ι H Ge.refl hS)⟩
  · rename_i e t
    exact ⟨fun pins s σ H Q I ⟨ι, σD, S, x, S', hE, hS, hf, q⟩ => (pts_one (h.t X sc fn _ _ ok hc).1).run pins s σ H Q I ⟨ι, σD, S, x, S', hE, hS, by
      have hf' : bnd (evT cs t σD S) (fun b S1 => if b = true then evTs cs [] σD S1 else some (false, S1)) = some (x, S') := hf
      obtain ⟨b, S1, h1, h2⟩ := bnd_eq hf'
      show evT cs t σD S = _
      rw [h1]
      cases b with
      | true => rw [if_pos rfl] at h2; exact h2
      | false => rw [if_neg Bool.false_ne_true] at h2; exact h2, q⟩⟩
  · cases hc
theorem stK_ok (h : Snd C cs n) (ok : XOk C cs X sc fn) {es : List Keyword} {ts : List Ex} (hc : stK (ck C n) sc fn es ts = true) : PK X es (tL X.K fun σ S => evL cs ts σ S) := by
  unfold stK at hc
  split at hc
  · exact pk_nilX
  · simp only [Bool.and_eq_true] at hc
    exact pk_consX (h.e X sc fn _ _ ok hc.1) (h.k X sc fn _ _ ok hc.2)
  · cases hc
theorem stI_ok (h : Snd C cs n) (ok : XOk C cs X sc fn) {g e : Expr} {t : It} (hc : stI C (ck C n) sc fn g e t = true) : PI X g e (tI X.K (itR X.K t) fun σ S => evI cs t σ S) := by
  unfold stI at hc
  simp only [Bool.and_eq_true] at hc
  obtain ⟨h0, hc⟩ := hc
  cases t with
  | seq a => exact pi_seqX (h.e X sc fn _ _ ok hc)
  | rng as =>
    simp only at hc
    split at hc
    · simp only [Bool.and_eq_true] at hc
      obtain ⟨y1, y2, y3⟩ := blt_ok ok hc.1.1
      cases h.xp X sc fn _ _ ok hc.2 with
      | cons p1 n1 r =>
        cases r
        exact pi_rng1X y2 y1 y3 p1 n1
    · simp only [Bool.and_eq_true] at hc
      obtain ⟨y1, y2, y3⟩ := blt_ok ok hc.1.1.1
      cases h.xp X sc fn _ _ ok hc.2 with
      | cons p1 n1 r =>
        cases r with
        | cons p2 n2 r =>
          cases r
          exact pi_rng2X y2 y1 y3 p1 n1 p2 n2
    · simp only [Bool.and_eq_true] at hc
      obtain ⟨y1, y2, y3⟩ := blt_ok ok hc.1.1.1.1
      cases h.xp X sc fn _ _ ok hc.2 with
      | cons p1 n1 r =>
        cases r with
        | cons p2 n2 r =>
          cases r with
          | cons p3 n3 r =>
            cases r
            exact pi_rng3X y2 y1 y3 p1 n1 p2 n2 p3 n3
    · cases hc
  | enm a =>
    simp only at hc
    split at hc
    · simp only [Bool.and_eq_true] at hc
      obtain ⟨y1, y2, y3⟩ := blt_ok ok hc.1.1.2
      cases g with
      | Tuple es k p => exact pi_enmX y1 y2 y3 (h.e X sc fn _ _ ok hc.2) (noStar_ok hc.1.2)
      | _ => exact absurd hc.1.1.1 (by simp [isTupE])
    · cases hc
  | zip a b => cases hc
theorem stI_w {g e : Expr} {t : It} (hc : stI C (ck C n) sc fn g e t = true) (w : itW t = true) : isTupE g = true := by
  unfold stI at hc
  simp only [Bool.and_eq_true] at hc
  obtain ⟨h0, hc⟩ := hc
  cases t with
  | seq a => cases w
  | rng a => cases w
  | zip a b => cases hc
  | enm a =>
    simp only at hc
    split at hc
    · simp only [Bool.and_eq_true] at hc
      exact hc.1.1.1
    · cases hc
theorem stG_ok (h : Snd C cs n) (ok : XOk C cs X sc fn) {e : Expr} {t : Tg} (hc : stG C (ck C n) sc fn e t = true) :
    PG X e (tG X.K (Rel X.K) (tgOwn t) fun d σ S => asT cs t d σ S) ∧ (isTupE e = true → PG X e (tG X.K (RelW X.K) (tgOwn t) fun d σ S => asT cs t d σ S)) := by
  unfold stG at hc
  cases t with
  | name i =>
    simp only at hc
    split at hc
    · rename_i x p
      simp only [Bool.and_eq_true, Bool.or_eq_true, decide_eq_true_eq] at hc
      obtain ⟨h1, h2⟩ := hc
      refine ⟨pg_nameX ok.nd (by rw [ok.nn]; exact h1) ?_ ?_, fun e => by cases e⟩
      · unfold L2.Loc
        rw [ok.sc]
        rcases h2 with h2 | h2
        · exact .inl (of_decide_eq_true h2)
        · exact .inr (of_decide_eq_true h2.1)
      · rcases h2 with h2 | h2
        · right
          rw [ok.sc]
          exact of_decide_eq_true h2
        · left
          rw [ok.fn]
          exact h2.2
    · cases hc
  | tup ts =>
    simp only at hc
    split at hc
    · obtain ⟨a, b, c⟩ := h.gs X sc fn _ _ ok hc
      obtain ⟨d1, d2⟩ := assignEach_plain (env := X.env) b
      have z := pg_tupX (pos := ‹Pos›) (k := ‹Nat›) ok.calm a (fun ds σ S r hh => asTs_len hh) (d1.trans c) d2
      exact ⟨pg_strong z, fun _ => z⟩
    · cases hc
  | sub o i =>
    simp only at hc
    split at hc
    · rename_i a b p
      simp only [Bool.and_eq_true] at hc
      refine ⟨pg_subX (h.e X sc fn _ _ ok hc.1.1) (h.e X sc fn _ _ ok hc.1.2) fun v => ?_, fun e => by cases e⟩
      have hb := hc.2
      cases b <;> first | rfl | cases hb
    · cases hc
theorem stGs_ok (h : Snd C cs n) (ok : XOk C cs X sc fn) {es : List Expr} {ts : List Tg} (hc : stGs (ck C n) sc fn es ts = true) : PGs X es (tGs X.K (tgsOwn ts) fun d σ S => asTs cs ts d σ S) ∧ es.all noStar = true ∧ es.length = ts.length := by
  unfold stGs at hc
  split at hc
  · exact ⟨pgs_nilX, rfl, rfl⟩
  · simp only [Bool.and_eq_true] at hc
    obtain ⟨a, b, c⟩ := h.gs X sc fn _ _ ok hc.2
    exact ⟨pgs_consX (h.g X sc fn _ _ ok hc.1.2).1 a (assign_cons hc.1.1), by simp [hc.1.1, b], by simp [c]⟩
  · cases hc
theorem Snd.all : ∀ n, Snd C cs n
  | 0 => Snd.zero
  | n + 1 =>
    have h := Snd.all n
    { e := fun X sc fn e t ok hc => stE_ok h ok hc
      t := fun X sc fn e t ok hc => stT_ok h ok hc
      l := fun X sc fn e t ok hc => stL_ok h ok hc
      xs := fun X sc fn e t ok hc => (stXs_ok h ok hc).1
      xp := fun X sc fn e t ok hc => (stXs_ok h ok hc).2
      o := fun X sc fn e t ok hc => stO_ok h ok hc
      ts := fun X sc fn e t ok hc => stTs_ok h ok hc
      k := fun X sc fn e t ok hc => stK_ok h ok hc
      i := fun X sc fn g e t ok hc => stI_ok h ok hc
      iw := fun sc fn g e t hc w => stI_w hc w
      is := fun sc fn g e t hc => by
        have hc : stI C (ck C n) sc fn g e t = true := hc
        unfold stI at hc
        simp only [Bool.and_eq_true] at hc
        exact hc.1
      g := fun X sc fn e t ok hc => stG_ok h ok hc
      gs := fun X sc fn e t ok hc => stGs_ok h ok hc }
end
end Ev

namespace Ev
open PySem PySem.Spec PyProof.Rows L2
def isNameE : Expr → Bool
  | .Name .. => true
  | _ => false
def starred : Expr → Bool
  | .Starred .. => true
  | _ => false
def swLine (ts : List Expr) : Nat := (ts.head?.map (·.pos.line)).getD 0
def swNames (sc : Scope) (ts : List Expr) : List Str := ts.filterMap fun
  | .Name id pos => if sc.names.lookup id == some .local && pos.line == swLine ts then some id else none
  | _ => none
def fnKind (sc : Scope) : Bool := decide (sc.kind = .function)
theorem swapped_eq {sc : Scope} {env : Env} {ts vs : List Expr} {k k2 : Nat} {p p2 : Pos} (hsc : env.scope = sc) (hk : fnKind sc = true) : swappedStores [.Tuple ts k p] (.Tuple vs k2 p2) env =
    if (!(ts.length == 2 || ts.length == 3) || vs.length != ts.length) = true then pure none
    else if (vs.any fun | .Starred .. => true | _ => false) = true then pure none
    else if ((swNames sc ts).length != ts.length || (swNames sc ts).eraseDups.length != (swNames sc ts).length) = true then pure none
    else if vs.all (foldedForSure 8) = true then pure none
    else if vs.all (constantsAlone 8) = true then (do unsupported "assign.tuple-of-constant-expressions:order-of-the-stores"; return some (swNames sc ts))
    else pure (some (swNames sc ts)) := by
  subst hsc
  have hb : env.blockKind = .function := by
    unfold Env.blockKind
    rw [of_decide_eq_true hk]
    rfl
  unfold swappedStores
  simp only [hb]
  rw [show (ScopeKind.function != ScopeKind.function) = false from rfl, Bool.or_false]
  rfl
def swapNone (sc : Scope) (ts vs : List Expr) : Bool :=
  (!(ts.length == 2 || ts.length == 3) || vs.length != ts.length) || (vs.any fun | .Starred .. => true | _ => false) || ((swNames sc ts).length != ts.length || (swNames sc ts).eraseDups.length != (swNames sc ts).length) || vs.all (foldedForSure 8)
def swapSome (sc : Scope) (ts vs : List Expr) : Bool :=
  !(!(ts.length == 2 || ts.length == 3) || vs.length != ts.length) && !(vs.any fun | .Starred .. => true | _ => false) && !((swNames sc ts).length != ts.length || (swNames sc ts).eraseDups.length != (swNames sc ts).length) && !(vs.all (foldedForSure 8)) && !(vs.all (constantsAlone 8))
theorem swapNone_ok {sc : Scope} {env : Env} {ts vs : List Expr} {k k2 : Nat} {p p2 : Pos} (hsc : env.scope = sc) (hk : fnKind sc = true) (h : swapNone sc ts vs = true) : swappedStores [.Tuple ts k p] (.Tuple vs k2 p2) env = pure none := by
  rw [swapped_eq hsc hk]
  unfold swapNone at h
  by_cases h1 : (!(ts.length == 2 || ts.length == 3) || vs.length != ts.length) = true
  · rw [if_pos h1]
  · rw [if_neg h1]
    by_cases h2 : (vs.any fun | .Starred .. => true | _ => false) = true
    · rw [if_pos h2]
    · rw [if_neg h2]
      by_cases h3 : ((swNames sc ts).length != ts.length || (swNames sc ts).eraseDups.length != (swNames sc ts).length) = true
      · rw [if_pos h3]
      · rw [if_neg h3]
        by_cases h4 : vs.all (foldedForSure 8) = true
        · rw [if_pos h4]
        · rw [Bool.not_eq_true] at h1 h2 h3 h4
          rw [h1, h2, h3, h4] at h
          cases h
theorem swapSome_ok {sc : Scope} {env : Env} {ts vs : List Expr} {k k2 : Nat} {p p2 : Pos} (hsc : env.scope = sc) (hk : fnKind sc = true) (h : swapSome sc ts vs = true) : swappedStores [.Tuple ts k p] (.Tuple vs k2 p2) env = pure (some (swNames sc ts)) := by
  rw [swapped_eq hsc hk]
  unfold swapSome at h
  simp only [Bool.and_eq_true, Bool.not_eq_true'] at h
  obtain ⟨⟨⟨⟨h1, h2⟩, h3⟩, h4⟩, h5⟩ := h
  rw [if_neg (by rw [h1]; exact Bool.false_ne_true), if_neg (by rw [h2]; exact Bool.false_ne_true), if_neg (by rw [h3]; exact Bool.false_ne_true), if_neg (by rw [h4]; exact Bool.false_ne_true), if_neg (by rw [h5]; exact Bool.false_ne_true)]
/-- does the store come ahead of the end of the block? -/
def swB (sc scope : Scope) (x : Str) (px vp : Pos) : Bool := (sc.names.lookup x == some .local) && px.line == vp.line && !(scope.names.any fun (n, k) => n == x && (k == .local || k == .cell))
theorem swB_eq {sc scope : Scope} {env : Env} {x : Str} {px vp : Pos} {el : Expr} {gs : List Comprehension} {ln : Nat} (hsc : env.scope = sc) (hk : fnKind sc = true) : swapsWith (.ListComp el gs scope vp) (some (.Name x px)) ln env = pure (swB sc scope x px vp) := by
  subst hsc
  have hb : env.blockKind = .function := by
    unfold Env.blockKind
    rw [of_decide_eq_true hk]
    rfl
  unfold swapsWith
  simp only [hb]
  rfl
theorem swNo {v : Expr} (h : notComp v = true) (o : Option Expr) (ln : Nat) (env : Env) : swapsWith v o ln env = pure false := by
  cases v <;> first | rfl | cases h
theorem swTg {v tg : Expr} (h : isNameE tg = false) (ln : Nat) (env : Env) : swapsWith v (some tg) ln env = pure false := by
  cases tg <;> first | (cases v <;> rfl) | cases h
def okSet (sc : Scope) (x : Str) (px : Pos) (v : Expr) : Bool := match v with
  | .ListComp _ _ scope vp => (lcl sc x || !(swB sc scope x px vp))
  | v => notComp v
def okAsg (sc : Scope) (tg v : Expr) : Bool := match tg with
  | .Tuple ts _ _ => match v with
    | .Tuple vs _ _ => swapNone sc ts vs
    | _ => true
  | .Subscript _ _ _ => true
  | _ => false
def okPar (C : Cf) (sc : Scope) (ts : List Expr) (is : List Nat) : Bool := match ts, is with
      | [.Name x _, .Name y _], [i, j] => decide (C.N[i]? = some x) && decide (C.N[j]? = some y) && decide (i ≠ j) && lcl sc x && lcl sc y && decide (swNames sc ts = [x, y])
      | [.Name x _, .Name y _, .Name z _], [i, j, l] => decide (C.N[i]? = some x) && decide (C.N[j]? = some y) && decide (C.N[l]? = some z) && decide (i ≠ j ∧ i ≠ l ∧ j ≠ l) && lcl sc x && lcl sc y && lcl sc z && decide (swNames sc ts = [x, y, z])
      | _, _ => false
structure Sk where
  s : Scope → Stmt → St → Bool
  b : Scope → List Stmt → List St → Bool
section
variable (C : Cf) (n : Nat)
def top : Str → Bool := fun _ => true
def stS (k : Sk) (sc : Scope) (s : Stmt) (t : St) : Bool := match t with
  | .set i e => match s with
    | .Assign [.Name x px] v pos => decide (C.N[i]? = some x) && (lcl sc x || cel sc x) && (ck C (n + 1)).e sc top v e && okSet sc x px v
    | _ => false
  | .asg t e => match s with
    | .Assign [tg] v pos => !(isNameE tg) && noStar tg && (ck C n).g sc top tg t && (ck C n).e sc top v e && okAsg sc tg v
    | _ => false
  | .par is es => match s with
    | .Assign [.Tuple ts _ _] (.Tuple vs _ _) pos => swapSome sc ts vs && (ck C n).l sc top vs es && okPar C sc ts is && decide (vs.length = is.length)
    | _ => false
  | .ite c a b => match s with
    | .If e p q _ => (ck C n).t sc top e c && k.b sc p a && k.b sc q b
    | _ => false
  | .whl c a => match s with
    | .While e p [] _ => (ck C n).t sc top e c && k.b sc p a
    | _ => false
  | .for tg it a => match s with
    | .For g e p [] _ => (ck C n).i sc top g e it && (ck C n).g sc top g tg && k.b sc p a
    | _ => false
  | .ret e => match s with
    | .Return (some v) _ => (ck C n).e sc top v e
    | _ => false
  | .retN => match s with
    | .Return none _ => true
    | _ => false
  | .exp e => match s with
    | .Expr v _ => notComp v && (ck C n).e sc top v e
    | _ => false
  | .pass => match s with
    | .Pass _ => true
    | _ => false
  | .brk => match s with
    | .Break _ => true
    | _ => false
  | .cnt => match s with
    | .Continue _ => true
    | _ => false
  | .nev => true
def stB (k : Sk) (sc : Scope) (s : List Stmt) (t : List St) : Bool := match s, t with
  | [], [] => true
  | s :: ss, t :: ts => k.s sc s t && k.b sc ss ts
  | _, _ => false
def cSk : Nat → Sk
  | 0 => ⟨fun _ _ _ => false, fun _ _ _ => false⟩
  | m + 1 => ⟨stS C n (cSk m), stB (cSk m)⟩
end
section
variable {C : Cf} {cs : Nat → List D → Sg → Rs VX} {X : Cx} {sc : Scope} {n : Nat}
structure SndS (C : Cf) (cs : Nat → List D → Sg → Rs VX) (n m : Nat) : Prop where
  s : ∀ X sc s t, XOk C cs X sc top → fnKind sc = true → (cSk C n m).s sc s t = true → PS X s (tS X.K fun σ S => exS cs t σ S)
  b : ∀ X sc s t, XOk C cs X sc top → fnKind sc = true → (cSk C n m).b sc s t = true → PSs X s (tS X.K fun σ S => exB cs t σ S)
theorem stE_list {e : List Comprehension} {el : Expr} {scope : Scope} {p : Pos} {t : Ex} {fn : Str → Bool} (h : stE C (ck C n) sc fn (.ListComp el e scope p) t = true) :
    (∃ g iter ifs elt tg it conds own, e = [⟨g, iter, ifs, 0⟩] ∧ t = .comp elt tg it conds own ∧ blkB C.N sc scope (ownP C.N own) = true ∧ (ck C n).i sc fn g iter it = true ∧ (∀ x ∈ tgOwn tg, own.contains x = true) ∧
      (ck C n).g (relS scope sc) (blkFn scope) g tg = true ∧ (ck C n).ts (relS scope sc) (blkFn scope) ifs conds = true ∧ (ck C n).e (relS scope sc) (blkFn scope) el elt = true) ∨
    (∃ g iter ifs g2 iter2 ifs2 elt tg it conds tg2 it2 conds2 own own2, e = [⟨g, iter, ifs, 0⟩, ⟨g2, iter2, ifs2, 0⟩] ∧ t = .comp2 elt tg it conds tg2 it2 conds2 own own2 ∧ blkB C.N sc scope (ownP C.N own) = true ∧ (ck C n).i sc fn g iter it = true ∧ (∀ x ∈ tgOwn tg, own.contains x = true) ∧
      (ck C n).g (relS scope sc) (blkFn scope) g tg = true ∧ (ck C n).ts (relS scope sc) (blkFn scope) ifs conds = true ∧ (ck C n).e (relS scope sc) (blkFn scope) el elt = true ∧
      (∀ x ∈ own2, own.contains x = true) ∧ (ck C n).i (relS scope sc) (blkFn scope) g2 iter2 it2 = true ∧ (∀ x ∈ tgOwn tg2, own2.contains x = true) ∧ (ck C n).g (relS scope sc) (blkFn scope) g2 tg2 = true ∧ (ck C n).ts (relS scope sc) (blkFn scope) ifs2 conds2 = true) := by
  unfold stE at h
  simp only at h
  cases t <;> simp only at h <;> first | (cases h; done) | skip
  · split at h
    · rename_i heq
      cases heq
      simp only [Bool.and_eq_true, decide_eq_true_eq, List.all_eq_true] at h
      obtain ⟨⟨⟨⟨⟨⟨rfl, hb⟩, h1⟩, h2⟩, h3⟩, h4⟩, h5⟩ := h
      exact .inl ⟨_, _, _, _, _, _, _, _, rfl, rfl, hb, h1, h2, h3, h4, h5⟩
    · cases h
  · split at h
    · rename_i heq
      cases heq
      simp only [Bool.and_eq_true, decide_eq_true_eq, List.all_eq_true] at h
      obtain ⟨⟨⟨⟨⟨⟨⟨⟨⟨⟨⟨⟨rfl, rfl⟩, hb⟩, h1⟩, h2⟩, h3⟩, h4⟩, h5⟩, k1⟩, k2⟩, k3⟩, k4⟩, k5⟩ := h
      exact .inr ⟨_, _, _, _, _, _, _, _, _, _, _, _, _, _, _, rfl, rfl, hb, h1, h2, h3, h4, h5, k1, k2, k3, k4, k5⟩
    · cases h
theorem loc_ok (ok : XOk C cs X sc top) {x : Str} (h : (lcl sc x || cel sc x) = true) : L2.Loc X.env.scope x := by
  rw [ok.sc]
  simp only [Bool.or_eq_true] at h
  rcases h with h | h
  · exact .inl (of_decide_eq_true h)
  · exact .inr (of_decide_eq_true h)
theorem lcl_ok (ok : XOk C cs X sc top) {x : Str} (h : lcl sc x = true) : X.env.scope.names.lookup x = some .local := by
  rw [ok.sc]
  exact of_decide_eq_true h
theorem set_ok (ok : XOk C cs X sc top) (hk : fnKind sc = true) {i : Nat} {x : Str} {px pos : Pos} {v : Expr} {e : Ex} (h1 : C.N[i]? = some x) (h2 : (lcl sc x || cel sc x) = true) (h3 : (ck C (n + 1)).e sc top v e = true)
    (h4 : okSet sc x px v = true) : PS X (.Assign [.Name x px] v pos) (tS X.K fun σ S => exS cs (.set i e) σ S) := by
  have hx := loc_ok ok h2
  have he := (Snd.all (C := C) (cs := cs) (n + 1)).e X sc top _ _ ok h3
  have hi : X.N[i]? = some x := by rw [ok.nn]; exact h1
  have hf : X.fn x = true ∨ X.env.scope.names.lookup x = some .local := .inl (by rw [ok.fn]; rfl)
  unfold okSet at h4
  split at h4
  · rename_i el gs scope vp
    by_cases hsw : swB sc scope x px vp = true
    · have hl : lcl sc x = true := by
        rw [hsw] at h4
        simpa using h4
      have hsx : swapsWith (.ListComp el gs scope vp) (some (.Name x px)) pos.line X.env = pure true := by rw [swB_eq ok.sc hk, hsw]
      rcases stE_list (n := n) (sc := sc) (fn := top) h3 with ⟨g, iter, ifs, elt, tg, it, conds, own, rfl, rfl, q1, q2, q3, q4, q5, q6⟩ | ⟨g, iter, ifs, g2, iter2, ifs2, elt, tg, it, conds, tg2, it2, conds2, own, own2, rfl, rfl, q1, q2, q3, q4, q5, q6, k1, k2, k3, k4, k5⟩
      · have z := ps_compX (i := i) (comp_ok (Snd.all n) ok q1 q2 q3 q4 q5 q6) hi (lcl_ok ok hl) hsx
        rw [ownP_ix] at z
        exact z
      · have z := ps_comp2X (i := i) (comp2_ok (Snd.all n) ok q1 q2 q3 q4 q5 q6 k1 k2 k3 k4 k5) hi (lcl_ok ok hl) hsx
        rw [ownP_ix] at z
        exact z
    · rw [Bool.not_eq_true] at hsw
      exact ps_setX ok.nd hi hx he (by rw [swB_eq ok.sc hk, hsw]) hf
  · exact ps_setX ok.nd hi hx he (swNo h4 _ _ _) hf
theorem asg_ok (ok : XOk C cs X sc top) (hk : fnKind sc = true) {tg v : Expr} {t : Tg} {e : Ex} {pos : Pos} (h1 : isNameE tg = false) (h2 : noStar tg = true) (h3 : (ck C n).g sc top tg t = true) (h4 : (ck C n).e sc top v e = true)
    (h5 : okAsg sc tg v = true) : PS X (.Assign [tg] v pos) (tS X.K fun σ S => exS cs (.asg t e) σ S) := by
  refine ps_asgX ((Snd.all n).e X sc top _ _ ok h4) ((Snd.all n).g X sc top _ _ ok h3).1 (swTg h1 _ _) ?_ (assign_cons h2)
  unfold okAsg at h5
  split at h5
  · split at h5
    · exact swapNone_ok ok.sc hk h5
    · rename_i hv
      cases v <;> first | rfl | exact absurd rfl (hv _ _ _)
  · cases v <;> rfl
  · cases h5
theorem par_ok (ok : XOk C cs X sc top) (hk : fnKind sc = true) {ts vs : List Expr} {is : List Nat} {es : List Ex} {k k2 : Nat} {p p2 pos : Pos} (h1 : swapSome sc ts vs = true) (h2 : (ck C n).l sc top vs es = true)
    (h3 : okPar C sc ts is = true) (h4 : vs.length = is.length) : PS X (.Assign [.Tuple ts k p] (.Tuple vs k2 p2) pos) (tS X.K fun σ S => exS cs (.par is es) σ S) := by
  have hl := (Snd.all (C := C) (cs := cs) n).l X sc top _ _ ok h2
  have hw := swapSome_ok (k := k) (k2 := k2) (p := p) (p2 := p2) ok.sc hk h1
  unfold okPar at h3
  split at h3
  · rename_i x px y py i j
    simp only [Bool.and_eq_true, decide_eq_true_eq] at h3
    obtain ⟨⟨⟨⟨⟨a1, a2⟩, a3⟩, a4⟩, a5⟩, a6⟩ := h3
    rw [a6] at hw
    match vs, h4 with
    | [va, vb], _ => exact ps_parX ok.calm ok.nd (by rw [ok.nn]; exact a1) (by rw [ok.nn]; exact a2) a3 (lcl_ok ok a4) (lcl_ok ok a5) hl.1 hw
  · rename_i x px y py z pz i j l
    simp only [Bool.and_eq_true, decide_eq_true_eq] at h3
    obtain ⟨⟨⟨⟨⟨⟨⟨a1, a2⟩, a2'⟩, a3⟩, a4⟩, a5⟩, a5'⟩, a6⟩ := h3
    rw [a6] at hw
    match vs, h4 with
    | [va, vb, vc], _ => exact ps_par3X ok.calm ok.nd (by rw [ok.nn]; exact a1) (by rw [ok.nn]; exact a2) (by rw [ok.nn]; exact a2') a3.1 a3.2.1 a3.2.2 (lcl_ok ok a4) (lcl_ok ok a5) (lcl_ok ok a5') hl.1 hw
  · cases h3
theorem own_ok (ok : XOk C cs X sc top) : PassesOwn (model X.prog X.w) X.A X.env X.xe := by
  rw [ok.xe]
  exact PassesOwn.never
variable {m : Nat}
theorem stS_ok (h : SndS C cs n m) (ok : XOk C cs X sc top) (hk : fnKind sc = true) {s : Stmt} {t : St} (hc : stS C n (cSk C n m) sc s t = true) : PS X s (tS X.K fun σ S => exS cs t σ S) := by
  have hE := Snd.all (C := C) (cs := cs) n
  unfold stS at hc
  cases t with
  | set i e =>
    simp only at hc
    split at hc
    · rw [Bool.and_eq_true, Bool.and_eq_true, Bool.and_eq_true, decide_eq_true_eq] at hc
      exact set_ok ok hk hc.1.1.1 hc.1.1.2 hc.1.2 hc.2
    · cases hc
  | asg t e =>
    simp only at hc
    split at hc
    · rw [Bool.and_eq_true, Bool.and_eq_true, Bool.and_eq_true, Bool.and_eq_true, Bool.not_eq_true'] at hc
      exact asg_ok ok hk hc.1.1.1.1 hc.1.1.1.2 hc.1.1.2 hc.1.2 hc.2
    · cases hc
  | par is es =>
    simp only at hc
    split at hc
    · rw [Bool.and_eq_true, Bool.and_eq_true, Bool.and_eq_true, decide_eq_true_eq] at hc
      exact par_ok ok hk hc.1.1.1 hc.1.1.2 hc.1.2 hc.2
    · cases hc
  | ite c a b =>
    simp only at hc
    split at hc
    · simp only [Bool.and_eq_true] at hc
      exact ps_iteX (hE.t X sc top _ _ ok hc.1.1).1 (h.b X sc _ _ ok hk hc.1.2) (h.b X sc _ _ ok hk hc.2)
    · cases hc
  | whl c a =>
    simp only at hc
    split at hc
    · simp only [Bool.and_eq_true] at hc
      exact ps_whileX (own_ok ok) (hE.t X sc top _ _ ok hc.1).1 (h.b X sc _ _ ok hk hc.2) wFuel
    · cases hc
  | «for» tg it a =>
    simp only at hc
    split at hc
    · simp only [Bool.and_eq_true] at hc
      exact ps_forX (own_ok ok) ok.calm (hE.i X sc top _ _ _ ok hc.1.1) (hE.ig ok hc.1.1 hc.1.2) (h.b X sc _ _ ok hk hc.2) (fun x => notSet_fold (hE.is _ _ _ _ _ hc.1.1) _ x)
    · cases hc
  | ret e =>
    simp only at hc
    split at hc
    · exact ps_retX (hE.e X sc top _ _ ok hc)
    · cases hc
  | retN =>
    simp only at hc
    split at hc
    · exact ps_retNX
    · cases hc
  | exp e =>
    simp only at hc
    split at hc
    · simp only [Bool.and_eq_true] at hc
      exact ps_expX (hE.e X sc top _ _ ok hc.2) (swNo hc.1 _ _ _)
    · cases hc
  | pass =>
    simp only at hc
    split at hc
    · exact ps_passX
    · cases hc
  | brk =>
    simp only at hc
    split at hc
    · exact ps_brkX
    · cases hc
  | cnt =>
    simp only at hc
    split at hc
    · exact ps_cntX
    · cases hc
  | nev => exact ps_nevX
theorem stB_ok (h : SndS C cs n m) (ok : XOk C cs X sc top) (hk : fnKind sc = true) {s : List Stmt} {t : List St} (hc : stB (cSk C n m) sc s t = true) : PSs X s (tS X.K fun σ S => exB cs t σ S) := by
  unfold stB at hc
  split at hc
  · exact pss_nilX
  · simp only [Bool.and_eq_true] at hc
    exact pss_consX (h.s X sc _ _ ok hk hc.1) (h.b X sc _ _ ok hk hc.2)
  · cases hc
theorem SndS.all : ∀ m, SndS C cs n m
  | 0 => ⟨fun _ _ _ _ _ _ h => (Bool.false_ne_true h).elim, fun _ _ _ _ _ _ h => (Bool.false_ne_true h).elim⟩
  | m + 1 => ⟨fun X sc s t ok hk hc => stS_ok (SndS.all m) ok hk hc, fun X sc s t ok hk hc => stB_ok (SndS.all m) ok hk hc⟩
variable {P : Program} {w : World} {K : PySem.W.Frag} {mg : Str → Option Value} {base : Heap}
/-- a def that stands ready, by its promise -/
structure Rdy (P : Program) (w : World) (K : PySem.W.Frag) (mg : Str → Option Value) (base : Heap) (k : Nat) (g : Fe) (m : Fsem) : Prop where
  ok : ∃ (fa : Addr) (fd : FuncData), FnOk P w K mg base CX0 k fa fd g.ps (spF K m) ∧ mg g.x = some (.ref fa) ∧ PySem.W.keepIn K (.ref fa) = true ∧ Binds K fd g.ps [] ∧
    ∀ q ∈ g.kws, KBinds K fd g.ps q.2.1 (permG q.1 q.2.1.length q.2.2) (permG q.1 q.2.1.length q.2.2)
theorem Rdy.mono {j k : Nat} {g : Fe} {m : Fsem} (r : Rdy P w K mg base j g m) (h : j ≤ k) : Rdy P w K mg base k g m := by
  obtain ⟨fa, fd, a, b⟩ := r.ok
  exact ⟨fa, fd, a.mono h, b⟩
/-- what a def computes, by its own tree -/
def semF (cs : Nat → List D → Sg → Rs VX) (np n : Nat) (B : List St) : Fsem := fun ds S => if ds.length = np then runF cs n B ds S else none
theorem start_en {ι : List Lc} {H : Hp} {N : List Str} {ds : List D} {vs : List V} (r : RelL K ι H ds vs) : EnO K ι H (ds.map some ++ List.replicate (N.length - ds.length) none) (L2.start N vs) := by
  have hl := r.length
  refine ⟨by simp [L2.start, hl], fun i d e => ?_⟩
  unfold L2.start
  by_cases hi : i < ds.length
  · rw [List.getElem?_append_left (by simpa using hi), List.getElem?_map] at e
    rw [List.getElem?_append_left (by simpa [← hl] using hi), List.getElem?_map]
    cases q : ds[i]? with
    | none => rw [q] at e; cases e
    | some d' =>
      rw [q] at e
      cases e
      obtain ⟨v, hv, rv⟩ := r.get q
      exact ⟨v, by rw [hv]; rfl, rv⟩
  · rw [List.getElem?_append_right (by simpa using hi)] at e
    have := List.mem_of_getElem? e
    rw [List.mem_replicate] at this
    cases this.2
theorem fn_ok {x qual : Str} {st : Stmt} {f : Addr} {fd : FuncData} {N ps : List Str} {k : Nat} {B : List St} (F : Fun K x qual st f fd) (S : FnScope N ps (defScope st)) (hN : C.N = N) (hnm : C.N.all nmOk = true) (chk : (cSk C n m).b (defScope st) (defBody st) B = true)
    (hfe : ∀ g ∈ C.fns, Rdy P w K mg base k g (cs g.ix)) (hcon : ∀ (x : Str) (d : D), C.con.lookup x = some d → ∃ (v : V) (u : Value), mg x = some u ∧ RelV v u ∧ ∀ ι H, Rel K ι H d v) (hblt : ∀ x ∈ C.blt, mg x = none) :
    FnOk P w K mg base CX0 (k + 1) f fd ps (spF K (semF cs ps.length N.length B)) := by
  refine F.ok S (fun vs H Q E h => ?_) (fun cdv A outer s H vs Q E hr h => ?_)
  · obtain ⟨ι, ds, S', x, S'', r, _, hf, _⟩ := h
    unfold semF at hf
    split at hf
    · rename_i hl
      rw [← r.length, hl]
    · cases hf
  · obtain ⟨ι, ds, S0, x, S1, r, hS, hf, q⟩ := h
    unfold semF at hf
    split at hf
    · have ok : XOk C cs (cxOf CX0 P w K mg base N qual (defScope st) f cdv A outer s H E).nox (defScope st) top := by
        refine ⟨hN.symm, S.nd, rfl, rfl, rfl, rfl, ?_, hnm, fun g hg => ?_, hcon, hblt⟩
        · have z := hr.un
          show (A.deeper (envOfC qual (defScope st) s.heap.objs.size f cdv)).units + 65 < cLine
          omega
        · obtain ⟨fa, fd', a1, a2, a3, a4, a5⟩ := (hfe g hg).ok
          exact ⟨k, fa, fd', a1, hr, a2, a3, a4, a5⟩
      refine ⟨_, (SndS.all (C := C) (cs := cs) (n := n) m).b _ _ _ _ ok (by unfold fnKind; rw [S.kind]; rfl) chk, ?_⟩
      unfold runF at hf
      obtain ⟨p, S2, h1, h2⟩ := bnd_eq hf
      refine ⟨ι, _, S0, p, S2, start_en r, hS, h1, ?_⟩
      obtain ⟨fl, σ'⟩ := p
      cases fl with
      | nx => cases h2; exact fun ι' H' σv g s e => FinX.non s (q.mono g)
      | rt v => cases h2; exact q
      | bk => cases h2
      | ct => cases h2
    · cases hf
end
end Ev

namespace Ev
open PySem PySem.Spec PyProof.Rows L2
mutual
/-- all places lie below n -/
def ClD (n : Nat) : D → Prop
  | .non => True
  | .bl _ => True
  | .int _ => True
  | .str _ => True
  | .loc l => l < n
  | .tup ds => ClL n ds
def ClL (n : Nat) : List D → Prop
  | [] => True
  | d :: ds => ClD n d ∧ ClL n ds
end
def ClC (n : Nat) : Cell → Prop
  | .lst ds => ClL n ds
  | .frz ds => ClL n ds
  | .dK kvs => ∀ p ∈ kvs, ClD n p.2
  | .dT kvs => ∀ p ∈ kvs, ClD n p.2
def ClS (n : Nat) (S : Sg) : Prop := ∀ (l : Nat) (c : Cell), S[l]? = some c → ClC n c
theorem clL_mem {n : Nat} : ∀ {ds : List D}, ClL n ds ↔ ∀ d ∈ ds, ClD n d
  | [] => by simp [ClL]
  | d :: ds => by simp [ClL, clL_mem (ds := ds)]
section
variable {K : PySem.W.Frag} {ι ι' : List Lc} {H H' : Hp} {S S' : Sg}
mutual
theorem rel_cl : ∀ (d : D) (v : V), Rel K ι H d v → ClD ι.length d
  | .non, _, _ => trivial
  | .bl _, _, _ => trivial
  | .int _, _, _ => trivial
  | .str _, _, _ => trivial
  | .loc l, v, h => by
    unfold Rel at h
    obtain ⟨p, e, _⟩ := h
    exact (List.getElem?_eq_some_iff.mp e).1
  | .tup ds, v, h => by
    unfold Rel at h
    obtain ⟨a, xs, _, _, r⟩ := h
    exact relL_cl ds xs r
theorem relL_cl : ∀ (ds : List D) (vs : List V), RelL K ι H ds vs → ClL ι.length ds
  | [], _, _ => trivial
  | d :: ds, vs, h => by
    unfold RelL at h
    obtain ⟨x, r, _, h1, h2⟩ := h
    exact ⟨rel_cl d x h1, relL_cl ds r h2⟩
end
mutual
theorem rel_cut {r : List Lc} : ∀ (d : D) (v : V), Rel K (ι ++ r) H d v → ClD ι.length d → Rel K ι H d v
  | .non, _, h, _ => by simpa [Rel] using h
  | .bl _, _, h, _ => by simpa [Rel] using h
  | .int _, _, h, _ => by simpa [Rel] using h
  | .str _, _, h, _ => by simpa [Rel] using h
  | .loc l, v, h, c => by
    unfold Rel at h ⊢
    obtain ⟨p, e, q⟩ := h
    rw [List.getElem?_append_left c] at e
    exact ⟨p, e, q⟩
  | .tup ds, v, h, c => by
    unfold Rel at h ⊢
    obtain ⟨a, xs, e, q, r'⟩ := h
    exact ⟨a, xs, e, q, relL_cut ds xs r' c⟩
theorem relL_cut {r : List Lc} : ∀ (ds : List D) (vs : List V), RelL K (ι ++ r) H ds vs → ClL ι.length ds → RelL K ι H ds vs
  | [], _, h, _ => by simpa [RelL] using h
  | d :: ds, vs, h, c => by
    unfold RelL at h ⊢
    obtain ⟨x, t, e, h1, h2⟩ := h
    exact ⟨x, t, e, rel_cut d x h1 c.1, relL_cut ds t h2 c.2⟩
end
theorem paired_and {α β γ : Type} {R : γ × α → γ × β → Prop} {R' : γ × α → γ × β → Prop} {P : γ × α → Prop} (h : ∀ p q, P p → R p q → R' p q) : ∀ {xs : List (γ × α)} {ys : List (γ × β)}, Paired R xs ys → (∀ p ∈ xs, P p) → Paired R' xs ys
  | _, _, .nil, _ => .nil
  | _, _, .cons a b, c => .cons (h _ _ (c _ List.mem_cons_self) a) (paired_and h b fun p hp => c p (List.mem_cons_of_mem _ hp))
theorem paired_left {α β : Type} {R : α → β → Prop} {P : α → Prop} (h : ∀ p q, R p q → P p) : ∀ {xs : List α} {ys : List β}, Paired R xs ys → ∀ p ∈ xs, P p
  | _, _, .nil, p, hp => by cases hp
  | _, _, .cons a b, p, hp => by
    rcases List.mem_cons.mp hp with e | hp
    · subst e; exact h _ _ a
    · exact paired_left h b p hp
theorem StO.cl (s : StO K ι S H) : ClS S.length S := fun l c e => by
  obtain ⟨p, _, k⟩ := s.ok l c e
  rw [s.len]
  cases c with
  | lst ds => obtain ⟨_, xs, _, r⟩ := k; exact relL_cl _ _ r
  | frz ds => obtain ⟨_, xs, _, r⟩ := k; exact relL_cl _ _ r
  | dK kvs => obtain ⟨_, ws, _, r⟩ := k; exact paired_left (P := fun (p : Key × D) => ClD ι.length p.2) (fun p q h => rel_cl _ _ h.2) r
  | dT kvs => obtain ⟨_, ws, _, r⟩ := k; exact paired_left (P := fun (p : List Key × D) => ClD ι.length p.2) (fun p q h => rel_cl _ _ h.2) r
theorem CellOk.cut {r : List Lc} {c : Cell} {p : Lc} (k : CellOk K (ι ++ r) H c p) (cl : ClC ι.length c) : CellOk K ι H c p := by
  cases c with
  | lst ds => obtain ⟨a, xs, b, q⟩ := k; exact ⟨a, xs, b, relL_cut _ _ q cl⟩
  | frz ds => obtain ⟨a, xs, b, q⟩ := k; exact ⟨a, xs, b, relL_cut _ _ q cl⟩
  | dK kvs => obtain ⟨a, ws, b, q⟩ := k; exact ⟨a, ws, b, paired_and (P := fun p => ClD ι.length p.2) (fun p q c h => ⟨h.1, rel_cut _ _ h.2 c⟩) q cl⟩
  | dT kvs => obtain ⟨a, ws, b, q⟩ := k; exact ⟨a, ws, b, paired_and (P := fun p => ClD ι.length p.2) (fun p q c h => ⟨h.1, rel_cut _ _ h.2 c⟩) q cl⟩
theorem StO.cut {r : List Lc} {G : Sg} (s : StO K (ι ++ r) (S ++ G) H) (hl : S.length = ι.length) (cl : ClS ι.length S) : StO K ι S H := by
  refine ⟨hl, fun i j a e1 e2 => s.inj i j a ?_ ?_, fun l c e => ?_⟩
  · rw [List.getElem?_append_left (List.getElem?_eq_some_iff.mp e1).1]; exact e1
  · rw [List.getElem?_append_left (List.getElem?_eq_some_iff.mp e2).1]; exact e2
  · have hlt := (List.getElem?_eq_some_iff.mp e).1
    obtain ⟨p, e1, k⟩ := s.ok l c (by rw [List.getElem?_append_left hlt]; exact e)
    rw [List.getElem?_append_left (by rw [← hl]; exact hlt)] at e1
    exact ⟨p, e1, k.cut (cl l c e)⟩
/-- the value as it is told: nothing above n is held, or it is a list of its own that is handed over -/
inductive Told (n : Nat) (T : Sg) : VX → VX → Prop
  | d {x : D} (h : ClD n x) : Told n T (.d x) (.d x)
  | l {ds : List D} (h : ClL n ds) : Told n T (.l ds) (.l ds)
  | own {l : Nat} {ds : List D} (h : n ≤ l) (e : T[l]? = some (.lst ds)) (c : ClL n ds) : Told n T (.d (.loc l)) (.l ds)
theorem fin_clean {G : Sg} {x1 x : VX} {Q : VK} (s0 : StO K ι S H) (hl : S.length ≤ S'.length) (cl : ClS S'.length S') (t : Told S'.length (S' ++ G) x1 x) (q : FinX K ι H S' x Q) : FinX K ι H (S' ++ G) x1 Q := by
  intro ι' H' v g s r nw
  have hle : S'.length ≤ ι'.length := by
    have := s.len
    rw [List.length_append] at this
    omega
  have hsp : ι' = ι'.take S'.length ++ ι'.drop S'.length := (List.take_append_drop _ _).symm
  have htl : (ι'.take S'.length).length = S'.length := by rw [List.length_take]; omega
  obtain ⟨r0, e0, n0⟩ := g.pre
  have h0 : ι.length ≤ S'.length := by rw [← s0.len]; exact hl
  have hpre : ι'.take S'.length = ι ++ r0.take (S'.length - ι.length) := by
    rw [e0, List.take_append, List.take_of_length_le h0]
  have g1 : Ge ι H (ι'.take S'.length) H' := ⟨⟨_, hpre, fun b hb => n0 b (List.mem_of_mem_take hb)⟩, g.keep, g.tups, g.frzs, g.there⟩
  have s1 : StO K (ι'.take S'.length) S' H' := by
    rw [hsp] at s
    exact s.cut htl.symm (by rw [htl]; exact cl)
  refine q _ H' v g1 s1 ?_ ?_
  · cases t with
    | d h =>
      have r' : Rel K ι' H' _ v := r
      rw [hsp] at r'
      exact rel_cut _ _ r' (by rw [htl]; exact h)
    | l h =>
      obtain ⟨a, xs, e, h1, h2, h3⟩ := r
      rw [hsp] at h3
      exact ⟨a, xs, e, h1, fun hm => h2 (List.mem_of_mem_take hm), relL_cut _ _ h3 (by rw [htl]; exact h)⟩
    | own h e c =>
      rename_i l ds
      obtain ⟨p, ep, k⟩ := s.ok _ _ e
      obtain ⟨kt, xs, hx, rx⟩ := k
      have r' : Rel K ι' H' (.loc l) v := r
      unfold Rel at r'
      obtain ⟨p', ep', ev⟩ := r'
      rw [ep] at ep'
      cases ep'
      refine ⟨p.1, xs, ev, hx, fun hm => ?_, ?_⟩
      · obtain ⟨i, hi⟩ := List.mem_iff_getElem?.mp hm
        have hi2 : i < S'.length := by
          have := (List.getElem?_eq_some_iff.mp hi).1
          omega
        rw [List.getElem?_take_of_lt hi2] at hi
        have ep2 : ι'[l]? = some (p.1, true) := by rw [ep, ← kt]
        have := s.inj i l p.1 hi ep2
        omega
      · rw [hsp] at rx
        exact relL_cut _ _ rx (by rw [htl]; exact c)
  · cases t with
    | d h => trivial
    | l h => exact nw
    | own h e c =>
      rename_i l ds
      intro a ea
      obtain ⟨p, ep, k⟩ := s.ok _ _ e
      have r' : Rel K ι' H' (.loc l) v := r
      unfold Rel at r'
      obtain ⟨p', ep', ev⟩ := r'
      rw [ep] at ep'
      cases ep'
      rw [ev] at ea
      cases ea
      have kt : p.2 = true := k.1
      have : p ∈ r0 := by
        rw [e0, List.getElem?_append_right (by omega)] at ep
        exact List.mem_of_getElem? ep
      exact n0 p.1 (by rw [← kt]; exact this)
/-- m' tells what m does, cleaned -/
def Cleans (m m' : Fsem) : Prop := ∀ ds S x S', ClL S.length ds → ClS S.length S → m' ds S = some (x, S') → ∃ x1 G, m ds S = some (x1, S' ++ G) ∧ S.length ≤ S'.length ∧ ClS S'.length S' ∧ Told S'.length (S' ++ G) x1 x
theorem spF_clean {m m' : Fsem} (h : Cleans m m') {vs : List V} {Q : VK} {E : XK} (q : spF K m' vs H Q E) : spF K m vs H Q E := by
  obtain ⟨ι, ds, S, x, S', r, s, hm, f⟩ := q
  obtain ⟨x1, G, h1, h2, h3, h4⟩ := h ds S x S' (by rw [s.len]; exact relL_cl _ _ r) s.cl hm
  exact ⟨ι, ds, S, x1, S' ++ G, r, s, h1, fin_clean s h2 h3 h4 f⟩
/-- nothing but a value -/
theorem Cleans.pure {m m' : Fsem} (h : ∀ ds S x S', ClL S.length ds → ClS S.length S → m' ds S = some (x, S') → S' = S ∧ ∃ x1 G, m ds S = some (x1, S ++ G) ∧ Told S.length (S ++ G) x1 x) : Cleans m m' := fun ds S x S' c1 c2 hm => by
  obtain ⟨rfl, x1, G, h1, h2⟩ := h ds S x S' c1 c2 hm
  exact ⟨x1, G, h1, Nat.le_refl _, c2, h2⟩
end
section
variable {P : Program} {w : World} {K : PySem.W.Frag} {mg : Str → Option Value} {base : Heap}
structure DefAt (K : PySem.W.Frag) (mg : Str → Option Value) (x : Str) (st : Stmt) : Prop where
  ex : ∃ (f : Addr) (oc : Value) (od : Option Addr) (kV doc pm : Value) (an : Option Addr) (cdv ct : Value) (osl : Array (Option Value)), mg x = some (.ref f) ∧
    K.lookup f = some ⟨oc, od, .func (PySem.W.fnOf x x (defArgs st) (defBody st) (defScope st) .none kV doc pm an cdv ct), osl⟩ ∧ PySem.W.codeIn K cdv x = true ∧ PySem.W.keepIn K (.ref f) = true
theorem def_mk {h : Heap} (X : K.In h) (G : h.Ns mainGlobals mg) {x : Str} {st : Stmt} {f : Addr} {oc : Value} {od an : Option Addr} {osl : Array (Option Value)} {kV doc pm cdv ct : Value} (a : PySem.W.nsIn K mainGlobals x = some (some (.ref f)))
    (l : K.lookup f = some ⟨oc, od, .func (PySem.W.fnOf x x (defArgs st) (defBody st) (defScope st) .none kV doc pm an cdv ct), osl⟩) (c : PySem.W.codeIn K cdv x = true) (k : PySem.W.keepIn K (.ref f) = true) : DefAt K mg x st :=
  ⟨f, oc, od, kV, doc, pm, an, cdv, ct, osl, PySem.W.mg_of X G a, l, c, k⟩
/-- how a def binds by place and by name -/
structure BindOk (x : Str) (st : Stmt) (ps : List Str) (kws : List (Nat × List Str × List Nat)) : Prop where
  ne : ps ≠ []
  pos : ∀ (kV doc pm : Value) (an : Option Addr) (cdv ct : Value) (us : List Value), us.length = ps.length → bindArgs (PySem.W.fnOf x x (defArgs st) (defBody st) (defScope st) .none kV doc pm an cdv ct) ⟨us, []⟩ = pure (ps.zip us)
  kw : ∀ q ∈ kws, ∀ (kV doc pm : Value) (an : Option Addr) (cdv ct : Value) (us ws : List Value), us.length = q.1 → ws.length = q.2.1.length → bindArgs (PySem.W.fnOf x x (defArgs st) (defBody st) (defScope st) .none kV doc pm an cdv ct) ⟨us, q.2.1.zip ws⟩ = pure (ps.zip ((permute (us ++ ws) q.2.2).getD []))
theorem rdy_of {x : Str} {st : Stmt} {ps : List Str} {kws : List (Nat × List Str × List Nat)} {ix k : Nat} {m : Fsem} (d : DefAt K mg x st) (b : BindOk x st ps kws) (h : ∀ f fd, Fun K x x st f fd → FnOk P w K mg base CX0 k f fd ps (spF K m)) : Rdy P w K mg base k ⟨x, ix, ps, kws⟩ m := by
  obtain ⟨f, oc, od, kV, doc, pm, an, cdv, ct, osl, h1, h2, h3, h4⟩ := d.ex
  have F := fun_mk (st := st) h2 h3 h4
  exact ⟨f, _, h _ _ F, h1, h4, .all (b.pos kV doc pm an cdv ct), fun q hq => kBinds_perm b.ne (b.kw q hq kV doc pm an cdv ct)⟩
/-- one def, checked, its promise cleaned -/
theorem rdy_mk {C : Cf} {cs : Nat → List D → Sg → Rs VX} {n m' : Nat} {x : Str} {st : Stmt} {N ps : List Str} {kws : List (Nat × List Str × List Nat)} {ix k : Nat} {B : List St} {m : Fsem} (d : DefAt K mg x st) (b : BindOk x st ps kws) (S : FnScope N ps (defScope st)) (hN : C.N = N) (hnm : C.N.all nmOk = true)
    (chk : (cSk C n m').b (defScope st) (defBody st) B = true) (hfe : ∀ g ∈ C.fns, Rdy P w K mg base k g (cs g.ix))
    (hcon : ∀ (x : Str) (d : D), C.con.lookup x = some d → ∃ (v : V) (u : Value), mg x = some u ∧ RelV v u ∧ ∀ ι H, Rel K ι H d v) (hblt : ∀ x ∈ C.blt, mg x = none) (cl : Cleans (semF cs ps.length N.length B) m) : Rdy P w K mg base (k + 1) ⟨x, ix, ps, kws⟩ m :=
  rdy_of d b fun f fd F => (fn_ok F S hN hnm chk hfe hcon hblt).imp fun _ _ _ _ q => spF_clean cl q
/-- never promised: at any level -/
theorem rdy_never {x : Str} {st : Stmt} {ps : List Str} {kws : List (Nat × List Str × List Nat)} {ix k : Nat} (d : DefAt K mg x st) (b : BindOk x st ps kws) : Rdy P w K mg base k ⟨x, ix, ps, kws⟩ (fun _ _ => none) :=
  rdy_of d b fun f fd F =>
  have no : ∀ {vs : List V} {H : Hp} {Q : VK} {E : XK}, ¬ spF K (fun _ _ => none) vs H Q E := fun h => by
    obtain ⟨_, _, _, _, _, _, _, h, _⟩ := h
    cases h
  ⟨fun vs H Q E h => (no h).elim, fun A outer s H args us vs Q E _ _ _ _ h => (no h).elim⟩
def spLaw (K : PySem.W.Frag) : Sp := fun vs H Q _ => ∃ (a : Addr) (ns : List Int), vs = [.ref a] ∧ SqL K H a (ns.map V.int) ∧ ns.length ≤ 63 ∧ ∀ H', Q (.bl true) H'
/-- it holds at each script -/
def LawTrue (m : Fsem) : Prop := ∀ (ns : List Int) (c : Cell), ns.length ≤ 63 → cellL (some c) = some (ns.map D.int) → ∃ S', m [.loc 0] [c] = some (.d (.bl true), S')
theorem ints_rel {ι : List Lc} {H : Hp} : ∀ ns : List Int, RelL K ι H (ns.map D.int) (ns.map V.int)
  | [] => by simp [RelL]
  | n :: ns => by
    rw [List.map_cons, List.map_cons]
    unfold RelL
    exact ⟨_, _, rfl, by simp [Rel], ints_rel ns⟩
theorem law_sp {m : Fsem} (hm : LawTrue m) {vs : List V} {H : Hp} {Q : VK} {E : XK} (h : spLaw K vs H Q E) : spF K m vs H Q E := by
  obtain ⟨a, ns, rfl, hS, hl, q⟩ := h
  have key : ∃ (c : Cell) (b : Bool), cellL (some c) = some (ns.map D.int) ∧ CellOk K [(a, b)] H c (a, b) := by
    rcases hS with (h | ⟨o, h⟩) | h
    · exact ⟨.lst (ns.map D.int), true, rfl, rfl, _, h, ints_rel ns⟩
    · exact ⟨.frz (ns.map D.int), false, rfl, rfl, _, .inl ⟨o, h⟩, ints_rel ns⟩
    · exact ⟨.frz (ns.map D.int), false, rfl, rfl, _, .inr h, ints_rel ns⟩
  obtain ⟨c, b, hc, hk⟩ := key
  obtain ⟨S', e⟩ := hm ns c hl hc
  refine ⟨[(a, b)], [.loc 0], [c], .d (.bl true), S', ?_, ⟨rfl, fun i j x e1 e2 => ?_, fun l c' e' => ?_⟩, e, fun ι' H' v g s r n => ?_⟩
  · unfold RelL
    exact ⟨_, _, rfl, by unfold Rel; exact ⟨(a, b), rfl, rfl⟩, by simp [RelL]⟩
  · have h1 := (List.getElem?_eq_some_iff.mp e1).1
    have h2 := (List.getElem?_eq_some_iff.mp e2).1
    simp at h1 h2
    omega
  · cases l with
    | zero => cases e'; exact ⟨(a, b), rfl, hk⟩
    | succ l => simp at e'
  · have r' : Rel K ι' H' (.bl true) v := r
    unfold Rel at r'
    rw [r']
    exact q H'
theorem law_mk {st : Stmt} {fa : Addr} {k : Nat} {m : Fsem} {kws : List (Nat × List Str × List Nat)} (d : DefAt K mg "law" st) (hfa : mg "law" = some (.ref fa)) (b : BindOk "law" st ["script"] kws) (hm : LawTrue m)
    (hF : ∀ (base : Heap), K.In base → base.Ns mainGlobals mg → ∀ f fd, Fun K "law" "law" st f fd → FnOk P w K mg base CX0 k f fd ["script"] (spF K m)) :
    ∃ fd : FuncData, (∀ (s : Shared) (u : Value), BindsTo s fd ⟨[u], []⟩ [("script", u)]) ∧ ∀ base : Heap, K.In base → base.Ns mainGlobals mg → FnOk P w K mg base CX0 k fa fd ["script"] (spLaw K) := by
  obtain ⟨f, oc, od, kV, doc, pm, an, cdv, ct, osl, h1, h2, h3, h4⟩ := d.ex
  rw [hfa] at h1
  cases h1
  have F := fun_mk (st := st) h2 h3 h4
  exact ⟨_, fun s u => .of_eq (b.pos kV doc pm an cdv ct [u] rfl), fun base X G => (hF base X G _ _ F).imp fun _ _ _ _ q => law_sp hm q⟩
def vInts : List Value → List Int → Bool
  | [], [] => true
  | .int i _ :: vs, j :: js => decide (i = j) && vInts vs js
  | _, _ => false
theorem vInts_ok : ∀ {vs : List Value} {ns : List Int}, vInts vs ns = true → Vals (ns.map V.int) vs
  | [], [], _ => .nil
  | [], _ :: _, h => by simp [vInts] at h
  | v :: vs, [], h => by cases v <;> simp [vInts] at h
  | v :: vs, j :: js, h => by
    cases v with
    | int i t =>
      simp only [vInts, Bool.and_eq_true, decide_eq_true_eq] at h
      obtain ⟨rfl, h⟩ := h
      exact .cons ⟨_, rfl⟩ (vInts_ok h)
    | _ => simp [vInts] at h
def tupInts (o : Obj) (ns : List Int) : Bool := match o.cls, o.dict, o.data with
  | .type s, none, .seq its _ => decide (s = "tuple") && decide (its.size ≤ 1000) && vInts its.toList ns
  | _, _, _ => false
def ConOk (K : PySem.W.Frag) (mg : Str → Option Value) (x : Str) (d : D) : Prop := ∃ (v : V) (u : Value), mg x = some u ∧ RelV v u ∧ ∀ ι H, Rel K ι H d v
theorem con_ints {h : Heap} (X : K.In h) (G : h.Ns mainGlobals mg) {x : Str} {a : Addr} {o : Obj} {ns : List Int} (e1 : PySem.W.nsIn K mainGlobals x = some (some (.ref a))) (e2 : K.lookup a = some o) (e3 : tupInts o ns = true) : ConOk K mg x (.tup (ns.map D.int)) := by
  refine ⟨.ref a, .ref a, PySem.W.mg_of X G e1, rfl, fun ι H => ?_⟩
  unfold tupInts at e3
  split at e3
  · rename_i s its n hc hd hs
    simp only [Bool.and_eq_true, decide_eq_true_eq] at e3
    obtain ⟨⟨rfl, hz⟩, hv⟩ := e3
    unfold Rel
    exact ⟨a, ns.map V.int, rfl, .inr ⟨o, its, n, e2, hc, hd, hs, by rw [← cap_eq]; unfold cap; omega, vInts_ok hv⟩, ints_rel ns⟩
  · cases e3
theorem blts_nil : ∀ x ∈ ([] : List Str), mg x = none := by simp
theorem blts_cons {h : Heap} (X : K.In h) (G : h.Ns mainGlobals mg) {x : Str} {xs : List Str} (e : PySem.W.nsIn K mainGlobals x = some none) (r : ∀ y ∈ xs, mg y = none) : ∀ y ∈ x :: xs, mg y = none := by
  intro y hy
  rcases List.mem_cons.mp hy with rfl | hy
  · exact PySem.W.mg_none_of X G e
  · exact r y hy
end
end Ev

namespace Ev
open PySem
section
variable {S T : Sg} {ds : List D} {c : Cell}
theorem at_new : (S ++ c :: T)[S.length]? = some c := by simp
theorem at_new1 {a : Cell} : (S ++ a :: c :: T)[S.length + 1]? = some c := by simp
theorem at_old {l : Nat} (h : l < S.length) : (S ++ T)[l]? = S[l]? := List.getElem?_append_left h
theorem setC_new : setC (S ++ c :: T) S.length ds = S ++ .lst ds :: T := by simp [setC]
theorem setC_new1 {a : Cell} : setC (S ++ a :: c :: T) (S.length + 1) ds = S ++ a :: .lst ds :: T := by simp [setC]
theorem setC_old {l : Nat} (h : l < S.length) : setC (S ++ T) l ds = setC S l ds ++ T := by simp [setC, List.set_append, h]
@[simp] theorem setC_len {l : Nat} : (setC S l ds).length = S.length := by simp [setC]
theorem setC_at {l : Nat} (h : l < S.length) : (setC S l ds)[l]? = some (.lst ds) := by simp [setC, h]
theorem setC_ne {l j : Nat} (h : l ≠ j) : (setC S l ds)[j]? = S[j]? := by simp [setC, h]
variable {ok : Sg → Bool} {as : D → En → Sg → Rs En} {b : En → Sg → Rs (Fl × En)} {its : List D} {σ : En}
/-- a loop that ends, or leaves with a value: I by the turn; R what is wanted of a value that leaves -/
theorem forGo_inv (I : Nat → En → Sg → Prop) (R : VX → En → Sg → Prop) (hok : ∀ i σ S, i ≤ its.length → I i σ S → ok S = true)
    (hs : ∀ i x σ S, its[i]? = some x → I i σ S → ∃ σ1 S1, as x σ S = some (σ1, S1) ∧ ∃ f σ2 S2, b σ1 S1 = some ((f, σ2), S2) ∧ (((f = .nx ∨ f = .ct) ∧ I (i + 1) σ2 S2) ∨ (f = .bk ∧ I its.length σ2 S2) ∨ ∃ v, f = .rt v ∧ R v σ2 S2)) :
    ∀ (k : Nat) (σ : En) (S : Sg), k ≤ its.length → I k σ S → ∃ f σ' S', forGo ok as b (its.drop k) σ S = some ((f, σ'), S') ∧ ((f = .nx ∧ I its.length σ' S') ∨ ∃ v, f = .rt v ∧ R v σ' S') := by
  have main : ∀ (m k : Nat) (σ : En) (S : Sg), m = its.length - k → k ≤ its.length → I k σ S → ∃ f σ' S', forGo ok as b (its.drop k) σ S = some ((f, σ'), S') ∧ ((f = .nx ∧ I its.length σ' S') ∨ ∃ v, f = .rt v ∧ R v σ' S') := by
    intro m
    induction m with
    | zero =>
      intro k σ S hm hk hI
      have e : k = its.length := by omega
      subst e
      rw [List.drop_of_length_le (Nat.le_refl _)]
      exact ⟨.nx, σ, S, by unfold forGo; rw [if_pos (hok _ _ _ (Nat.le_refl _) hI)], .inl ⟨rfl, hI⟩⟩
    | succ m ih =>
      intro k σ S hm hk hI
      have hlt : k < its.length := by omega
      obtain ⟨x, hx, hd⟩ := drop_cons hlt
      rw [hd]
      obtain ⟨σ1, S1, ha, f, σ2, S2, hb, hr⟩ := hs k x σ S hx hI
      unfold forGo
      rw [if_pos (hok _ _ _ hk hI), ha, bnd_some, hb, bnd_some]
      rcases hr with ⟨rfl | rfl, hI2⟩ | ⟨rfl, hI2⟩ | ⟨v, rfl, hR⟩
      · exact ih (k + 1) σ2 S2 (by omega) hlt hI2
      · exact ih (k + 1) σ2 S2 (by omega) hlt hI2
      · exact ⟨.nx, σ2, S2, rfl, .inl ⟨rfl, hI2⟩⟩
      · exact ⟨.rt v, σ2, S2, rfl, .inr ⟨v, rfl, hR⟩⟩
  exact fun k σ S hk hI => main _ k σ S rfl hk hI
/-- a loop that runs through -/
theorem forGo_thru (I : Nat → En → Sg → Prop) (hok : ∀ i σ S, i ≤ its.length → I i σ S → ok S = true)
    (hs : ∀ i x σ S, its[i]? = some x → I i σ S → ∃ σ1 S1, as x σ S = some (σ1, S1) ∧ ∃ σ2 S2, b σ1 S1 = some ((.nx, σ2), S2) ∧ I (i + 1) σ2 S2) (h0 : I 0 σ S) :
    ∃ σ' S', forGo ok as b its σ S = some ((.nx, σ'), S') ∧ I its.length σ' S' := by
  obtain ⟨f, σ', S', e, h⟩ := forGo_inv I (fun _ _ _ => False) hok (fun i x σ S hx hI => by
    obtain ⟨σ1, S1, ha, σ2, S2, hb, h2⟩ := hs i x σ S hx hI
    exact ⟨σ1, S1, ha, _, σ2, S2, hb, .inl ⟨.inl rfl, h2⟩⟩) 0 σ S (Nat.zero_le _) h0
  rcases h with ⟨rfl, h⟩ | ⟨v, _, h⟩
  · exact ⟨σ', S', by simpa using e, h⟩
  · exact h.elim
theorem whGo_thru {c : En → Sg → Rs Bool} (I : Nat → En → Sg → Prop) (hs : ∀ i σ S, I i σ S → ∃ k S1, c σ S = some (k, S1) ∧ ((k = false ∧ I 0 σ S1) ∨ (k = true ∧ ∃ σ2 S2, b σ S1 = some ((.nx, σ2), S2) ∧ ∃ j, j < i ∧ I j σ2 S2))) :
    ∀ (i n : Nat) (σ : En) (S : Sg), i < n → I i σ S → ∃ σ' S' j σ0 S0, whGo c b n σ S = some ((.nx, σ'), S') ∧ I 0 σ' S' ∧ I j σ0 S0 ∧ c σ0 S0 = some (false, S') ∧ σ' = σ0 := by
  intro i
  induction i using Nat.strongRecOn with
  | ind i ih =>
    intro n σ S hn hI
    cases n with
    | zero => omega
    | succ n =>
      obtain ⟨k, S1, hc, h⟩ := hs i σ S hI
      unfold whGo
      rw [hc, bnd_some]
      rcases h with ⟨rfl, h⟩ | ⟨rfl, σ2, S2, hb, j, hj, h⟩
      · rw [if_neg Bool.false_ne_true]
        exact ⟨σ, S1, i, σ, S, rfl, h, hI, hc, rfl⟩
      · rw [if_pos rfl, hb, bnd_some]
        exact ih j hj n σ2 S2 (by omega) h
variable {ts : En → Sg → Rs Bool} {el : En → Sg → Rs (List D)}
theorem compGo_pure {g : D → List D} (hok : ok S = true) : ∀ (its : List D), (∀ x ∈ its, ∃ σ' k, as x σ S = some (σ', S) ∧ ts σ' S = some (k, S) ∧ ((k = true ∧ el σ' S = some (g x, S)) ∨ (k = false ∧ g x = []))) → compGo ok as ts el its σ S = some (its.flatMap g, S)
  | [], _ => by unfold compGo; rw [if_pos hok]; rfl
  | x :: xs, h => by
    obtain ⟨σ', k, h1, h2, h3⟩ := h x List.mem_cons_self
    have ih := compGo_pure hok xs fun y hy => h y (List.mem_cons_of_mem _ hy)
    unfold compGo
    rw [if_pos hok, h1, bnd_some, h2, bnd_some]
    rcases h3 with ⟨rfl, h3⟩ | ⟨rfl, h3⟩
    · rw [if_pos rfl, h3, bnd_some, ih, bnd_some]
      rfl
    · rw [if_neg Bool.false_ne_true, ih, List.flatMap_cons, h3, List.nil_append]
/-- .. that may change the store: J by the turn, the items told so far -/
theorem compGo_inv {its0 : List D} (J : Nat → Sg → List D → Prop) (hok : ∀ i S acc, i ≤ its0.length → J i S acc → ok S = true)
    (hs : ∀ i x S acc, its0[i]? = some x → J i S acc → ∃ σ' S1, as x σ S = some (σ', S1) ∧ ∃ k S2, ts σ' S1 = some (k, S2) ∧ ((k = true ∧ ∃ ys S3, el σ' S2 = some (ys, S3) ∧ J (i + 1) S3 (acc ++ ys)) ∨ (k = false ∧ J (i + 1) S2 acc))) :
    ∀ (m k : Nat) (S : Sg) (acc : List D), m = its0.length - k → k ≤ its0.length → J k S acc → ∃ zs S', compGo ok as ts el (its0.drop k) σ S = some (zs, S') ∧ J its0.length S' (acc ++ zs) := by
  intro m
  induction m with
  | zero =>
    intro k S acc hm hk hJ
    have e : k = its0.length := by omega
    subst e
    rw [List.drop_of_length_le (Nat.le_refl _)]
    exact ⟨[], S, by unfold compGo; rw [if_pos (hok _ _ _ (Nat.le_refl _) hJ)], by simpa using hJ⟩
  | succ m ih =>
    intro k S acc hm hk hJ
    have hlt : k < its0.length := by omega
    obtain ⟨x, hx, hd⟩ := drop_cons hlt
    rw [hd]
    obtain ⟨σ', S1, h1, b, S2, h2, h3⟩ := hs k x S acc hx hJ
    unfold compGo
    rw [if_pos (hok _ _ _ hk hJ), h1, bnd_some, h2, bnd_some]
    rcases h3 with ⟨rfl, ys, S3, h3, hJ2⟩ | ⟨rfl, hJ2⟩
    · rw [if_pos rfl, h3, bnd_some]
      obtain ⟨zs, S', e, h⟩ := ih (k + 1) S3 (acc ++ ys) (by omega) hlt hJ2
      rw [e, bnd_some]
      exact ⟨ys ++ zs, S', rfl, by rw [← List.append_assoc]; exact h⟩
    · rw [if_neg Bool.false_ne_true]
      exact ih (k + 1) S2 acc (by omega) hlt hJ2
theorem compGo_run {its0 : List D} (J : Nat → Sg → List D → Prop) (hok : ∀ i S acc, i ≤ its0.length → J i S acc → ok S = true)
    (hs : ∀ i x S acc, its0[i]? = some x → J i S acc → ∃ σ' S1, as x σ S = some (σ', S1) ∧ ∃ k S2, ts σ' S1 = some (k, S2) ∧ ((k = true ∧ ∃ ys S3, el σ' S2 = some (ys, S3) ∧ J (i + 1) S3 (acc ++ ys)) ∨ (k = false ∧ J (i + 1) S2 acc))) (h0 : J 0 S []) :
    ∃ zs S', compGo ok as ts el its0 σ S = some (zs, S') ∧ J its0.length S' zs := by
  obtain ⟨zs, S', e, h⟩ := compGo_inv J hok hs _ 0 S [] rfl (Nat.zero_le _) h0
  exact ⟨zs, S', by simpa using e, by simpa using h⟩
theorem intsOf_map (ns : List Int) : intsOf (ns.map D.int) = some ns := by
  induction ns with
  | nil => rfl
  | cons n ns ih => simp [intsOf, ih]
theorem intsOf_eq : ∀ {ds : List D} {ns : List Int}, intsOf ds = some ns → ds = ns.map D.int
  | [], ns, h => by simp [intsOf] at h; subst h; rfl
  | d :: ds, ns, h => by
    cases d with
    | int i =>
      unfold intsOf at h
      split at h
      · rename_i is hi
        cases h
        rw [intsOf_eq hi]
        rfl
      · cases h
    | _ => simp [intsOf] at h
theorem blsOf_map (bs : List Bool) : blsOf (bs.map D.bl) = some bs := by
  induction bs with
  | nil => rfl
  | cons n ns ih => simp [blsOf, ih]
end
end Ev

namespace Ev
open PySem
section
variable {cs : Nat → List D → Sg → Rs VX} {σ : En} {S : Sg} {a b c e o : Ex} {as ks : List Ex} {i f : Nat} {d : D} {x : Str} {ds : List D} {vs : List VX}
theorem x_var : evX cs (.var i) σ S = getV σ i S := rfl
theorem x_con : evX cs (.con d) σ S = some (.d d, S) := rfl
theorem x_glo : evX cs (.glo x d) σ S = some (.d d, S) := rfl
theorem x_bin {p : Bop} : evX cs (.bin p a b) σ S = bnd (evX cs a σ S) fun x S1 => bnd (evX cs b σ S1) fun y S2 => binV p x y S2 := rfl
def negV (x : VX) (S : Sg) : Rs VX := match x with
  | .d (.int i) => some (.d (.int (-i)), S)
  | _ => none
@[simp] theorem negV_int {i : Int} : negV (.d (.int i)) S = some (.d (.int (-i)), S) := rfl
theorem x_neg : evX cs (.neg a) σ S = bnd (evX cs a σ S) negV := rfl
theorem x_not : evX cs (.not a) σ S = bnd (evX cs a σ S) fun x S1 => bnd (boolV x S1) fun b S2 => ret1 (!b) S2 := rfl
theorem x_and : evX cs (.and a b) σ S = bnd (evX cs a σ S) fun x S1 => bnd (boolV x S1) fun c S2 => if c = true then evX cs b σ S2 else ret1 false S2 := rfl
theorem x_or : evX cs (.or a b) σ S = bnd (evX cs a σ S) fun x S1 => bnd (boolV x S1) fun c S2 => if c = true then ret1 true S2 else evX cs b σ S2 := rfl
theorem x_cmp {p : Cop} : evX cs (.cmp p a b) σ S = bnd (evX cs a σ S) fun x S1 => bnd (evX cs b σ S1) fun y S2 => cmpV p x y S2 := rfl
theorem x_chn {p q : Cop} : evX cs (.chn p q a b c) σ S = bnd (evX cs a σ S) fun x S1 => bnd (evX cs b σ S1) fun y S2 => bnd (cmpV p x y S2) fun r S3 => bnd (boolV r S3) fun k S4 => if k = true then bnd (evX cs c σ S4) fun z S5 => cmpV q y z S5 else ret1 false S4 := rfl
theorem x_ite : evX cs (.ite c a b) σ S = bnd (evT cs c σ S) fun k S1 => if k = true then evX cs a σ S1 else evX cs b σ S1 := rfl
theorem x_tup : evX cs (.tup as) σ S = bnd (evL cs as σ S) fun ds S1 => if ds.length ≤ cap then some (.d (.tup ds), S1) else none := rfl
theorem x_lst : evX cs (.lst as) σ S = bnd (evL cs as σ S) fun ds S1 => if ds.length ≤ cap then some (.l ds, S1) else none := rfl
theorem x_idx : evX cs (.idx a b) σ S = bnd (evX cs a σ S) fun x S1 => bnd (evX cs b σ S1) fun y S2 => idxV x y S2 := rfl
theorem x_sli {lo hi : Option Ex} : evX cs (.sli a lo hi) σ S = bnd (evX cs a σ S) fun x S1 => bnd (evO cs lo σ S1) fun l S2 => bnd (evO cs hi σ S2) fun h S3 => sliV x l h S3 := rfl
theorem x_rev : evX cs (.rev a) σ S = bnd (evX cs a σ S) fun x S1 => revV x S1 := rfl
theorem x_call : evX cs (.call f as) σ S = bnd (evL cs as σ S) fun ds S1 => cs f ds S1 := rfl
def callP (cs : Nat → List D → Sg → Rs VX) (f : Nat) (perm : List Nat) (ds : List D) (S : Sg) : Rs VX := match permute ds perm with
  | some es => cs f es S
  | none => none
theorem x_callk {perm : List Nat} : evX cs (.callk f as ks perm) σ S = bnd (evL cs as σ S) fun ds S1 => bnd (evL cs ks σ S1) fun zs S2 => callP cs f perm (ds ++ zs) S2 := rfl
theorem x_b1 {p : Bi1} : evX cs (.b1 p a) σ S = bnd (evX cs a σ S) fun x S1 => b1V p x S1 := rfl
theorem x_b2 {p : Bi2} : evX cs (.b2 p a b) σ S = bnd (evX cs a σ S) fun x S1 => bnd (evX cs b σ S1) fun y S2 => b2V p x y S2 := rfl
theorem x_rngT : evX cs (.rngT as) σ S = bnd (evXs cs as σ S) fun vs S1 => rngL1 vs (fun ds => VX.d (.tup ds)) S1 := rfl
theorem x_rngL : evX cs (.rngL as) σ S = bnd (evXs cs as σ S) fun vs S1 => rngL1 vs VX.l S1 := rfl
def isiB (x : VX) (ts : List Ty) (S : Sg) : Rs Bool := match isiV S x ts with
  | some b => some (b, S)
  | none => none
theorem x_isi {ts : List Ty} : evX cs (.isi a ts) σ S = bnd (evX cs a σ S) fun x S1 => bnd (isiB x ts S1) fun b S2 => ret1 b S2 := by
  show bnd (evX cs a σ S) _ = _
  congr 1
  funext x S1
  unfold isiB
  cases isiV S1 x ts <;> rfl
theorem t_isi {ts : List Ty} : evT cs (.isi a ts) σ S = bnd (evX cs a σ S) fun x S1 => isiB x ts S1 := rfl
def mtX (m : Mt) (x : VX) (vs : Option Bool → Sg → Rs (List VX)) (S : Sg) : Rs VX := match kindM m x S with
  | none => none
  | some k => bnd (vs (some k) S) fun vs S2 => mtV m k x vs S2
theorem x_mt {m : Mt} : evX cs (.mt m o as) σ S = bnd (evX cs o σ S) fun x S1 => mtX m x (fun _ S => evXs cs as σ S) S1 := rfl
theorem mtX_some {m : Mt} {x : VX} {g : Option Bool → Sg → Rs (List VX)} {k : Bool} (h : kindM m x S = some k) : mtX m x g S = bnd (g (some k) S) fun vs S2 => mtV m k x vs S2 := by
  unfold mtX
  rw [h]
theorem x_comp {elt : Ex} {tg : Tg} {it : It} {own : List Nat} : evX cs (.comp elt tg it as own) σ S = bnd (evI cs it σ S) fun src S1 => if src.its.length ≤ cap then
      bnd (compGo src.ok (fun x σ S => asT cs tg x σ S) (fun σ S => evTs cs as σ S) (fun σ S => bnd (bnd (evX cs elt σ S) fun v S' => toD v S') fun y S' => some ([y], S')) src.its (wipeE σ own) S1) fun ds S2 => some (.l ds, S2)
    else none := rfl
theorem x_comp2 {elt : Ex} {tg tg2 : Tg} {it it2 : It} {own own2 : List Nat} : evX cs (.comp2 elt tg it as tg2 it2 ks own own2) σ S = bnd (evI cs it σ S) fun src S1 =>
      bnd (compGo src.ok (fun x σ S => asT cs tg x σ S) (fun σ S => evTs cs as σ S) (fun σ' S' => bnd (evI cs it2 σ' S') fun src2 S2 =>
        compGo src2.ok (fun x σ S => asT cs tg2 x σ S) (fun σ S => evTs cs ks σ S) (fun σ S => bnd (bnd (evX cs elt σ S) fun v S' => toD v S') fun y S' => some ([y], S')) src2.its (wipeE σ' own2) S2) src.its (wipeE σ own) S1) fun ds S2 =>
      if ds.length ≤ cap then some (.l ds, S2) else none := rfl
theorem t_not : evT cs (.not a) σ S = bnd (evT cs a σ S) fun b S1 => some (!b, S1) := rfl
theorem t_and : evT cs (.and a b) σ S = bnd (evT cs a σ S) fun c S1 => if c = true then evT cs b σ S1 else some (false, S1) := rfl
theorem t_or : evT cs (.or a b) σ S = bnd (evT cs a σ S) fun c S1 => if c = true then some (true, S1) else evT cs b σ S1 := rfl
theorem t_cmp {p : Cop} : evT cs (.cmp p a b) σ S = bnd (evX cs a σ S) fun x S1 => bnd (evX cs b σ S1) fun y S2 => bnd (cmpV p x y S2) fun r S3 => boolV r S3 := rfl
theorem t_chn {p q : Cop} : evT cs (.chn p q a b c) σ S = bnd (evX cs a σ S) fun x S1 => bnd (evX cs b σ S1) fun y S2 => bnd (cmpV p x y S2) fun r S3 => bnd (boolV r S3) fun k S4 => if k = true then bnd (evX cs c σ S4) fun z S5 => bnd (cmpV q y z S5) fun r S6 => boolV r S6 else some (false, S4) := rfl
def truR (v : VX) (S : Sg) : Rs Bool := match truV S v with
  | some b => some (b, S)
  | none => none
theorem t_var : evT cs (.var i) σ S = bnd (getV σ i S) truR := rfl
theorem t_call : evT cs (.call f as) σ S = bnd (bnd (evL cs as σ S) fun ds S1 => cs f ds S1) truR := rfl
theorem t_b1 {p : Bi1} : evT cs (.b1 p a) σ S = bnd (bnd (evX cs a σ S) fun x S1 => b1V p x S1) truR := rfl
theorem t_idx : evT cs (.idx a b) σ S = bnd (bnd (evX cs a σ S) fun x S1 => bnd (evX cs b σ S1) fun y S2 => idxV x y S2) truR := rfl
@[simp] theorem truR_bl {b : Bool} : truR (.d (.bl b)) S = some (b, S) := rfl
@[simp] theorem truR_int {i : Int} : truR (.d (.int i)) S = some (i != 0, S) := rfl
@[simp] theorem truR_l : truR (.l ds) S = some (!ds.isEmpty, S) := rfl
@[simp] theorem truR_tup : truR (.d (.tup ds)) S = some (!ds.isEmpty, S) := rfl
theorem l_nil : evL cs [] σ S = some ([], S) := rfl
theorem l_cons : evL cs (a :: as) σ S = bnd (evX cs a σ S) fun x S1 => bnd (toD x S1) fun y S2 => bnd (evL cs as σ S2) fun ys S3 => some (y :: ys, S3) := rfl
theorem xs_nil : evXs cs [] σ S = some ([], S) := rfl
theorem xs_cons : evXs cs (a :: as) σ S = bnd (evX cs a σ S) fun x S1 => bnd (evXs cs as σ S1) fun ys S3 => some (x :: ys, S3) := rfl
theorem o_none : evO cs none σ S = some (none, S) := rfl
def oI (x : VX) (S : Sg) : Rs (Option Int) := match x with
  | .d (.int i) => some (some i, S)
  | _ => none
@[simp] theorem oI_int {i : Int} : oI (.d (.int i)) S = some (some i, S) := rfl
theorem o_some : evO cs (some a) σ S = bnd (evX cs a σ S) oI := rfl
theorem ts_nil : evTs cs [] σ S = some (true, S) := rfl
theorem ts_cons : evTs cs (a :: as) σ S = bnd (evT cs a σ S) fun b S1 => if b = true then evTs cs as σ S1 else some (false, S1) := rfl
def srcV (v : VX) (S : Sg) : Rs Src := match seqSrc v S with
  | some s => some (s, S)
  | none => none
@[simp] theorem srcV_tup : srcV (.d (.tup ds)) S = some (⟨[], ds⟩, S) := rfl
@[simp] theorem srcV_l : srcV (.l ds) S = some (⟨[], ds⟩, S) := rfl
theorem srcV_loc {l : Nat} (h : lsAt S l = some ds) : srcV (.d (.loc l)) S = some (⟨[(l, ds)], ds⟩, S) := by
  unfold srcV seqSrc
  simp only [h]
theorem i_seq : evI cs (.seq a) σ S = bnd (evX cs a σ S) srcV := rfl
def rngR (vs : List VX) (S : Sg) : Rs Src := match rngV vs with
  | some ds => some (⟨[], ds⟩, S)
  | none => none
theorem i_rng : evI cs (.rng as) σ S = bnd (evXs cs as σ S) rngR := rfl
def enmR (v : VX) (S : Sg) : Rs Src := match seqSrc v S with
  | some s => some (⟨s.gs, enums 0 s.its⟩, S)
  | none => none
@[simp] theorem enmR_tup : enmR (.d (.tup ds)) S = some (⟨[], enums 0 ds⟩, S) := rfl
@[simp] theorem enmR_l : enmR (.l ds) S = some (⟨[], enums 0 ds⟩, S) := rfl
theorem i_enm : evI cs (.enm a) σ S = bnd (evX cs a σ S) enmR := rfl
theorem a_name {y : D} : asT cs (.name i) y σ S = some (σ.set i (some y), S) := rfl
theorem a_tup {ts : List Tg} : asT cs (.tup ts) (.tup ds) σ S = asTs cs ts ds σ S := rfl
theorem a_sub {y : D} : asT cs (.sub a b) y σ S = bnd (evX cs a σ S) fun ov S1 => bnd (evX cs b σ S1) fun iv S2 => bnd (setV ov iv y S2) fun _ S3 => some (σ, S3) := rfl
theorem as_nil : asTs cs [] [] σ S = some (σ, S) := rfl
theorem as_cons {t : Tg} {ts : List Tg} {y : D} : asTs cs (t :: ts) (y :: ds) σ S = bnd (asT cs t y σ S) fun σ1 S1 => asTs cs ts ds σ1 S1 := rfl
variable {st : St} {p q : List St} {t : Tg} {it : It}
theorem s_set : exS cs (.set i e) σ S = bnd (evX cs e σ S) fun v S1 => bnd (toD v S1) fun x S2 => some ((.nx, σ.set i (some x)), S2) := rfl
theorem s_asg : exS cs (.asg t e) σ S = bnd (evX cs e σ S) fun v S1 => bnd (toD v S1) fun x S2 => bnd (asT cs t x σ S2) fun σ' S3 => some ((.nx, σ'), S3) := rfl
theorem s_par {is : List Nat} : exS cs (.par is as) σ S = bnd (evL cs as σ S) fun ds S1 => if ds.length = is.length then some ((.nx, setAll is ds σ), S1) else none := rfl
theorem s_ite : exS cs (.ite c p q) σ S = bnd (evT cs c σ S) fun k S1 => if k = true then exB cs p σ S1 else exB cs q σ S1 := rfl
theorem s_whl : exS cs (.whl c p) σ S = whGo (fun σ S => evT cs c σ S) (fun σ S => exB cs p σ S) wFuel σ S := rfl
theorem s_for : exS cs (.for t it p) σ S = bnd (evI cs it σ S) fun src S1 => forGo src.ok (fun x σ S => asT cs t x σ S) (fun σ S => exB cs p σ S) src.its σ S1 := rfl
theorem s_ret : exS cs (.ret e) σ S = bnd (evX cs e σ S) fun v S1 => some ((.rt v, σ), S1) := rfl
theorem s_retN : exS cs .retN σ S = some ((.rt (.d .non), σ), S) := rfl
theorem s_exp : exS cs (.exp e) σ S = bnd (evX cs e σ S) fun _ S1 => some ((.nx, σ), S1) := rfl
theorem s_pass : exS cs .pass σ S = some ((.nx, σ), S) := rfl
theorem s_brk : exS cs .brk σ S = some ((.bk, σ), S) := rfl
theorem s_cnt : exS cs .cnt σ S = some ((.ct, σ), S) := rfl
theorem s_nev : exS cs .nev σ S = none := rfl
def seqB (cs : Nat → List D → Sg → Rs VX) (r : List St) (p : Fl × En) (S : Sg) : Rs (Fl × En) := match p with
  | (.nx, σ1) => exB cs r σ1 S
  | q => some (q, S)
@[simp] theorem seqB_nx : seqB cs p (.nx, σ) S = exB cs p σ S := rfl
@[simp] theorem seqB_rt {v : VX} : seqB cs p (.rt v, σ) S = some ((.rt v, σ), S) := rfl
@[simp] theorem seqB_bk : seqB cs p (.bk, σ) S = some ((.bk, σ), S) := rfl
@[simp] theorem seqB_ct : seqB cs p (.ct, σ) S = some ((.ct, σ), S) := rfl
theorem b_nil : exB cs [] σ S = some ((.nx, σ), S) := rfl
theorem b_cons : exB cs (st :: p) σ S = bnd (exS cs st σ S) (seqB cs p) := rfl
def endF (p : Fl × En) (S : Sg) : Rs VX := match p with
  | (.nx, _) => some (.d .non, S)
  | (.rt v, _) => some (v, S)
  | _ => none
@[simp] theorem endF_nx : endF (.nx, σ) S = some (.d .non, S) := rfl
@[simp] theorem endF_rt {v : VX} : endF (.rt v, σ) S = some (v, S) := rfl
theorem runF_eq {n : Nat} : runF cs n p ds S = bnd (exB cs p (ds.map some ++ List.replicate (n - ds.length) none) S) endF := rfl
theorem semF_eq {np n : Nat} (h : ds.length = np) : semF cs np n p ds S = bnd (exB cs p (ds.map some ++ List.replicate (n - ds.length) none) S) endF := by
  unfold semF
  rw [if_pos h]
  rfl
@[simp] theorem toD_d : toD (.d d) S = some (d, S) := rfl
@[simp] theorem toD_l : toD (.l ds) S = some (.loc S.length, S ++ [.lst ds]) := rfl
@[simp] theorem boolV_bl {b : Bool} : boolV (.d (.bl b)) S = some (b, S) := rfl
@[simp] theorem ret1_eq {b : Bool} : ret1 b S = some (.d (.bl b), S) := rfl
theorem getV_some {y : D} (h : σ[i]? = some (some y)) : getV σ i S = some (.d y, S) := by
  unfold getV
  rw [h]
@[simp] theorem getV_0 {y : D} {t : En} : getV (some y :: t) 0 S = some (.d y, S) := rfl
@[simp] theorem getV_s {y : Option D} {t : En} {j : Nat} : getV (y :: t) (j + 1) S = getV t j S := rfl
@[simp] theorem sub_int {i j : Int} : binV .sub (.d (.int i)) (.d (.int j)) S = some (.d (.int (i - j)), S) := rfl
@[simp] theorem add_int {i j : Int} : binV .add (.d (.int i)) (.d (.int j)) S = some (.d (.int (i + j)), S) := rfl
theorem mul_int {i j : Int} (h : small i = true ∨ small j = true) : binV .mul (.d (.int i)) (.d (.int j)) S = some (.d (.int (i * j)), S) := by
  show (if (small i || small j) = true then _ else _) = _
  rw [if_pos (by simpa using h)]
theorem fdiv_int {i j : Int} (h : 0 < j) (h2 : j < 2 ^ 64) : binV .fdiv (.d (.int i)) (.d (.int j)) S = some (.d (.int (i / j)), S) := by
  show (if _ then _ else _) = _
  rw [if_pos ⟨h, h2⟩]
theorem mod_int {i j : Int} (h : 0 < j) : binV .mod (.d (.int i)) (.d (.int j)) S = some (.d (.int (i % j)), S) := by
  show (if _ then _ else _) = _
  rw [if_pos h]
@[simp] theorem lt_int {i j : Int} : cmpV .lt (.d (.int i)) (.d (.int j)) S = some (.d (.bl (decide (i < j))), S) := rfl
@[simp] theorem le_int {i j : Int} : cmpV .le (.d (.int i)) (.d (.int j)) S = some (.d (.bl (decide (i ≤ j))), S) := rfl
@[simp] theorem gt_int {i j : Int} : cmpV .gt (.d (.int i)) (.d (.int j)) S = some (.d (.bl (decide (j < i))), S) := rfl
@[simp] theorem ge_int {i j : Int} : cmpV .ge (.d (.int i)) (.d (.int j)) S = some (.d (.bl (decide (j ≤ i))), S) := rfl
@[simp] theorem eq_int {i j : Int} : cmpV .eq (.d (.int i)) (.d (.int j)) S = some (.d (.bl (decide (i = j))), S) := by
  simp [cmpV, eqV, toPX, toP, PyData.eqv]
  rfl
@[simp] theorem ne_int {i j : Int} : cmpV .ne (.d (.int i)) (.d (.int j)) S = some (.d (.bl (!decide (i = j))), S) := by
  simp [cmpV, eqV, toPX, toP, PyData.eqv]
  rfl
@[simp] theorem abs_int {i : Int} : b1V .abs (.d (.int i)) S = some (.d (.int (if i < 0 then -i else i)), S) := rfl
@[simp] theorem int_int {i : Int} : b1V .int (.d (.int i)) S = some (.d (.int i), S) := rfl
@[simp] theorem int_bl {b : Bool} : b1V .int (.d (.bl b)) S = some (.d (.int (if b = true then 1 else 0)), S) := rfl
@[simp] theorem min_int {i j : Int} : b2V .min (.d (.int i)) (.d (.int j)) S = some (.d (.int (if j < i then j else i)), S) := rfl
@[simp] theorem max_int {i j : Int} : b2V .max (.d (.int i)) (.d (.int j)) S = some (.d (.int (if j > i then j else i)), S) := rfl
@[simp] theorem len_tup : b1V .len (.d (.tup ds)) S = some (.d (.int (ds.length : Nat)), S) := rfl
@[simp] theorem len_l : b1V .len (.l ds) S = some (.d (.int (ds.length : Nat)), S) := rfl
theorem lsAt_lst {l : Nat} (h : S[l]? = some (.lst ds)) : lsAt S l = some ds := by
  unfold lsAt
  rw [h]
  rfl
theorem len_loc {l : Nat} (h : lsAt S l = some ds) : b1V .len (.d (.loc l)) S = some (.d (.int (ds.length : Nat)), S) := by
  unfold b1V sqOf tpOf lsOf
  simp [h]
@[simp] theorem tuple_tup : b1V .tuple (.d (.tup ds)) S = some (.d (.tup ds), S) := rfl
@[simp] theorem tuple_l : b1V .tuple (.l ds) S = some (.d (.tup ds), S) := rfl
theorem tuple_loc {l : Nat} (h : lsAt S l = some ds) : b1V .tuple (.d (.loc l)) S = some (.d (.tup ds), S) := by
  unfold b1V sqOf tpOf lsOf
  simp [h]
@[simp] theorem list_tup : b1V .list (.d (.tup ds)) S = some (.l ds, S) := rfl
@[simp] theorem list_l : b1V .list (.l ds) S = some (.l ds, S) := rfl
theorem list_loc {l : Nat} (h : lsAt S l = some ds) : b1V .list (.d (.loc l)) S = some (.l ds, S) := by
  unfold b1V sqOf tpOf lsOf
  simp [h]
@[simp] theorem all_bls {bs : List Bool} : b1V .all (.l (bs.map D.bl)) S = some (.d (.bl (bs.all id)), S) := by
  unfold b1V lsOf
  simp [blsOf_map]
@[simp] theorem any_bls {bs : List Bool} : b1V .any (.l (bs.map D.bl)) S = some (.d (.bl (bs.any id)), S) := by
  unfold b1V lsOf
  simp [blsOf_map]
@[simp] theorem sum_ints {ns : List Int} : b1V .sum (.l (ns.map D.int)) S = some (.d (.int ns.sum), S) := by
  unfold b1V lsOf
  simp [intsOf_map]
theorem idx_tup {j : Int} {y : D} (h : L2.atI ds j = some y) : idxV (.d (.tup ds)) (.d (.int j)) S = some (.d y, S) := by
  unfold idxV sqOf tpOf
  simp [h]
theorem idx_l {j : Int} {y : D} (h : L2.atI ds j = some y) : idxV (.l ds) (.d (.int j)) S = some (.d y, S) := by
  unfold idxV sqOf tpOf lsOf
  simp [h]
theorem idx_loc {l : Nat} {j : Int} {y : D} (hl : lsAt S l = some ds) (h : L2.atI ds j = some y) : idxV (.d (.loc l)) (.d (.int j)) S = some (.d y, S) := by
  unfold idxV sqOf tpOf lsOf
  simp [h, hl]
theorem set_loc0 {l : Nat} {j : Int} {k : Nat} {y : D} (hl : S[l]? = some (.lst ds)) (h : L2.ixN ds.length j = some k) : setV (.d (.loc l)) (.d (.int j)) y S = some ((), setC S l (ds.set k y)) := by
  unfold setV
  simp [h, hl]
theorem rng_1 {n : Int} (h : in62 n = true) : rngR [.d (.int n)] S = some (⟨[], (List.range n.toNat).map fun (i : Nat) => D.int (i : Nat)⟩, S) := by
  unfold rngR rngV
  simp [h]
theorem rng_2 {m n : Int} (h : in62 m = true) (h2 : in62 n = true) : rngR [.d (.int m), .d (.int n)] S = some (⟨[], (List.range (n - m).toNat).map fun (i : Nat) => D.int (m + (i : Nat))⟩, S) := by
  unfold rngR rngV
  simp [h, h2]
@[simp] theorem isi_int {i : Int} {ts : List Ty} : isiB (.d (.int i)) ts S = some (ts.any (tyIs .int), S) := rfl
@[simp] theorem isi_bl {b : Bool} {ts : List Ty} : isiB (.d (.bl b)) ts S = some (ts.any (tyIs .bool), S) := rfl
@[simp] theorem isi_str {b : Str} {ts : List Ty} : isiB (.d (.str b)) ts S = some (ts.any (tyIs .str), S) := rfl
@[simp] theorem isi_tup {ts : List Ty} : isiB (.d (.tup ds)) ts S = some (ts.any (tyIs .tuple), S) := rfl
@[simp] theorem isi_non {ts : List Ty} : isiB (.d .non) ts S = some (false, S) := rfl
@[simp] theorem isi_l {ts : List Ty} : isiB (.l ds) ts S = some (ts.any (tyIs .list), S) := rfl
theorem isi_loc {l : Nat} {ts : List Ty} (h : lsAt S l = some ds) : isiB (.d (.loc l)) ts S = some (ts.any (tyIs .list), S) := by
  unfold lsAt cellL at h
  unfold isiB isiV tyV
  split at h <;> first | (simp_all; done) | cases h
@[simp] theorem ok_nil {ds : List D} : (⟨[], ds⟩ : Src).ok = fun _ => true := rfl
theorem cap_lt {n : Nat} (h : n ≤ 16777216) : n ≤ cap := h
theorem append_loc {l : Nat} {y : D} (h : S[l]? = some (.lst ds)) (hz : ds.length < cap) : mtX .append (.d (.loc l)) (fun _ S => some ([.d y], S)) S = some (.d .non, setC S l (ds ++ [y])) := by
  have hk : kindM .append (.d (.loc l)) S = some true := by
    unfold kindM lsOf lsAt
    simp [h, cellL]
  rw [mtX_some hk, bnd_some]
  unfold mtV appendV
  simp [h, hz]
theorem extend_loc {l : Nat} {es : List D} (h : S[l]? = some (.lst ds)) (hz : ds.length + es.length ≤ cap) : mtX .extend (.d (.loc l)) (fun _ S => some ([.l es], S)) S = some (.d .non, setC S l (ds ++ es)) := by
  have hk : kindM .extend (.d (.loc l)) S = some true := by
    unfold kindM lsOf lsAt
    simp [h, cellL]
  rw [mtX_some hk, bnd_some]
  unfold mtV extendV mlOf
  simp [h, hz]
end
end Ev

namespace Ev
open PySem
/-- what is wanted behind (a class: simp does not look within) -/
class Kt (α : Type) where
  p : α → Sg → Prop
def Ends {α : Type} (r : Rs α) [K : Kt α] : Prop := ∃ a S', r = some (a, S') ∧ K.p a S'
section
variable {α β : Type} {S : Sg} {K : Kt α} {P : α → Sg → Prop}
@[simp] theorem kt_p {a : α} : @Kt.p α ⟨P⟩ a S = P a S := rfl
@[simp] theorem ends_some {a : α} : Ends (some (a, S)) (K := K) ↔ K.p a S := ⟨fun ⟨_, _, e, h⟩ => (by cases e; exact h), fun h => ⟨_, _, rfl, h⟩⟩
@[simp] theorem ends_none : Ends (none : Rs α) (K := K) ↔ False := ⟨fun ⟨_, _, e, _⟩ => (by cases e), fun h => False.elim h⟩
@[simp ↓] theorem ends_bnd {L : Kt β} {r : Rs α} {f : α → Sg → Rs β} : Ends (bnd r f) (K := L) ↔ Ends r (K := ⟨fun a S => Ends (f a S) (K := L)⟩) := by
  constructor
  · rintro ⟨b, S', e, h⟩
    obtain ⟨a, S1, h1, h2⟩ := bnd_eq e
    exact ⟨a, S1, h1, b, S', h2, h⟩
  · rintro ⟨a, S1, h1, b, S', h2, h⟩
    exact ⟨b, S', by rw [h1, bnd_some, h2], h⟩
theorem Ends.mono {r : Rs α} {L : Kt α} (h : Ends r (K := K)) (w : ∀ a S, K.p a S → L.p a S) : Ends r (K := L) := let ⟨a, S, e, p⟩ := h; ⟨a, S, e, w a S p⟩
theorem ends_congr {r : Rs α} {L L' : Kt α} (h : ∀ a S, L.p a S ↔ L'.p a S) : Ends r (K := L) ↔ Ends r (K := L') :=
  ⟨fun q => q.mono fun a S => (h a S).mp, fun q => q.mono fun a S => (h a S).mpr⟩
theorem ends_ite {c : Prop} [Decidable c] {r r' : Rs α} (h1 : c → Ends r (K := K)) (h2 : ¬ c → Ends r' (K := K)) : Ends (if c then r else r') (K := K) := by
  by_cases h : c
  · rw [if_pos h]; exact h1 h
  · rw [if_neg h]; exact h2 h
theorem ends_iff {c : Prop} [Decidable c] {r r' : Rs α} : Ends (if c then r else r') (K := K) ↔ (c → Ends r (K := K)) ∧ (¬ c → Ends r' (K := K)) := by
  by_cases h : c
  · simp [h]
  · simp [h]
@[simp] theorem ends_ite_none {c : Prop} [Decidable c] {r : Rs α} : Ends (if c then r else none) (K := K) ↔ c ∧ Ends r (K := K) := by
  by_cases h : c <;> simp [h]
end
section
variable {S : Sg} {cs : Nat → List D → Sg → Rs VX} {σ : En} {a b c e o : Ex} {as ks : List Ex} {i f : Nat} {d : D} {x : Str} {ds : List D} {vs : List VX}
section
variable {K : Kt VX}
@[simp ↓] theorem ex_var : Ends (evX cs (.var i) σ S) (K := K) ↔ Ends (getV σ i S) (K := K) := Iff.rfl
@[simp ↓] theorem ex_con : Ends (evX cs (.con d) σ S) (K := K) ↔ K.p (.d d) S := ends_some
@[simp ↓] theorem ex_glo : Ends (evX cs (.glo x d) σ S) (K := K) ↔ K.p (.d d) S := ends_some
@[simp ↓] theorem ex_bin {p : Bop} : Ends (evX cs (.bin p a b) σ S) (K := K) ↔ Ends (evX cs a σ S) (K := ⟨fun x S1 => Ends (evX cs b σ S1) (K := ⟨fun y S2 => Ends (binV p x y S2) (K := K)⟩)⟩) := by
  rw [x_bin, ends_bnd]
  repeat' first | exact Iff.rfl | (refine ends_congr fun _ _ => ?_) | (simp only [kt_p, ends_bnd, ends_ite_none, ends_some, ret1_eq])
@[simp ↓] theorem ex_neg : Ends (evX cs (.neg a) σ S) (K := K) ↔ Ends (evX cs a σ S) (K := ⟨fun x S1 => Ends (negV x S1) (K := K)⟩) := by rw [x_neg, ends_bnd]
@[simp ↓] theorem ex_not : Ends (evX cs (.not a) σ S) (K := K) ↔ Ends (evX cs a σ S) (K := ⟨fun x S1 => Ends (boolV x S1) (K := ⟨fun b S2 => K.p (.d (.bl (!b))) S2⟩)⟩) := by
  rw [x_not, ends_bnd]
  repeat' first | exact Iff.rfl | (refine ends_congr fun _ _ => ?_) | (simp only [kt_p, ends_bnd, ends_ite_none, ends_some, ret1_eq])
@[simp ↓] theorem ex_and : Ends (evX cs (.and a b) σ S) (K := K) ↔ Ends (evX cs a σ S) (K := ⟨fun x S1 => Ends (boolV x S1) (K := ⟨fun c S2 => Ends (if c = true then evX cs b σ S2 else some (.d (.bl false), S2)) (K := K)⟩)⟩) := by
  rw [x_and, ends_bnd]
  repeat' first | exact Iff.rfl | (refine ends_congr fun _ _ => ?_) | (simp only [kt_p, ends_bnd, ends_ite_none, ends_some, ret1_eq])
@[simp ↓] theorem ex_or : Ends (evX cs (.or a b) σ S) (K := K) ↔ Ends (evX cs a σ S) (K := ⟨fun x S1 => Ends (boolV x S1) (K := ⟨fun c S2 => Ends (if c = true then some (.d (.bl true), S2) else evX cs b σ S2) (K := K)⟩)⟩) := by
  rw [x_or, ends_bnd]
  repeat' first | exact Iff.rfl | (refine ends_congr fun _ _ => ?_) | (simp only [kt_p, ends_bnd, ends_ite_none, ends_some, ret1_eq])
@[simp ↓] theorem ex_cmp {p : Cop} : Ends (evX cs (.cmp p a b) σ S) (K := K) ↔ Ends (evX cs a σ S) (K := ⟨fun x S1 => Ends (evX cs b σ S1) (K := ⟨fun y S2 => Ends (cmpV p x y S2) (K := K)⟩)⟩) := by
  rw [x_cmp, ends_bnd]
  repeat' first | exact Iff.rfl | (refine ends_congr fun _ _ => ?_) | (simp only [kt_p, ends_bnd, ends_ite_none, ends_some, ret1_eq])
@[simp ↓] theorem ex_chn {p q : Cop} : Ends (evX cs (.chn p q a b c) σ S) (K := K) ↔ Ends (evX cs a σ S) (K := ⟨fun x S1 => Ends (evX cs b σ S1) (K := ⟨fun y S2 => Ends (cmpV p x y S2) (K := ⟨fun r S3 => Ends (boolV r S3) (K := ⟨fun k S4 => Ends (if k = true then bnd (evX cs c σ S4) fun z S5 => cmpV q y z S5 else some (.d (.bl false), S4)) (K := K)⟩)⟩)⟩)⟩) := by
  rw [x_chn, ends_bnd]
  repeat' first | exact Iff.rfl | (refine ends_congr fun _ _ => ?_) | (simp only [kt_p, ends_bnd, ends_ite_none, ends_some, ret1_eq])
@[simp ↓] theorem ex_ite : Ends (evX cs (.ite c a b) σ S) (K := K) ↔ Ends (evT cs c σ S) (K := ⟨fun k S1 => Ends (if k = true then evX cs a σ S1 else evX cs b σ S1) (K := K)⟩) := by rw [x_ite, ends_bnd]
@[simp ↓] theorem ex_tup : Ends (evX cs (.tup as) σ S) (K := K) ↔ Ends (evL cs as σ S) (K := ⟨fun ds S1 => ds.length ≤ cap ∧ K.p (.d (.tup ds)) S1⟩) := by
  rw [x_tup, ends_bnd]
  repeat' first | exact Iff.rfl | (refine ends_congr fun _ _ => ?_) | (simp only [kt_p, ends_bnd, ends_ite_none, ends_some, ret1_eq])
@[simp ↓] theorem ex_lst : Ends (evX cs (.lst as) σ S) (K := K) ↔ Ends (evL cs as σ S) (K := ⟨fun ds S1 => ds.length ≤ cap ∧ K.p (.l ds) S1⟩) := by
  rw [x_lst, ends_bnd]
  repeat' first | exact Iff.rfl | (refine ends_congr fun _ _ => ?_) | (simp only [kt_p, ends_bnd, ends_ite_none, ends_some, ret1_eq])
@[simp ↓] theorem ex_idx : Ends (evX cs (.idx a b) σ S) (K := K) ↔ Ends (evX cs a σ S) (K := ⟨fun x S1 => Ends (evX cs b σ S1) (K := ⟨fun y S2 => Ends (idxV x y S2) (K := K)⟩)⟩) := by
  rw [x_idx, ends_bnd]
  repeat' first | exact Iff.rfl | (refine ends_congr fun _ _ => ?_) | (simp only [kt_p, ends_bnd, ends_ite_none, ends_some, ret1_eq])
@[simp ↓] theorem ex_sli {lo hi : Option Ex} : Ends (evX cs (.sli a lo hi) σ S) (K := K) ↔ Ends (evX cs a σ S) (K := ⟨fun x S1 => Ends (evO cs lo σ S1) (K := ⟨fun l S2 => Ends (evO cs hi σ S2) (K := ⟨fun h S3 => Ends (sliV x l h S3) (K := K)⟩)⟩)⟩) := by
  rw [x_sli, ends_bnd]
  repeat' first | exact Iff.rfl | (refine ends_congr fun _ _ => ?_) | (simp only [kt_p, ends_bnd, ends_ite_none, ends_some, ret1_eq])
@[simp ↓] theorem ex_rev : Ends (evX cs (.rev a) σ S) (K := K) ↔ Ends (evX cs a σ S) (K := ⟨fun x S1 => Ends (revV x S1) (K := K)⟩) := by rw [x_rev, ends_bnd]
@[simp ↓] theorem ex_call : Ends (evX cs (.call f as) σ S) (K := K) ↔ Ends (evL cs as σ S) (K := ⟨fun ds S1 => Ends (cs f ds S1) (K := K)⟩) := by rw [x_call, ends_bnd]
@[simp ↓] theorem ex_callk {perm : List Nat} : Ends (evX cs (.callk f as ks perm) σ S) (K := K) ↔ Ends (evL cs as σ S) (K := ⟨fun ds S1 => Ends (evL cs ks σ S1) (K := ⟨fun zs S2 => Ends (callP cs f perm (ds ++ zs) S2) (K := K)⟩)⟩) := by
  rw [x_callk, ends_bnd]
  repeat' first | exact Iff.rfl | (refine ends_congr fun _ _ => ?_) | (simp only [kt_p, ends_bnd, ends_ite_none, ends_some, ret1_eq])
@[simp ↓] theorem ex_b1 {p : Bi1} : Ends (evX cs (.b1 p a) σ S) (K := K) ↔ Ends (evX cs a σ S) (K := ⟨fun x S1 => Ends (b1V p x S1) (K := K)⟩) := by rw [x_b1, ends_bnd]
@[simp ↓] theorem ex_b2 {p : Bi2} : Ends (evX cs (.b2 p a b) σ S) (K := K) ↔ Ends (evX cs a σ S) (K := ⟨fun x S1 => Ends (evX cs b σ S1) (K := ⟨fun y S2 => Ends (b2V p x y S2) (K := K)⟩)⟩) := by
  rw [x_b2, ends_bnd]
  repeat' first | exact Iff.rfl | (refine ends_congr fun _ _ => ?_) | (simp only [kt_p, ends_bnd, ends_ite_none, ends_some, ret1_eq])
@[simp ↓] theorem ex_rngT : Ends (evX cs (.rngT as) σ S) (K := K) ↔ Ends (evXs cs as σ S) (K := ⟨fun vs S1 => Ends (rngL1 vs (fun ds => VX.d (.tup ds)) S1) (K := K)⟩) := by rw [x_rngT, ends_bnd]
@[simp ↓] theorem ex_rngL : Ends (evX cs (.rngL as) σ S) (K := K) ↔ Ends (evXs cs as σ S) (K := ⟨fun vs S1 => Ends (rngL1 vs VX.l S1) (K := K)⟩) := by rw [x_rngL, ends_bnd]
@[simp ↓] theorem ex_isi {ts : List Ty} : Ends (evX cs (.isi a ts) σ S) (K := K) ↔ Ends (evX cs a σ S) (K := ⟨fun x S1 => Ends (isiB x ts S1) (K := ⟨fun b S2 => K.p (.d (.bl b)) S2⟩)⟩) := by
  rw [x_isi, ends_bnd]
  repeat' first | exact Iff.rfl | (refine ends_congr fun _ _ => ?_) | (simp only [kt_p, ends_bnd, ends_ite_none, ends_some, ret1_eq])
@[simp ↓] theorem ex_mt {m : Mt} : Ends (evX cs (.mt m o as) σ S) (K := K) ↔ Ends (evX cs o σ S) (K := ⟨fun x S1 => Ends (mtX m x (fun _ S => evXs cs as σ S) S1) (K := K)⟩) := by rw [x_mt, ends_bnd]
abbrev elOf (cs : Nat → List D → Sg → Rs VX) (e : Ex) : En → Sg → Rs (List D) := fun σ S => bnd (bnd (evX cs e σ S) fun v S' => toD v S') fun y S' => some ([y], S')
@[simp ↓] theorem ex_comp {elt : Ex} {tg : Tg} {it : It} {own : List Nat} : Ends (evX cs (.comp elt tg it as own) σ S) (K := K) ↔ Ends (evI cs it σ S) (K := ⟨fun src S1 => src.its.length ≤ cap ∧
      Ends (compGo src.ok (fun x σ S => asT cs tg x σ S) (fun σ S => evTs cs as σ S) (elOf cs elt) src.its (wipeE σ own) S1) (K := ⟨fun ds S2 => K.p (.l ds) S2⟩)⟩) := by
  rw [x_comp, ends_bnd]
  refine ends_congr fun _ _ => ?_
  simp only [kt_p, ends_bnd, ends_ite_none]
  refine and_congr Iff.rfl (ends_congr fun _ _ => ?_)
  simp only [kt_p, ends_some]
@[simp ↓] theorem ex_comp2 {elt : Ex} {tg tg2 : Tg} {it it2 : It} {own own2 : List Nat} : Ends (evX cs (.comp2 elt tg it as tg2 it2 ks own own2) σ S) (K := K) ↔ Ends (evI cs it σ S) (K := ⟨fun src S1 =>
      Ends (compGo src.ok (fun x σ S => asT cs tg x σ S) (fun σ S => evTs cs as σ S) (fun σ' S' => bnd (evI cs it2 σ' S') fun src2 S2 =>
        compGo src2.ok (fun x σ S => asT cs tg2 x σ S) (fun σ S => evTs cs ks σ S) (elOf cs elt) src2.its (wipeE σ' own2) S2) src.its (wipeE σ own) S1) (K := ⟨fun ds S2 => ds.length ≤ cap ∧ K.p (.l ds) S2⟩)⟩) := by
  rw [x_comp2, ends_bnd]
  repeat' first | exact Iff.rfl | (refine ends_congr fun _ _ => ?_) | (simp only [kt_p, ends_bnd, ends_ite_none, ends_some, ret1_eq])
end
section
variable {K : Kt Bool}
@[simp ↓] theorem et_not : Ends (evT cs (.not a) σ S) (K := K) ↔ Ends (evT cs a σ S) (K := ⟨fun b S1 => K.p (!b) S1⟩) := by
  rw [t_not, ends_bnd]
  repeat' first | exact Iff.rfl | (refine ends_congr fun _ _ => ?_) | (simp only [kt_p, ends_bnd, ends_ite_none, ends_some, ret1_eq])
@[simp ↓] theorem et_and : Ends (evT cs (.and a b) σ S) (K := K) ↔ Ends (evT cs a σ S) (K := ⟨fun c S1 => Ends (if c = true then evT cs b σ S1 else some (false, S1)) (K := K)⟩) := by rw [t_and, ends_bnd]
@[simp ↓] theorem et_or : Ends (evT cs (.or a b) σ S) (K := K) ↔ Ends (evT cs a σ S) (K := ⟨fun c S1 => Ends (if c = true then some (true, S1) else evT cs b σ S1) (K := K)⟩) := by rw [t_or, ends_bnd]
@[simp ↓] theorem et_cmp {p : Cop} : Ends (evT cs (.cmp p a b) σ S) (K := K) ↔ Ends (evX cs a σ S) (K := ⟨fun x S1 => Ends (evX cs b σ S1) (K := ⟨fun y S2 => Ends (cmpV p x y S2) (K := ⟨fun r S3 => Ends (boolV r S3) (K := K)⟩)⟩)⟩) := by
  rw [t_cmp, ends_bnd]
  repeat' first | exact Iff.rfl | (refine ends_congr fun _ _ => ?_) | (simp only [kt_p, ends_bnd, ends_ite_none, ends_some, ret1_eq])
@[simp ↓] theorem et_chn {p q : Cop} : Ends (evT cs (.chn p q a b c) σ S) (K := K) ↔ Ends (evX cs a σ S) (K := ⟨fun x S1 => Ends (evX cs b σ S1) (K := ⟨fun y S2 => Ends (cmpV p x y S2) (K := ⟨fun r S3 => Ends (boolV r S3) (K := ⟨fun k S4 => Ends (if k = true then bnd (evX cs c σ S4) fun z S5 => bnd (cmpV q y z S5) fun r S6 => boolV r S6 else some (false, S4)) (K := K)⟩)⟩)⟩)⟩) := by
  rw [t_chn, ends_bnd]
  repeat' first | exact Iff.rfl | (refine ends_congr fun _ _ => ?_) | (simp only [kt_p, ends_bnd, ends_ite_none, ends_some, ret1_eq])
@[simp ↓] theorem et_var : Ends (evT cs (.var i) σ S) (K := K) ↔ Ends (getV σ i S) (K := ⟨fun v S1 => Ends (truR v S1) (K := K)⟩) := by rw [t_var, ends_bnd]
@[simp ↓] theorem et_call : Ends (evT cs (.call f as) σ S) (K := K) ↔ Ends (evL cs as σ S) (K := ⟨fun ds S1 => Ends (cs f ds S1) (K := ⟨fun v S2 => Ends (truR v S2) (K := K)⟩)⟩) := by
  rw [t_call, ends_bnd, ends_bnd]
@[simp ↓] theorem et_b1 {p : Bi1} : Ends (evT cs (.b1 p a) σ S) (K := K) ↔ Ends (evX cs a σ S) (K := ⟨fun x S1 => Ends (b1V p x S1) (K := ⟨fun v S2 => Ends (truR v S2) (K := K)⟩)⟩) := by
  rw [t_b1, ends_bnd, ends_bnd]
@[simp ↓] theorem et_idx : Ends (evT cs (.idx a b) σ S) (K := K) ↔ Ends (evX cs a σ S) (K := ⟨fun x S1 => Ends (evX cs b σ S1) (K := ⟨fun y S2 => Ends (idxV x y S2) (K := ⟨fun v S2 => Ends (truR v S2) (K := K)⟩)⟩)⟩) := by
  rw [t_idx, ends_bnd, ends_bnd]
  repeat' first | exact Iff.rfl | (refine ends_congr fun _ _ => ?_) | (simp only [kt_p, ends_bnd, ends_ite_none, ends_some, ret1_eq])
@[simp ↓] theorem et_isi {ts : List Ty} : Ends (evT cs (.isi a ts) σ S) (K := K) ↔ Ends (evX cs a σ S) (K := ⟨fun x S1 => Ends (isiB x ts S1) (K := K)⟩) := by rw [t_isi, ends_bnd]
@[simp ↓] theorem ets_nil : Ends (evTs cs [] σ S) (K := K) ↔ K.p true S := ends_some
@[simp ↓] theorem ets_cons : Ends (evTs cs (a :: as) σ S) (K := K) ↔ Ends (evT cs a σ S) (K := ⟨fun b S1 => Ends (if b = true then evTs cs as σ S1 else some (false, S1)) (K := K)⟩) := by rw [ts_cons, ends_bnd]
end
@[simp ↓] theorem el_nil {K : Kt (List D)} : Ends (evL cs [] σ S) (K := K) ↔ K.p [] S := ends_some
@[simp ↓] theorem el_cons {K : Kt (List D)} : Ends (evL cs (a :: as) σ S) (K := K) ↔ Ends (evX cs a σ S) (K := ⟨fun x S1 => Ends (toD x S1) (K := ⟨fun y S2 => Ends (evL cs as σ S2) (K := ⟨fun ys S3 => K.p (y :: ys) S3⟩)⟩)⟩) := by
  rw [l_cons, ends_bnd]
  repeat' first | exact Iff.rfl | (refine ends_congr fun _ _ => ?_) | (simp only [kt_p, ends_bnd, ends_ite_none, ends_some, ret1_eq])
@[simp ↓] theorem exs_nil {K : Kt (List VX)} : Ends (evXs cs [] σ S) (K := K) ↔ K.p [] S := ends_some
@[simp ↓] theorem exs_cons {K : Kt (List VX)} : Ends (evXs cs (a :: as) σ S) (K := K) ↔ Ends (evX cs a σ S) (K := ⟨fun x S1 => Ends (evXs cs as σ S1) (K := ⟨fun ys S3 => K.p (x :: ys) S3⟩)⟩) := by
  rw [xs_cons, ends_bnd]
  repeat' first | exact Iff.rfl | (refine ends_congr fun _ _ => ?_) | (simp only [kt_p, ends_bnd, ends_ite_none, ends_some, ret1_eq])
@[simp ↓] theorem eo_none {K : Kt (Option Int)} : Ends (evO cs none σ S) (K := K) ↔ K.p none S := ends_some
@[simp ↓] theorem eo_some {K : Kt (Option Int)} : Ends (evO cs (some a) σ S) (K := K) ↔ Ends (evX cs a σ S) (K := ⟨fun x S1 => Ends (oI x S1) (K := K)⟩) := by rw [o_some, ends_bnd]
section
variable {K : Kt Src}
@[simp ↓] theorem ei_seq : Ends (evI cs (.seq a) σ S) (K := K) ↔ Ends (evX cs a σ S) (K := ⟨fun x S1 => Ends (srcV x S1) (K := K)⟩) := by rw [i_seq, ends_bnd]
@[simp ↓] theorem ei_rng : Ends (evI cs (.rng as) σ S) (K := K) ↔ Ends (evXs cs as σ S) (K := ⟨fun vs S1 => Ends (rngR vs S1) (K := K)⟩) := by rw [i_rng, ends_bnd]
@[simp ↓] theorem ei_enm : Ends (evI cs (.enm a) σ S) (K := K) ↔ Ends (evX cs a σ S) (K := ⟨fun x S1 => Ends (enmR x S1) (K := K)⟩) := by rw [i_enm, ends_bnd]
end
section
variable {K : Kt En} {y : D} {t : Tg} {ts : List Tg}
@[simp ↓] theorem ea_name : Ends (asT cs (.name i) y σ S) (K := K) ↔ K.p (σ.set i (some y)) S := ends_some
@[simp ↓] theorem ea_tup : Ends (asT cs (.tup ts) (.tup ds) σ S) (K := K) ↔ Ends (asTs cs ts ds σ S) (K := K) := Iff.rfl
@[simp ↓] theorem ea_sub : Ends (asT cs (.sub a b) y σ S) (K := K) ↔ Ends (evX cs a σ S) (K := ⟨fun ov S1 => Ends (evX cs b σ S1) (K := ⟨fun iv S2 => Ends (setV ov iv y S2) (K := ⟨fun _ S3 => K.p σ S3⟩)⟩)⟩) := by
  rw [a_sub, ends_bnd]
  repeat' first | exact Iff.rfl | (refine ends_congr fun _ _ => ?_) | (simp only [kt_p, ends_bnd, ends_ite_none, ends_some, ret1_eq])
@[simp ↓] theorem eas_nil : Ends (asTs cs [] [] σ S) (K := K) ↔ K.p σ S := ends_some
@[simp ↓] theorem eas_cons : Ends (asTs cs (t :: ts) (y :: ds) σ S) (K := K) ↔ Ends (asT cs t y σ S) (K := ⟨fun σ1 S1 => Ends (asTs cs ts ds σ1 S1) (K := K)⟩) := by rw [as_cons, ends_bnd]
end
section
variable {K : Kt (Fl × En)} {st : St} {p q : List St} {t : Tg} {it : It}
@[simp ↓] theorem es_set : Ends (exS cs (.set i e) σ S) (K := K) ↔ Ends (evX cs e σ S) (K := ⟨fun v S1 => Ends (toD v S1) (K := ⟨fun x S2 => K.p (.nx, σ.set i (some x)) S2⟩)⟩) := by
  rw [s_set, ends_bnd]
  repeat' first | exact Iff.rfl | (refine ends_congr fun _ _ => ?_) | (simp only [kt_p, ends_bnd, ends_ite_none, ends_some, ret1_eq])
@[simp ↓] theorem es_asg : Ends (exS cs (.asg t e) σ S) (K := K) ↔ Ends (evX cs e σ S) (K := ⟨fun v S1 => Ends (toD v S1) (K := ⟨fun x S2 => Ends (asT cs t x σ S2) (K := ⟨fun σ' S3 => K.p (.nx, σ') S3⟩)⟩)⟩) := by
  rw [s_asg, ends_bnd]
  repeat' first | exact Iff.rfl | (refine ends_congr fun _ _ => ?_) | (simp only [kt_p, ends_bnd, ends_ite_none, ends_some, ret1_eq])
@[simp ↓] theorem es_par {is : List Nat} : Ends (exS cs (.par is as) σ S) (K := K) ↔ Ends (evL cs as σ S) (K := ⟨fun ds S1 => ds.length = is.length ∧ K.p (.nx, setAll is ds σ) S1⟩) := by
  rw [s_par, ends_bnd]
  repeat' first | exact Iff.rfl | (refine ends_congr fun _ _ => ?_) | (simp only [kt_p, ends_bnd, ends_ite_none, ends_some, ret1_eq])
@[simp ↓] theorem es_ite : Ends (exS cs (.ite c p q) σ S) (K := K) ↔ Ends (evT cs c σ S) (K := ⟨fun k S1 => Ends (if k = true then exB cs p σ S1 else exB cs q σ S1) (K := K)⟩) := by rw [s_ite, ends_bnd]
@[simp ↓] theorem es_whl : Ends (exS cs (.whl c p) σ S) (K := K) ↔ Ends (whGo (fun σ S => evT cs c σ S) (fun σ S => exB cs p σ S) wFuel σ S) (K := K) := Iff.rfl
@[simp ↓] theorem es_for : Ends (exS cs (.for t it p) σ S) (K := K) ↔ Ends (evI cs it σ S) (K := ⟨fun src S1 => Ends (forGo src.ok (fun x σ S => asT cs t x σ S) (fun σ S => exB cs p σ S) src.its σ S1) (K := K)⟩) := by rw [s_for, ends_bnd]
@[simp ↓] theorem es_ret : Ends (exS cs (.ret e) σ S) (K := K) ↔ Ends (evX cs e σ S) (K := ⟨fun v S1 => K.p (.rt v, σ) S1⟩) := by
  rw [s_ret, ends_bnd]
  repeat' first | exact Iff.rfl | (refine ends_congr fun _ _ => ?_) | (simp only [kt_p, ends_bnd, ends_ite_none, ends_some, ret1_eq])
@[simp ↓] theorem es_retN : Ends (exS cs .retN σ S) (K := K) ↔ K.p (.rt (.d .non), σ) S := ends_some
@[simp ↓] theorem es_exp : Ends (exS cs (.exp e) σ S) (K := K) ↔ Ends (evX cs e σ S) (K := ⟨fun _ S1 => K.p (.nx, σ) S1⟩) := by
  rw [s_exp, ends_bnd]
  repeat' first | exact Iff.rfl | (refine ends_congr fun _ _ => ?_) | (simp only [kt_p, ends_bnd, ends_ite_none, ends_some, ret1_eq])
@[simp ↓] theorem es_pass : Ends (exS cs .pass σ S) (K := K) ↔ K.p (.nx, σ) S := ends_some
@[simp ↓] theorem es_brk : Ends (exS cs .brk σ S) (K := K) ↔ K.p (.bk, σ) S := ends_some
@[simp ↓] theorem es_cnt : Ends (exS cs .cnt σ S) (K := K) ↔ K.p (.ct, σ) S := ends_some
@[simp ↓] theorem es_nev : Ends (exS cs .nev σ S) (K := K) ↔ False := ends_none
@[simp ↓] theorem eb_nil : Ends (exB cs [] σ S) (K := K) ↔ K.p (.nx, σ) S := ends_some
@[simp ↓] theorem eb_cons : Ends (exB cs (st :: p) σ S) (K := K) ↔ Ends (exS cs st σ S) (K := ⟨fun r S1 => Ends (seqB cs p r S1) (K := K)⟩) := by rw [b_cons, ends_bnd]
@[simp ↓] theorem eq_nx : Ends (seqB cs p (.nx, σ) S) (K := K) ↔ Ends (exB cs p σ S) (K := K) := Iff.rfl
@[simp ↓] theorem eq_rt {v : VX} : Ends (seqB cs p (.rt v, σ) S) (K := K) ↔ K.p (.rt v, σ) S := ends_some
@[simp ↓] theorem eq_bk : Ends (seqB cs p (.bk, σ) S) (K := K) ↔ K.p (.bk, σ) S := ends_some
@[simp ↓] theorem eq_ct : Ends (seqB cs p (.ct, σ) S) (K := K) ↔ K.p (.ct, σ) S := ends_some
end
end
section
variable {α β : Type} {S : Sg} {K : Kt α} {P : α → Sg → Prop}
/-- behind a turn of a loop -/
def Turn (N B : En → Sg → Prop) (R : VX → En → Sg → Prop) (p : Fl × En) (S : Sg) : Prop := match p with
  | (.nx, σ) => N σ S
  | (.ct, σ) => N σ S
  | (.bk, σ) => B σ S
  | (.rt v, σ) => R v σ S
@[simp] theorem turn_nx {N B : En → Sg → Prop} {R : VX → En → Sg → Prop} {σ : En} : Turn N B R (.nx, σ) S ↔ N σ S := Iff.rfl
@[simp] theorem turn_ct {N B : En → Sg → Prop} {R : VX → En → Sg → Prop} {σ : En} : Turn N B R (.ct, σ) S ↔ N σ S := Iff.rfl
@[simp] theorem turn_bk {N B : En → Sg → Prop} {R : VX → En → Sg → Prop} {σ : En} : Turn N B R (.bk, σ) S ↔ B σ S := Iff.rfl
@[simp] theorem turn_rt {N B : En → Sg → Prop} {R : VX → En → Sg → Prop} {σ : En} {v : VX} : Turn N B R (.rt v, σ) S ↔ R v σ S := Iff.rfl
variable {ok : Sg → Bool} {as : D → En → Sg → Rs En} {b : En → Sg → Rs (Fl × En)} {its : List D} {σ : En} {PF : Kt (Fl × En)}
theorem ends_for (I : Nat → En → Sg → Prop) (h0 : I 0 σ S) (hok : ∀ i σ S, I i σ S → ok S = true)
    (hs : ∀ i x σ S, its[i]? = some x → I i σ S → Ends (as x σ S) (K := ⟨fun σ1 S1 => Ends (b σ1 S1) (K := ⟨Turn (I (i + 1)) (fun σ2 S2 => PF.p (.nx, σ2) S2) fun v σ2 S2 => PF.p (.rt v, σ2) S2⟩)⟩))
    (hend : ∀ σ S, I its.length σ S → PF.p (.nx, σ) S) : Ends (forGo ok as b its σ S) (K := PF) := by
  have main : ∀ (m k : Nat) (σ : En) (S : Sg), m = its.length - k → k ≤ its.length → I k σ S → Ends (forGo ok as b (its.drop k) σ S) (K := PF) := by
    intro m
    induction m with
    | zero =>
      intro k σ S hm hk hI
      have e : k = its.length := by omega
      subst e
      rw [List.drop_of_length_le (Nat.le_refl _)]
      unfold forGo
      rw [if_pos (hok _ _ _ hI)]
      exact ends_some.mpr (hend _ _ hI)
    | succ m ih =>
      intro k σ S hm hk hI
      have hlt : k < its.length := by omega
      obtain ⟨x, hx, hd⟩ := drop_cons hlt
      rw [hd]
      unfold forGo
      rw [if_pos (hok _ _ _ hI), ends_bnd]
      refine (hs k x σ S hx hI).mono fun σ1 S1 h => ?_
      simp only [kt_p, ends_bnd] at h ⊢
      refine h.mono fun p S2 h => ?_
      obtain ⟨f, σ2⟩ := p
      cases f with
      | nx => exact ih (k + 1) σ2 S2 (by omega) hlt h
      | ct => exact ih (k + 1) σ2 S2 (by omega) hlt h
      | bk => exact ends_some.mpr h
      | rt v => exact ends_some.mpr h
  have := main _ 0 σ S rfl (Nat.zero_le _) h0
  simpa using this
theorem ends_whl {c : En → Sg → Rs Bool} {n : Nat} (I : Nat → En → Sg → Prop) (i : Nat) (h0 : I i σ S) (hi : i < n)
    (hs : ∀ i σ S, I i σ S → Ends (c σ S) (K := ⟨fun k S1 => (k = true → Ends (b σ S1) (K := ⟨Turn (fun σ2 S2 => ∃ j, j < i ∧ I j σ2 S2) (fun σ2 S2 => PF.p (.nx, σ2) S2) fun v σ2 S2 => PF.p (.rt v, σ2) S2⟩)) ∧ (k = false → PF.p (.nx, σ) S1)⟩)) : Ends (whGo c b n σ S) (K := PF) := by
  induction i using Nat.strongRecOn generalizing n σ S with
  | ind i ih =>
    cases n with
    | zero => omega
    | succ n =>
      unfold whGo
      rw [ends_bnd]
      refine (hs i σ S h0).mono fun k S1 h => ?_
      cases k with
      | false =>
        show Ends (if false = true then _ else _) (K := PF)
        rw [if_neg Bool.false_ne_true]
        exact ends_some.mpr (h.2 rfl)
      | true =>
        show Ends (if true = true then _ else _) (K := PF)
        rw [if_pos rfl, ends_bnd]
        refine (h.1 rfl).mono fun p S2 h => ?_
        obtain ⟨f, σ2⟩ := p
        cases f with
        | nx => obtain ⟨j, hj, hI⟩ := h; exact ih j hj hI (by omega)
        | ct => obtain ⟨j, hj, hI⟩ := h; exact ih j hj hI (by omega)
        | bk => exact ends_some.mpr h
        | rt v => exact ends_some.mpr h
variable {ts : En → Sg → Rs Bool} {el : En → Sg → Rs (List D)} {PL : Kt (List D)}
theorem ends_comp (J : Nat → Sg → List D → Prop) (h0 : J 0 S []) (hok : ∀ i S acc, J i S acc → ok S = true)
    (hs : ∀ i x S acc, its[i]? = some x → J i S acc → Ends (as x σ S) (K := ⟨fun σ' S1 => Ends (ts σ' S1) (K := ⟨fun k S2 => (k = true → Ends (el σ' S2) (K := ⟨fun ys S3 => J (i + 1) S3 (acc ++ ys)⟩)) ∧ (k = false → J (i + 1) S2 acc)⟩)⟩))
    (hend : ∀ S acc, J its.length S acc → PL.p acc S) : Ends (compGo ok as ts el its σ S) (K := PL) := by
  obtain ⟨zs, S', e, h⟩ := compGo_run (ok := ok) (as := as) (ts := ts) (el := el) (σ := σ) (its0 := its) J (fun i S acc _ h => hok i S acc h) (fun i x S acc hx hJ => by
    obtain ⟨σ', S1, h1, k, S2, h2, h3, h4⟩ := hs i x S acc hx hJ
    refine ⟨σ', S1, h1, k, S2, h2, ?_⟩
    cases k with
    | true =>
      obtain ⟨ys, S3, h5, h6⟩ := h3 rfl
      exact .inl ⟨rfl, ys, S3, h5, h6⟩
    | false => exact .inr ⟨rfl, h4 rfl⟩) h0
  exact ⟨zs, S', e, hend _ _ h⟩
/-- a comprehension that changes nothing -/
theorem ends_map {g : D → List D} (hok : ok S = true) (hs : ∀ x ∈ its, Ends (as x σ S) (K := ⟨fun σ' S1 => S1 = S ∧ Ends (ts σ' S) (K := ⟨fun k S2 => S2 = S ∧ (k = true → Ends (el σ' S) (K := ⟨fun ys S3 => S3 = S ∧ ys = g x⟩)) ∧ (k = false → g x = [])⟩)⟩))
    (hend : PL.p (its.flatMap g) S) : Ends (compGo ok as ts el its σ S) (K := PL) := by
  refine ⟨_, _, compGo_pure hok its (g := g) fun x hx => ?_, hend⟩
  obtain ⟨σ', S1, h1, rfl, k, S2, h2, rfl, h3, h4⟩ := hs x hx
  refine ⟨σ', k, h1, h2, ?_⟩
  cases k with
  | true =>
    obtain ⟨ys, S3, h5, rfl, rfl⟩ := h3 rfl
    exact .inl ⟨rfl, h5⟩
  | false => exact .inr ⟨rfl, h4 rfl⟩
theorem clL_ints {n : Nat} (ns : List Int) : ClL n (ns.map D.int) := clL_mem.mpr fun d hd => by
  obtain ⟨i, _, rfl⟩ := List.mem_map.mp hd
  trivial
variable {l : Nat} {ds es : List D} {vs : List VX} {x : VX} {m : Mt} {g : Option Bool → Sg → Rs (List VX)}
def oR {α β : Type} (o : Option α) (f : α → Rs β) : Rs β := match o with
  | some a => f a
  | none => none
@[simp] theorem oR_some {a : α} {f : α → Rs β} : oR (some a) f = f a := rfl
@[simp] theorem oR_none {f : α → Rs β} : oR none f = none := rfl
@[simp] theorem ends_oR {L : Kt β} {o : Option α} {f : α → Rs β} : Ends (oR o f) (K := L) ↔ ∃ a, o = some a ∧ Ends (f a) (K := L) := by
  cases o with
  | none => simp
  | some a => simp
@[simp] theorem cellL_lst : cellL (some (.lst ds)) = some ds := rfl
@[simp] theorem cellL_frz : cellL (some (.frz ds)) = some ds := rfl
/-- a list that may be written -/
def cellM : Option Cell → Option (List D)
  | some (.lst ds) => some ds
  | _ => none
@[simp] theorem cellM_lst : cellM (some (.lst ds)) = some ds := rfl
@[simp] theorem len_loc' : b1V .len (.d (.loc l)) S = oR (cellL S[l]?) fun ds => some (.d (.int (ds.length : Nat)), S) := by
  show (match sqOf S (.d (.loc l)) with | some ds => _ | none => _) = _
  show (match cellL S[l]? with | some ds => _ | none => _) = _
  cases cellL S[l]? <;> rfl
@[simp] theorem tuple_loc' : b1V .tuple (.d (.loc l)) S = oR (cellL S[l]?) fun ds => some (.d (.tup ds), S) := by
  show (match cellL S[l]? with | some ds => _ | none => _) = _
  cases cellL S[l]? <;> rfl
@[simp] theorem list_loc' : b1V .list (.d (.loc l)) S = oR (cellL S[l]?) fun ds => some (.l ds, S) := by
  show (match cellL S[l]? with | some ds => _ | none => _) = _
  cases cellL S[l]? <;> rfl
@[simp] theorem srcV_loc' : srcV (.d (.loc l)) S = oR (cellL S[l]?) fun ds => some (⟨[(l, ds)], ds⟩, S) := by
  show (match (match lsAt S l with | some ds => some (⟨[(l, ds)], ds⟩ : Src) | none => none) with | some s => some (s, S) | none => none) = _
  unfold lsAt
  cases cellL S[l]? <;> rfl
@[simp] theorem idx_loc' {j : Int} : idxV (.d (.loc l)) (.d (.int j)) S = oR (cellL S[l]?) fun ds => oR (L2.atI ds j) fun y => some (.d y, S) := by
  unfold idxV sqOf tpOf lsOf lsAt
  simp only
  cases cellL S[l]? with
  | none => rfl
  | some ds =>
    show _ = oR (L2.atI ds j) _
    simp only
    cases L2.atI ds j <;> rfl
@[simp] theorem idx_tup' {j : Int} : idxV (.d (.tup ds)) (.d (.int j)) S = oR (L2.atI ds j) fun y => some (.d y, S) := by
  show (match L2.atI ds j with | some x => _ | none => _) = _
  cases L2.atI ds j <;> rfl
@[simp] theorem idx_l' {j : Int} : idxV (.l ds) (.d (.int j)) S = oR (L2.atI ds j) fun y => some (.d y, S) := by
  show (match L2.atI ds j with | some x => _ | none => _) = _
  cases L2.atI ds j <;> rfl
@[simp] theorem setV_loc' {j : Int} {y : D} : setV (.d (.loc l)) (.d (.int j)) y S = oR (cellM S[l]?) fun ds => oR (L2.ixN ds.length j) fun k => some ((), setC S l (ds.set k y)) := by
  unfold setV
  show (match S[l]? with | some (.lst ds) => _ | _ => _) = _
  generalize S[l]? = o
  cases o with
  | none => rfl
  | some c =>
    cases c with
    | lst ds =>
      show (match L2.ixN ds.length j with | some j => _ | none => _) = oR (L2.ixN ds.length j) _
      cases L2.ixN ds.length j <;> rfl
    | _ => rfl
@[simp] theorem append_loc' {gg : Option Bool → Sg → Rs (List VX)} : mtX .append (.d (.loc l)) gg S = oR (cellL S[l]?) fun _ => bnd (gg (some true) S) fun vs S2 => appendV (.d (.loc l)) vs S2 := by
  show (match (match cellL S[l]? with | some _ => some true | none => none) with | none => _ | some k => _) = _
  cases cellL S[l]? <;> rfl
@[simp] theorem extend_loc' {gg : Option Bool → Sg → Rs (List VX)} : mtX .extend (.d (.loc l)) gg S = oR (cellL S[l]?) fun _ => bnd (gg (some true) S) fun vs S2 => extendV (.d (.loc l)) vs S2 := by
  show (match (match cellL S[l]? with | some _ => some true | none => none) with | none => _ | some k => _) = _
  cases cellL S[l]? <;> rfl
@[simp] theorem appendV_loc {y : D} : appendV (.d (.loc l)) [.d y] S = oR (cellM S[l]?) fun ds => if ds.length < cap then some (.d .non, setC S l (ds ++ [y])) else none := by
  unfold appendV
  show (match S[l]? with | some (.lst ds) => _ | _ => _) = _
  generalize S[l]? = o
  cases o with
  | none => rfl
  | some c => cases c <;> rfl
@[simp] theorem extendV_loc : extendV (.d (.loc l)) [.l es] S = oR (cellM S[l]?) fun ds => if ds.length + es.length ≤ cap then some (.d .non, setC S l (ds ++ es)) else none := by
  unfold extendV
  show (match S[l]? with | some (.lst ds) => _ | _ => _) = _
  generalize S[l]? = o
  cases o with
  | none => rfl
  | some c => cases c <;> rfl
@[simp] theorem index_tup' {gg : Option Bool → Sg → Rs (List VX)} : mtX .index (.d (.tup ds)) gg S = bnd (gg (some false) S) fun vs S2 => indexV (some ds) vs S2 := rfl
@[simp] theorem index_loc' {gg : Option Bool → Sg → Rs (List VX)} : mtX .index (.d (.loc l)) gg S = oR (cellL S[l]?) fun _ => bnd (gg (some true) S) fun vs S2 => indexV (cellL S2[l]?) vs S2 := by
  show (match (match cellL S[l]? with | some _ => some true | none => none) with | none => _ | some k => _) = _
  cases cellL S[l]? <;> rfl
@[simp] theorem indexV_int {k : Int} {ns : List Int} : indexV (some (ns.map D.int)) [.d (.int k)] S = if k ∈ ns then some (.d (.int (ns.idxOf k : Nat)), S) else none := by
  unfold indexV
  simp [intsOf_map]
@[simp] theorem at_new' {c : Cell} {T : Sg} : (S ++ c :: T)[S.length]? = some c := by simp
theorem ints_get {ns : List Int} {i : Nat} {x : D} (h : (ns.map D.int)[i]? = some x) : ∃ n, ns[i]? = some n ∧ x = .int n := by
  rw [List.getElem?_map] at h
  cases e : ns[i]? with
  | none => rw [e] at h; cases h
  | some n => rw [e] at h; cases h; exact ⟨n, rfl, rfl⟩
theorem take_succ {α : Type} {ns : List α} {i : Nat} {n : α} (h : ns[i]? = some n) : ns.take (i + 1) = ns.take i ++ [n] := by
  rw [List.take_add_one, h]
  rfl
theorem atI_ints {ns : List Int} {j : Int} : L2.atI (ns.map D.int) j = (L2.atI ns j).map D.int := by
  unfold L2.atI
  rw [List.length_map]
  cases L2.ixN ns.length j with
  | none => rfl
  | some k =>
    show (ns.map D.int)[k]? = Option.map D.int ns[k]?
    rw [List.getElem?_map]
theorem toP_ints {n : Nat} : ∀ ns : List Int, (ns.map D.int).mapM (toP S n) = some (ns.map PyData.int)
  | [] => rfl
  | a :: ns => by
    rw [List.map_cons, List.mapM_cons, toP_ints ns]
    cases n <;> rfl
theorem eqv_int (a b : Int) : PyData.eqv (.int a) (.int b) = decide (a = b) := by
  rw [PyData.eqv]
  rfl
theorem eqvAll_ints : ∀ as bs : List Int, PyData.eqvAll (as.map PyData.int) (bs.map PyData.int) = decide (as = bs)
  | [], [] => by simp [PyData.eqvAll]
  | [], _ :: _ => by simp [PyData.eqvAll]
  | _ :: _, [] => by simp [PyData.eqvAll]
  | a :: as, b :: bs => by
    rw [List.map_cons, List.map_cons, PyData.eqvAll, eqvAll_ints as bs, eqv_int]
    simp
theorem eqV_ints (as bs : List Int) : eqV S (.d (.tup (as.map D.int))) (.d (.tup (bs.map D.int))) = some (decide (as = bs)) := by
  unfold eqV toPX toP
  simp only [toP_ints]
  rw [PyData.eqv, eqvAll_ints]
@[simp] theorem eq_ints (as bs : List Int) : cmpV .eq (.d (.tup (as.map D.int))) (.d (.tup (bs.map D.int))) S = some (.d (.bl (decide (as = bs))), S) := by
  show (match eqV S _ _ with | some r => ret1 r S | none => none) = _
  rw [eqV_ints]
  rfl
@[simp] theorem eq_bl (a b : Bool) : cmpV .eq (.d (.bl a)) (.d (.bl b)) S = some (.d (.bl (decide (a = b))), S) := by
  cases a <;> cases b <;> rfl
@[simp] theorem ne_bl (a b : Bool) : cmpV .ne (.d (.bl a)) (.d (.bl b)) S = some (.d (.bl (!decide (a = b))), S) := by
  cases a <;> cases b <;> rfl
@[simp] theorem isn_bl (a b : Bool) : cmpV .isn (.d (.bl a)) (.d (.bl b)) S = some (.d (.bl (!decide (a = b))), S) := rfl
@[simp] theorem is_bl (a b : Bool) : cmpV .is (.d (.bl a)) (.d (.bl b)) S = some (.d (.bl (decide (a = b))), S) := rfl
def isNon : D → Bool
  | .non => true
  | _ => false
@[simp] theorem is_non (d : D) : cmpV .is (.d d) (.d .non) S = some (.d (.bl (isNon d)), S) := by cases d <;> rfl
@[simp] theorem isn_non (d : D) : cmpV .isn (.d d) (.d .non) S = some (.d (.bl (!isNon d)), S) := by cases d <;> rfl
@[simp] theorem isNon_int {i : Int} : isNon (.int i) = false := rfl
@[simp] theorem isNon_tup : isNon (.tup ds) = false := rfl
@[simp] theorem isNon_non : isNon .non = true := rfl
/-- a number among numbers -/
@[simp] theorem in_ints (n : Int) (ns : List Int) : cmpV .isin (.d (.int n)) (.d (.tup (ns.map D.int))) S = some (.d (.bl (decide (n ∈ ns))), S) := by
  show (match inV S (.d (.int n)) (ns.map D.int) with | some r => ret1 r S | none => none) = _
  have : inV S (.d (.int n)) (ns.map D.int) = some (decide (n ∈ ns)) := by
    unfold inV toPX toP
    simp only [toP_ints]
    congr 1
    rw [List.any_map]
    induction ns with
    | nil => simp
    | cons a ns ih => simp [ih, eqv_int, eq_comm]
  rw [this]
  rfl
@[simp] theorem notin_ints (n : Int) (ns : List Int) : cmpV .notin (.d (.int n)) (.d (.tup (ns.map D.int))) S = some (.d (.bl (!decide (n ∈ ns))), S) := by
  have h := in_ints (S := S) n ns
  show (match inV S (.d (.int n)) (ns.map D.int) with | some r => ret1 (!r) S | none => none) = _
  have h' : (match inV S (.d (.int n)) (ns.map D.int) with | some r => ret1 r S | none => none) = some (.d (.bl (decide (n ∈ ns))), S) := h
  cases q : inV S (.d (.int n)) (ns.map D.int) with
  | none => rw [q] at h'; cases h'
  | some r => rw [q] at h'; cases h'; rfl
theorem rng_3 {i j c : Int} (h1 : in62 i = true) (h2 : in62 j = true) (h3 : 0 < c ∧ c < 1073741824) : rngR [.d (.int i), .d (.int j), .d (.int c)] S = some (⟨[], (List.range ((j - i + c - 1) / c).toNat).map fun (n : Nat) => D.int (i + (n : Nat) * c)⟩, S) := by
  unfold rngR rngV
  simp [h1, h2, h3]
theorem ixN_nat {n i : Nat} (h : i < n) : L2.ixN n (i : Int) = some i := by
  unfold L2.ixN
  have h0 : ¬ ((i : Int) < 0) := by omega
  simp [h0, h]
theorem atI_nat' {α : Type} {xs : List α} {i : Nat} (h : i < xs.length) : L2.atI xs (i : Int) = some (xs[i]) := by
  unfold L2.atI
  rw [ixN_nat h]
  simp [h]
/-- not a place -/
def noLoc : D → Bool
  | .loc _ => false
  | _ => true
def isIntD : D → Bool
  | .int _ => true
  | _ => false
def isBlD : D → Bool
  | .bl _ => true
  | _ => false
def isTupD : D → Bool
  | .tup _ => true
  | _ => false
theorem isi_int_of {d : D} (h : noLoc d = true) : isiB (.d d) [.int] S = some (isIntD d || isBlD d, S) := by
  cases d <;> first | rfl | cases h
theorem isi_bl_of {d : D} (h : noLoc d = true) : isiB (.d d) [.bool] S = some (isBlD d, S) := by
  cases d <;> first | rfl | cases h
theorem isi_tup_of {d : D} (h : noLoc d = true) : isiB (.d d) [.tuple] S = some (isTupD d, S) := by
  cases d <;> first | rfl | cases h
theorem all_int {ds : List D} (h : ds.all isIntD = true) : ∃ ns : List Int, ds = ns.map D.int := by
  induction ds with
  | nil => exact ⟨[], rfl⟩
  | cons d ds ih =>
    simp only [List.all_cons, Bool.and_eq_true] at h
    obtain ⟨ns, rfl⟩ := ih h.2
    cases d with
    | int i => exact ⟨i :: ns, rfl⟩
    | _ => cases h.1
theorem map_bl_eq {α : Type} {f : α → Bool} (xs : List α) : (xs.flatMap fun x => [D.bl (f x)]) = (xs.map f).map D.bl := by
  induction xs with
  | nil => rfl
  | cons x xs ih => simp [ih]
theorem map_int_eq {α : Type} {f : α → Int} (xs : List α) : (xs.flatMap fun x => [D.int (f x)]) = (xs.map f).map D.int := by
  induction xs with
  | nil => rfl
  | cons x xs ih => simp [ih]
@[simp] theorem all_fm {α : Type} {f : α → Bool} {xs : List α} : b1V .all (.l (xs.flatMap fun x => [D.bl (f x)])) S = some (.d (.bl (xs.all f)), S) := by
  rw [map_bl_eq, all_bls]
  simp
@[simp] theorem all_mp {α : Type} {f : α → Bool} {xs : List α} : b1V .all (.l (xs.map fun x => D.bl (f x))) S = some (.d (.bl (xs.all f)), S) := by
  rw [← all_fm]
  congr 2
  induction xs with
  | nil => rfl
  | cons x xs ih => simp [ih]
@[simp] theorem all_co {α : Type} {f : α → Bool} {xs : List α} : b1V .all (.l (xs.map (D.bl ∘ f))) S = some (.d (.bl (xs.all f)), S) := all_mp
@[simp] theorem any_fm {α : Type} {f : α → Bool} {xs : List α} : b1V .any (.l (xs.flatMap fun x => [D.bl (f x)])) S = some (.d (.bl (xs.any f)), S) := by
  rw [map_bl_eq, any_bls]
  simp
@[simp] theorem any_mp {α : Type} {f : α → Bool} {xs : List α} : b1V .any (.l (xs.map fun x => D.bl (f x))) S = some (.d (.bl (xs.any f)), S) := by
  rw [← any_fm]
  congr 2
  induction xs with
  | nil => rfl
  | cons x xs ih => simp [ih]
@[simp] theorem any_co {α : Type} {f : α → Bool} {xs : List α} : b1V .any (.l (xs.map (D.bl ∘ f))) S = some (.d (.bl (xs.any f)), S) := any_mp
theorem int_inj {as bs : List Int} : as.map D.int = bs.map D.int ↔ as = bs := by
  constructor
  · intro h
    have h1 := congrArg intsOf h
    rw [intsOf_map, intsOf_map] at h1
    exact Option.some.inj h1
  · rintro rfl
    rfl
@[simp] theorem rev_tup : revV (.d (.tup ds)) S = some (.d (.tup ds.reverse), S) := rfl
@[simp] theorem rev_l : revV (.l ds) S = some (.l ds.reverse, S) := rfl
@[simp] theorem sli_tup {lo hi : Option Int} : sliV (.d (.tup ds)) lo hi S = some (.d (.tup (cutL ds lo hi)), S) := rfl
@[simp] theorem sli_l {lo hi : Option Int} : sliV (.l ds) lo hi S = some (.l (cutL ds lo hi), S) := rfl
@[simp] theorem sli_loc' {l : Nat} {lo hi : Option Int} : sliV (.d (.loc l)) lo hi S = oR (cellL S[l]?) fun ds => some (.l (cutL ds lo hi), S) := by
  show (match cellL S[l]? with | some ds => _ | none => _) = _
  cases cellL S[l]? <;> rfl
theorem rngL_1 {n : Int} {k : List D → VX} (h : 0 ≤ n ∧ n ≤ 16777216) : rngL1 [.d (.int n)] k S = some (k ((List.range n.toNat).map fun (i : Nat) => D.int (i : Nat)), S) := by
  have h62 : in62 n = true := by unfold in62; simp; omega
  unfold rngL1 rngV
  simp [h62, cap]
  omega
theorem cutL_nat {α : Type} {xs : List α} {i j : Nat} (hi : i ≤ j) (hj : j ≤ xs.length) : cutL xs (some (i : Int)) (some (j : Int)) = (xs.drop i).take (j - i) := by
  unfold cutL
  rw [HT.sIx_nat, HT.sIx_nat, Nat.min_eq_left hj, Nat.min_eq_left (by omega)]
theorem cutL_from {α : Type} {xs : List α} {i : Nat} (hi : i ≤ xs.length) : cutL xs (some (i : Int)) none = xs.drop i := by
  unfold cutL
  rw [HT.sIx_nat, HT.sIx_none, Nat.min_eq_left hi]
  rw [List.take_of_length_le (by simp)]
theorem cutL_to {α : Type} {xs : List α} {j : Nat} (hj : j ≤ xs.length) : cutL xs none (some (j : Int)) = xs.take j := by
  unfold cutL
  rw [HT.sIx_nat, HT.sIx_none, Nat.min_eq_left hj]
  simp
theorem cutL_mem {α : Type} {xs : List α} {lo hi : Option Int} {x : α} (h : x ∈ cutL xs lo hi) : x ∈ xs := List.mem_of_mem_drop (List.mem_of_mem_take h)
theorem cutL_len {α : Type} {xs : List α} {lo hi : Option Int} : (cutL xs lo hi).length ≤ xs.length := by
  unfold cutL
  simp
  omega
def Pre (S T : Sg) : Prop := ∃ G, T = S ++ G
theorem Pre.refl {S : Sg} : Pre S S := ⟨[], by simp⟩
theorem Pre.app {S T X : Sg} (h : Pre S T) : Pre S (T ++ X) := let ⟨G, e⟩ := h; ⟨G ++ X, by rw [e, List.append_assoc]⟩
theorem Pre.len {S T : Sg} (h : Pre S T) : S.length ≤ T.length := by obtain ⟨G, rfl⟩ := h; simp
theorem Pre.set {S T : Sg} {l : Nat} {ds : List D} (h : Pre S T) (hl : S.length ≤ l) : Pre S (setC T l ds) := by
  obtain ⟨G, rfl⟩ := h
  exact ⟨G.set (l - S.length) (.lst ds), by unfold setC; rw [List.set_append_right _ _ hl]⟩
theorem Pre.at_ {S T : Sg} {l : Nat} {c : Cell} (h : Pre S T) (e : S[l]? = some c) : T[l]? = some c := by
  obtain ⟨G, rfl⟩ := h
  rw [List.getElem?_append_left (List.getElem?_eq_some_iff.mp e).1, e]
theorem at_app {T X : Sg} {l : Nat} {c : Cell} (e : T[l]? = some c) : (T ++ X)[l]? = some c := by
  rw [List.getElem?_append_left (List.getElem?_eq_some_iff.mp e).1, e]
theorem at_lt {T : Sg} {l : Nat} {c : Cell} (e : T[l]? = some c) : l < T.length := (List.getElem?_eq_some_iff.mp e).1
theorem cleans_pre {m m' : Fsem} (h : ∀ ds S x S', ClL S.length ds → ClS S.length S → m' ds S = some (x, S') → S' = S ∧ Ends (m ds S) (K := ⟨fun x1 T => Pre S T ∧ Told S.length T x1 x⟩)) : Cleans m m' := .pure fun ds S x S' c1 c2 hm => by
  obtain ⟨h1, x1, T, h2, ⟨G, rfl⟩, h3⟩ := h ds S x S' c1 c2 hm
  exact ⟨h1, x1, G, h2, h3⟩
@[simp] theorem ok_one {l : Nat} {its : List D} : (⟨[(l, ds)], its⟩ : Src).ok S = decide (cellL S[l]? = some ds) := by
  unfold Src.ok lsAt
  simp
@[simp] theorem addV_loc_l {l : Nat} {ys : List D} : binV .add (.d (.loc l)) (.l ys) S = oR (cellM S[l]?) fun xs => if xs.length + ys.length ≤ cap then some (.l (xs ++ ys), S) else none := by
  show (match mlOf S (.d (.loc l)) with | none => none | some xs => _) = _
  unfold mlOf
  simp only
  generalize S[l]? = o
  cases o with
  | none => rfl
  | some c => cases c <;> rfl
@[simp] theorem addV_l_l {xs ys : List D} : binV .add (.l xs) (.l ys) S = if xs.length + ys.length ≤ cap then some (.l (xs ++ ys), S) else none := rfl
@[simp] theorem addV_l_loc {l : Nat} {xs : List D} : binV .add (.l xs) (.d (.loc l)) S = oR (cellM S[l]?) fun ys => if xs.length + ys.length ≤ cap then some (.l (xs ++ ys), S) else none := by
  show addV (.l xs) (.d (.loc l)) S = _
  unfold addV mlOf
  simp only
  generalize S[l]? = o
  cases o with
  | none => rfl
  | some c => cases c <;> rfl
@[simp] theorem addV_tup {xs ys : List D} : binV .add (.d (.tup xs)) (.d (.tup ys)) S = if xs.length + ys.length ≤ cap then some (.d (.tup (xs ++ ys)), S) else none := rfl
end
end Ev

namespace Ev
open PySem PySem.Spec PyProof.Rows L2
abbrev txt (i : Nat) : Stmt := PySem.Challenge.pw_eachagainst_k56_whole_seeded_draws.main.body.getD i (.Pass ⟨0, 0, 0, 0⟩)
abbrev ix_is_size : Nat := 0
abbrev ix_check_size : Nat := 1
abbrev ix_doubled : Nat := 2
abbrev ix_seeded_by : Nat := 3
abbrev ix_seeded : Nat := 4
abbrev ix__law_alike : Nat := 5
abbrev ix__law_seeded : Nat := 6
abbrev ix_same_numbers : Nat := 7
abbrev ix_is_seeded_by : Nat := 8
abbrev ix_is_seeded : Nat := 9
abbrev ix__law_draw_right : Nat := 10
abbrev ix__law_pool : Nat := 11
abbrev ix__law_take : Nat := 12
abbrev ix__law_bent : Nat := 13
abbrev ix__law_says : Nat := 14
abbrev ix__law_whole : Nat := 15
abbrev ix__law_is_seeded : Nat := 16
abbrev ix__law_meeting : Nat := 17
abbrev ix_is_whole : Nat := 18
abbrev ix_is_between : Nat := 19
abbrev ix_check_number : Nat := 20
abbrev ix_meeting_round_by : Nat := 21
abbrev ix_meeting_round : Nat := 22
abbrev ix_law : Nat := 23
abbrev c_SIZES : D := (.tup [(.int 1), (.int 2), (.int 4), (.int 8), (.int 16), (.int 32), (.int 64)])
abbrev allCon : List (Str × D) := [("SIZES", c_SIZES)]
abbrev N_is_size : List Str := ["value"]
abbrev P_is_size : List Str := ["value"]
abbrev fe_is_size : Fe := ⟨"is_size", ix_is_size, P_is_size, []⟩
abbrev N_check_size : List Str := ["value"]
abbrev P_check_size : List Str := ["value"]
abbrev fe_check_size : Fe := ⟨"check_size", ix_check_size, P_check_size, []⟩
abbrev N_doubled : List Str := ["draw", "found", "player"]
abbrev P_doubled : List Str := ["draw"]
abbrev fe_doubled : Fe := ⟨"doubled", ix_doubled, P_doubled, []⟩
abbrev N_seeded_by : List Str := ["many", "found"]
abbrev P_seeded_by : List Str := ["many"]
abbrev fe_seeded_by : Fe := ⟨"seeded_by", ix_seeded_by, P_seeded_by, []⟩
abbrev N_seeded : List Str := ["many"]
abbrev P_seeded : List Str := ["many"]
abbrev fe_seeded : Fe := ⟨"seeded", ix_seeded, P_seeded, [(0, ["many"], [0])]⟩
abbrev N__law_alike : List Str := ["one", "two", "k"]
abbrev P__law_alike : List Str := ["one", "two"]
abbrev fe__law_alike : Fe := ⟨"_law_alike", ix__law_alike, P__law_alike, []⟩
abbrev N__law_seeded : List Str := ["many", "found", "more", "each"]
abbrev P__law_seeded : List Str := ["many"]
abbrev fe__law_seeded : Fe := ⟨"_law_seeded", ix__law_seeded, P__law_seeded, []⟩
abbrev N_same_numbers : List Str := ["value", "draw", "each"]
abbrev P_same_numbers : List Str := ["value", "draw"]
abbrev fe_same_numbers : Fe := ⟨"same_numbers", ix_same_numbers, P_same_numbers, []⟩
abbrev N_is_seeded_by : List Str := ["value"]
abbrev P_is_seeded_by : List Str := ["value"]
abbrev fe_is_seeded_by : Fe := ⟨"is_seeded_by", ix_is_seeded_by, P_is_seeded_by, []⟩
abbrev N_is_seeded : List Str := ["value"]
abbrev P_is_seeded : List Str := ["value"]
abbrev fe_is_seeded : Fe := ⟨"is_seeded", ix_is_seeded, P_is_seeded, [(0, ["value"], [0])]⟩
abbrev N__law_draw_right : List Str := ["many", "draw", "left", "k", "j"]
abbrev P__law_draw_right : List Str := ["many"]
abbrev fe__law_draw_right : Fe := ⟨"_law_draw_right", ix__law_draw_right, P__law_draw_right, []⟩
abbrev N__law_pool : List Str := ["script", "k", "cell", "size", "stir"]
abbrev P__law_pool : List Str := ["script", "k"]
abbrev fe__law_pool : Fe := ⟨"_law_pool", ix__law_pool, P__law_pool, []⟩
abbrev N__law_take : List Str := ["pool", "many", "told", "reach"]
abbrev P__law_take : List Str := ["pool", "many"]
abbrev fe__law_take : Fe := ⟨"_law_take", ix__law_take, P__law_take, []⟩
abbrev N__law_bent : List Str := ["pool", "draw", "at", "to", "other", "rows", "odd"]
abbrev P__law_bent : List Str := ["pool", "draw"]
abbrev fe__law_bent : Fe := ⟨"_law_bent", ix__law_bent, P__law_bent, []⟩
abbrev N__law_says : List Str := ["told", "due"]
abbrev P__law_says : List Str := ["told", "due"]
abbrev fe__law_says : Fe := ⟨"_law_says", ix__law_says, P__law_says, []⟩
abbrev N__law_whole : List Str := ["value"]
abbrev P__law_whole : List Str := ["value"]
abbrev fe__law_whole : Fe := ⟨"_law_whole", ix__law_whole, P__law_whole, []⟩
abbrev N__law_is_seeded : List Str := ["value", "each"]
abbrev P__law_is_seeded : List Str := ["value"]
abbrev fe__law_is_seeded : Fe := ⟨"_law_is_seeded", ix__law_is_seeded, P__law_is_seeded, []⟩
abbrev N__law_meeting : List Str := ["draw", "one", "two", "a", "b", "rounds", "k"]
abbrev P__law_meeting : List Str := ["draw", "one", "two"]
abbrev fe__law_meeting : Fe := ⟨"_law_meeting", ix__law_meeting, P__law_meeting, []⟩
abbrev N_is_whole : List Str := ["value"]
abbrev P_is_whole : List Str := ["value"]
abbrev fe_is_whole : Fe := ⟨"is_whole", ix_is_whole, P_is_whole, []⟩
abbrev N_is_between : List Str := ["value", "low", "high"]
abbrev P_is_between : List Str := ["value", "low", "high"]
abbrev fe_is_between : Fe := ⟨"is_between", ix_is_between, P_is_between, []⟩
abbrev N_check_number : List Str := ["value", "low", "high"]
abbrev P_check_number : List Str := ["value", "low", "high"]
abbrev fe_check_number : Fe := ⟨"check_number", ix_check_number, P_check_number, []⟩
abbrev N_meeting_round_by : List Str := ["many", "one", "two", "draw", "first", "second", "found"]
abbrev P_meeting_round_by : List Str := ["many", "one", "two"]
abbrev fe_meeting_round_by : Fe := ⟨"meeting_round_by", ix_meeting_round_by, P_meeting_round_by, []⟩
abbrev N_meeting_round : List Str := ["many", "number", "second"]
abbrev P_meeting_round : List Str := ["many", "number", "second"]
abbrev fe_meeting_round : Fe := ⟨"meeting_round", ix_meeting_round, P_meeting_round, [(0, ["second", "number", "many"], [2, 1, 0])]⟩
abbrev N_law : List Str := ["script", "turn", "pool", "many", "draw", "value", "k", "one", "two", "due", "size"]
abbrev P_law : List Str := ["script"]
abbrev fe_law : Fe := ⟨"law", ix_law, P_law, []⟩
def B_is_size : List St := [(.ret (.and (.isi (.var 0) [.int]) (.and (.not (.isi (.var 0) [.bool])) (.cmp .isin (.var 0) (.glo "SIZES" c_SIZES)))))]
def C_is_size : Cf := ⟨N_is_size, [], allCon, ["isinstance", "int", "bool"]⟩
theorem S_is_size : FnScope N_is_size P_is_size (defScope (txt 10)) := ⟨rfl, rfl, rfl, by decide +kernel, rfl, by decide +kernel, by decide +kernel⟩
theorem k_is_size : (cSk C_is_size 60 60).b (defScope (txt 10)) (defBody (txt 10)) B_is_size = true := by decide +kernel
theorem n_is_size : C_is_size.N.all nmOk = true := by decide +kernel
theorem r_is_size {cs : Nat → List D → Sg → Rs VX} {S : Sg} {a0 : D} : semF cs 1 1 B_is_size [a0] S = bnd (exB cs [(.ret (.and (.isi (.var 0) [.int]) (.and (.not (.isi (.var 0) [.bool])) (.cmp .isin (.var 0) (.glo "SIZES" c_SIZES)))))] [some a0] S) endF := rfl
theorem b_is_size : BindOk "is_size" (txt 10) P_is_size fe_is_size.kws := ⟨by decide, fun _ _ _ _ _ _ us hl => match us, hl with | [_], _ => rfl, fun q hq => by cases hq⟩
def B_check_size : List St := [(.ite (.not (.call ix_is_size [(.var 0)])) [.nev] [])]
def C_check_size : Cf := ⟨N_check_size, [fe_is_size], allCon, []⟩
theorem S_check_size : FnScope N_check_size P_check_size (defScope (txt 17)) := ⟨rfl, rfl, rfl, by decide +kernel, rfl, by decide +kernel, by decide +kernel⟩
theorem k_check_size : (cSk C_check_size 60 60).b (defScope (txt 17)) (defBody (txt 17)) B_check_size = true := by decide +kernel
theorem n_check_size : C_check_size.N.all nmOk = true := by decide +kernel
theorem r_check_size {cs : Nat → List D → Sg → Rs VX} {S : Sg} {a0 : D} : semF cs 1 1 B_check_size [a0] S = bnd (exB cs [(.ite (.not (.call ix_is_size [(.var 0)])) [.nev] [])] [some a0] S) endF := rfl
theorem b_check_size : BindOk "check_size" (txt 17) P_check_size fe_check_size.kws := ⟨by decide, fun _ _ _ _ _ _ us hl => match us, hl with | [_], _ => rfl, fun q hq => by cases hq⟩
def B_doubled : List St := [(.set 1 (.lst [])), (.for (.name 2) (.seq (.var 0)) [(.exp (.mt .extend (.var 1) [(.lst [(.var 2), (.bin .sub (.bin .sub (.bin .mul (.con (.int 2)) (.b1 .len (.var 0))) (.con (.int 1))) (.var 2))])]))]), (.ret (.b1 .tuple (.var 1)))]
def C_doubled : Cf := ⟨N_doubled, [], allCon, ["len", "tuple"]⟩
theorem S_doubled : FnScope N_doubled P_doubled (defScope (txt 11)) := ⟨rfl, rfl, rfl, by decide +kernel, rfl, by decide +kernel, by decide +kernel⟩
theorem k_doubled : (cSk C_doubled 60 60).b (defScope (txt 11)) (defBody (txt 11)) B_doubled = true := by decide +kernel
theorem n_doubled : C_doubled.N.all nmOk = true := by decide +kernel
theorem r_doubled {cs : Nat → List D → Sg → Rs VX} {S : Sg} {a0 : D} : semF cs 1 3 B_doubled [a0] S = bnd (exB cs [(.set 1 (.lst [])), (.for (.name 2) (.seq (.var 0)) [(.exp (.mt .extend (.var 1) [(.lst [(.var 2), (.bin .sub (.bin .sub (.bin .mul (.con (.int 2)) (.b1 .len (.var 0))) (.con (.int 1))) (.var 2))])]))]), (.ret (.b1 .tuple (.var 1)))] [some a0, none, none] S) endF := rfl
theorem b_doubled : BindOk "doubled" (txt 11) P_doubled fe_doubled.kws := ⟨by decide, fun _ _ _ _ _ _ us hl => match us, hl with | [_], _ => rfl, fun q hq => by cases hq⟩
def B_seeded_by : List St := [(.set 1 (.tup [(.con (.int 0))])), (.whl (.cmp .lt (.b1 .len (.var 1)) (.var 0)) [(.set 1 (.call ix_doubled [(.var 1)]))]), (.ret (.var 1))]
def C_seeded_by : Cf := ⟨N_seeded_by, [fe_doubled], allCon, ["len"]⟩
theorem S_seeded_by : FnScope N_seeded_by P_seeded_by (defScope (txt 12)) := ⟨rfl, rfl, rfl, by decide +kernel, rfl, by decide +kernel, by decide +kernel⟩
theorem k_seeded_by : (cSk C_seeded_by 60 60).b (defScope (txt 12)) (defBody (txt 12)) B_seeded_by = true := by decide +kernel
theorem n_seeded_by : C_seeded_by.N.all nmOk = true := by decide +kernel
theorem r_seeded_by {cs : Nat → List D → Sg → Rs VX} {S : Sg} {a0 : D} : semF cs 1 2 B_seeded_by [a0] S = bnd (exB cs [(.set 1 (.tup [(.con (.int 0))])), (.whl (.cmp .lt (.b1 .len (.var 1)) (.var 0)) [(.set 1 (.call ix_doubled [(.var 1)]))]), (.ret (.var 1))] [some a0, none] S) endF := rfl
theorem b_seeded_by : BindOk "seeded_by" (txt 12) P_seeded_by fe_seeded_by.kws := ⟨by decide, fun _ _ _ _ _ _ us hl => match us, hl with | [_], _ => rfl, fun q hq => by cases hq⟩
def B_seeded : List St := [(.exp (.call ix_check_size [(.var 0)])), (.ret (.call ix_seeded_by [(.var 0)]))]
def C_seeded : Cf := ⟨N_seeded, [fe_check_size, fe_seeded_by], allCon, []⟩
theorem S_seeded : FnScope N_seeded P_seeded (defScope (txt 18)) := ⟨rfl, rfl, rfl, by decide +kernel, rfl, by decide +kernel, by decide +kernel⟩
theorem k_seeded : (cSk C_seeded 60 60).b (defScope (txt 18)) (defBody (txt 18)) B_seeded = true := by decide +kernel
theorem n_seeded : C_seeded.N.all nmOk = true := by decide +kernel
theorem r_seeded {cs : Nat → List D → Sg → Rs VX} {S : Sg} {a0 : D} : semF cs 1 1 B_seeded [a0] S = bnd (exB cs [(.exp (.call ix_check_size [(.var 0)])), (.ret (.call ix_seeded_by [(.var 0)]))] [some a0] S) endF := rfl
theorem b_seeded : BindOk "seeded" (txt 18) P_seeded fe_seeded.kws := ⟨by decide, fun _ _ _ _ _ _ us hl => match us, hl with | [_], _ => rfl, by
  intro q hq
  rcases List.mem_cons.mp hq with rfl | hq
  · exact fun _ _ _ _ _ _ us ws h1 h2 => match us, ws, h1, h2 with | [], [_], _, _ => rfl
  cases hq⟩
def B__law_alike : List St := [(.ite (.or (.isi (.var 0) [.bool]) (.isi (.var 1) [.bool])) [(.ret (.and (.isi (.var 0) [.bool]) (.and (.isi (.var 1) [.bool]) (.cmp .eq (.var 0) (.var 1)))))] []), (.ite (.or (.isi (.var 0) [.int]) (.isi (.var 1) [.int])) [(.ret (.and (.isi (.var 0) [.int]) (.and (.isi (.var 1) [.int]) (.cmp .eq (.var 0) (.var 1)))))] []), (.ite (.or (.isi (.var 0) [.str]) (.isi (.var 1) [.str])) [(.ret (.and (.isi (.var 0) [.str]) (.and (.isi (.var 1) [.str]) (.cmp .eq (.var 0) (.var 1)))))] []), (.ite (.or (.cmp .is (.var 0) (.con .non)) (.cmp .is (.var 1) (.con .non))) [(.ret (.and (.cmp .is (.var 0) (.con .non)) (.cmp .is (.var 1) (.con .non))))] []), (.ite (.or (.isi (.var 0) [.dict]) (.isi (.var 1) [.dict])) [(.ret (.and (.isi (.var 0) [.dict]) (.and (.isi (.var 1) [.dict]) (.chn .eq .eq (.b1 .len (.var 0)) (.b1 .len (.var 1)) (.con (.int 0))))))] []), (.ite (.or (.cmp .ne (.isi (.var 0) [.tuple]) (.isi (.var 1) [.tuple])) (.cmp .ne (.isi (.var 0) [.list]) (.isi (.var 1) [.list]))) [(.ret (.con (.bl false)))] []), (.ite (.or (.not (.isi (.var 0) [.tuple, .list])) (.cmp .ne (.b1 .len (.var 0)) (.b1 .len (.var 1)))) [(.ret (.con (.bl false)))] []), (.ret (.b1 .all (.comp (.call ix__law_alike [(.idx (.var 0) (.var 2)), (.idx (.var 1) (.var 2))]) (.name 2) (.rng [(.b1 .len (.var 0))]) [] [2])))]
def C__law_alike : Cf := ⟨N__law_alike, [fe__law_alike], allCon, ["isinstance", "bool", "int", "str", "dict", "len", "tuple", "list", "all", "range"]⟩
theorem S__law_alike : FnScope N__law_alike P__law_alike (defScope (txt 24)) := ⟨rfl, rfl, rfl, by decide +kernel, rfl, by decide +kernel, by decide +kernel⟩
theorem k__law_alike : (cSk C__law_alike 60 60).b (defScope (txt 24)) (defBody (txt 24)) B__law_alike = true := by decide +kernel
theorem n__law_alike : C__law_alike.N.all nmOk = true := by decide +kernel
theorem r__law_alike {cs : Nat → List D → Sg → Rs VX} {S : Sg} {a0 a1 : D} : semF cs 2 3 B__law_alike [a0, a1] S = bnd (exB cs [(.ite (.or (.isi (.var 0) [.bool]) (.isi (.var 1) [.bool])) [(.ret (.and (.isi (.var 0) [.bool]) (.and (.isi (.var 1) [.bool]) (.cmp .eq (.var 0) (.var 1)))))] []), (.ite (.or (.isi (.var 0) [.int]) (.isi (.var 1) [.int])) [(.ret (.and (.isi (.var 0) [.int]) (.and (.isi (.var 1) [.int]) (.cmp .eq (.var 0) (.var 1)))))] []), (.ite (.or (.isi (.var 0) [.str]) (.isi (.var 1) [.str])) [(.ret (.and (.isi (.var 0) [.str]) (.and (.isi (.var 1) [.str]) (.cmp .eq (.var 0) (.var 1)))))] []), (.ite (.or (.cmp .is (.var 0) (.con .non)) (.cmp .is (.var 1) (.con .non))) [(.ret (.and (.cmp .is (.var 0) (.con .non)) (.cmp .is (.var 1) (.con .non))))] []), (.ite (.or (.isi (.var 0) [.dict]) (.isi (.var 1) [.dict])) [(.ret (.and (.isi (.var 0) [.dict]) (.and (.isi (.var 1) [.dict]) (.chn .eq .eq (.b1 .len (.var 0)) (.b1 .len (.var 1)) (.con (.int 0))))))] []), (.ite (.or (.cmp .ne (.isi (.var 0) [.tuple]) (.isi (.var 1) [.tuple])) (.cmp .ne (.isi (.var 0) [.list]) (.isi (.var 1) [.list]))) [(.ret (.con (.bl false)))] []), (.ite (.or (.not (.isi (.var 0) [.tuple, .list])) (.cmp .ne (.b1 .len (.var 0)) (.b1 .len (.var 1)))) [(.ret (.con (.bl false)))] []), (.ret (.b1 .all (.comp (.call ix__law_alike [(.idx (.var 0) (.var 2)), (.idx (.var 1) (.var 2))]) (.name 2) (.rng [(.b1 .len (.var 0))]) [] [2])))] [some a0, some a1, none] S) endF := rfl
theorem b__law_alike : BindOk "_law_alike" (txt 24) P__law_alike fe__law_alike.kws := ⟨by decide, fun _ _ _ _ _ _ us hl => match us, hl with | [_, _], _ => rfl, fun q hq => by cases hq⟩
def B__law_seeded : List St := [(.set 1 (.lst [(.con (.int 0))])), (.whl (.cmp .lt (.b1 .len (.var 1)) (.var 0)) [(.set 2 (.lst [])), (.for (.name 3) (.seq (.var 1)) [(.set 2 (.bin .add (.var 2) (.lst [(.var 3), (.bin .sub (.bin .sub (.bin .mul (.con (.int 2)) (.b1 .len (.var 1))) (.con (.int 1))) (.var 3))])))]), (.set 1 (.var 2))]), (.ret (.b1 .tuple (.var 1)))]
def C__law_seeded : Cf := ⟨N__law_seeded, [], allCon, ["len", "tuple"]⟩
theorem S__law_seeded : FnScope N__law_seeded P__law_seeded (defScope (txt 27)) := ⟨rfl, rfl, rfl, by decide +kernel, rfl, by decide +kernel, by decide +kernel⟩
theorem k__law_seeded : (cSk C__law_seeded 60 60).b (defScope (txt 27)) (defBody (txt 27)) B__law_seeded = true := by decide +kernel
theorem n__law_seeded : C__law_seeded.N.all nmOk = true := by decide +kernel
theorem r__law_seeded {cs : Nat → List D → Sg → Rs VX} {S : Sg} {a0 : D} : semF cs 1 4 B__law_seeded [a0] S = bnd (exB cs [(.set 1 (.lst [(.con (.int 0))])), (.whl (.cmp .lt (.b1 .len (.var 1)) (.var 0)) [(.set 2 (.lst [])), (.for (.name 3) (.seq (.var 1)) [(.set 2 (.bin .add (.var 2) (.lst [(.var 3), (.bin .sub (.bin .sub (.bin .mul (.con (.int 2)) (.b1 .len (.var 1))) (.con (.int 1))) (.var 3))])))]), (.set 1 (.var 2))]), (.ret (.b1 .tuple (.var 1)))] [some a0, none, none, none] S) endF := rfl
theorem b__law_seeded : BindOk "_law_seeded" (txt 27) P__law_seeded fe__law_seeded.kws := ⟨by decide, fun _ _ _ _ _ _ us hl => match us, hl with | [_], _ => rfl, fun q hq => by cases hq⟩
def B_same_numbers : List St := [(.ret (.and (.b1 .all (.comp (.and (.isi (.var 2) [.int]) (.not (.isi (.var 2) [.bool]))) (.name 2) (.seq (.var 0)) [] [2])) (.cmp .eq (.var 0) (.var 1))))]
def C_same_numbers : Cf := ⟨N_same_numbers, [], allCon, ["all", "isinstance", "int", "bool"]⟩
theorem S_same_numbers : FnScope N_same_numbers P_same_numbers (defScope (txt 14)) := ⟨rfl, rfl, rfl, by decide +kernel, rfl, by decide +kernel, by decide +kernel⟩
theorem k_same_numbers : (cSk C_same_numbers 60 60).b (defScope (txt 14)) (defBody (txt 14)) B_same_numbers = true := by decide +kernel
theorem n_same_numbers : C_same_numbers.N.all nmOk = true := by decide +kernel
theorem r_same_numbers {cs : Nat → List D → Sg → Rs VX} {S : Sg} {a0 a1 : D} : semF cs 2 3 B_same_numbers [a0, a1] S = bnd (exB cs [(.ret (.and (.b1 .all (.comp (.and (.isi (.var 2) [.int]) (.not (.isi (.var 2) [.bool]))) (.name 2) (.seq (.var 0)) [] [2])) (.cmp .eq (.var 0) (.var 1))))] [some a0, some a1, none] S) endF := rfl
theorem b_same_numbers : BindOk "same_numbers" (txt 14) P_same_numbers fe_same_numbers.kws := ⟨by decide, fun _ _ _ _ _ _ us hl => match us, hl with | [_, _], _ => rfl, fun q hq => by cases hq⟩
def B_is_seeded_by : List St := [(.ret (.and (.isi (.var 0) [.tuple]) (.and (.call ix_is_size [(.b1 .len (.var 0))]) (.call ix_same_numbers [(.var 0), (.call ix_seeded_by [(.b1 .len (.var 0))])]))))]
def C_is_seeded_by : Cf := ⟨N_is_seeded_by, [fe_is_size, fe_same_numbers, fe_seeded_by], allCon, ["isinstance", "tuple", "len"]⟩
theorem S_is_seeded_by : FnScope N_is_seeded_by P_is_seeded_by (defScope (txt 13)) := ⟨rfl, rfl, rfl, by decide +kernel, rfl, by decide +kernel, by decide +kernel⟩
theorem k_is_seeded_by : (cSk C_is_seeded_by 60 60).b (defScope (txt 13)) (defBody (txt 13)) B_is_seeded_by = true := by decide +kernel
theorem n_is_seeded_by : C_is_seeded_by.N.all nmOk = true := by decide +kernel
theorem r_is_seeded_by {cs : Nat → List D → Sg → Rs VX} {S : Sg} {a0 : D} : semF cs 1 1 B_is_seeded_by [a0] S = bnd (exB cs [(.ret (.and (.isi (.var 0) [.tuple]) (.and (.call ix_is_size [(.b1 .len (.var 0))]) (.call ix_same_numbers [(.var 0), (.call ix_seeded_by [(.b1 .len (.var 0))])]))))] [some a0] S) endF := rfl
theorem b_is_seeded_by : BindOk "is_seeded_by" (txt 13) P_is_seeded_by fe_is_seeded_by.kws := ⟨by decide, fun _ _ _ _ _ _ us hl => match us, hl with | [_], _ => rfl, fun q hq => by cases hq⟩
def B_is_seeded : List St := [(.ret (.call ix_is_seeded_by [(.var 0)]))]
def C_is_seeded : Cf := ⟨N_is_seeded, [fe_is_seeded_by], allCon, []⟩
theorem S_is_seeded : FnScope N_is_seeded P_is_seeded (defScope (txt 19)) := ⟨rfl, rfl, rfl, by decide +kernel, rfl, by decide +kernel, by decide +kernel⟩
theorem k_is_seeded : (cSk C_is_seeded 60 60).b (defScope (txt 19)) (defBody (txt 19)) B_is_seeded = true := by decide +kernel
theorem n_is_seeded : C_is_seeded.N.all nmOk = true := by decide +kernel
theorem r_is_seeded {cs : Nat → List D → Sg → Rs VX} {S : Sg} {a0 : D} : semF cs 1 1 B_is_seeded [a0] S = bnd (exB cs [(.ret (.call ix_is_seeded_by [(.var 0)]))] [some a0] S) endF := rfl
theorem b_is_seeded : BindOk "is_seeded" (txt 19) P_is_seeded fe_is_seeded.kws := ⟨by decide, fun _ _ _ _ _ _ us hl => match us, hl with | [_], _ => rfl, by
  intro q hq
  rcases List.mem_cons.mp hq with rfl | hq
  · exact fun _ _ _ _ _ _ us ws h1 h2 => match us, ws, h1, h2 with | [], [_], _, _ => rfl
  cases hq⟩
def B__law_draw_right : List St := [(.set 1 (.call ix_seeded [(.var 0)])), (.ite (.or (.not (.call ix__law_alike [(.tup [(.var 1), (.callk ix_seeded [] [(.var 0)] [0])]), (.tup [(.call ix__law_seeded [(.var 0)]), (.call ix__law_seeded [(.var 0)])])])) (.or (.cmp .isn (.call ix_is_seeded [(.var 1)]) (.con (.bl true))) (.cmp .isn (.callk ix_is_seeded [] [(.var 1)] [0]) (.con (.bl true))))) [(.ret (.con (.bl false)))] []), (.set 2 (.var 1)), (.for (.name 3) (.rng [(.con (.int 6))]) [(.ite (.cmp .gt (.b1 .len (.var 2)) (.con (.int 1))) [(.ite (.b1 .any (.comp (.cmp .ne (.bin .add (.idx (.var 2) (.var 4)) (.idx (.var 2) (.bin .add (.var 4) (.con (.int 1))))) (.bin .sub (.b1 .len (.var 2)) (.con (.int 1)))) (.name 4) (.rng [(.con (.int 0)), (.bin .sub (.b1 .len (.var 2)) (.con (.int 1))), (.con (.int 2))]) [] [4])) [(.ret (.con (.bl false)))] []), (.set 2 (.b1 .tuple (.comp (.b2 .min (.idx (.var 2) (.var 4)) (.idx (.var 2) (.bin .add (.var 4) (.con (.int 1))))) (.name 4) (.rng [(.con (.int 0)), (.bin .sub (.b1 .len (.var 2)) (.con (.int 1))), (.con (.int 2))]) [] [4])))] [])]), (.ret (.cmp .eq (.var 2) (.tup [(.con (.int 0))])))]
def C__law_draw_right : Cf := ⟨N__law_draw_right, [fe_seeded, fe__law_alike, fe__law_seeded, fe_is_seeded], allCon, ["range", "len", "any", "tuple", "min"]⟩
theorem S__law_draw_right : FnScope N__law_draw_right P__law_draw_right (defScope (txt 30)) := ⟨rfl, rfl, rfl, by decide +kernel, rfl, by decide +kernel, by decide +kernel⟩
theorem k__law_draw_right : (cSk C__law_draw_right 60 60).b (defScope (txt 30)) (defBody (txt 30)) B__law_draw_right = true := by decide +kernel
theorem n__law_draw_right : C__law_draw_right.N.all nmOk = true := by decide +kernel
theorem r__law_draw_right {cs : Nat → List D → Sg → Rs VX} {S : Sg} {a0 : D} : semF cs 1 5 B__law_draw_right [a0] S = bnd (exB cs [(.set 1 (.call ix_seeded [(.var 0)])), (.ite (.or (.not (.call ix__law_alike [(.tup [(.var 1), (.callk ix_seeded [] [(.var 0)] [0])]), (.tup [(.call ix__law_seeded [(.var 0)]), (.call ix__law_seeded [(.var 0)])])])) (.or (.cmp .isn (.call ix_is_seeded [(.var 1)]) (.con (.bl true))) (.cmp .isn (.callk ix_is_seeded [] [(.var 1)] [0]) (.con (.bl true))))) [(.ret (.con (.bl false)))] []), (.set 2 (.var 1)), (.for (.name 3) (.rng [(.con (.int 6))]) [(.ite (.cmp .gt (.b1 .len (.var 2)) (.con (.int 1))) [(.ite (.b1 .any (.comp (.cmp .ne (.bin .add (.idx (.var 2) (.var 4)) (.idx (.var 2) (.bin .add (.var 4) (.con (.int 1))))) (.bin .sub (.b1 .len (.var 2)) (.con (.int 1)))) (.name 4) (.rng [(.con (.int 0)), (.bin .sub (.b1 .len (.var 2)) (.con (.int 1))), (.con (.int 2))]) [] [4])) [(.ret (.con (.bl false)))] []), (.set 2 (.b1 .tuple (.comp (.b2 .min (.idx (.var 2) (.var 4)) (.idx (.var 2) (.bin .add (.var 4) (.con (.int 1))))) (.name 4) (.rng [(.con (.int 0)), (.bin .sub (.b1 .len (.var 2)) (.con (.int 1))), (.con (.int 2))]) [] [4])))] [])]), (.ret (.cmp .eq (.var 2) (.tup [(.con (.int 0))])))] [some a0, none, none, none, none] S) endF := rfl
theorem b__law_draw_right : BindOk "_law_draw_right" (txt 30) P__law_draw_right fe__law_draw_right.kws := ⟨by decide, fun _ _ _ _ _ _ us hl => match us, hl with | [_], _ => rfl, fun q hq => by cases hq⟩
def B__law_pool : List St := [(.set 2 (.bin .add (.bin .mul (.con (.int 7)) (.var 1)) (.bin .mul (.con (.int 3)) (.b1 .len (.var 0))))), (.ite (.cmp .lt (.var 1) (.b1 .len (.var 0))) [(.set 2 (.idx (.var 0) (.var 1)))] []), (.set 3 (.b1 .abs (.var 2))), (.set 4 (.bin .mod (.b1 .int (.bin .add (.bin .add (.bin .add (.bin .mul (.var 3) (.con (.int 48271))) (.bin .mul (.con (.int 16807)) (.var 1))) (.bin .mul (.con (.int 11)) (.b1 .int (.cmp .lt (.var 2) (.con (.int 0)))))) (.con (.int 1)))) (.con (.int 2305843009213693951)))), (.ite (.cmp .ge (.var 3) (.con (.int 1000000000000000000))) [(.ret (.lst [(.bin .add (.bin .mul (.con (.int 2)) (.bin .sub (.var 3) (.con (.int 1000000000000000000)))) (.b1 .int (.cmp .lt (.var 2) (.con (.int 0))))), (.var 4)]))] []), (.ret (.lst [(.con (.int 0)), (.var 4)]))]
def C__law_pool : Cf := ⟨N__law_pool, [], allCon, ["len", "abs", "int"]⟩
theorem S__law_pool : FnScope N__law_pool P__law_pool (defScope (txt 22)) := ⟨rfl, rfl, rfl, by decide +kernel, rfl, by decide +kernel, by decide +kernel⟩
theorem k__law_pool : (cSk C__law_pool 60 60).b (defScope (txt 22)) (defBody (txt 22)) B__law_pool = true := by decide +kernel
theorem n__law_pool : C__law_pool.N.all nmOk = true := by decide +kernel
theorem r__law_pool {cs : Nat → List D → Sg → Rs VX} {S : Sg} {a0 a1 : D} : semF cs 2 5 B__law_pool [a0, a1] S = bnd (exB cs [(.set 2 (.bin .add (.bin .mul (.con (.int 7)) (.var 1)) (.bin .mul (.con (.int 3)) (.b1 .len (.var 0))))), (.ite (.cmp .lt (.var 1) (.b1 .len (.var 0))) [(.set 2 (.idx (.var 0) (.var 1)))] []), (.set 3 (.b1 .abs (.var 2))), (.set 4 (.bin .mod (.b1 .int (.bin .add (.bin .add (.bin .add (.bin .mul (.var 3) (.con (.int 48271))) (.bin .mul (.con (.int 16807)) (.var 1))) (.bin .mul (.con (.int 11)) (.b1 .int (.cmp .lt (.var 2) (.con (.int 0)))))) (.con (.int 1)))) (.con (.int 2305843009213693951)))), (.ite (.cmp .ge (.var 3) (.con (.int 1000000000000000000))) [(.ret (.lst [(.bin .add (.bin .mul (.con (.int 2)) (.bin .sub (.var 3) (.con (.int 1000000000000000000)))) (.b1 .int (.cmp .lt (.var 2) (.con (.int 0))))), (.var 4)]))] []), (.ret (.lst [(.con (.int 0)), (.var 4)]))] [some a0, some a1, none, none, none] S) endF := rfl
theorem b__law_pool : BindOk "_law_pool" (txt 22) P__law_pool fe__law_pool.kws := ⟨by decide, fun _ _ _ _ _ _ us hl => match us, hl with | [_, _], _ => rfl, fun q hq => by cases hq⟩
def B__law_take : List St := [(.ite (.cmp .gt (.idx (.var 0) (.con (.int 0))) (.con (.int 1))) [(.set 2 (.bin .mod (.b1 .int (.idx (.var 0) (.con (.int 0)))) (.var 1))), (.asg (.sub (.var 0) (.con (.int 0))) (.bin .fdiv (.idx (.var 0) (.con (.int 0))) (.var 1))), (.ret (.var 2))] []), (.set 2 (.con (.int 0))), (.set 3 (.con (.int 1))), (.whl (.cmp .lt (.var 3) (.bin .mul (.con (.int 16777216)) (.var 1))) [(.asg (.sub (.var 0) (.con (.int 1))) (.bin .mod (.b1 .int (.bin .add (.bin .mul (.idx (.var 0) (.con (.int 1))) (.con (.int 6364136223846793005))) (.con (.int 1442695040888963407)))) (.con (.int 18446744073709551616)))), (.set 2 (.bin .add (.bin .mul (.var 2) (.con (.int 16777216))) (.bin .fdiv (.idx (.var 0) (.con (.int 1))) (.con (.int 1099511627776))))), (.set 3 (.bin .mul (.var 3) (.con (.int 16777216))))]), (.ret (.bin .mod (.b1 .int (.var 2)) (.var 1)))]
def C__law_take : Cf := ⟨N__law_take, [], allCon, ["int"]⟩
theorem S__law_take : FnScope N__law_take P__law_take (defScope (txt 23)) := ⟨rfl, rfl, rfl, by decide +kernel, rfl, by decide +kernel, by decide +kernel⟩
theorem k__law_take : (cSk C__law_take 60 60).b (defScope (txt 23)) (defBody (txt 23)) B__law_take = true := by decide +kernel
theorem n__law_take : C__law_take.N.all nmOk = true := by decide +kernel
theorem r__law_take {cs : Nat → List D → Sg → Rs VX} {S : Sg} {a0 a1 : D} : semF cs 2 4 B__law_take [a0, a1] S = bnd (exB cs [(.ite (.cmp .gt (.idx (.var 0) (.con (.int 0))) (.con (.int 1))) [(.set 2 (.bin .mod (.b1 .int (.idx (.var 0) (.con (.int 0)))) (.var 1))), (.asg (.sub (.var 0) (.con (.int 0))) (.bin .fdiv (.idx (.var 0) (.con (.int 0))) (.var 1))), (.ret (.var 2))] []), (.set 2 (.con (.int 0))), (.set 3 (.con (.int 1))), (.whl (.cmp .lt (.var 3) (.bin .mul (.con (.int 16777216)) (.var 1))) [(.asg (.sub (.var 0) (.con (.int 1))) (.bin .mod (.b1 .int (.bin .add (.bin .mul (.idx (.var 0) (.con (.int 1))) (.con (.int 6364136223846793005))) (.con (.int 1442695040888963407)))) (.con (.int 18446744073709551616)))), (.set 2 (.bin .add (.bin .mul (.var 2) (.con (.int 16777216))) (.bin .fdiv (.idx (.var 0) (.con (.int 1))) (.con (.int 1099511627776))))), (.set 3 (.bin .mul (.var 3) (.con (.int 16777216))))]), (.ret (.bin .mod (.b1 .int (.var 2)) (.var 1)))] [some a0, some a1, none, none] S) endF := rfl
theorem b__law_take : BindOk "_law_take" (txt 23) P__law_take fe__law_take.kws := ⟨by decide, fun _ _ _ _ _ _ us hl => match us, hl with | [_, _], _ => rfl, fun q hq => by cases hq⟩
def B__law_bent : List St := [(.asg (.tup [(.name 2), (.name 3)]) (.tup [(.call ix__law_take [(.var 0), (.b1 .len (.var 1))]), (.call ix__law_take [(.var 0), (.b1 .len (.var 1))])])), (.set 4 (.b1 .list (.var 1))), (.asg (.tup [(.sub (.var 4) (.var 2)), (.sub (.var 4) (.var 3))]) (.tup [(.idx (.var 4) (.var 3)), (.idx (.var 4) (.var 2))])), (.set 5 (.lst [(.b1 .tuple (.var 4)), (.rev (.var 1)), (.sli (.var 1) (some (.con (.int 1))) none), (.bin .add (.var 1) (.tup [(.b1 .len (.var 1))])), (.b1 .list (.var 1)), (.tup []), (.con .non), (.con (.int 0)), (.con (.str (Str.ofString "draw"))), (.tup [(.var 1)]), (.rngT [(.b1 .len (.var 1))]), (.bin .add (.var 1) (.var 1))])), (.ret (.bin .add (.var 5) (.comp (.bin .add (.bin .add (.sli (.var 1) none (some (.var 2))) (.tup [(.var 6)])) (.sli (.var 1) (some (.bin .add (.var 2) (.con (.int 1)))) none)) (.name 6) (.seq (.tup [(.b1 .len (.var 1)), (.neg (.con (.int 1))), (.con (.bl true)), (.con (.bl false)), (.con .non), (.con (.str (Str.ofString "0"))), (.tup [(.con (.int 0))])])) [] [6])))]
def C__law_bent : Cf := ⟨N__law_bent, [fe__law_take], allCon, ["len", "list", "tuple", "range"]⟩
theorem S__law_bent : FnScope N__law_bent P__law_bent (defScope (txt 31)) := ⟨rfl, rfl, rfl, by decide +kernel, rfl, by decide +kernel, by decide +kernel⟩
theorem k__law_bent : (cSk C__law_bent 60 60).b (defScope (txt 31)) (defBody (txt 31)) B__law_bent = true := by decide +kernel
theorem n__law_bent : C__law_bent.N.all nmOk = true := by decide +kernel
theorem r__law_bent {cs : Nat → List D → Sg → Rs VX} {S : Sg} {a0 a1 : D} : semF cs 2 7 B__law_bent [a0, a1] S = bnd (exB cs [(.asg (.tup [(.name 2), (.name 3)]) (.tup [(.call ix__law_take [(.var 0), (.b1 .len (.var 1))]), (.call ix__law_take [(.var 0), (.b1 .len (.var 1))])])), (.set 4 (.b1 .list (.var 1))), (.asg (.tup [(.sub (.var 4) (.var 2)), (.sub (.var 4) (.var 3))]) (.tup [(.idx (.var 4) (.var 3)), (.idx (.var 4) (.var 2))])), (.set 5 (.lst [(.b1 .tuple (.var 4)), (.rev (.var 1)), (.sli (.var 1) (some (.con (.int 1))) none), (.bin .add (.var 1) (.tup [(.b1 .len (.var 1))])), (.b1 .list (.var 1)), (.tup []), (.con .non), (.con (.int 0)), (.con (.str (Str.ofString "draw"))), (.tup [(.var 1)]), (.rngT [(.b1 .len (.var 1))]), (.bin .add (.var 1) (.var 1))])), (.ret (.bin .add (.var 5) (.comp (.bin .add (.bin .add (.sli (.var 1) none (some (.var 2))) (.tup [(.var 6)])) (.sli (.var 1) (some (.bin .add (.var 2) (.con (.int 1)))) none)) (.name 6) (.seq (.tup [(.b1 .len (.var 1)), (.neg (.con (.int 1))), (.con (.bl true)), (.con (.bl false)), (.con .non), (.con (.str (Str.ofString "0"))), (.tup [(.con (.int 0))])])) [] [6])))] [some a0, some a1, none, none, none, none, none] S) endF := rfl
theorem b__law_bent : BindOk "_law_bent" (txt 31) P__law_bent fe__law_bent.kws := ⟨by decide, fun _ _ _ _ _ _ us hl => match us, hl with | [_, _], _ => rfl, fun q hq => by cases hq⟩
def B__law_says : List St := [(.ret (.and (.isi (.var 0) [.bool]) (.cmp .eq (.var 0) (.var 1))))]
def C__law_says : Cf := ⟨N__law_says, [], allCon, ["isinstance", "bool"]⟩
theorem S__law_says : FnScope N__law_says P__law_says (defScope (txt 26)) := ⟨rfl, rfl, rfl, by decide +kernel, rfl, by decide +kernel, by decide +kernel⟩
theorem k__law_says : (cSk C__law_says 60 60).b (defScope (txt 26)) (defBody (txt 26)) B__law_says = true := by decide +kernel
theorem n__law_says : C__law_says.N.all nmOk = true := by decide +kernel
theorem r__law_says {cs : Nat → List D → Sg → Rs VX} {S : Sg} {a0 a1 : D} : semF cs 2 2 B__law_says [a0, a1] S = bnd (exB cs [(.ret (.and (.isi (.var 0) [.bool]) (.cmp .eq (.var 0) (.var 1))))] [some a0, some a1] S) endF := rfl
theorem b__law_says : BindOk "_law_says" (txt 26) P__law_says fe__law_says.kws := ⟨by decide, fun _ _ _ _ _ _ us hl => match us, hl with | [_, _], _ => rfl, fun q hq => by cases hq⟩
def B__law_whole : List St := [(.ret (.and (.isi (.var 0) [.int]) (.not (.isi (.var 0) [.bool]))))]
def C__law_whole : Cf := ⟨N__law_whole, [], allCon, ["isinstance", "int", "bool"]⟩
theorem S__law_whole : FnScope N__law_whole P__law_whole (defScope (txt 25)) := ⟨rfl, rfl, rfl, by decide +kernel, rfl, by decide +kernel, by decide +kernel⟩
theorem k__law_whole : (cSk C__law_whole 60 60).b (defScope (txt 25)) (defBody (txt 25)) B__law_whole = true := by decide +kernel
theorem n__law_whole : C__law_whole.N.all nmOk = true := by decide +kernel
theorem r__law_whole {cs : Nat → List D → Sg → Rs VX} {S : Sg} {a0 : D} : semF cs 1 1 B__law_whole [a0] S = bnd (exB cs [(.ret (.and (.isi (.var 0) [.int]) (.not (.isi (.var 0) [.bool]))))] [some a0] S) endF := rfl
theorem b__law_whole : BindOk "_law_whole" (txt 25) P__law_whole fe__law_whole.kws := ⟨by decide, fun _ _ _ _ _ _ us hl => match us, hl with | [_], _ => rfl, fun q hq => by cases hq⟩
def B__law_is_seeded : List St := [(.ite (.or (.not (.isi (.var 0) [.tuple])) (.or (.cmp .notin (.b1 .len (.var 0)) (.tup [(.con (.int 1)), (.con (.int 2)), (.con (.int 4)), (.con (.int 8)), (.con (.int 16)), (.con (.int 32)), (.con (.int 64))])) (.not (.b1 .all (.comp (.call ix__law_whole [(.var 1)]) (.name 1) (.seq (.var 0)) [] [1]))))) [(.ret (.con (.bl false)))] []), (.ret (.cmp .eq (.var 0) (.call ix__law_seeded [(.b1 .len (.var 0))])))]
def C__law_is_seeded : Cf := ⟨N__law_is_seeded, [fe__law_whole, fe__law_seeded], allCon, ["isinstance", "tuple", "len", "all"]⟩
theorem S__law_is_seeded : FnScope N__law_is_seeded P__law_is_seeded (defScope (txt 28)) := ⟨rfl, rfl, rfl, by decide +kernel, rfl, by decide +kernel, by decide +kernel⟩
theorem k__law_is_seeded : (cSk C__law_is_seeded 60 60).b (defScope (txt 28)) (defBody (txt 28)) B__law_is_seeded = true := by decide +kernel
theorem n__law_is_seeded : C__law_is_seeded.N.all nmOk = true := by decide +kernel
theorem r__law_is_seeded {cs : Nat → List D → Sg → Rs VX} {S : Sg} {a0 : D} : semF cs 1 2 B__law_is_seeded [a0] S = bnd (exB cs [(.ite (.or (.not (.isi (.var 0) [.tuple])) (.or (.cmp .notin (.b1 .len (.var 0)) (.tup [(.con (.int 1)), (.con (.int 2)), (.con (.int 4)), (.con (.int 8)), (.con (.int 16)), (.con (.int 32)), (.con (.int 64))])) (.not (.b1 .all (.comp (.call ix__law_whole [(.var 1)]) (.name 1) (.seq (.var 0)) [] [1]))))) [(.ret (.con (.bl false)))] []), (.ret (.cmp .eq (.var 0) (.call ix__law_seeded [(.b1 .len (.var 0))])))] [some a0, none] S) endF := rfl
theorem b__law_is_seeded : BindOk "_law_is_seeded" (txt 28) P__law_is_seeded fe__law_is_seeded.kws := ⟨by decide, fun _ _ _ _ _ _ us hl => match us, hl with | [_], _ => rfl, fun q hq => by cases hq⟩
def B__law_meeting : List St := [(.par [3, 4, 5] [(.mt .index (.var 0) [(.var 1)]), (.mt .index (.var 0) [(.var 2)]), (.con (.int 0))]), (.for (.name 6) (.rng [(.con (.int 7))]) [(.ite (.cmp .ne (.var 3) (.var 4)) [(.par [3, 4, 5] [(.bin .fdiv (.var 3) (.con (.int 2))), (.bin .fdiv (.var 4) (.con (.int 2))), (.bin .add (.var 5) (.con (.int 1)))])] [])]), (.ret (.var 5))]
def C__law_meeting : Cf := ⟨N__law_meeting, [], allCon, ["range"]⟩
theorem S__law_meeting : FnScope N__law_meeting P__law_meeting (defScope (txt 29)) := ⟨rfl, rfl, rfl, by decide +kernel, rfl, by decide +kernel, by decide +kernel⟩
theorem k__law_meeting : (cSk C__law_meeting 60 60).b (defScope (txt 29)) (defBody (txt 29)) B__law_meeting = true := by decide +kernel
theorem n__law_meeting : C__law_meeting.N.all nmOk = true := by decide +kernel
theorem r__law_meeting {cs : Nat → List D → Sg → Rs VX} {S : Sg} {a0 a1 a2 : D} : semF cs 3 7 B__law_meeting [a0, a1, a2] S = bnd (exB cs [(.par [3, 4, 5] [(.mt .index (.var 0) [(.var 1)]), (.mt .index (.var 0) [(.var 2)]), (.con (.int 0))]), (.for (.name 6) (.rng [(.con (.int 7))]) [(.ite (.cmp .ne (.var 3) (.var 4)) [(.par [3, 4, 5] [(.bin .fdiv (.var 3) (.con (.int 2))), (.bin .fdiv (.var 4) (.con (.int 2))), (.bin .add (.var 5) (.con (.int 1)))])] [])]), (.ret (.var 5))] [some a0, some a1, some a2, none, none, none, none] S) endF := rfl
theorem b__law_meeting : BindOk "_law_meeting" (txt 29) P__law_meeting fe__law_meeting.kws := ⟨by decide, fun _ _ _ _ _ _ us hl => match us, hl with | [_, _, _], _ => rfl, fun q hq => by cases hq⟩
def B_is_whole : List St := [(.ret (.and (.isi (.var 0) [.int]) (.not (.isi (.var 0) [.bool]))))]
def C_is_whole : Cf := ⟨N_is_whole, [], allCon, ["isinstance", "int", "bool"]⟩
theorem S_is_whole : FnScope N_is_whole P_is_whole (defScope (txt 4)) := ⟨rfl, rfl, rfl, by decide +kernel, rfl, by decide +kernel, by decide +kernel⟩
theorem k_is_whole : (cSk C_is_whole 60 60).b (defScope (txt 4)) (defBody (txt 4)) B_is_whole = true := by decide +kernel
theorem n_is_whole : C_is_whole.N.all nmOk = true := by decide +kernel
theorem r_is_whole {cs : Nat → List D → Sg → Rs VX} {S : Sg} {a0 : D} : semF cs 1 1 B_is_whole [a0] S = bnd (exB cs [(.ret (.and (.isi (.var 0) [.int]) (.not (.isi (.var 0) [.bool]))))] [some a0] S) endF := rfl
theorem b_is_whole : BindOk "is_whole" (txt 4) P_is_whole fe_is_whole.kws := ⟨by decide, fun _ _ _ _ _ _ us hl => match us, hl with | [_], _ => rfl, fun q hq => by cases hq⟩
def B_is_between : List St := [(.ret (.and (.call ix_is_whole [(.var 0)]) (.chn .le .le (.var 1) (.var 0) (.var 2))))]
def C_is_between : Cf := ⟨N_is_between, [fe_is_whole], allCon, []⟩
theorem S_is_between : FnScope N_is_between P_is_between (defScope (txt 5)) := ⟨rfl, rfl, rfl, by decide +kernel, rfl, by decide +kernel, by decide +kernel⟩
theorem k_is_between : (cSk C_is_between 60 60).b (defScope (txt 5)) (defBody (txt 5)) B_is_between = true := by decide +kernel
theorem n_is_between : C_is_between.N.all nmOk = true := by decide +kernel
theorem r_is_between {cs : Nat → List D → Sg → Rs VX} {S : Sg} {a0 a1 a2 : D} : semF cs 3 3 B_is_between [a0, a1, a2] S = bnd (exB cs [(.ret (.and (.call ix_is_whole [(.var 0)]) (.chn .le .le (.var 1) (.var 0) (.var 2))))] [some a0, some a1, some a2] S) endF := rfl
theorem b_is_between : BindOk "is_between" (txt 5) P_is_between fe_is_between.kws := ⟨by decide, fun _ _ _ _ _ _ us hl => match us, hl with | [_, _, _], _ => rfl, fun q hq => by cases hq⟩
def B_check_number : List St := [(.ite (.not (.call ix_is_between [(.var 0), (.var 1), (.var 2)])) [.nev] [])]
def C_check_number : Cf := ⟨N_check_number, [fe_is_between], allCon, []⟩
theorem S_check_number : FnScope N_check_number P_check_number (defScope (txt 7)) := ⟨rfl, rfl, rfl, by decide +kernel, rfl, by decide +kernel, by decide +kernel⟩
theorem k_check_number : (cSk C_check_number 60 60).b (defScope (txt 7)) (defBody (txt 7)) B_check_number = true := by decide +kernel
theorem n_check_number : C_check_number.N.all nmOk = true := by decide +kernel
theorem r_check_number {cs : Nat → List D → Sg → Rs VX} {S : Sg} {a0 a1 a2 : D} : semF cs 3 3 B_check_number [a0, a1, a2] S = bnd (exB cs [(.ite (.not (.call ix_is_between [(.var 0), (.var 1), (.var 2)])) [.nev] [])] [some a0, some a1, some a2] S) endF := rfl
theorem b_check_number : BindOk "check_number" (txt 7) P_check_number fe_check_number.kws := ⟨by decide, fun _ _ _ _ _ _ us hl => match us, hl with | [_, _, _], _ => rfl, fun q hq => by cases hq⟩
def B_meeting_round_by : List St := [(.set 3 (.call ix_seeded_by [(.var 0)])), (.par [4, 5, 6] [(.mt .index (.var 3) [(.var 1)]), (.mt .index (.var 3) [(.var 2)]), (.con (.int 0))]), (.whl (.cmp .ne (.var 4) (.var 5)) [(.par [4, 5, 6] [(.bin .fdiv (.var 4) (.con (.int 2))), (.bin .fdiv (.var 5) (.con (.int 2))), (.bin .add (.var 6) (.con (.int 1)))])]), (.ret (.var 6))]
def C_meeting_round_by : Cf := ⟨N_meeting_round_by, [fe_seeded_by], allCon, []⟩
theorem S_meeting_round_by : FnScope N_meeting_round_by P_meeting_round_by (defScope (txt 15)) := ⟨rfl, rfl, rfl, by decide +kernel, rfl, by decide +kernel, by decide +kernel⟩
theorem k_meeting_round_by : (cSk C_meeting_round_by 60 60).b (defScope (txt 15)) (defBody (txt 15)) B_meeting_round_by = true := by decide +kernel
theorem n_meeting_round_by : C_meeting_round_by.N.all nmOk = true := by decide +kernel
theorem r_meeting_round_by {cs : Nat → List D → Sg → Rs VX} {S : Sg} {a0 a1 a2 : D} : semF cs 3 7 B_meeting_round_by [a0, a1, a2] S = bnd (exB cs [(.set 3 (.call ix_seeded_by [(.var 0)])), (.par [4, 5, 6] [(.mt .index (.var 3) [(.var 1)]), (.mt .index (.var 3) [(.var 2)]), (.con (.int 0))]), (.whl (.cmp .ne (.var 4) (.var 5)) [(.par [4, 5, 6] [(.bin .fdiv (.var 4) (.con (.int 2))), (.bin .fdiv (.var 5) (.con (.int 2))), (.bin .add (.var 6) (.con (.int 1)))])]), (.ret (.var 6))] [some a0, some a1, some a2, none, none, none, none] S) endF := rfl
theorem b_meeting_round_by : BindOk "meeting_round_by" (txt 15) P_meeting_round_by fe_meeting_round_by.kws := ⟨by decide, fun _ _ _ _ _ _ us hl => match us, hl with | [_, _, _], _ => rfl, fun q hq => by cases hq⟩
def B_meeting_round : List St := [(.exp (.call ix_check_size [(.var 0)])), (.exp (.call ix_check_number [(.var 1), (.con (.int 0)), (.bin .sub (.var 0) (.con (.int 1)))])), (.exp (.call ix_check_number [(.var 2), (.con (.int 0)), (.bin .sub (.var 0) (.con (.int 1)))])), (.ite (.cmp .eq (.var 1) (.var 2)) [.nev] []), (.ret (.call ix_meeting_round_by [(.var 0), (.var 1), (.var 2)]))]
def C_meeting_round : Cf := ⟨N_meeting_round, [fe_check_size, fe_check_number, fe_meeting_round_by], allCon, []⟩
theorem S_meeting_round : FnScope N_meeting_round P_meeting_round (defScope (txt 20)) := ⟨rfl, rfl, rfl, by decide +kernel, rfl, by decide +kernel, by decide +kernel⟩
theorem k_meeting_round : (cSk C_meeting_round 60 60).b (defScope (txt 20)) (defBody (txt 20)) B_meeting_round = true := by decide +kernel
theorem n_meeting_round : C_meeting_round.N.all nmOk = true := by decide +kernel
theorem r_meeting_round {cs : Nat → List D → Sg → Rs VX} {S : Sg} {a0 a1 a2 : D} : semF cs 3 3 B_meeting_round [a0, a1, a2] S = bnd (exB cs [(.exp (.call ix_check_size [(.var 0)])), (.exp (.call ix_check_number [(.var 1), (.con (.int 0)), (.bin .sub (.var 0) (.con (.int 1)))])), (.exp (.call ix_check_number [(.var 2), (.con (.int 0)), (.bin .sub (.var 0) (.con (.int 1)))])), (.ite (.cmp .eq (.var 1) (.var 2)) [.nev] []), (.ret (.call ix_meeting_round_by [(.var 0), (.var 1), (.var 2)]))] [some a0, some a1, some a2] S) endF := rfl
theorem b_meeting_round : BindOk "meeting_round" (txt 20) P_meeting_round fe_meeting_round.kws := ⟨by decide, fun _ _ _ _ _ _ us hl => match us, hl with | [_, _, _], _ => rfl, by
  intro q hq
  rcases List.mem_cons.mp hq with rfl | hq
  · exact fun _ _ _ _ _ _ us ws h1 h2 => match us, ws, h1, h2 with | [], [_, _, _], _, _ => rfl
  cases hq⟩
def B_law : List St := [(.ite (.not (.b1 .all (.comp (.call ix__law_draw_right [(.var 3)]) (.name 3) (.seq (.tup [(.con (.int 1)), (.con (.int 2)), (.con (.int 4)), (.con (.int 8)), (.con (.int 16)), (.con (.int 32)), (.con (.int 64))])) [] [3]))) [(.ret (.con (.bl false)))] []), (.for (.name 1) (.rng [(.b2 .min (.con (.int 14)) (.b2 .max (.con (.int 4)) (.b1 .len (.var 0))))]) [(.set 2 (.call ix__law_pool [(.var 0), (.var 1)])), (.set 3 (.idx (.tup [(.con (.int 1)), (.con (.int 2)), (.con (.int 4)), (.con (.int 8)), (.con (.int 16)), (.con (.int 32)), (.con (.int 64))]) (.call ix__law_take [(.var 2), (.con (.int 7))]))), (.set 4 (.call ix__law_seeded [(.var 3)])), (.for (.name 5) (.seq (.call ix__law_bent [(.var 2), (.var 4)])) [(.ite (.not (.call ix__law_says [(.call ix_is_seeded [(.var 5)]), (.call ix__law_is_seeded [(.var 5)])])) [(.ret (.con (.bl false)))] [])]), (.for (.name 6) (.rng [(.bin .mul (.con (.int 8)) (.b1 .int (.cmp .gt (.var 3) (.con (.int 1)))))]) [(.set 7 (.call ix__law_take [(.var 2), (.var 3)])), (.set 8 (.bin .mod (.b1 .int (.bin .add (.bin .add (.var 7) (.con (.int 1))) (.call ix__law_take [(.var 2), (.bin .sub (.var 3) (.con (.int 1)))]))) (.var 3))), (.set 9 (.call ix__law_meeting [(.var 4), (.var 7), (.var 8)])), (.ite (.not (.call ix__law_alike [(.tup [(.call ix_meeting_round [(.var 3), (.var 7), (.var 8)]), (.callk ix_meeting_round [] [(.var 7), (.var 8), (.var 3)] [2, 1, 0])]), (.tup [(.var 9), (.var 9)])])) [(.ret (.con (.bl false)))] []), (.ite (.or (.cmp .ne (.call ix_meeting_round [(.var 3), (.var 7), (.bin .sub (.bin .sub (.var 3) (.con (.int 1))) (.var 7))]) (.con (.int 1))) (.cmp .ne (.call ix_meeting_round [(.var 3), (.con (.int 0)), (.con (.int 1))]) (.bin .add (.call ix__law_meeting [(.var 4), (.con (.int 0)), (.bin .sub (.var 3) (.con (.int 1)))]) (.b1 .len (.comp (.var 10) (.name 10) (.seq (.tup [(.con (.int 4)), (.con (.int 8)), (.con (.int 16)), (.con (.int 32)), (.con (.int 64))])) [(.cmp .le (.var 10) (.var 3))] [10]))))) [(.ret (.con (.bl false)))] [])])]), (.ret (.cmp .eq (.call ix_meeting_round [(.con (.int 8)), (.con (.int 0)), (.con (.int 1))]) (.con (.int 3))))]
def C_law : Cf := ⟨N_law, [fe__law_draw_right, fe__law_pool, fe__law_take, fe__law_seeded, fe__law_bent, fe__law_says, fe_is_seeded, fe__law_is_seeded, fe__law_meeting, fe__law_alike, fe_meeting_round], allCon, ["all", "range", "min", "max", "len", "int"]⟩
theorem S_law : FnScope N_law P_law (defScope (txt 32)) := ⟨rfl, rfl, rfl, by decide +kernel, rfl, by decide +kernel, by decide +kernel⟩
theorem k_law : (cSk C_law 60 60).b (defScope (txt 32)) (defBody (txt 32)) B_law = true := by decide +kernel
theorem n_law : C_law.N.all nmOk = true := by decide +kernel
theorem r_law {cs : Nat → List D → Sg → Rs VX} {S : Sg} {a0 : D} : semF cs 1 11 B_law [a0] S = bnd (exB cs [(.ite (.not (.b1 .all (.comp (.call ix__law_draw_right [(.var 3)]) (.name 3) (.seq (.tup [(.con (.int 1)), (.con (.int 2)), (.con (.int 4)), (.con (.int 8)), (.con (.int 16)), (.con (.int 32)), (.con (.int 64))])) [] [3]))) [(.ret (.con (.bl false)))] []), (.for (.name 1) (.rng [(.b2 .min (.con (.int 14)) (.b2 .max (.con (.int 4)) (.b1 .len (.var 0))))]) [(.set 2 (.call ix__law_pool [(.var 0), (.var 1)])), (.set 3 (.idx (.tup [(.con (.int 1)), (.con (.int 2)), (.con (.int 4)), (.con (.int 8)), (.con (.int 16)), (.con (.int 32)), (.con (.int 64))]) (.call ix__law_take [(.var 2), (.con (.int 7))]))), (.set 4 (.call ix__law_seeded [(.var 3)])), (.for (.name 5) (.seq (.call ix__law_bent [(.var 2), (.var 4)])) [(.ite (.not (.call ix__law_says [(.call ix_is_seeded [(.var 5)]), (.call ix__law_is_seeded [(.var 5)])])) [(.ret (.con (.bl false)))] [])]), (.for (.name 6) (.rng [(.bin .mul (.con (.int 8)) (.b1 .int (.cmp .gt (.var 3) (.con (.int 1)))))]) [(.set 7 (.call ix__law_take [(.var 2), (.var 3)])), (.set 8 (.bin .mod (.b1 .int (.bin .add (.bin .add (.var 7) (.con (.int 1))) (.call ix__law_take [(.var 2), (.bin .sub (.var 3) (.con (.int 1)))]))) (.var 3))), (.set 9 (.call ix__law_meeting [(.var 4), (.var 7), (.var 8)])), (.ite (.not (.call ix__law_alike [(.tup [(.call ix_meeting_round [(.var 3), (.var 7), (.var 8)]), (.callk ix_meeting_round [] [(.var 7), (.var 8), (.var 3)] [2, 1, 0])]), (.tup [(.var 9), (.var 9)])])) [(.ret (.con (.bl false)))] []), (.ite (.or (.cmp .ne (.call ix_meeting_round [(.var 3), (.var 7), (.bin .sub (.bin .sub (.var 3) (.con (.int 1))) (.var 7))]) (.con (.int 1))) (.cmp .ne (.call ix_meeting_round [(.var 3), (.con (.int 0)), (.con (.int 1))]) (.bin .add (.call ix__law_meeting [(.var 4), (.con (.int 0)), (.bin .sub (.var 3) (.con (.int 1)))]) (.b1 .len (.comp (.var 10) (.name 10) (.seq (.tup [(.con (.int 4)), (.con (.int 8)), (.con (.int 16)), (.con (.int 32)), (.con (.int 64))])) [(.cmp .le (.var 10) (.var 3))] [10]))))) [(.ret (.con (.bl false)))] [])])]), (.ret (.cmp .eq (.call ix_meeting_round [(.con (.int 8)), (.con (.int 0)), (.con (.int 1))]) (.con (.int 3))))] [some a0, none, none, none, none, none, none, none, none, none, none] S) endF := rfl
theorem b_law : BindOk "law" (txt 32) P_law fe_law.kws := ⟨by decide, fun _ _ _ _ _ _ us hl => match us, hl with | [_], _ => rfl, fun q hq => by cases hq⟩
abbrev allBlt : List Str := ["isinstance", "int", "bool", "len", "tuple", "str", "dict", "list", "all", "range", "any", "min", "abs", "max"]
theorem bs_is_size : ∀ y ∈ C_is_size.blt, y ∈ allBlt := by decide +kernel
theorem bs_check_size : ∀ y ∈ C_check_size.blt, y ∈ allBlt := by decide +kernel
theorem bs_doubled : ∀ y ∈ C_doubled.blt, y ∈ allBlt := by decide +kernel
theorem bs_seeded_by : ∀ y ∈ C_seeded_by.blt, y ∈ allBlt := by decide +kernel
theorem bs_seeded : ∀ y ∈ C_seeded.blt, y ∈ allBlt := by decide +kernel
theorem bs__law_alike : ∀ y ∈ C__law_alike.blt, y ∈ allBlt := by decide +kernel
theorem bs__law_seeded : ∀ y ∈ C__law_seeded.blt, y ∈ allBlt := by decide +kernel
theorem bs_same_numbers : ∀ y ∈ C_same_numbers.blt, y ∈ allBlt := by decide +kernel
theorem bs_is_seeded_by : ∀ y ∈ C_is_seeded_by.blt, y ∈ allBlt := by decide +kernel
theorem bs_is_seeded : ∀ y ∈ C_is_seeded.blt, y ∈ allBlt := by decide +kernel
theorem bs__law_draw_right : ∀ y ∈ C__law_draw_right.blt, y ∈ allBlt := by decide +kernel
theorem bs__law_pool : ∀ y ∈ C__law_pool.blt, y ∈ allBlt := by decide +kernel
theorem bs__law_take : ∀ y ∈ C__law_take.blt, y ∈ allBlt := by decide +kernel
theorem bs__law_bent : ∀ y ∈ C__law_bent.blt, y ∈ allBlt := by decide +kernel
theorem bs__law_says : ∀ y ∈ C__law_says.blt, y ∈ allBlt := by decide +kernel
theorem bs__law_whole : ∀ y ∈ C__law_whole.blt, y ∈ allBlt := by decide +kernel
theorem bs__law_is_seeded : ∀ y ∈ C__law_is_seeded.blt, y ∈ allBlt := by decide +kernel
theorem bs__law_meeting : ∀ y ∈ C__law_meeting.blt, y ∈ allBlt := by decide +kernel
theorem bs_is_whole : ∀ y ∈ C_is_whole.blt, y ∈ allBlt := by decide +kernel
theorem bs_is_between : ∀ y ∈ C_is_between.blt, y ∈ allBlt := by decide +kernel
theorem bs_check_number : ∀ y ∈ C_check_number.blt, y ∈ allBlt := by decide +kernel
theorem bs_meeting_round_by : ∀ y ∈ C_meeting_round_by.blt, y ∈ allBlt := by decide +kernel
theorem bs_meeting_round : ∀ y ∈ C_meeting_round.blt, y ∈ allBlt := by decide +kernel
theorem bs_law : ∀ y ∈ C_law.blt, y ∈ allBlt := by decide +kernel
/-- what the top has written -/
structure Top (K : PySem.W.Frag) (mg : Str → Option Value) : Prop where
  d_is_size : DefAt K mg "is_size" (txt 10)
  d_check_size : DefAt K mg "check_size" (txt 17)
  d_doubled : DefAt K mg "doubled" (txt 11)
  d_seeded_by : DefAt K mg "seeded_by" (txt 12)
  d_seeded : DefAt K mg "seeded" (txt 18)
  d__law_alike : DefAt K mg "_law_alike" (txt 24)
  d__law_seeded : DefAt K mg "_law_seeded" (txt 27)
  d_same_numbers : DefAt K mg "same_numbers" (txt 14)
  d_is_seeded_by : DefAt K mg "is_seeded_by" (txt 13)
  d_is_seeded : DefAt K mg "is_seeded" (txt 19)
  d__law_draw_right : DefAt K mg "_law_draw_right" (txt 30)
  d__law_pool : DefAt K mg "_law_pool" (txt 22)
  d__law_take : DefAt K mg "_law_take" (txt 23)
  d__law_bent : DefAt K mg "_law_bent" (txt 31)
  d__law_says : DefAt K mg "_law_says" (txt 26)
  d__law_whole : DefAt K mg "_law_whole" (txt 25)
  d__law_is_seeded : DefAt K mg "_law_is_seeded" (txt 28)
  d__law_meeting : DefAt K mg "_law_meeting" (txt 29)
  d_is_whole : DefAt K mg "is_whole" (txt 4)
  d_is_between : DefAt K mg "is_between" (txt 5)
  d_check_number : DefAt K mg "check_number" (txt 7)
  d_meeting_round_by : DefAt K mg "meeting_round_by" (txt 15)
  d_meeting_round : DefAt K mg "meeting_round" (txt 20)
  d_law : DefAt K mg "law" (txt 32)
  con : ∀ (x : Str) (d : D), allCon.lookup x = some d → ConOk K mg x d
  blt : ∀ x ∈ allBlt, mg x = none
end Ev

namespace Ev
open PySem
def sizes : List Int := [1, 2, 4, 8, 16, 32, 64]
def expo (n : Int) : Option Nat := if n = 1 then some 0 else if n = 2 then some 1 else if n = 4 then some 2 else if n = 8 then some 3 else if n = 16 then some 4 else if n = 32 then some 5 else if n = 64 then some 6 else none
def dbl (xs : List Int) : List Int := xs.flatMap fun p => [p, 2 * (xs.length : Int) - 1 - p]
def seedG : Nat → List Int
  | 0 => [0]
  | k + 1 => dbl (seedG k)
theorem dbl_len (xs : List Int) : (dbl xs).length = 2 * xs.length := by
  unfold dbl
  generalize (xs.length : Int) = m
  induction xs with
  | nil => rfl
  | cons x xs ih => simp [ih]; omega
def pw (k : Nat) : Nat := 2 ^ k
theorem pw_lt {j k : Nat} : pw j < pw k ↔ j < k := Nat.pow_lt_pow_iff_right (a := 2) (by decide)
theorem pw_le {j k : Nat} : pw j ≤ pw k ↔ j ≤ k := Nat.pow_le_pow_iff_right (a := 2) (by decide)
theorem pw_s (k : Nat) : pw (k + 1) = 2 * pw k := by unfold pw; rw [Nat.pow_succ]; omega
theorem pw_pos (k : Nat) : 0 < pw k := Nat.pow_pos (by decide)
theorem pw_64 {k : Nat} (h : k ≤ 6) : pw k ≤ 64 := pw_le.mpr h
theorem seedG_len : ∀ k, (seedG k).length = pw k
  | 0 => rfl
  | k + 1 => by rw [seedG, dbl_len, seedG_len k, pw_s]
theorem expo_ok {n : Int} {k : Nat} (h : expo n = some k) : n = (pw k : Int) ∧ k ≤ 6 := by
  unfold expo at h
  repeat' split at h
  all_goals first | (cases h; subst_vars; exact ⟨by decide, by decide⟩) | cases h
theorem expo_iff (n : Int) : (expo n).isSome = decide (n ∈ sizes) := by
  unfold expo sizes
  repeat' split
  all_goals simp_all
def m_is_size : Fsem := fun ds S => match ds with
  | [.int n] => some (.d (.bl (expo n).isSome), S)
  | _ => none
def m_check_size : Fsem := fun ds S => match ds with
  | [.int n] => if (expo n).isSome = true then some (.d .non, S) else none
  | _ => none
def m_doubled : Fsem := fun ds S => match ds with
  | [.tup es] => match intsOf es with
    | some ns => if ns.length ≤ 1000 then some (.d (.tup ((dbl ns).map .int)), S) else none
    | none => none
  | _ => none
def m_seeded_by : Fsem := fun ds S => match ds with
  | [.int n] => match expo n with
    | some k => some (.d (.tup ((seedG k).map .int)), S)
    | none => none
  | _ => none
section
variable {cs : Nat → List D → Sg → Rs VX}
theorem cl_is_size : Cleans (semF cs 1 1 B_is_size) m_is_size := cleans_pre fun ds S x S' h1 h2 h => by
  unfold m_is_size at h
  split at h
  · rename_i n
    cases h
    refine ⟨rfl, ?_⟩
    rw [r_is_size]
    have e : ∀ i : Int, PyData.eqv (.int i) (.int n) = decide (n = i) := fun i => by
      rw [PyData.eqv]
      by_cases q : i = n
      · simp [q]
      · simp [q, Ne.symm q]
    simp [cmpV, sqOf, tpOf, inV, toPX, toP, tyIs, e]
    have e2 := expo_iff n
    simp [sizes] at e2
    rw [e2]
    exact ⟨.refl, .d (by trivial)⟩
  · cases h
theorem cl_check_size (h0 : cs ix_is_size = m_is_size) : Cleans (semF cs 1 1 B_check_size) m_check_size := cleans_pre fun ds S x S' h1 h2 h => by
  unfold m_check_size at h
  split at h
  · rename_i n
    split at h
    · rename_i hn
      cases h
      refine ⟨rfl, ?_⟩
      rw [r_check_size]
      simp [h0, m_is_size, hn]
      exact ⟨.refl, .d (by trivial)⟩
    · cases h
  · cases h
theorem cl_doubled : Cleans (semF cs 1 3 B_doubled) m_doubled := cleans_pre fun ds S x S' h1 h2 h => by
  unfold m_doubled at h
  split at h
  · split at h
    · rename_i es ns hns
      split at h
      · rename_i hlen
        cases h
        have e := intsOf_eq hns
        subst e
        refine ⟨rfl, ?_⟩
        rw [r_doubled]
        simp [cap]
        refine ends_for (fun i σ T => ∃ z acc, σ = [some (.tup (ns.map D.int)), some (.loc S.length), z] ∧ T = S ++ [.lst (acc.map D.int)] ∧ acc = (ns.take i).flatMap (fun p => [p, 2 * (ns.length : Int) - 1 - p]) ∧ acc.length = 2 * i) ⟨none, [], rfl, rfl, rfl, rfl⟩ (fun _ _ _ _ => rfl) ?_ ?_
        · rintro i x σ T hx ⟨z, acc, rfl, rfl, ha, hl⟩
          obtain ⟨n, hn, rfl⟩ := ints_get hx
          have hi := (List.getElem?_eq_some_iff.mp hn).1
          simp [mul_int, small, cap, setC, hl]
          exact ⟨by omega, acc ++ [n, 2 * (ns.length : Int) - 1 - n], by simp, by rw [ha, take_succ hn]; simp, by simp [hl]; omega⟩
        · rintro σ T ⟨z, acc, rfl, rfl, ha, hl⟩
          rw [List.length_map, List.take_length] at ha
          subst ha
          simp
          exact ⟨Pre.refl.app, .d (clL_ints _)⟩
      · cases h
    · cases h
  · cases h
theorem cl_seeded_by (h0 : cs ix_doubled = m_doubled) : Cleans (semF cs 1 2 B_seeded_by) m_seeded_by := cleans_pre fun ds S x S' h1 h2 h => by
  unfold m_seeded_by at h
  split at h
  · split at h
    · rename_i n k hk
      cases h
      refine ⟨rfl, ?_⟩
      obtain ⟨rfl, hk6⟩ := expo_ok hk
      rw [r_seeded_by]
      simp [cap]
      refine ends_whl (fun i σ T => ∃ j, i = k - j ∧ j ≤ k ∧ σ = [some (.int (pw k : Int)), some (.tup ((seedG j).map D.int))] ∧ T = S) (k - 0) ⟨0, rfl, Nat.zero_le _, rfl, rfl⟩ (by unfold wFuel; omega) ?_
      rintro i σ T ⟨j, rfl, hj, rfl, rfl⟩
      have hp := pw_64 (k := j) (by omega)
      simp [h0, m_doubled, intsOf_map, seedG_len]
      refine ⟨fun hlt => ⟨by omega, k - (j + 1), ?_, j + 1, rfl, ?_, rfl⟩, fun hge => ?_⟩
      · have : j < k := pw_lt.mp hlt
        omega
      · exact pw_lt.mp hlt
      · have : k ≤ j := pw_le.mp hge
        have e : j = k := by omega
        subst e
        exact ⟨.refl, .d (clL_ints _)⟩
    · cases h
  · cases h
def m_same_numbers : Fsem := fun ds S => match ds with
  | [.tup es, .tup fs] => match intsOf fs with
    | some ns => if es.all noLoc = true ∧ es.length ≤ 1000 then some (.d (.bl (decide (es = fs))), S) else none
    | none => none
  | _ => none
def isSeeded (es : List D) : Bool := match expo es.length with
  | some k => decide (es = (seedG k).map D.int)
  | none => false
def m_is_seeded : Fsem := fun ds S => match ds with
  | [.tup es] => if es.all noLoc = true ∧ es.length ≤ 1000 then some (.d (.bl (isSeeded es)), S) else none
  | [.loc l] => match cellL S[l]? with
    | some _ => some (.d (.bl false), S)
    | none => none
  | [_] => some (.d (.bl false), S)
  | _ => none
def m__law_says : Fsem := fun ds S => match ds with
  | [.bl a, .bl b] => some (.d (.bl (decide (a = b))), S)
  | _ => none
def treeD : Nat → D → Bool
  | _, .int _ => true
  | n + 1, .tup ds => ds.all (treeD n) && decide (ds.length ≤ 1000)
  | _, _ => false
def m_alike (n : Nat) : Fsem := fun ds S => match ds with
  | [a, b] => if treeD n a = true ∧ treeD n b = true then some (.d (.bl (decide (a = b))), S) else none
  | _ => none
theorem cl_seeded (h0 : cs ix_check_size = m_check_size) (h1 : cs ix_seeded_by = m_seeded_by) : Cleans (semF cs 1 1 B_seeded) m_seeded_by := cleans_pre fun ds S x S' c1 c2 h => by
  have h' := h
  unfold m_seeded_by at h
  split at h
  · split at h
    · rename_i n k hk
      cases h
      refine ⟨rfl, ?_⟩
      rw [r_seeded]
      simp [h0, h1, m_check_size, m_seeded_by, hk]
      exact ⟨.refl, .d (clL_ints _)⟩
    · cases h
  · cases h
theorem cl_same_numbers : Cleans (semF cs 2 3 B_same_numbers) m_same_numbers := cleans_pre fun ds S x S' c1 c2 h => by
  unfold m_same_numbers at h
  split at h
  · rename_i es fs
    split at h
    · rename_i ns hns
      split at h
      · rename_i hc
        cases h
        have e := intsOf_eq hns
        subst e
        refine ⟨rfl, ?_⟩
        rw [r_same_numbers]
        simp [cap]
        refine ⟨by omega, ends_map (g := fun d => [D.bl (isIntD d)]) rfl ?_ ?_⟩
        · intro d hd
          have hn : noLoc d = true := List.all_eq_true.mp hc.1 d hd
          simp [wipeE, isi_int_of hn, isi_bl_of hn]
          cases d <;> simp [isIntD, isBlD, tyIs]
        · simp [ends_iff]
          refine ⟨fun ha => ?_, fun ha => ?_⟩
          · have hb : es.all isIntD = true := List.all_eq_true.mpr fun d hd => by
              have := ha d hd
              simpa using this
            obtain ⟨ms, rfl⟩ := all_int hb
            simp [eq_ints, int_inj]
            exact ⟨.refl, .d (by trivial)⟩
          · intro hx hi
            have : es ≠ ns.map D.int := fun e => by
              subst e
              obtain ⟨i, _, rfl⟩ := List.mem_map.mp hx
              cases hi
            simp [this]
            exact ⟨.refl, .d (by trivial)⟩
      · cases h
    · cases h
  · cases h
theorem cl_is_seeded_by (h0 : cs ix_is_size = m_is_size) (h1 : cs ix_seeded_by = m_seeded_by) (h2 : cs ix_same_numbers = m_same_numbers) : Cleans (semF cs 1 1 B_is_seeded_by) m_is_seeded := cleans_pre fun ds S x S' c1 c2 h => by
  unfold m_is_seeded at h
  split at h
  · rename_i es
    split at h
    · rename_i hc
      cases h
      refine ⟨rfl, ?_⟩
      rw [r_is_seeded_by]
      simp [h0, m_is_size, tyIs]
      unfold isSeeded
      cases hk : expo es.length with
      | none =>
        simp
        exact ⟨.refl, .d (by trivial)⟩
      | some k =>
        simp [h1, h2, m_seeded_by, hk, m_same_numbers, intsOf_map]
        exact ⟨by simpa using hc, .refl, .d (by trivial)⟩
    · cases h
  · rename_i l
    split at h
    · rename_i ls hl
      cases h
      refine ⟨rfl, ?_⟩
      rw [r_is_seeded_by]
      simp [isi_loc (ds := ls) hl, tyIs]
      exact ⟨.refl, .d (by trivial)⟩
    · cases h
  · rename_i d n1 n2
    cases h
    refine ⟨rfl, ?_⟩
    rw [r_is_seeded_by]
    cases d <;> first | exact absurd rfl (n1 _) | exact absurd rfl (n2 _) | (simp [tyIs]; exact ⟨.refl, .d (by trivial)⟩)
  · cases h
theorem cl_is_seeded (h0 : cs ix_is_seeded_by = m_is_seeded) : Cleans (semF cs 1 1 B_is_seeded) m_is_seeded := cleans_pre fun ds S x S' c1 c2 h => by
  have e : ∃ d, ds = [d] := by
    unfold m_is_seeded at h
    split at h <;> first | exact ⟨_, rfl⟩ | cases h
  obtain ⟨d, rfl⟩ := e
  rw [r_is_seeded]
  simp [h0, h]
  unfold m_is_seeded at h
  split at h
  · split at h
    · cases h; exact ⟨rfl, .refl, .d (by trivial)⟩
    · cases h
  · split at h
    · cases h; exact ⟨rfl, .refl, .d (by trivial)⟩
    · cases h
  · cases h; exact ⟨rfl, .refl, .d (by trivial)⟩
  · cases h
def m__law_whole : Fsem := fun ds S => match ds with
  | [d] => if noLoc d = true then some (.d (.bl (isIntD d)), S) else none
  | _ => none
theorem cl__law_whole : Cleans (semF cs 1 1 B__law_whole) m__law_whole := cleans_pre fun ds S x S' c1 c2 h => by
  unfold m__law_whole at h
  split at h
  · split at h
    · rename_i d hn
      cases h
      refine ⟨rfl, ?_⟩
      rw [r__law_whole]
      simp [isi_int_of hn, isi_bl_of hn]
      cases d <;> simp [isIntD, isBlD, tyIs] <;> first | exact ⟨.refl, .d (by trivial)⟩ | cases hn
    · cases h
  · cases h
theorem cl__law_says : Cleans (semF cs 2 2 B__law_says) m__law_says := cleans_pre fun ds S x S' c1 c2 h => by
  unfold m__law_says at h
  split at h
  · cases h
    refine ⟨rfl, ?_⟩
    rw [r__law_says]
    simp [tyIs]
    exact ⟨.refl, .d (by trivial)⟩
  · cases h
theorem cl__law_seeded : Cleans (semF cs 1 4 B__law_seeded) m_seeded_by := cleans_pre fun ds S x S' c1 c2 h => by
  unfold m_seeded_by at h
  split at h
  · split at h
    · rename_i n k hk
      cases h
      refine ⟨rfl, ?_⟩
      obtain ⟨rfl, hk6⟩ := expo_ok hk
      rw [r__law_seeded]
      simp [cap]
      refine ends_whl (fun i σ T => ∃ j l z1 z2, i = k - j ∧ j ≤ k ∧ σ = [some (.int (pw k : Int)), some (.loc l), z1, z2] ∧ Pre S T ∧ T[l]? = some (.lst ((seedG j).map D.int))) (k - 0) ⟨0, S.length, none, none, rfl, Nat.zero_le _, rfl, Pre.refl.app, by simp [seedG]⟩ (by unfold wFuel; omega) ?_
      rintro i σ T ⟨j, l, z1, z2, rfl, hj, rfl, hP, hl⟩
      have hp := pw_64 (k := j) (by omega)
      simp [hl, seedG_len]
      refine ⟨fun hlt => ?_, fun hge => ?_⟩
      · refine ⟨_, by rw [at_app hl]; rfl, ?_⟩
        refine ends_for (fun i σ T' => ∃ l2 z acc, σ = [some (.int (pw k : Int)), some (.loc l), some (.loc l2), z] ∧ Pre S T' ∧ T'[l]? = some (.lst ((seedG j).map D.int)) ∧ T'[l2]? = some (.lst (acc.map D.int)) ∧ acc = ((seedG j).take i).flatMap (fun p => [p, 2 * (pw j : Int) - 1 - p]) ∧ acc.length = 2 * i)
          ⟨T.length, z2, [], rfl, hP.app, at_app hl, by simp, rfl, rfl⟩ (fun i σ T' ⟨_, _, _, _, _, h1, _⟩ => by simp [h1]) ?_ ?_
        · rintro i x σ T' hx ⟨l2, z, acc, rfl, hP', hl', h2', ha, hc⟩
          obtain ⟨n, hn, rfl⟩ := ints_get hx
          have hi := (List.getElem?_eq_some_iff.mp hn).1
          rw [seedG_len] at hi
          simp [mul_int, small, hl', h2', seedG_len, hc, cap]
          refine ⟨by omega, hP'.app, at_app hl', acc ++ [n, 2 * (pw j : Int) - 1 - n], by simp, by rw [ha, take_succ hn]; simp, by simp [hc]; omega⟩
        · rintro σ T' ⟨l2, z, acc, rfl, hP', hl', h2', ha, hc⟩
          simp
          refine ⟨k - (j + 1), by have := pw_lt.mp hlt; omega, j + 1, rfl, pw_lt.mp hlt, hP', ?_⟩
          rw [h2', ha, List.length_map, List.take_length, seedG]
          unfold dbl
          rw [seedG_len]
      · have : k ≤ j := pw_le.mp hge
        have e : j = k := by omega
        subst e
        exact ⟨hP, .d (clL_ints _)⟩
    · cases h
  · cases h
theorem cl__law_is_seeded (h0 : cs ix__law_whole = m__law_whole) (h1 : cs ix__law_seeded = m_seeded_by) : Cleans (semF cs 1 2 B__law_is_seeded) m_is_seeded := cleans_pre fun ds S x S' c1 c2 h => by
  unfold m_is_seeded at h
  split at h
  · rename_i es
    split at h
    · rename_i hc
      cases h
      refine ⟨rfl, ?_⟩
      rw [r__law_is_seeded]
      have hin := notin_ints (S := S) (es.length : Int) sizes
      rw [← expo_iff] at hin
      simp only [sizes, List.map_cons, List.map_nil] at hin
      simp [tyIs, cap, hin, ends_iff]
      unfold isSeeded
      cases hk : expo es.length with
      | none =>
        simp
        exact ⟨.refl, .d (by trivial)⟩
      | some k =>
        simp
        refine ⟨by omega, ?_⟩
        refine ends_map (g := fun d => [D.bl (isIntD d)]) rfl ?_ ?_
        · intro d hd
          have hn : noLoc d = true := List.all_eq_true.mp hc.1 d hd
          simp [wipeE, h0, m__law_whole, hn]
        · simp [h1, m_seeded_by, hk, ends_iff]
          refine ⟨fun x hx hxi => ?_, fun ha => ?_⟩
          · have : es ≠ (seedG k).map D.int := fun e => by
              subst e
              obtain ⟨i, _, rfl⟩ := List.mem_map.mp hx
              cases hxi
            simp [this]
            exact ⟨.refl, .d (by trivial)⟩
          · obtain ⟨ms, rfl⟩ := all_int (List.all_eq_true.mpr ha)
            simp [eq_ints, int_inj]
            exact ⟨.refl, .d (by trivial)⟩
    · cases h
  · rename_i l
    split at h
    · rename_i ls hl
      cases h
      refine ⟨rfl, ?_⟩
      rw [r__law_is_seeded]
      simp [isi_loc (ds := ls) hl, tyIs]
      exact ⟨.refl, .d (by trivial)⟩
    · cases h
  · rename_i d n1 n2
    cases h
    refine ⟨rfl, ?_⟩
    rw [r__law_is_seeded]
    cases d <;> first | exact absurd rfl (n1 _) | exact absurd rfl (n2 _) | (simp [tyIs]; exact ⟨.refl, .d (by trivial)⟩)
  · cases h
theorem treeD_kind {n : Nat} {d : D} (h : treeD n d = true) : (∃ i, d = .int i) ∨ ∃ m ds, n = m + 1 ∧ d = .tup ds ∧ ds.all (treeD m) = true ∧ ds.length ≤ 1000 := by
  cases d with
  | int i => exact .inl ⟨i, rfl⟩
  | tup ds =>
    cases n with
    | zero => simp [treeD] at h
    | succ m =>
      simp [treeD] at h
      exact .inr ⟨m, ds, rfl, rfl, by simpa using h.1, h.2⟩
  | _ => cases n <;> simp [treeD] at h
theorem zipAll : ∀ (as bs : List D), as.length = bs.length → ((List.range as.length).all fun i => decide (as[i]? = bs[i]?)) = decide (as = bs) := by
  intro as bs h
  by_cases e : as = bs
  · subst e
    simp
  · rw [decide_eq_false e]
    rw [Bool.eq_false_iff]
    intro hh
    apply e
    apply List.ext_getElem?
    intro i
    by_cases hi : i < as.length
    · have := List.all_eq_true.mp hh i (by simpa using hi)
      simpa using this
    · rw [List.getElem?_eq_none (by omega), List.getElem?_eq_none (by omega)]
theorem cl__law_alike (n : Nat) (h0 : n = 0 ∨ ∃ m, n = m + 1 ∧ cs ix__law_alike = m_alike m) : Cleans (semF cs 2 3 B__law_alike) (m_alike n) := cleans_pre fun ds S x S' c1 c2 h => by
  unfold m_alike at h
  split at h
  · rename_i a b
    split at h
    · rename_i hc
      cases h
      refine ⟨rfl, ?_⟩
      rw [r__law_alike]
      rcases treeD_kind hc.1 with ⟨i, rfl⟩ | ⟨m, as, hm, rfl, ha, hal⟩
      · rcases treeD_kind hc.2 with ⟨j, rfl⟩ | ⟨m', bs, hm', rfl, hb, hbl⟩
        · simp [tyIs]
          exact ⟨.refl, .d (by trivial)⟩
        · simp [tyIs]
          exact ⟨.refl, .d (by trivial)⟩
      · rcases treeD_kind hc.2 with ⟨j, rfl⟩ | ⟨m', bs, hm', rfl, hb, hbl⟩
        · simp [tyIs]
          exact ⟨.refl, .d (by trivial)⟩
        · have e : m' = m := by omega
          subst e
          rcases h0 with h0 | ⟨m2, hm2, hcs⟩
          · omega
          · have e : m2 = m' := by omega
            subst e
            have hr : in62 (as.length : Int) = true := by unfold in62; simp; omega
            simp [tyIs, is_non, ends_iff, rng_1 hr, cap]
            refine ⟨fun he => ⟨by omega, ends_map (g := fun d => match d with | .int i => [D.bl (decide (as[i.toNat]? = bs[i.toNat]?))] | _ => []) rfl ?_ ?_⟩, fun he => ?_⟩
            · intro x hx
              obtain ⟨i, hi, rfl⟩ := List.mem_map.mp hx
              have hi : i < as.length := by simpa using hi
              have hi2 : i < bs.length := by omega
              have t1 := List.all_eq_true.mp ha as[i] (List.getElem_mem hi)
              have t2 := List.all_eq_true.mp hb bs[i] (List.getElem_mem hi2)
              simp [wipeE, atI_nat' hi, atI_nat' hi2, hcs, m_alike, t1, t2, List.getElem?_eq_getElem hi, List.getElem?_eq_getElem hi2]
            · have e1 : (((List.range as.length).map fun (i : Nat) => D.int (i : Nat)).flatMap fun d => match d with | .int i => [D.bl (decide (as[i.toNat]? = bs[i.toNat]?))] | _ => []) = (((List.range as.length).map fun i => decide (as[i]? = bs[i]?)).map D.bl) := by
                rw [List.flatMap_map, ← map_bl_eq]
                rfl
              simp only [kt_p]
              rw [e1]
              simp
              have z := zipAll as bs (by omega)
              rw [z]
              exact ⟨.refl, .d (by trivial)⟩
            · have : as ≠ bs := fun e => he (by rw [e])
              simp [this]
              exact ⟨.refl, .d (by trivial)⟩
    · cases h
  · cases h
def meetN : Nat → Int → Int → Int → Int
  | 0, _, _, r => r
  | n + 1, a, b, r => if a = b then r else meetN n (a / 2) (b / 2) (r + 1)
theorem meetN_eq {n : Nat} {a r : Int} : meetN n a a r = r := by
  cases n <;> simp [meetN]
def m_meeting : Fsem := fun ds S => match ds with
  | [.tup es, .int x, .int y] => match intsOf es with
    | some ns => if x ∈ ns ∧ y ∈ ns then some (.d (.int (meetN 7 (ns.idxOf x : Nat) (ns.idxOf y : Nat) 0)), S) else none
    | none => none
  | _ => none
theorem cl__law_meeting : Cleans (semF cs 3 7 B__law_meeting) m_meeting := cleans_pre fun ds S x S' c1 c2 h => by
  unfold m_meeting at h
  split at h
  · rename_i es x y
    split at h
    · rename_i ns hns
      split at h
      · rename_i hxy
        cases h
        have e := intsOf_eq hns
        subst e
        refine ⟨rfl, ?_⟩
        rw [r__law_meeting]
        simp [hxy, setAll, rng_1, in62]
        refine ends_for (fun i σ T => T = S ∧ ∃ a b r z, σ = [some (.tup (ns.map .int)), some (.int x), some (.int y), some (.int a), some (.int b), some (.int r), z] ∧ meetN (7 - i) a b r = meetN 7 (ns.idxOf x : Nat) (ns.idxOf y : Nat) 0)
          ⟨rfl, _, _, _, none, rfl, rfl⟩ (fun _ _ _ _ => rfl) ?_ ?_
        · rintro i d σ T hd ⟨rfl, a, b, r, z, rfl, hm⟩
          have hi : i < 7 := by
            have := (List.getElem?_eq_some_iff.mp hd).1
            simpa using this
          simp [ends_iff, fdiv_int, setAll]
          refine ⟨fun hab => ?_, fun hab => ?_⟩
          · subst hab
            rw [meetN_eq] at hm
            exact ⟨_, _, _, ⟨rfl, rfl, rfl⟩, by rw [meetN_eq]; exact hm⟩
          · refine ⟨_, _, _, ⟨rfl, rfl, rfl⟩, ?_⟩
            rw [← hm, show 7 - i = (6 - i) + 1 by omega, meetN, if_neg hab]
        · rintro σ T ⟨rfl, a, b, r, z, rfl, hm⟩
          simp [meetN] at hm
          simp [hm]
          exact ⟨.refl, .d (by trivial)⟩
      · cases h
    · cases h
  · cases h
def m_is_whole : Fsem := fun ds S => match ds with
  | [.int _] => some (.d (.bl true), S)
  | _ => none
theorem cl_is_whole : Cleans (semF cs 1 1 B_is_whole) m_is_whole := cleans_pre fun ds S x S' c1 c2 h => by
  unfold m_is_whole at h
  split at h
  · cases h
    refine ⟨rfl, ?_⟩
    rw [r_is_whole]
    simp [tyIs]
    exact ⟨.refl, .d (by trivial)⟩
  · cases h
def m_is_between : Fsem := fun ds S => match ds with
  | [.int v, .int lo, .int hi] => some (.d (.bl (decide (lo ≤ v ∧ v ≤ hi))), S)
  | _ => none
theorem cl_is_between (h0 : cs ix_is_whole = m_is_whole) : Cleans (semF cs 3 3 B_is_between) m_is_between := cleans_pre fun ds S x S' c1 c2 h => by
  unfold m_is_between at h
  split at h
  · cases h
    refine ⟨rfl, ?_⟩
    rw [r_is_between]
    rename_i v lo hi
    simp [h0, m_is_whole, ends_iff]
    refine ⟨fun hl => ?_, fun hl => ?_⟩
    · simp [hl]
      exact ⟨.refl, .d (by trivial)⟩
    · have : ¬ lo ≤ v := by omega
      simp [this]
      exact ⟨.refl, .d (by trivial)⟩
  · cases h
def m_check_number : Fsem := fun ds S => match ds with
  | [.int v, .int lo, .int hi] => if lo ≤ v ∧ v ≤ hi then some (.d .non, S) else none
  | _ => none
theorem cl_check_number (h0 : cs ix_is_between = m_is_between) : Cleans (semF cs 3 3 B_check_number) m_check_number := cleans_pre fun ds S x S' c1 c2 h => by
  unfold m_check_number at h
  split at h
  · split at h
    · rename_i hv
      cases h
      refine ⟨rfl, ?_⟩
      rw [r_check_number]
      simp [h0, m_is_between, hv]
      exact ⟨.refl, .d (by trivial)⟩
    · cases h
  · cases h
def m_meeting_round_by : Fsem := fun ds S => match ds with
  | [.int n, .int x, .int y] => match expo n with
    | some k => if x ∈ seedG k ∧ y ∈ seedG k then some (.d (.int (meetN 7 ((seedG k).idxOf x : Nat) ((seedG k).idxOf y : Nat) 0)), S) else none
    | none => none
  | _ => none
theorem cl_meeting_round_by (h0 : cs ix_seeded_by = m_seeded_by) : Cleans (semF cs 3 7 B_meeting_round_by) m_meeting_round_by := cleans_pre fun ds S x S' c1 c2 h => by
  unfold m_meeting_round_by at h
  split at h
  · rename_i n x y
    split at h
    · rename_i k hk
      split at h
      · rename_i hxy
        cases h
        refine ⟨rfl, ?_⟩
        obtain ⟨hn, hk6⟩ := expo_ok hk
        rw [r_meeting_round_by]
        simp [h0, m_seeded_by, hk, hxy, setAll]
        have hlen := seedG_len k
        have h64 := pw_64 hk6
        have b1 := List.idxOf_lt_length_of_mem hxy.1
        have b2 := List.idxOf_lt_length_of_mem hxy.2
        refine ends_whl (fun i σ T => T = S ∧ ∃ a b r, σ = [some (.int n), some (.int x), some (.int y), some (.tup ((seedG k).map .int)), some (.int a), some (.int b), some (.int r)] ∧ 0 ≤ a ∧ 0 ≤ b ∧ a < (pw i : Nat) ∧ b < (pw i : Nat) ∧ meetN i a b r = meetN 7 ((seedG k).idxOf x : Nat) ((seedG k).idxOf y : Nat) 0)
          7 ⟨rfl, _, _, _, rfl, by omega, by omega, by rw [show pw 7 = 128 from rfl]; omega, by rw [show pw 7 = 128 from rfl]; omega, rfl⟩ (by unfold wFuel; omega) ?_
        rintro i σ T ⟨rfl, a, b, r, rfl, ha, hb, ha2, hb2, hm⟩
        simp
        refine ⟨fun hab => ?_, fun hab => ?_⟩
        · cases i with
          | zero => exact absurd (show a = b by rw [show pw 0 = 1 from rfl] at ha2 hb2; omega) hab
          | succ i =>
            simp [fdiv_int, setAll]
            rw [pw_s] at ha2 hb2
            refine ⟨i, by omega, _, _, _, ⟨rfl, rfl, rfl⟩, by omega, by omega, by omega, by omega, ?_⟩
            rw [← hm, meetN, if_neg hab]
        · subst hab
          rw [meetN_eq] at hm
          simp [hm]
          exact ⟨.refl, .d (by trivial)⟩
      · cases h
    · cases h
  · cases h
def m_meeting_round : Fsem := fun ds S => match ds with
  | [.int n, .int x, .int y] => match expo n with
    | some k => if x ∈ seedG k ∧ y ∈ seedG k ∧ 0 ≤ x ∧ x ≤ n - 1 ∧ 0 ≤ y ∧ y ≤ n - 1 ∧ x ≠ y then some (.d (.int (meetN 7 ((seedG k).idxOf x : Nat) ((seedG k).idxOf y : Nat) 0)), S) else none
    | none => none
  | _ => none
theorem cl_meeting_round (h0 : cs ix_check_size = m_check_size) (h1 : cs ix_check_number = m_check_number) (h2 : cs ix_meeting_round_by = m_meeting_round_by) : Cleans (semF cs 3 3 B_meeting_round) m_meeting_round := cleans_pre fun ds S x S' c1 c2 h => by
  unfold m_meeting_round at h
  split at h
  · rename_i n x y
    split at h
    · rename_i k hk
      split at h
      · rename_i hxy
        cases h
        refine ⟨rfl, ?_⟩
        rw [r_meeting_round]
        simp [h0, h1, h2, m_check_size, m_check_number, m_meeting_round_by, hk, hxy]
        exact ⟨.refl, .d (by trivial)⟩
      · cases h
    · cases h
  · cases h
end
end Ev

namespace Ev
open PySem
def cs0 : Nat → List D → Sg → Rs VX := fun _ _ _ => none
theorem atI_in {α : Type} {xs : List α} {k : Int} (h0 : 0 ≤ k) (h : k < xs.length) : ∃ x, L2.atI xs k = some x ∧ x ∈ xs := by
  obtain ⟨n, rfl⟩ := Int.eq_ofNat_of_zero_le h0
  have hn : n < xs.length := by omega
  exact ⟨xs[n], atI_nat' hn, List.getElem_mem hn⟩
theorem pool_ok {S : Sg} {l : Nat} {k : Int} {ns : List Int} (hl : cellL S[l]? = some (ns.map D.int)) (hk : 0 ≤ k ∧ k < 1000) : ∃ p q : Int, semF cs0 2 5 B__law_pool [.loc l, .int k] S = some (.l [.int p, .int q], S) := by
  have z : Ends (semF cs0 2 5 B__law_pool [.loc l, .int k] S) (K := ⟨fun x T => T = S ∧ ∃ p q : Int, x = .l [.int p, .int q]⟩) := by
    rw [r__law_pool]
    simp [mul_int, small, hl, mod_int, ends_iff, cap]
    intro hlt
    obtain ⟨d, hd, hm⟩ := atI_in (xs := ns.map D.int) hk.1 (by simpa using hlt)
    obtain ⟨i, _, rfl⟩ := List.mem_map.mp hm
    exact ⟨_, hd, by simp [mul_int, small, mod_int, ends_iff, cap]⟩
  obtain ⟨x, T, e, rfl, p, q, rfl⟩ := z
  exact ⟨p, q, e⟩
theorem setC_self {S : Sg} {l : Nat} {ds : List D} (h : S[l]? = some (.lst ds)) : setC S l ds = S := by
  apply List.ext_getElem?
  intro i
  unfold setC
  by_cases e : l = i
  · subst e
    rw [List.getElem?_set_self (at_lt h), h]
  · rw [List.getElem?_set_ne e]
theorem setC_setC {S : Sg} {l : Nat} {ds es : List D} : setC (setC S l ds) l es = setC S l es := by
  unfold setC
  rw [List.set_set]
theorem take_ok {S : Sg} {l : Nat} {p q many : Int} (hl : S[l]? = some (.lst [.int p, .int q])) (hm : 0 < many ∧ many < 1000000) :
    ∃ t p' q' : Int, semF cs0 2 4 B__law_take [.loc l, .int many] S = some (.d (.int t), setC S l [.int p', .int q']) ∧ 0 ≤ t ∧ t < many := by
  have z : Ends (semF cs0 2 4 B__law_take [.loc l, .int many] S) (K := ⟨fun x T => ∃ t p' q' : Int, x = .d (.int t) ∧ T = setC S l [.int p', .int q'] ∧ 0 ≤ t ∧ t < many⟩) := by
    rw [r__law_take]
    have hll := at_lt hl
    simp [hl, mod_int hm.1, fdiv_int hm.1 (show many < 2 ^ 64 by omega), ends_iff, L2.atI, L2.ixN]
    refine ⟨fun hp => ⟨⟨_, _, rfl⟩, Int.emod_nonneg _ (by omega), Int.emod_lt_of_pos _ hm.1⟩, fun hp => ?_⟩
    refine ends_whl (fun i σ T => ∃ t r p' q' : Int, σ = [some (.loc l), some (.int many), some (.int t), some (.int r)] ∧ T = setC S l [.int p', .int q'] ∧ ((i = 2 ∧ r = 1) ∨ (i = 1 ∧ r = 16777216) ∨ (i = 0 ∧ r = 16777216 * 16777216)))
      2 ⟨0, 1, p, q, rfl, (setC_self hl).symm, .inl ⟨rfl, rfl⟩⟩ (by unfold wFuel; omega) ?_
    rintro i σ T ⟨t, r, p', q', rfl, rfl, hr⟩
    have ha := setC_at (S := S) (ds := [D.int p', D.int q']) hll
    simp [mul_int, small]
    refine ⟨fun hlt => ?_, fun hge => ?_⟩
    · have hr' : r = 1 ∨ r = 16777216 := by omega
      have ha2 := setC_at (S := S) (ds := [D.int p', D.int ((q' * 6364136223846793005 + 1442695040888963407) % 18446744073709551616)]) hll
      rcases hr' with rfl | rfl
      · have hi : i = 2 := by omega
        subst hi
        simp [ha, ha2, mul_int, small, mod_int, fdiv_int, L2.atI, L2.ixN, setC_setC]
        exact ⟨1, by omega, _, _, ⟨rfl, rfl⟩, ⟨_, _, rfl⟩, by omega⟩
      · have hi : i = 1 := by omega
        subst hi
        simp [ha, ha2, mul_int, small, mod_int, fdiv_int, L2.atI, L2.ixN, setC_setC]
        exact ⟨_, _, rfl⟩
    · simp [mod_int hm.1]
      exact ⟨⟨_, _, rfl⟩, Int.emod_nonneg _ (by omega), Int.emod_lt_of_pos _ hm.1⟩
  obtain ⟨x, T, e, t, p', q', rfl, rfl, h1, h2⟩ := z
  exact ⟨t, p', q', e, h1, h2⟩
theorem dbl_get (m : Int) : ∀ (xs : List Int) (n : Nat) (x : Int), xs[n]? = some x → (xs.flatMap fun p => [p, m - p])[2 * n]? = some x ∧ (xs.flatMap fun p => [p, m - p])[2 * n + 1]? = some (m - x)
  | [], n, x, h => by simp at h
  | y :: ys, 0, x, h => by
    simp at h
    subst h
    simp
  | y :: ys, n + 1, x, h => by
    have ih := dbl_get m ys n x (by simpa using h)
    simp only [List.flatMap_cons]
    constructor
    · rw [show 2 * (n + 1) = 2 * n + 2 by omega]
      simpa using ih.1
    · rw [show 2 * (n + 1) + 1 = (2 * n + 1) + 2 by omega]
      simpa using ih.2
theorem seedG_bd : ∀ (k : Nat) (x : Int), x ∈ seedG k → 0 ≤ x ∧ x < (pw k : Nat)
  | 0, x, h => by simp [seedG] at h; subst h; decide
  | k + 1, x, h => by
    unfold seedG dbl at h
    rw [seedG_len] at h
    obtain ⟨p, hp, hx⟩ := List.mem_flatMap.mp h
    have ih := seedG_bd k p hp
    have := pw_s k
    simp at hx
    omega
theorem seed_pair {k n : Nat} {x : Int} (h : (seedG k)[n]? = some x) : (seedG (k + 1))[2 * n]? = some x ∧ (seedG (k + 1))[2 * n + 1]? = some (2 * (pw k : Int) - 1 - x) := by
  have z := dbl_get (2 * (pw k : Int) - 1) (seedG k) n x h
  unfold seedG dbl
  rw [seedG_len]
  exact z
theorem noLoc_ints (ns : List Int) : (ns.map D.int).all noLoc = true := by
  rw [List.all_eq_true]
  intro d hd
  obtain ⟨i, _, rfl⟩ := List.mem_map.mp hd
  rfl
theorem isSeeded_seed {k : Nat} (hk : expo (pw k : Nat) = some k) : isSeeded ((seedG k).map D.int) = true := by
  unfold isSeeded
  rw [List.length_map, seedG_len, hk]
  simp
theorem treeD_ints {n : Nat} {ns : List Int} (h : ns.length ≤ 1000) : treeD (n + 1) (.tup (ns.map D.int)) = true := by
  simp [treeD, h]
section
variable {cs : Nat → List D → Sg → Rs VX}
def m_draw_right : Fsem := fun ds S => match ds with
  | [.int n] => match expo n with
    | some _ => some (.d (.bl true), S)
    | none => none
  | _ => none
theorem cl__law_draw_right (h0 : cs ix_seeded = m_seeded_by) (h1 : cs ix__law_alike = m_alike 3) (h2 : cs ix__law_seeded = m_seeded_by) (h3 : cs ix_is_seeded = m_is_seeded) : Cleans (semF cs 1 5 B__law_draw_right) m_draw_right := cleans_pre fun ds S x S' c1 c2 h => by
  unfold m_draw_right at h
  split at h
  · rename_i n
    split at h
    · rename_i k hk
      cases h
      refine ⟨rfl, ?_⟩
      obtain ⟨rfl, hk6⟩ := expo_ok hk
      have h64 := pw_64 hk6
      have hl : (seedG k).length ≤ 1000 := by rw [seedG_len]; omega
      have t1 : treeD 3 (.tup [.tup ((seedG k).map D.int), .tup ((seedG k).map D.int)]) = true := by
        have := treeD_ints (n := 1) hl
        simp [treeD] at this ⊢
        omega
      rw [r__law_draw_right]
      simp [h0, h1, h2, h3, m_seeded_by, hk, m_alike, t1, callP, permute, m_is_seeded, noLoc_ints, hl, isSeeded_seed hk, rng_1, in62, cap, noLoc]
      refine ends_for (fun i σ T => T = S ∧ ∃ z1 z2, σ = [some (.int (pw k : Nat)), some (.tup ((seedG k).map D.int)), some (.tup ((seedG (k - i)).map D.int)), z1, z2]) ⟨rfl, none, none, rfl⟩ (fun _ _ _ _ => rfl) ?_ ?_
      · rintro i d σ T hd ⟨rfl, z1, z2, rfl⟩
        simp [seedG_len, ends_iff]
        refine ⟨fun h1 => ?_, fun h1 => ?_⟩
        · have hki : k - i = (k - (i + 1)) + 1 := by
            by_cases e : k - i = 0
            · rw [e] at h1
              exact absurd h1 (by decide)
            · omega
          generalize k - (i + 1) = j at hki
          rw [hki] at h1 ⊢
          have hj : j ≤ 6 := by omega
          have hj64 := pw_64 hj
          have hps := pw_s j
          have hp0 := pw_pos j
          have hr : in62 ((pw (j + 1) : Nat) - 1 : Int) = true := by unfold in62; simp; omega
          have hcnt : (((pw (j + 1) : Nat) : Int) - 1 - 0 + 2 - 1) / 2 = (pw j : Nat) := by omega
          have hr2 := rng_3 (S := T) (i := 0) (j := (pw (j + 1) : Nat) - 1) (c := 2) (by decide) hr (by decide)
          rw [hcnt] at hr2
          have at2 : ∀ n : Nat, n < pw j → ∃ x, (seedG j)[n]? = some x ∧ L2.atI (seedG (j + 1)) ((n : Int) * 2) = some x ∧ L2.atI (seedG (j + 1)) ((n : Int) * 2 + 1) = some (2 * (pw j : Int) - 1 - x) ∧ 0 ≤ x ∧ x < (pw j : Nat) := fun n hn => by
            have hlt : n < (seedG j).length := by rw [seedG_len]; exact hn
            obtain ⟨q1, q2⟩ := seed_pair (List.getElem?_eq_getElem hlt)
            have l1 := (List.getElem?_eq_some_iff.mp q1).1
            have l2 := (List.getElem?_eq_some_iff.mp q2).1
            refine ⟨_, List.getElem?_eq_getElem hlt, ?_, ?_, seedG_bd j _ (List.getElem_mem hlt)⟩
            · rw [show ((n : Int) * 2) = ((2 * n : Nat) : Int) by omega, atI_nat' l1, ← q1, List.getElem?_eq_getElem]
            · rw [show ((n : Int) * 2 + 1) = ((2 * n + 1 : Nat) : Int) by omega, atI_nat' l2, ← q2, List.getElem?_eq_getElem]
          simp [hr2, cap]
          refine ⟨by omega, ends_map (g := fun _ => [D.bl false]) rfl ?_ ?_⟩
          · intro d hd
            obtain ⟨n, hn, rfl⟩ := List.mem_map.mp hd
            obtain ⟨x, e1, e2, e3, _⟩ := at2 n (by simpa using hn)
            simp [wipeE, atI_ints, e2, e3, seedG_len]
            omega
          · have e0 : (((List.range (pw j)).map fun (n : Nat) => D.int ((n : Int) * 2)).flatMap fun _ => [D.bl false]) = (((List.range (pw j)).map fun (n : Nat) => D.int ((n : Int) * 2)).flatMap fun x => [D.bl ((fun _ => false) x)]) := rfl
            simp only [kt_p, e0]
            simp [hr2, cap, seedG_len]
            refine ⟨by omega, ends_map (g := fun d => match d with | .int i => [D.int ((seedG j).getD (i / 2).toNat 0)] | _ => []) rfl ?_ ?_⟩
            · intro d hd
              obtain ⟨n, hn, rfl⟩ := List.mem_map.mp hd
              obtain ⟨x, e1, e2, e3, hx⟩ := at2 n (by simpa using hn)
              have e4 : (((n : Int) * 2) / 2).toNat = n := by omega
              simp [wipeE, atI_ints, e2, e3, e4, e1, List.getD]
              omega
            · have e5 : (((List.range (pw j)).map fun (n : Nat) => D.int ((n : Int) * 2)).flatMap fun d => match d with | .int i => [D.int ((seedG j).getD (i / 2).toNat 0)] | _ => []) = (seedG j).map D.int := by
                rw [List.flatMap_map]
                have : ∀ n : Nat, (((n : Int) * 2) / 2).toNat = n := fun n => by omega
                simp only [this]
                rw [map_int_eq]
                congr 1
                apply List.ext_getElem?
                intro n
                rw [List.getElem?_map]
                by_cases hn : n < pw j
                · simp [hn, seedG_len]
                · rw [List.getElem?_eq_none (by simpa using hn), List.getElem?_eq_none (by rw [seedG_len]; omega)]
                  rfl
              simp only [kt_p]
              rw [e5]
              simp
        · have e : k - i = 0 := by
            by_cases e : k - i = 0
            · exact e
            · have := pw_le.mpr (show 1 ≤ k - i by omega)
              rw [show pw 1 = 2 from rfl] at this
              omega
          rw [e, show k - (i + 1) = 0 by omega]
      · rintro σ T ⟨rfl, z1, z2, rfl⟩
        have e0 := eq_ints (S := T) [0] [0]
        simp at e0
        simp [e0, show k - 6 = 0 by omega, seedG, cap]
        exact ⟨.refl, .d (by trivial)⟩
    · cases h
  · cases h
/-- what stands in the rows -/
def rowOk (T : Sg) (d : D) : Prop := match d with
  | .tup es => es.all noLoc = true ∧ es.length ≤ 1000
  | .loc l => ∃ ls, T[l]? = some (.lst ls)
  | _ => True
theorem row_tup {T : Sg} {es : List D} (h : ∀ d ∈ es, noLoc d = true) (hl : es.length ≤ 1000) : rowOk T (.tup es) := ⟨List.all_eq_true.mpr h, hl⟩
theorem bent_ok (h0 : cs ix__law_take = semF cs0 2 4 B__law_take) {S : Sg} {l : Nat} {p q : Int} {k : Nat} (hl : S[l]? = some (.lst [.int p, .int q])) (hk : k ≤ 6) : Ends (semF cs 2 7 B__law_bent [.loc l, .tup ((seedG k).map .int)] S)
    (K := ⟨fun x T => ∃ ds G, x = .l ds ∧ (∃ p' q' : Int, T[l]? = some (.lst [.int p', .int q'])) ∧ T.length = S.length + G ∧ (∀ i, i ≠ l → i < S.length → T[i]? = S[i]?) ∧ ∀ d ∈ ds, rowOk T d⟩) := by
  have hn := seedG_len k
  have h64 := pw_64 hk
  have hp := pw_pos k
  have hm : (0 : Int) < ((seedG k).length : Int) ∧ ((seedG k).length : Int) < 1000000 := by omega
  obtain ⟨a, p1, q1, e1, a0, a1⟩ := take_ok hl hm
  have hl1 := setC_at (S := S) (ds := [D.int p1, D.int q1]) (at_lt hl)
  obtain ⟨b, p2, q2, e2, b0, b1⟩ := take_ok hl1 hm
  rw [r__law_bent]
  rw [setC_setC] at e2
  have hl2 := setC_at (S := S) (ds := [D.int p2, D.int q2]) (at_lt hl)
  have hlen : (setC S l [.int p2, .int q2]).length = S.length := setC_len
  have hold : ∀ i, i ≠ l → (setC S l [.int p2, .int q2])[i]? = S[i]? := fun i hi => setC_ne (Ne.symm hi)
  generalize setC S l [.int p2, .int q2] = S2 at e2 hl2 hlen hold
  have hnl : ((seedG k).map D.int).all noLoc = true := noLoc_ints _
  obtain ⟨x, hx, _⟩ := atI_in (xs := (seedG k).map D.int) a0 (by simpa using a1)
  obtain ⟨y, hy, _⟩ := atI_in (xs := (seedG k).map D.int) b0 (by simpa using b1)
  obtain ⟨na, rfl⟩ := Int.eq_ofNat_of_zero_le a0
  obtain ⟨nb, rfl⟩ := Int.eq_ofNat_of_zero_le b0
  have ha : na < (seedG k).length := by omega
  have hb : nb < (seedG k).length := by omega
  have hr : (0 : Int) ≤ (seedG k).length ∧ ((seedG k).length : Int) ≤ 16777216 := by omega
  simp [h0, e1, e2, cap, hx, hy, ixN_nat ha, ixN_nat hb, setC_new, rngL_1 hr]
  generalize hds : (seedG k).map D.int = ds at *
  have hdl : ds.length = (seedG k).length := by rw [← hds, List.length_map]
  have hmem : ∀ d ∈ ds, noLoc d = true := List.all_eq_true.mp hnl
  refine ⟨by omega, by omega, ends_map (g := fun d => [.tup (cutL ds none (some (na : Int)) ++ ([d] ++ cutL ds (some ((na : Int) + 1)) none))]) rfl ?_ ?_⟩
  · intro d hd
    have l1 := cutL_len (xs := ds) (lo := none) (hi := some (na : Int))
    have l2 := cutL_len (xs := ds) (lo := some ((na : Int) + 1)) (hi := none)
    simp [wipeE, cap]
    omega
  · simp
    refine ⟨by unfold cap; omega, ⟨⟨_, _, at_app hl2⟩, ⟨3, by omega⟩, fun i hi hlt => ?_, ?_⟩⟩
    · rw [List.getElem?_append_left (by omega)]
      exact hold i hi
    · have hx' := hmem x ‹x ∈ ds›
      have hy' := hmem y ‹y ∈ ds›
      have hset : ∀ d ∈ (ds.set na y).set nb x, noLoc d = true := fun d hd => by
        rcases List.mem_or_eq_of_mem_set hd with hd | rfl
        · rcases List.mem_or_eq_of_mem_set hd with hd | rfl
          · exact hmem d hd
          · exact hy'
        · exact hx'
      have hcut : ∀ (lo hi : Option Int) (d : D), d ∈ cutL ds lo hi → noLoc d = true := fun lo hi d hd => hmem d (cutL_mem hd)
      have hcl : ∀ lo hi : Option Int, (cutL ds lo hi).length ≤ 64 := fun lo hi => by
        have := cutL_len (xs := ds) (lo := lo) (hi := hi)
        omega
      have c1 := hcl (some 1) none
      have c2 := hcl none (some (na : Int))
      have c3 := hcl (some ((na : Int) + 1)) none
      have hrow : ∀ d : D, noLoc d = true → ∀ T, rowOk T (.tup (cutL ds none (some (na : Int)) ++ ([d] ++ cutL ds (some ((na : Int) + 1)) none))) := fun d hd T => row_tup (fun e he => by
        simp at he
        rcases he with he | rfl | he
        · exact hcut _ _ _ he
        · exact hd
        · exact hcut _ _ _ he) (by simp; omega)
      refine ⟨row_tup hset (by simp; omega), row_tup (fun d hd => hmem d (by simpa using hd)) (by simp; omega), row_tup (hcut _ _) (by omega), row_tup (fun d hd => ?_) (by simp; omega), ?_⟩
      · simp at hd
        rcases hd with hd | rfl
        · exact hmem d hd
        · rfl
      · refine ⟨⟨_, by simp; rfl⟩, row_tup (by simp) (by simp), trivial, trivial, trivial, row_tup (by simp [noLoc]) (by simp), row_tup (fun d hd => ?_) (by simp; omega), row_tup (fun d hd => hmem d (by simpa using hd)) (by simp; omega), ?_⟩
        · obtain ⟨i, _, rfl⟩ := List.mem_map.mp hd
          rfl
        · exact ⟨hrow _ rfl _, hrow _ rfl _, hrow _ rfl _, hrow _ rfl _, hrow _ rfl _, hrow _ rfl _, hrow _ rfl _⟩
theorem seed_all : ∀ k < 7, ∀ n < pw k, ((n : Nat) : Int) ∈ seedG k := by decide +kernel
theorem seed_far : ∀ k < 7, 0 < k → ∀ n < pw k, meetN 7 ((seedG k).idxOf ((n : Nat) : Int) : Nat) ((seedG k).idxOf ((pw k : Int) - 1 - ((n : Nat) : Int)) : Nat) 0 = 1 := by decide +kernel
theorem seed_near : ∀ k < 7, 0 < k → meetN 7 ((seedG k).idxOf 0 : Nat) ((seedG k).idxOf 1 : Nat) 0 = meetN 7 ((seedG k).idxOf 0 : Nat) ((seedG k).idxOf ((pw k : Int) - 1) : Nat) 0 + (([4, 8, 16, 32, 64].filter fun (s : Int) => decide (s ≤ pw k)).length : Nat) := by decide +kernel
theorem meetN_comm : ∀ (n : Nat) (a b r : Int), meetN n a b r = meetN n b a r
  | 0, _, _, _ => rfl
  | n + 1, a, b, r => by
    unfold meetN
    by_cases h : a = b
    · rw [if_pos h, if_pos h.symm]
    · rw [if_neg h, if_neg fun e => h e.symm, meetN_comm n]
theorem seed_mem {k : Nat} {x : Int} (hk : k ≤ 6) (h0 : 0 ≤ x) (h1 : x < (pw k : Nat)) : x ∈ seedG k := by
  obtain ⟨n, rfl⟩ := Int.eq_ofNat_of_zero_le h0
  exact seed_all k (by omega) n (by omega)
theorem expo_some : ∀ {x : Int}, x ∈ sizes → ∃ k, expo x = some k := fun {x} h => by
  have := expo_iff x
  rw [decide_eq_true h] at this
  exact Option.isSome_iff_exists.mp this
theorem row_seeded {T : Sg} {d : D} (h : rowOk T d) : ∃ b, m_is_seeded [d] T = some (.d (.bl b), T) := by
  unfold m_is_seeded
  cases d with
  | tup es =>
    have h' : es.all noLoc = true ∧ es.length ≤ 1000 := h
    exact ⟨_, by simp only; rw [if_pos h']⟩
  | loc l =>
    obtain ⟨ls, hl⟩ := h
    exact ⟨false, by simp only; rw [hl]; rfl⟩
  | _ => exact ⟨false, rfl⟩
structure CsOk (cs : Nat → List D → Sg → Rs VX) : Prop where
  right : cs ix__law_draw_right = m_draw_right
  pool : cs ix__law_pool = semF cs0 2 5 B__law_pool
  take : cs ix__law_take = semF cs0 2 4 B__law_take
  seeded : cs ix__law_seeded = m_seeded_by
  bent : ∃ cs', cs' ix__law_take = semF cs0 2 4 B__law_take ∧ cs ix__law_bent = semF cs' 2 7 B__law_bent
  says : cs ix__law_says = m__law_says
  is : cs ix_is_seeded = m_is_seeded
  lis : cs ix__law_is_seeded = m_is_seeded
  meet : cs ix__law_meeting = m_meeting
  round : cs ix_meeting_round = m_meeting_round
  alike : cs ix__law_alike = m_alike 3
theorem meet_at {k : Nat} {x y : Int} {T : Sg} (hx : x ∈ seedG k) (hy : y ∈ seedG k) : m_meeting [.tup ((seedG k).map .int), .int x, .int y] T = some (.d (.int (meetN 7 ((seedG k).idxOf x : Nat) ((seedG k).idxOf y : Nat) 0)), T) := by
  unfold m_meeting
  simp only [intsOf_map]
  rw [if_pos ⟨hx, hy⟩]
theorem round_at {n : Int} {k : Nat} {x y : Int} {T : Sg} (hk : expo n = some k) (hx0 : 0 ≤ x) (hx1 : x < n) (hy0 : 0 ≤ y) (hy1 : y < n) (hxy : x ≠ y) : m_meeting_round [.int n, .int x, .int y] T = some (.d (.int (meetN 7 ((seedG k).idxOf x : Nat) ((seedG k).idxOf y : Nat) 0)), T) := by
  obtain ⟨hn, hk6⟩ := expo_ok hk
  unfold m_meeting_round
  simp only [hk]
  rw [if_pos ⟨seed_mem hk6 hx0 (by omega), seed_mem hk6 hy0 (by omega), hx0, by omega, hy0, by omega, hxy⟩]
theorem law_true (h : CsOk cs) : LawTrue (semF cs 1 11 B_law) := by
  intro ns c hns hc
  have z : Ends (semF cs 1 11 B_law [.loc 0] [c]) (K := ⟨fun x T => x = .d (.bl true)⟩) := by
    rw [r_law]
    simp [cap]
    refine ends_map (g := fun _ => [D.bl true]) rfl ?_ ?_
    · intro d hd
      have : d ∈ sizes.map D.int := hd
      obtain ⟨x, hx, rfl⟩ := List.mem_map.mp this
      obtain ⟨k, hk⟩ := expo_some hx
      simp [wipeE, h.right, m_draw_right, hk]
    · have hr : in62 (if (if (4 : Int) < ns.length then (ns.length : Int) else 4) < 14 then (if (4 : Int) < ns.length then (ns.length : Int) else 4) else 14) = true := by
        unfold in62
        simp
        omega
      have e7 : b1V .all (.l [D.bl true, D.bl true, D.bl true, D.bl true, D.bl true, D.bl true, D.bl true]) [c] = some (.d (.bl true), [c]) := rfl
      simp [hc, rng_1 hr, e7]
      refine ends_for (fun i σ T => T[0]? = some c ∧ ∃ z1 z2 z3 z4 z5 z6 z7 z8 z9 z10, σ = [some (.loc 0), z1, z2, z3, z4, z5, z6, z7, z8, z9, z10]) ⟨rfl, none, none, none, none, none, none, none, none, none, none, rfl⟩ (fun _ _ _ _ => rfl) ?_ ?_
      · rintro i d σ T hd ⟨hT, z1, z2, z3, z4, z5, z6, z7, z8, z9, z10, rfl⟩
        have hi : ∃ n : Nat, d = .int n ∧ n < 1000 := by
          have hm := List.mem_of_getElem? hd
          obtain ⟨n, hn, rfl⟩ := List.mem_map.mp hm
          refine ⟨n, rfl, ?_⟩
          have := List.mem_range.mp hn
          omega
        obtain ⟨n, rfl, hn⟩ := hi
        obtain ⟨p, q, ep⟩ := pool_ok (S := T) (l := 0) (k := (n : Int)) (ns := ns) (by rw [hT]; exact hc) (by omega)
        have hp0 : (T ++ [Cell.lst [.int p, .int q]])[T.length]? = some (.lst [.int p, .int q]) := by simp
        obtain ⟨t, p1, q1, et, t0, t1⟩ := take_ok hp0 (many := 7) (by omega)
        have hp1 := setC_at (S := T ++ [Cell.lst [.int p, .int q]]) (ds := [D.int p1, D.int q1]) (at_lt hp0)
        have hT1 : (setC (T ++ [Cell.lst [.int p, .int q]]) T.length [.int p1, .int q1])[0]? = some c := by
          rw [setC_ne (by have := at_lt hT; omega)]
          exact at_app hT
        generalize setC (T ++ [Cell.lst [.int p, .int q]]) T.length [.int p1, .int q1] = T1 at et hp1 hT1
        obtain ⟨y, hy, hym⟩ := atI_in (xs := sizes) t0 (by simpa [sizes] using t1)
        obtain ⟨k, hk⟩ := expo_some hym
        have hy' : L2.atI [D.int 1, D.int 2, D.int 4, D.int 8, D.int 16, D.int 32, D.int 64] t = some (.int y) := by
          have := atI_ints (ns := sizes) (j := t)
          rw [hy] at this
          exact this
        obtain ⟨cs', hb1, hb2⟩ := h.bent
        obtain ⟨hyk, hk6⟩ := expo_ok hk
        simp [h.pool, ep, h.take, et, hy', cap, h.seeded, m_seeded_by, hk, hb2]
        refine (bent_ok hb1 hp1 hk6).mono ?_
        rintro x T2 ⟨rows, G, rfl, ⟨p2, q2, hp2⟩, hlen2, hold2, hrows⟩
        have hT2 : T2[0]? = some c := by
          rw [hold2 0 (by have := at_lt hT; omega) (by have := at_lt hT1; omega)]
          exact hT1
        simp
        refine ends_for (fun _ σ T' => T' = T2 ∧ ∃ z, σ = [some (.loc 0), some (.int (n : Nat)), some (.loc T.length), some (.int y), some (.tup ((seedG k).map .int)), z, z6, z7, z8, z9, z10]) ⟨rfl, z5, rfl⟩ (fun _ _ _ _ => rfl) ?_ ?_
        · rintro i' d σ T' hd' ⟨rfl, z, rfl⟩
          obtain ⟨b, hb⟩ := row_seeded (hrows d (List.mem_of_getElem? hd'))
          simp [h.is, h.lis, h.says, hb, m__law_says]
        · rintro σ T' ⟨rfl, z, rfl⟩
          have hrk : in62 (8 * (if 1 < y then (1 : Int) else 0)) = true := by
            by_cases h1 : 1 < y <;> simp [h1, in62]
          simp [mul_int, small, rng_1 hrk]
          refine ends_for (fun _ σ T2 => T2[0]? = some c ∧ (∃ p q : Int, T2[T.length]? = some (.lst [.int p, .int q])) ∧ ∃ z6 z7 z8 z9 z10, σ = [some (.loc 0), some (.int (n : Nat)), some (.loc T.length), some (.int y), some (.tup ((seedG k).map .int)), z, z6, z7, z8, z9, z10])
            ⟨hT2, ⟨_, _, hp2⟩, _, _, _, _, _, rfl⟩ (fun _ _ _ _ => rfl) ?_ ?_
          · rintro i2 d2 σ T3 hd2 ⟨hT3, ⟨p3, q3, hp3⟩, w6, w7, w8, w9, w10, rfl⟩
            have hy1 : 1 < y := by
              have := (List.getElem?_eq_some_iff.mp hd2).1
              by_cases h1 : 1 < y
              · exact h1
              · simp [h1] at this
            have hk0 : 0 < k := by
              cases k with
              | zero => rw [hyk] at hy1; exact absurd hy1 (by decide)
              | succ k => omega
            have h64 := pw_64 hk6
            obtain ⟨one, p4, q4, e4, o0, o1⟩ := take_ok hp3 (many := y) (by omega)
            have hp4 := setC_at (S := T3) (ds := [D.int p4, D.int q4]) (at_lt hp3)
            obtain ⟨more, p5, q5, e5, m0, m1⟩ := take_ok hp4 (many := y - 1) (by omega)
            rw [setC_setC] at e5
            have hp5 := setC_at (S := T3) (ds := [D.int p5, D.int q5]) (at_lt hp3)
            have hT5 : (setC T3 T.length [.int p5, .int q5])[0]? = some c := by
              rw [setC_ne (by have := at_lt hT; omega)]
              exact hT3
            generalize setC T3 T.length [.int p5, .int q5] = T5 at e5 hp5 hT5
            simp [h.take, e4, e5, mod_int (show (0 : Int) < y by omega)]
            have htw0 : 0 ≤ (one + 1 + more) % y := Int.emod_nonneg _ (by omega)
            have htw1 : (one + 1 + more) % y < y := Int.emod_lt_of_pos _ (by omega)
            have hne : one ≠ (one + 1 + more) % y := by
              by_cases hlt : one + 1 + more < y
              · rw [Int.emod_eq_of_lt (by omega) hlt]
                omega
              · have : (one + 1 + more) % y = one + 1 + more - y := by
                  rw [← Int.sub_emod_right, Int.emod_eq_of_lt (by omega) (by omega)]
                omega
            generalize (one + 1 + more) % y = two at htw0 htw1 hne
            have i1 := seed_mem (k := k) hk6 o0 (by omega)
            have i2 := seed_mem (k := k) hk6 htw0 (by omega)
            have f1 := meet_at (T := T5) i1 i2
            have f2 := round_at (T := T5) hk o0 o1 htw0 htw1 hne
            have f3 := round_at (T := T5) hk htw0 htw1 o0 o1 (Ne.symm hne)
            have f4 : m_alike 3 [.tup [.int (meetN 7 ((seedG k).idxOf one : Nat) ((seedG k).idxOf two : Nat) 0), .int (meetN 7 ((seedG k).idxOf two : Nat) ((seedG k).idxOf one : Nat) 0)], .tup [.int (meetN 7 ((seedG k).idxOf one : Nat) ((seedG k).idxOf two : Nat) 0), .int (meetN 7 ((seedG k).idxOf one : Nat) ((seedG k).idxOf two : Nat) 0)]] T5 = some (.d (.bl true), T5) := by
              rw [meetN_comm 7 ((seedG k).idxOf two : Nat)]
              simp [m_alike, treeD]
            have hfar : one ≠ y - 1 - one := by
              cases k with
              | zero => omega
              | succ j =>
                have := pw_s j
                omega
            have f5 := round_at (T := T5) hk o0 o1 (show 0 ≤ y - 1 - one by omega) (by omega) hfar
            have f6 := round_at (T := T5) hk (show (0 : Int) ≤ 0 by omega) (by omega) (show (0 : Int) ≤ 1 by omega) hy1 (by omega)
            have f7 := meet_at (T := T5) (seed_mem (k := k) hk6 (show (0 : Int) ≤ 0 by omega) (by omega)) (seed_mem (k := k) hk6 (show 0 ≤ y - 1 by omega) (by omega))
            have g5 : meetN 7 ((seedG k).idxOf one : Nat) ((seedG k).idxOf (y - 1 - one) : Nat) 0 = 1 := by
              obtain ⟨m, rfl⟩ := Int.eq_ofNat_of_zero_le o0
              rw [hyk]
              exact seed_far k (by omega) hk0 m (by omega)
            have g6 := seed_near k (by omega) hk0
            rw [← hyk] at g6
            rw [g5] at f5
            rw [g6] at f6
            simp [h.meet, h.round, h.alike, f1, f2, f3, f4, f5, f6, f7, callP, permute, cap]
            refine ends_map (g := fun d => match d with | .int s => if s ≤ y then [.int s] else [] | _ => []) rfl ?_ ?_
            · intro d hd
              have : d ∈ ([4, 8, 16, 32, 64] : List Int).map D.int := hd
              obtain ⟨s, _, rfl⟩ := List.mem_map.mp this
              simp [wipeE, ends_iff]
            · have e9 : (([D.int 4, D.int 8, D.int 16, D.int 32, D.int 64] : List D).flatMap fun d => match d with | .int s => if s ≤ y then [D.int s] else [] | _ => []) = (([4, 8, 16, 32, 64] : List Int).filter fun s => decide (s ≤ y)).map D.int := by
                have gen : ∀ l : List Int, ((l.map D.int).flatMap fun d => match d with | .int s => if s ≤ y then [D.int s] else [] | _ => []) = (l.filter fun s => decide (s ≤ y)).map D.int := fun l => by
                  induction l with
                  | nil => rfl
                  | cons a l ih =>
                    rw [List.map_cons, List.flatMap_cons, ih, List.filter_cons]
                    by_cases ha : a ≤ y <;> simp [ha]
                exact gen [4, 8, 16, 32, 64]
              simp only [kt_p]
              rw [e9]
              simp
              exact ⟨hT5, _, _, hp5⟩
          · rintro σ T3 ⟨hT3, ⟨p3, q3, hp3⟩, w6, w7, w8, w9, w10, rfl⟩
            simp
            exact hT3
      · rintro σ T ⟨hT, z1, z2, z3, z4, z5, z6, z7, z8, z9, z10, rfl⟩
        have e8 : m_meeting_round [.int 8, .int 0, .int 1] T = some (.d (.int 3), T) := by
          have z : meetN 7 ((seedG 3).idxOf 0 : Nat) ((seedG 3).idxOf 1 : Nat) 0 = 3 ∧ (0 : Int) ∈ seedG 3 ∧ (1 : Int) ∈ seedG 3 := by decide +kernel
          rw [round_at (k := 3) rfl (by omega) (by omega) (by omega) (by omega) (by omega), z.1]
        simp [h.round, e8]
  obtain ⟨x, T, e, rfl⟩ := z
  exact ⟨T, e⟩
end
def csB : Nat → Fsem := fun i => if i = ix__law_take then semF cs0 2 4 B__law_take else fun _ _ => none
end Ev

namespace Ev
open PySem PySem.Spec PyProof.Rows L2
def csL : Nat → Fsem := fun i => match i with
  | 0 => m_is_size
  | 1 => m_check_size
  | 2 => m_doubled
  | 3 => m_seeded_by
  | 4 => m_seeded_by
  | 5 => m_alike 3
  | 6 => m_seeded_by
  | 7 => m_same_numbers
  | 8 => m_is_seeded
  | 9 => m_is_seeded
  | 10 => m_draw_right
  | 11 => semF cs0 2 5 B__law_pool
  | 12 => semF cs0 2 4 B__law_take
  | 13 => semF csB 2 7 B__law_bent
  | 14 => m__law_says
  | 15 => m__law_whole
  | 16 => m_is_seeded
  | 17 => m_meeting
  | 18 => m_is_whole
  | 19 => m_is_between
  | 20 => m_check_number
  | 21 => m_meeting_round_by
  | 22 => m_meeting_round
  | 23 => fun _ _ => none
  | _ => fun _ _ => none
section
variable {P : Program} {w : World} {K : PySem.W.Frag} {mg : Str → Option Value} {base : Heap}
theorem rd_is_size (T : Top K mg) : Rdy P w K mg base 1 fe_is_size (csL ix_is_size) := rdy_mk (C := C_is_size) (cs := csL) T.d_is_size b_is_size S_is_size rfl n_is_size k_is_size (fun _ h => absurd h List.not_mem_nil) (fun x d h => T.con x d h) (fun y h => T.blt y (bs_is_size y h)) (cl_is_size)
theorem rd_check_size (T : Top K mg) : Rdy P w K mg base 2 fe_check_size (csL ix_check_size) := rdy_mk (C := C_check_size) (cs := csL) T.d_check_size b_check_size S_check_size rfl n_check_size k_check_size (List.forall_mem_cons.mpr ⟨(rd_is_size T).mono (by omega), (fun _ h => absurd h List.not_mem_nil)⟩) (fun x d h => T.con x d h) (fun y h => T.blt y (bs_check_size y h)) (cl_check_size rfl)
theorem rd_doubled (T : Top K mg) : Rdy P w K mg base 1 fe_doubled (csL ix_doubled) := rdy_mk (C := C_doubled) (cs := csL) T.d_doubled b_doubled S_doubled rfl n_doubled k_doubled (fun _ h => absurd h List.not_mem_nil) (fun x d h => T.con x d h) (fun y h => T.blt y (bs_doubled y h)) (cl_doubled)
theorem rd_seeded_by (T : Top K mg) : Rdy P w K mg base 2 fe_seeded_by (csL ix_seeded_by) := rdy_mk (C := C_seeded_by) (cs := csL) T.d_seeded_by b_seeded_by S_seeded_by rfl n_seeded_by k_seeded_by (List.forall_mem_cons.mpr ⟨(rd_doubled T).mono (by omega), (fun _ h => absurd h List.not_mem_nil)⟩) (fun x d h => T.con x d h) (fun y h => T.blt y (bs_seeded_by y h)) (cl_seeded_by rfl)
theorem rd_seeded (T : Top K mg) : Rdy P w K mg base 3 fe_seeded (csL ix_seeded) := rdy_mk (C := C_seeded) (cs := csL) T.d_seeded b_seeded S_seeded rfl n_seeded k_seeded (List.forall_mem_cons.mpr ⟨(rd_check_size T).mono (by omega), (List.forall_mem_cons.mpr ⟨(rd_seeded_by T).mono (by omega), (fun _ h => absurd h List.not_mem_nil)⟩)⟩) (fun x d h => T.con x d h) (fun y h => T.blt y (bs_seeded y h)) (cl_seeded rfl rfl)
def cs__law_alike (n : Nat) : Nat → Fsem := fun i => if i = ix__law_alike then (match n with | 0 => fun _ _ => none | m + 1 => m_alike m) else csL i
theorem rr__law_alike (T : Top K mg) : ∀ n : Nat, Rdy P w K mg base (1 + n) fe__law_alike (m_alike n)
  | 0 => rdy_mk (C := C__law_alike) (cs := cs__law_alike 0) T.d__law_alike b__law_alike S__law_alike rfl n__law_alike k__law_alike (List.forall_mem_cons.mpr ⟨(rdy_never T.d__law_alike b__law_alike), (fun _ h => absurd h List.not_mem_nil)⟩) (fun x d h => T.con x d h) (fun y h => T.blt y (bs__law_alike y h)) (cl__law_alike 0 (by first | exact .inl rfl | exact .inr ⟨_, rfl, rfl⟩))
  | n + 1 => rdy_mk (C := C__law_alike) (cs := cs__law_alike (n + 1)) (k := 1 + n) T.d__law_alike b__law_alike S__law_alike rfl n__law_alike k__law_alike (List.forall_mem_cons.mpr ⟨(rr__law_alike T n).mono (by omega), (fun _ h => absurd h List.not_mem_nil)⟩) (fun x d h => T.con x d h) (fun y h => T.blt y (bs__law_alike y h)) (cl__law_alike (n + 1) (by first | exact .inl rfl | exact .inr ⟨_, rfl, rfl⟩))
theorem rd__law_alike (T : Top K mg) : Rdy P w K mg base 4 fe__law_alike (csL ix__law_alike) := (rr__law_alike T 3).mono (by omega)
theorem rd__law_seeded (T : Top K mg) : Rdy P w K mg base 1 fe__law_seeded (csL ix__law_seeded) := rdy_mk (C := C__law_seeded) (cs := csL) T.d__law_seeded b__law_seeded S__law_seeded rfl n__law_seeded k__law_seeded (fun _ h => absurd h List.not_mem_nil) (fun x d h => T.con x d h) (fun y h => T.blt y (bs__law_seeded y h)) (cl__law_seeded)
theorem rd_same_numbers (T : Top K mg) : Rdy P w K mg base 1 fe_same_numbers (csL ix_same_numbers) := rdy_mk (C := C_same_numbers) (cs := csL) T.d_same_numbers b_same_numbers S_same_numbers rfl n_same_numbers k_same_numbers (fun _ h => absurd h List.not_mem_nil) (fun x d h => T.con x d h) (fun y h => T.blt y (bs_same_numbers y h)) (cl_same_numbers)
theorem rd_is_seeded_by (T : Top K mg) : Rdy P w K mg base 3 fe_is_seeded_by (csL ix_is_seeded_by) := rdy_mk (C := C_is_seeded_by) (cs := csL) T.d_is_seeded_by b_is_seeded_by S_is_seeded_by rfl n_is_seeded_by k_is_seeded_by (List.forall_mem_cons.mpr ⟨(rd_is_size T).mono (by omega), (List.forall_mem_cons.mpr ⟨(rd_same_numbers T).mono (by omega), (List.forall_mem_cons.mpr ⟨(rd_seeded_by T).mono (by omega), (fun _ h => absurd h List.not_mem_nil)⟩)⟩)⟩) (fun x d h => T.con x d h) (fun y h => T.blt y (bs_is_seeded_by y h)) (cl_is_seeded_by rfl rfl rfl)
theorem rd_is_seeded (T : Top K mg) : Rdy P w K mg base 4 fe_is_seeded (csL ix_is_seeded) := rdy_mk (C := C_is_seeded) (cs := csL) T.d_is_seeded b_is_seeded S_is_seeded rfl n_is_seeded k_is_seeded (List.forall_mem_cons.mpr ⟨(rd_is_seeded_by T).mono (by omega), (fun _ h => absurd h List.not_mem_nil)⟩) (fun x d h => T.con x d h) (fun y h => T.blt y (bs_is_seeded y h)) (cl_is_seeded rfl)
theorem rd__law_draw_right (T : Top K mg) : Rdy P w K mg base 5 fe__law_draw_right (csL ix__law_draw_right) := rdy_mk (C := C__law_draw_right) (cs := csL) T.d__law_draw_right b__law_draw_right S__law_draw_right rfl n__law_draw_right k__law_draw_right (List.forall_mem_cons.mpr ⟨(rd_seeded T).mono (by omega), (List.forall_mem_cons.mpr ⟨(rd__law_alike T).mono (by omega), (List.forall_mem_cons.mpr ⟨(rd__law_seeded T).mono (by omega), (List.forall_mem_cons.mpr ⟨(rd_is_seeded T).mono (by omega), (fun _ h => absurd h List.not_mem_nil)⟩)⟩)⟩)⟩) (fun x d h => T.con x d h) (fun y h => T.blt y (bs__law_draw_right y h)) (cl__law_draw_right rfl rfl rfl rfl)
theorem rd__law_pool (T : Top K mg) : Rdy P w K mg base 1 fe__law_pool (csL ix__law_pool) := rdy_of T.d__law_pool b__law_pool fun f fd F => fn_ok (C := C__law_pool) (cs := cs0) F S__law_pool rfl n__law_pool k__law_pool (fun _ h => absurd h List.not_mem_nil) (fun x d h => T.con x d h) (fun y h => T.blt y (bs__law_pool y h))
theorem rd__law_take (T : Top K mg) : Rdy P w K mg base 1 fe__law_take (csL ix__law_take) := rdy_of T.d__law_take b__law_take fun f fd F => fn_ok (C := C__law_take) (cs := cs0) F S__law_take rfl n__law_take k__law_take (fun _ h => absurd h List.not_mem_nil) (fun x d h => T.con x d h) (fun y h => T.blt y (bs__law_take y h))
theorem rd__law_bent (T : Top K mg) : Rdy P w K mg base 2 fe__law_bent (csL ix__law_bent) := rdy_of T.d__law_bent b__law_bent fun f fd F => fn_ok (C := C__law_bent) (cs := csB) F S__law_bent rfl n__law_bent k__law_bent (List.forall_mem_cons.mpr ⟨(rd__law_take T).mono (by omega), (fun _ h => absurd h List.not_mem_nil)⟩) (fun x d h => T.con x d h) (fun y h => T.blt y (bs__law_bent y h))
theorem rd__law_says (T : Top K mg) : Rdy P w K mg base 1 fe__law_says (csL ix__law_says) := rdy_mk (C := C__law_says) (cs := csL) T.d__law_says b__law_says S__law_says rfl n__law_says k__law_says (fun _ h => absurd h List.not_mem_nil) (fun x d h => T.con x d h) (fun y h => T.blt y (bs__law_says y h)) (cl__law_says)
theorem rd__law_whole (T : Top K mg) : Rdy P w K mg base 1 fe__law_whole (csL ix__law_whole) := rdy_mk (C := C__law_whole) (cs := csL) T.d__law_whole b__law_whole S__law_whole rfl n__law_whole k__law_whole (fun _ h => absurd h List.not_mem_nil) (fun x d h => T.con x d h) (fun y h => T.blt y (bs__law_whole y h)) (cl__law_whole)
theorem rd__law_is_seeded (T : Top K mg) : Rdy P w K mg base 2 fe__law_is_seeded (csL ix__law_is_seeded) := rdy_mk (C := C__law_is_seeded) (cs := csL) T.d__law_is_seeded b__law_is_seeded S__law_is_seeded rfl n__law_is_seeded k__law_is_seeded (List.forall_mem_cons.mpr ⟨(rd__law_whole T).mono (by omega), (List.forall_mem_cons.mpr ⟨(rd__law_seeded T).mono (by omega), (fun _ h => absurd h List.not_mem_nil)⟩)⟩) (fun x d h => T.con x d h) (fun y h => T.blt y (bs__law_is_seeded y h)) (cl__law_is_seeded rfl rfl)
theorem rd__law_meeting (T : Top K mg) : Rdy P w K mg base 1 fe__law_meeting (csL ix__law_meeting) := rdy_mk (C := C__law_meeting) (cs := csL) T.d__law_meeting b__law_meeting S__law_meeting rfl n__law_meeting k__law_meeting (fun _ h => absurd h List.not_mem_nil) (fun x d h => T.con x d h) (fun y h => T.blt y (bs__law_meeting y h)) (cl__law_meeting)
theorem rd_is_whole (T : Top K mg) : Rdy P w K mg base 1 fe_is_whole (csL ix_is_whole) := rdy_mk (C := C_is_whole) (cs := csL) T.d_is_whole b_is_whole S_is_whole rfl n_is_whole k_is_whole (fun _ h => absurd h List.not_mem_nil) (fun x d h => T.con x d h) (fun y h => T.blt y (bs_is_whole y h)) (cl_is_whole)
theorem rd_is_between (T : Top K mg) : Rdy P w K mg base 2 fe_is_between (csL ix_is_between) := rdy_mk (C := C_is_between) (cs := csL) T.d_is_between b_is_between S_is_between rfl n_is_between k_is_between (List.forall_mem_cons.mpr ⟨(rd_is_whole T).mono (by omega), (fun _ h => absurd h List.not_mem_nil)⟩) (fun x d h => T.con x d h) (fun y h => T.blt y (bs_is_between y h)) (cl_is_between rfl)
theorem rd_check_number (T : Top K mg) : Rdy P w K mg base 3 fe_check_number (csL ix_check_number) := rdy_mk (C := C_check_number) (cs := csL) T.d_check_number b_check_number S_check_number rfl n_check_number k_check_number (List.forall_mem_cons.mpr ⟨(rd_is_between T).mono (by omega), (fun _ h => absurd h List.not_mem_nil)⟩) (fun x d h => T.con x d h) (fun y h => T.blt y (bs_check_number y h)) (cl_check_number rfl)
theorem rd_meeting_round_by (T : Top K mg) : Rdy P w K mg base 3 fe_meeting_round_by (csL ix_meeting_round_by) := rdy_mk (C := C_meeting_round_by) (cs := csL) T.d_meeting_round_by b_meeting_round_by S_meeting_round_by rfl n_meeting_round_by k_meeting_round_by (List.forall_mem_cons.mpr ⟨(rd_seeded_by T).mono (by omega), (fun _ h => absurd h List.not_mem_nil)⟩) (fun x d h => T.con x d h) (fun y h => T.blt y (bs_meeting_round_by y h)) (cl_meeting_round_by rfl)
theorem rd_meeting_round (T : Top K mg) : Rdy P w K mg base 4 fe_meeting_round (csL ix_meeting_round) := rdy_mk (C := C_meeting_round) (cs := csL) T.d_meeting_round b_meeting_round S_meeting_round rfl n_meeting_round k_meeting_round (List.forall_mem_cons.mpr ⟨(rd_check_size T).mono (by omega), (List.forall_mem_cons.mpr ⟨(rd_check_number T).mono (by omega), (List.forall_mem_cons.mpr ⟨(rd_meeting_round_by T).mono (by omega), (fun _ h => absurd h List.not_mem_nil)⟩)⟩)⟩) (fun x d h => T.con x d h) (fun y h => T.blt y (bs_meeting_round y h)) (cl_meeting_round rfl rfl rfl)
theorem fn_law (T : Top K mg) {f : Addr} {fd : FuncData} (F : Fun K "law" "law" (txt 32) f fd) : FnOk P w K mg base CX0 6 f fd P_law (spF K (semF csL 1 N_law.length B_law)) := fn_ok F S_law rfl n_law k_law (List.forall_mem_cons.mpr ⟨(rd__law_draw_right T).mono (by omega), (List.forall_mem_cons.mpr ⟨(rd__law_pool T).mono (by omega), (List.forall_mem_cons.mpr ⟨(rd__law_take T).mono (by omega), (List.forall_mem_cons.mpr ⟨(rd__law_seeded T).mono (by omega), (List.forall_mem_cons.mpr ⟨(rd__law_bent T).mono (by omega), (List.forall_mem_cons.mpr ⟨(rd__law_says T).mono (by omega), (List.forall_mem_cons.mpr ⟨(rd_is_seeded T).mono (by omega), (List.forall_mem_cons.mpr ⟨(rd__law_is_seeded T).mono (by omega), (List.forall_mem_cons.mpr ⟨(rd__law_meeting T).mono (by omega), (List.forall_mem_cons.mpr ⟨(rd__law_alike T).mono (by omega), (List.forall_mem_cons.mpr ⟨(rd_meeting_round T).mono (by omega), (fun _ h => absurd h List.not_mem_nil)⟩)⟩)⟩)⟩)⟩)⟩)⟩)⟩)⟩)⟩)⟩) (fun x d h => T.con x d h) (fun y h => T.blt y (bs_law y h))
end
end Ev
open PySem PySem.W PyProof.Rows
set_option maxHeartbeats 0 in
theorem PySem.Challenge.cw_eachagainst_k56_whole_seeded_draws_holds : PySem.Challenge.rw_eachagainst_k56_whole_seeded_draws.Holds := by
  w_on; o_law; k_head; (case hw => w_witness2)
  k_fill
  refine L2.walk_ofK (l := PySem.Challenge.rw_eachagainst_k56_whole_seeded_draws) (n := 63) (k := 6) (x := "script") (CX := L2.CX0) (sp := Ev.spLaw) rfl (by decide) rfl ⟨rfl, by decide, by decide⟩ (fun w h Y => PySem.W.kIn_of Y) ?F (fun _ _ a ns hl _ hS => ⟨a, ns, rfl, hS, hl, fun _ => rfl⟩) (fun _ _ _ _ h => h)
  case F =>
    intro w mg fa h KX G hmg
    have d_is_size : Ev.DefAt (L2.KOf KX) mg "is_size" (Ev.txt 10) := by
      refine' Ev.def_mk KX G ?a ?l ?c ?k
      (case a => k_is); (case l => k_is); (case c => k_is); (case k => k_is)
    have d_check_size : Ev.DefAt (L2.KOf KX) mg "check_size" (Ev.txt 17) := by
      refine' Ev.def_mk KX G ?a ?l ?c ?k
      (case a => k_is); (case l => k_is); (case c => k_is); (case k => k_is)
    have d_doubled : Ev.DefAt (L2.KOf KX) mg "doubled" (Ev.txt 11) := by
      refine' Ev.def_mk KX G ?a ?l ?c ?k
      (case a => k_is); (case l => k_is); (case c => k_is); (case k => k_is)
    have d_seeded_by : Ev.DefAt (L2.KOf KX) mg "seeded_by" (Ev.txt 12) := by
      refine' Ev.def_mk KX G ?a ?l ?c ?k
      (case a => k_is); (case l => k_is); (case c => k_is); (case k => k_is)
    have d_seeded : Ev.DefAt (L2.KOf KX) mg "seeded" (Ev.txt 18) := by
      refine' Ev.def_mk KX G ?a ?l ?c ?k
      (case a => k_is); (case l => k_is); (case c => k_is); (case k => k_is)
    have d__law_alike : Ev.DefAt (L2.KOf KX) mg "_law_alike" (Ev.txt 24) := by
      refine' Ev.def_mk KX G ?a ?l ?c ?k
      (case a => k_is); (case l => k_is); (case c => k_is); (case k => k_is)
    have d__law_seeded : Ev.DefAt (L2.KOf KX) mg "_law_seeded" (Ev.txt 27) := by
      refine' Ev.def_mk KX G ?a ?l ?c ?k
      (case a => k_is); (case l => k_is); (case c => k_is); (case k => k_is)
    have d_same_numbers : Ev.DefAt (L2.KOf KX) mg "same_numbers" (Ev.txt 14) := by
      refine' Ev.def_mk KX G ?a ?l ?c ?k
      (case a => k_is); (case l => k_is); (case c => k_is); (case k => k_is)
    have d_is_seeded_by : Ev.DefAt (L2.KOf KX) mg "is_seeded_by" (Ev.txt 13) := by
      refine' Ev.def_mk KX G ?a ?l ?c ?k
      (case a => k_is); (case l => k_is); (case c => k_is); (case k => k_is)
    have d_is_seeded : Ev.DefAt (L2.KOf KX) mg "is_seeded" (Ev.txt 19) := by
      refine' Ev.def_mk KX G ?a ?l ?c ?k
      (case a => k_is); (case l => k_is); (case c => k_is); (case k => k_is)
    have d__law_draw_right : Ev.DefAt (L2.KOf KX) mg "_law_draw_right" (Ev.txt 30) := by
      refine' Ev.def_mk KX G ?a ?l ?c ?k
      (case a => k_is); (case l => k_is); (case c => k_is); (case k => k_is)
    have d__law_pool : Ev.DefAt (L2.KOf KX) mg "_law_pool" (Ev.txt 22) := by
      refine' Ev.def_mk KX G ?a ?l ?c ?k
      (case a => k_is); (case l => k_is); (case c => k_is); (case k => k_is)
    have d__law_take : Ev.DefAt (L2.KOf KX) mg "_law_take" (Ev.txt 23) := by
      refine' Ev.def_mk KX G ?a ?l ?c ?k
      (case a => k_is); (case l => k_is); (case c => k_is); (case k => k_is)
    have d__law_bent : Ev.DefAt (L2.KOf KX) mg "_law_bent" (Ev.txt 31) := by
      refine' Ev.def_mk KX G ?a ?l ?c ?k
      (case a => k_is); (case l => k_is); (case c => k_is); (case k => k_is)
    have d__law_says : Ev.DefAt (L2.KOf KX) mg "_law_says" (Ev.txt 26) := by
      refine' Ev.def_mk KX G ?a ?l ?c ?k
      (case a => k_is); (case l => k_is); (case c => k_is); (case k => k_is)
    have d__law_whole : Ev.DefAt (L2.KOf KX) mg "_law_whole" (Ev.txt 25) := by
      refine' Ev.def_mk KX G ?a ?l ?c ?k
      (case a => k_is); (case l => k_is); (case c => k_is); (case k => k_is)
    have d__law_is_seeded : Ev.DefAt (L2.KOf KX) mg "_law_is_seeded" (Ev.txt 28) := by
      refine' Ev.def_mk KX G ?a ?l ?c ?k
      (case a => k_is); (case l => k_is); (case c => k_is); (case k => k_is)
    have d__law_meeting : Ev.DefAt (L2.KOf KX) mg "_law_meeting" (Ev.txt 29) := by
      refine' Ev.def_mk KX G ?a ?l ?c ?k
      (case a => k_is); (case l => k_is); (case c => k_is); (case k => k_is)
    have d_is_whole : Ev.DefAt (L2.KOf KX) mg "is_whole" (Ev.txt 4) := by
      refine' Ev.def_mk KX G ?a ?l ?c ?k
      (case a => k_is); (case l => k_is); (case c => k_is); (case k => k_is)
    have d_is_between : Ev.DefAt (L2.KOf KX) mg "is_between" (Ev.txt 5) := by
      refine' Ev.def_mk KX G ?a ?l ?c ?k
      (case a => k_is); (case l => k_is); (case c => k_is); (case k => k_is)
    have d_check_number : Ev.DefAt (L2.KOf KX) mg "check_number" (Ev.txt 7) := by
      refine' Ev.def_mk KX G ?a ?l ?c ?k
      (case a => k_is); (case l => k_is); (case c => k_is); (case k => k_is)
    have d_meeting_round_by : Ev.DefAt (L2.KOf KX) mg "meeting_round_by" (Ev.txt 15) := by
      refine' Ev.def_mk KX G ?a ?l ?c ?k
      (case a => k_is); (case l => k_is); (case c => k_is); (case k => k_is)
    have d_meeting_round : Ev.DefAt (L2.KOf KX) mg "meeting_round" (Ev.txt 20) := by
      refine' Ev.def_mk KX G ?a ?l ?c ?k
      (case a => k_is); (case l => k_is); (case c => k_is); (case k => k_is)
    have d_law : Ev.DefAt (L2.KOf KX) mg "law" (Ev.txt 32) := by
      refine' Ev.def_mk KX G ?a ?l ?c ?k
      (case a => k_is); (case l => k_is); (case c => k_is); (case k => k_is)
    have hb : ∀ x ∈ Ev.allBlt, mg x = none := by
      repeat' (first | exact Ev.blts_nil | refine Ev.blts_cons KX G (by k_is) ?_)
    have c_SIZES : Ev.ConOk (L2.KOf KX) mg "SIZES" Ev.c_SIZES := by
      refine' Ev.con_ints (ns := [1, 2, 4, 8, 16, 32, 64]) KX G ?a ?l ?e
      (case a => k_is); (case l => k_is); (case e => decide +kernel)
    have hc : ∀ (x : PySem.Str) (d : Ev.D), Ev.allCon.lookup x = some d → Ev.ConOk (L2.KOf KX) mg x d := fun x d hx => by
      have hm := PySem.mem_of_lookup hx
      simp only [Ev.allCon, List.mem_cons, List.not_mem_nil, or_false] at hm
      rcases hm with hm
      · cases hm; exact c_SIZES
    exact Ev.law_mk d_law hmg Ev.b_law (Ev.law_true ⟨rfl, rfl, rfl, rfl, ⟨Ev.csB, rfl, rfl⟩, rfl, rfl, rfl, rfl, rfl, rfl⟩) fun base _ _ f fd F => Ev.fn_law ⟨d_is_size, d_check_size, d_doubled, d_seeded_by, d_seeded, d__law_alike, d__law_seeded, d_same_numbers, d_is_seeded_by, d_is_seeded, d__law_draw_right, d__law_pool, d__law_take, d__law_bent, d__law_says, d__law_whole, d__law_is_seeded, d__law_meeting, d_is_whole, d_is_between, d_check_number, d_meeting_round_by, d_meeting_round, d_law, hc, hb⟩ F

