import PyProof.Rows.All
import Wide.All
import OpenK.AllK
import Wide.FinOn
import PySem.Challenge.RW_stairworks_k76_fits_and_rests
import PyProof.EqAt
import PyProof.EqKinds
import PyProof.TupleCall
import Open.SpecLaws
import KE.OsGo
import HandS.ForSpec
import HandS.ForMost
import HandS.ForExc
import KE.LtData
import KE.DataCmp
import KE.DataEq
import KE.DataIsa
import KE.DataAny
import KE.DataFind
import KE.DataMinMax
import HandS.TupMul
import HandS.TupAny
import HandS.Wide
import HandS.TupLe
import HandS.IsInst
import HandS.Rev
import HandS.Flow
import HandS.Zip
import KE.KTupSum
import KE.KEqDict
import HandS.SortInts
import PyProof.TupleOfSeq
import HandS.SortRule
import HandS.SortKw
import HandS.Style
import HandS.More
import KE.KExcSuper
import HandS.ExcCtx
import HandS.HotCalls
import HandS.SetFor
import HandS.NoneIn
import HandS.Hot
import PyProof.TupleIter
import KE.GoesEnum
import HandS.ExcField
import HandS.ExcInit
import HandS.ExcOwn
import KE.KExcIs
import HandS.Conv
import KE.DatumIndex
import HandS.EndBits
set_option Elab.async false
set_option linter.all false
set_option maxRecDepth 100000
set_option maxHeartbeats 8000000
/-! Layer G, part 0: a small deep syntax and its weakest preconditions over plain data. -/
namespace G
open PySem L2

abbrev PD := PyData
/-- a value: plain data that stands still, the k-th mutable object, or the exception that a suite holds (its address, its dict's; its class's name, the field it keeps, the value kept) -/
inductive S where
  | d (x : PD)
  | l (k : Nat)
  | e (a dd : Nat) (cls fld : Str) (val : S)
/-- an exception: its class's name, the field it keeps, the value kept -/
structure Xc where
  cls : Str
  fld : Str
  val : S
inductive MO where
  | lst (xs : List S)
  | dct (kvs : List (Key × S))
  | tpl (xs : List S)
  | fz (o : Obj) (kv : List (L2.Key × L2.V))
abbrev Mem := List MO
abbrev Sto := List (Option S)
abbrev Comp (α : Type) := Mem → (α → Mem → Prop) → (Xc → Mem → Prop) → Prop
abbrev FSpec := List S → Comp S

/-! ### the syntax -/
inductive Tg where
  | nm (i : Nat)
  | tp (ts : List Tg)
inductive B1 where
  | len | tuple | list | int | bool | str | repr | abs | sum | all | any | max | min | sorted | sortedR | fact | set | sortedP | setL | tupR
  deriving DecidableEq
inductive B2 where
  | max | min | gcd
  deriving DecidableEq
mutual
inductive E where
  | var (i : Nat)
  | cst (c : PD)
  | neg (a : E)
  | not (a : E)
  | and (a b : E)
  | or (a b : E)
  | ite (c a b : E)
  | bin (o : Operator) (a b : E)
  | cmp (o : CmpOp) (a b : E)
  | chain (o p : CmpOp) (a b c : E)
  | tup (es : Es)
  | fr (f : F)
  | al (f : F)
  | ddisp (ks : List Str) (es : Es)
  | ix (a b : E)
  | sl (a : E) (lo hi : Oe)
  | rev (a : E)
  | call (f : Str) (es : Es)
  | callK (f : Str) (es : Es) (ns : List Str) (ks : Es)
  | b1 (f : B1) (a : E)
  | b2 (f : B2) (a b : E)
  | isI (a : E) (ts : List String)
  | isX (a : E) (cs : List Str)
  | xval (a : E) (f : Str)
  | get (d k x : E)
  | pop (a : E)
  | popAt (a b : E)
  | index (a b : E)
  | indexT (a b : E)
  | mtup (es : Es)
  | dnew
  | dix (a b : E)
inductive Es where
  | nil
  | cons (e : E) (es : Es)
inductive Oe where
  | none
  | some (e : E)
/-- what makes a new list -/
inductive F where
  | disp (es : Es)
  | comp (e : E) (t : Tg) (it : It) (c : Oe)
  | comp2 (e : E) (t : Tg) (it : It) (u : Tg) (ju : It) (c : Oe)
  | listOf (a : E)
  | cat (a b : E)
  | rep (a b : E)
  | slice (a : E) (lo hi : Oe)
  | lrng (a : E)
inductive It where
  | of (e : E)
  | rng (es : Es)
  | enum (e : E)
  | zip (a b : E)
  | rev (e : E)
  | keys (e : E)
end
mutual
inductive St where
  | asg (t : Tg) (e : E)
  | setIx (a b e : E)
  | par (i j : Nat) (a b : E)
  | aug (i : Nat) (o : Operator) (e : E)
  | augIx (a b : E) (o : Operator) (e : E)
  | expr (e : E)
  | app (a e : E)
  | ext (a e : E)
  | ins (a b e : E)
  | ret (e : E)
  | retN
  | cond (c : E) (a b : Ss)
  | loop (t : Tg) (it : It) (b : Ss)
  | whl (c : E) (b : Ss)
  | raise (c : Str) (e : E)
  | tryX (b : Ss) (hs : Hs)
  | pass
  | brk
  | cont
  | any
  | parIx (a i b j e f : E)
  | unp (ts : List Tg) (e : E)
  | dput (a b e : E)
inductive Ss where
  | nil
  | cons (s : St) (ss : Ss)
inductive Hs where
  | nil
  | cons (c : Str) (i : Nat) (b : Ss) (hs : Hs)
end

/-! ### values -/
@[reducible] def I (i : Int) : S := .d (.int i)
@[reducible] def B (b : Bool) : S := .d (.bool b)
@[reducible] def N0 : S := .d .none

def S.data : S → Option PD
  | .d x => some x
  | _ => none
def dataAll : List S → Option (List PD)
  | [] => some []
  | .d x :: r => (dataAll r).map (x :: ·)
  | .l _ :: _ => none
  | .e .. :: _ => none
theorem dataAll_map (xs : List PD) : dataAll (xs.map S.d) = some xs := by
  induction xs with
  | nil => rfl
  | cons x r ih => simp [dataAll, ih]
theorem dataAll_some : ∀ {ss : List S} {xs : List PD}, dataAll ss = some xs → ss = xs.map S.d
  | [], xs, h => by cases h; rfl
  | .d x :: r, xs, h => by
    cases e : dataAll r with
    | none => rw [dataAll, e] at h; cases h
    | some ys =>
      rw [dataAll, e] at h
      cases h
      rw [dataAll_some e]
      rfl
  | .l _ :: _, _, h => by cases h
  | .e .. :: _, _, h => by cases h
/-- the items of a list or tuple -/
def items (M : Mem) : S → Option (List S)
  | .d (.list xs) => some (xs.map .d)
  | .d (.tuple xs) => some (xs.map .d)
  | .l k => match M[k]? with
    | some (.lst xs) => some xs
    | _ => none
  | _ => none
/-- a value as plain data, where it is a list of plain data, too -/
def pd (M : Mem) : S → Option PD
  | .d x => some x
  | .l k => match M[k]? with
    | some (.lst xs) => (dataAll xs).map .list
    | _ => none
  | .e .. => none

/-! ### primitives -/
/-- .. or lists of such lists -/
def pdAll (M : Mem) : List S → Option (List PD)
  | [] => some []
  | x :: r => match pd M x, pdAll M r with
    | some a, some b => some (a :: b)
    | _, _ => none
def pd2 (M : Mem) : S → Option PD
  | .l k => match M[k]? with
    | some (.lst xs) => (pdAll M xs).map .list
    | _ => none
  | x => pd M x
def isTy : String → PD → Bool
  | "int", .int _ => true
  | "int", .bool _ => true
  | "bool", .bool _ => true
  | "str", .str _ => true
  | "list", .list _ => true
  | "tuple", .tuple _ => true
  | "dict", .dict _ => true
  | _, _ => false
def isTyS (M : Mem) (t : String) : S → Option Bool
  | .d x => some (isTy t x)
  | .l k => match M[k]? with
    | some (.lst _) => some (t == "list")
    | some (.dct _) => some (t == "dict")
    | some (.tpl _) => none
    | some (.fz _ _) => none
    | none => none
  | .e .. => none
def truth (M : Mem) : S → Option Bool
  | .d .none => some false
  | .d (.bool b) => some b
  | .d (.int i) => some (i != 0)
  | .d (.list xs) => some (!xs.isEmpty)
  | .d (.tuple xs) => some (!xs.isEmpty)
  | .l k => match M[k]? with
    | some (.lst xs) => some (!xs.isEmpty)
    | _ => none
  | _ => none

/-- data that may be compared: no dict within, not too deep -/
def okD (x : PD) : Bool := x.plain && decide (x.depth ≤ 60)
/-- a product that the machine can hold -/
def MulOk (i j : Int) : Prop := CMul i j ∨ i.natAbs.log2 + j.natAbs.log2 < 1000000
def DivOk (j i : Int) : Prop := 0 < j ∧ (j < 1073741824 ∨ j.natAbs.log2 < 9000 ∨ Builtin.divisionGoesByPylong i j = false)
def PowOk (i j : Int) : Prop := 0 ≤ j ∧ j ≤ 1000000 ∧ i.natAbs < 2 ^ 64

def wBin (o : Operator) (x y : S) (M : Mem) (Q : S → Mem → Prop) : Prop :=
  match o, x, y with
  | .Add, .d (.int i), .d (.int j) => Q (I (i + j)) M
  | .Sub, .d (.int i), .d (.int j) => Q (I (i - j)) M
  | .Mult, .d (.int i), .d (.int j) => MulOk i j ∧ Q (I (i * j)) M
  | .FloorDiv, .d (.int i), .d (.int j) => DivOk j i ∧ Q (I (i / j)) M
  | .Mod, .d (.int i), .d (.int j) => 0 < j ∧ Q (I (i % j)) M
  | .Pow, .d (.int i), .d (.int j) => PowOk i j ∧ Q (I (i ^ j.toNat)) M
  | .LShift, .d (.int i), .d (.int j) => PowOk i j ∧ Q (I (i * 2 ^ j.toNat)) M
  | .Add, .d (.tuple xs), .d (.tuple ys) => xs.length + ys.length ≤ sizeLine ∧ Q (.d (.tuple (xs ++ ys))) M
  | .Add, .d (.str a), .d (.str b) => a.length + b.length ≤ sizeLine ∧ Q (.d (.str (a ++ b))) M
  | .Mult, .d (.tuple xs), .d (.int j) => (xs ≠ [] ∧ xs.length ≤ 1000 ∧ 0 ≤ j ∧ j ≤ 1000) ∧ Q (.d (.tuple (List.replicate j.toNat xs).flatten)) M
  | _, _, _ => False

/-- the lexicographic order of rows of ints, as Lean's lists have it -/
def intsOf : List PD → Option (List Int)
  | [] => some []
  | .int i :: r => (intsOf r).map (i :: ·)
  | _ :: _ => none
theorem intsOf_map (ns : List Int) : intsOf (ns.map PyData.int) = some ns := by
  induction ns with
  | nil => rfl
  | cons x r ih => simp [intsOf, ih]
theorem intsOf_some : ∀ {xs : List PD} {ns : List Int}, intsOf xs = some ns → xs = ns.map PyData.int
  | [], ns, h => by cases h; rfl
  | .int i :: r, ns, h => by
    cases e : intsOf r with
    | none => rw [intsOf, e] at h; cases h
    | some ys =>
      rw [intsOf, e] at h
      cases h
      rw [intsOf_some e]
      rfl
  | .none :: _, _, h => by cases h
  | .bool _ :: _, _, h => by cases h
  | .str _ :: _, _, h => by cases h
  | .list _ :: _, _, h => by cases h
  | .tuple _ :: _, _, h => by cases h
  | .dict _ :: _, _, h => by cases h

def wOrd (f : PD → PD → Bool) (g : Int → Int → Bool) (x y : S) (M : Mem) (Q : S → Mem → Prop) : Prop :=
  match x, y with
  | .d (.int i), .d (.int j) => Q (B (g i j)) M
  | .d (.tuple xs), .d (.tuple ys) => (okD (.tuple xs) = true ∧ okD (.tuple ys) = true ∧ PySem.W.alike (.tuple xs) (.tuple ys) = true) ∧ Q (B (f (.tuple xs) (.tuple ys))) M
  | _, _ => False
def wEq (x y : PD) (f : Bool → Bool) (M : Mem) (Q : S → Mem → Prop) : Prop :=
  okD x = true ∧ okD y = true ∧ Q (B (f (PyData.eqv x y))) M
/-- ==, a dict without members beside a tuple too -/
def wEqD (x y : PD) (M : Mem) (Q : S → Mem → Prop) : Prop :=
  match x, y with
  | .dict [], .tuple _ => Q (B false) M
  | x, y => wEq x y id M Q
def wIn (x : S) (y : S) (f : Bool → Bool) (M : Mem) (Q : S → Mem → Prop) : Prop :=
  match x, y with
  | .d a, .d (.list ys) => (okD a = true ∧ okD (.list ys) = true) ∧ Q (B (f (ys.any fun z => PyData.eqv z a))) M
  | .d a, .d (.tuple ys) => (okD a = true ∧ okD (.tuple ys) = true) ∧ Q (B (f (ys.any fun z => PyData.eqv z a))) M
  | _, _ => False
/-! ### dicts that may change, their keys ints and texts -/
def keyOf : PD → Option Key
  | .int i => some (.inl i)
  | .str x => some (.inr x)
  | _ => none
def lookK (kvs : List (Key × S)) (k : Key) : Option S := (kvs.find? fun p => decide (p.1 = k)).map (·.2)
/-- in its place, or at the end -/
def setK (kvs : List (Key × S)) (k : Key) (v : S) : List (Key × S) :=
  if (kvs.any fun p => decide (p.1 = k)) = true then kvs.map (fun p => if p.1 = k then (p.1, v) else p) else kvs ++ [(k, v)]
def dAt (M : Mem) (x y : S) (R : List (Key × S) → Key → Nat → Prop) : Prop :=
  match x, y with
  | .l n, .d z => ∃ kvs k, M[n]? = some (.dct kvs) ∧ keyOf z = some k ∧ R kvs k n
  | _, _ => False
def wCmp (o : CmpOp) (x y : S) (M : Mem) (Q : S → Mem → Prop) : Prop :=
  match o with
  | .Lt => wOrd PySem.W.dataLt (fun i j => decide (i < j)) x y M Q
  | .LtE => wOrd (fun x y => !PySem.W.dataLt y x) (fun i j => decide (i ≤ j)) x y M Q
  | .Gt => wOrd (fun x y => PySem.W.dataLt y x) (fun i j => decide (j < i)) x y M Q
  | .GtE => wOrd (fun x y => !PySem.W.dataLt x y) (fun i j => decide (j ≤ i)) x y M Q
  | .Eq => match pd2 M x, pd2 M y with
    | some a, some b => wEqD a b M Q
    | _, _ => False
  | .NotEq => match pd M x, pd M y with
    | some a, some b => wEq a b (!·) M Q
    | _, _ => False
  | .Is => match x, y with
    | .d .none, .d .none => Q (B true) M
    | .d (.bool a), .d (.bool b) => Q (B (a == b)) M
    | .d (.int _), .d .none => Q (B false) M
    | .d (.bool _), .d .none => Q (B false) M
    | .d (.str _), .d .none => Q (B false) M
    | .d (.tuple _), .d .none => Q (B false) M
    | .d (.list _), .d .none => Q (B false) M
    | .l _, .d .none => Q (B false) M
    | _, _ => False
  | .IsNot => match x, y with
    | .d .none, .d .none => Q (B false) M
    | .d (.bool a), .d (.bool b) => Q (B (!(a == b))) M
    | .d (.int _), .d .none => Q (B true) M
    | .d (.bool _), .d .none => Q (B true) M
    | .d (.str _), .d .none => Q (B true) M
    | .d (.tuple _), .d .none => Q (B true) M
    | .d (.list _), .d .none => Q (B true) M
    | .l _, .d .none => Q (B true) M
    | _, _ => False
  | .In => match pd M x, pd M y with
    | some a, some b => wIn (.d a) (.d b) id M Q
    | _, _ => dAt M y x fun kvs k _ => Q (B (lookK kvs k).isSome) M
  | .NotIn => match pd M x, pd M y with
    | some a, some b => wIn (.d a) (.d b) (!·) M Q
    | _, _ => dAt M y x fun kvs k _ => Q (B (!(lookK kvs k).isSome)) M

/-- item i of a list or tuple -/
def wIx (x y : S) (M : Mem) (Q : S → Mem → Prop) : Prop :=
  match x, y with
  | .d (.list xs), .d (.int i) => ∃ v, atI xs i = some v ∧ Q (.d v) M
  | .d (.tuple xs), .d (.int i) => ∃ v, atI xs i = some v ∧ Q (.d v) M
  | .l k, .d (.int i) => ∃ xs v, M[k]? = some (.lst xs) ∧ atI xs i = some v ∧ Q v M
  | .l k, .d (.str z) => ∃ kvs v, M[k]? = some (.dct kvs) ∧ lookK kvs (.inr z) = some v ∧ Q v M
  | _, _ => False
/-- what a dict holds at a key -/
def wDix (x y : S) (M : Mem) (Q : S → Mem → Prop) : Prop := dAt M x y fun kvs k _ => ∃ v, lookK kvs k = some v ∧ Q v M
def cut {α : Type} (xs : List α) (lo hi : Option Int) : List α := (xs.drop (HT.sIx xs.length 0 lo)).take (HT.sIx xs.length xs.length hi - HT.sIx xs.length 0 lo)
def wSl (x : S) (lo hi : Option Int) (M : Mem) (Q : S → Mem → Prop) : Prop :=
  match x with
  | .d (.list xs) => Q (.d (.list (cut xs lo hi))) M
  | .d (.tuple xs) => Q (.d (.tuple (cut xs lo hi))) M
  | .l k => ∃ xs, M[k]? = some (.lst (xs.map .d)) ∧ Q (.d (.list (cut xs lo hi))) M
  | _ => False

def int? : S → Option Int
  | .d (.int i) => some i
  | _ => none

/-- a pair of ints; by the first, then by the second -/
def twoI (p : Int × Int) : PD := .tuple [.int p.1, .int p.2]
def leI (p q : Int × Int) : Prop := p.1 < q.1 ∨ (p.1 = q.1 ∧ p.2 ≤ q.2)
def wB1 (f : B1) (x : S) (M : Mem) (Q : S → Mem → Prop) : Prop :=
  match f with
  | .len => ∃ xs, items M x = some xs ∧ Q (I xs.length) M
  | .tuple => match x with
    | .d (.tuple xs) => Q (.d (.tuple xs)) M
    | .d (.list xs) => Q (.d (.tuple xs)) M
    | .l k => ∃ xs, M[k]? = some (.lst (xs.map .d)) ∧ Q (.d (.tuple xs)) M
    | _ => False
  | .list => ∃ xs, items M x = some (xs.map .d) ∧ Q (.d (.list xs)) M
  | .int => match x with
    | .d (.int i) => Q (I i) M
    | .d (.bool b) => Q (I (if b then 1 else 0)) M
    | _ => False
  | .bool => match x with
    | .d (.int i) => Q (B (i != 0)) M
    | .d (.bool b) => Q (B b) M
    | _ => False
  | .str => match x with
    | .d (.int i) => i.natAbs.log2 < 1920 ∧ Q (.d (.str (toString i))) M
    | _ => False
  | .repr => ∃ a, pd M x = some a ∧ ((a.hasDict = false ∨ a = .dict [] ∨ ∃ i j : Int, a = .dict [(.int i, .int j)]) ∧ a.showable = true ∧ a.shown.length ≤ sizeLine ∧ a.depth ≤ 60) ∧ Q (.d (.str a.shown)) M
  | .abs => match x with
    | .d (.int i) => Q (I (if i < 0 then -i else i)) M
    | _ => False
  | .sum => ∃ ns : List Int, items M x = some (ns.map I) ∧ Q (I ns.sum) M
  | .all => ∃ bs : List Bool, items M x = some (bs.map B) ∧ Q (B (bs.all id)) M
  | .any => ∃ bs : List Bool, items M x = some (bs.map B) ∧ Q (B (bs.any id)) M
  | .max => ∃ y ys, items M x = some ((y :: ys).map .d) ∧ (okD (.list (y :: ys)) = true ∧ PySem.W.AlikeAll (y :: ys)) ∧ Q (.d (PySem.W.maxD y ys)) M
  | .min => ∃ y ys, items M x = some ((y :: ys).map .d) ∧ (okD (.list (y :: ys)) = true ∧ PySem.W.AlikeAll (y :: ys)) ∧ Q (.d (PySem.W.minD y ys)) M
  | .set => match x with
    | .d (.list xs) => ∃ ns : List Int, xs = ns.map .int ∧ (ns.Nodup ∧ ns.length ≤ 4000) ∧ Q (I ns.length) M
    | .d (.tuple xs) => ∃ ns : List Int, xs = ns.map .int ∧ (ns.Nodup ∧ ns.length ≤ 4000) ∧ Q (I ns.length) M
    | .l k => ∃ ns : List Int, M[k]? = some (.lst ((ns.map PyData.int).map .d)) ∧ (ns.Nodup ∧ ns.length ≤ 4000) ∧ Q (I ns.length) M
    | _ => False
  | .sorted => match x with
    | .d (.tuple xs) => ∃ ns : List Int, xs = ns.map .int ∧ ∀ ns' : List Int, ns'.Perm ns → ns'.Pairwise (· ≤ ·) → Q (.d (.list (ns'.map .int))) M
    | .d (.list xs) => ∃ ns : List Int, xs = ns.map .int ∧ ∀ ns' : List Int, ns'.Perm ns → ns'.Pairwise (· ≤ ·) → Q (.d (.list (ns'.map .int))) M
    | .l k => ∃ ns : List Int, M[k]? = some (.lst ((ns.map PyData.int).map .d)) ∧ ∀ ns' : List Int, ns'.Perm ns → ns'.Pairwise (· ≤ ·) → Q (.d (.list (ns'.map .int))) M
    | _ => False
  | .sortedR => match x with
    | .d (.tuple xs) => ∃ ns : List Int, xs = ns.map .int ∧ ∀ ns' : List Int, ns'.Perm ns → ns'.Pairwise (· ≥ ·) → Q (.d (.list (ns'.map .int))) M
    | .d (.list xs) => ∃ ns : List Int, xs = ns.map .int ∧ ∀ ns' : List Int, ns'.Perm ns → ns'.Pairwise (· ≥ ·) → Q (.d (.list (ns'.map .int))) M
    | .l k => ∃ ns : List Int, M[k]? = some (.lst ((ns.map PyData.int).map .d)) ∧ ∀ ns' : List Int, ns'.Perm ns → ns'.Pairwise (· ≥ ·) → Q (.d (.list (ns'.map .int))) M
    | _ => False
  | .sortedP => match x with
    | .d (.list xs) => ∃ ps : List (Int × Int), xs = ps.map twoI ∧ ∀ ps' : List (Int × Int), ps'.Perm ps → ps'.Pairwise leI → Q (.d (.list (ps'.map twoI))) M
    | .l k => ∃ ps : List (Int × Int), M[k]? = some (.lst ((ps.map twoI).map .d)) ∧ ∀ ps' : List (Int × Int), ps'.Perm ps → ps'.Pairwise leI → Q (.d (.list (ps'.map twoI))) M
    | _ => False
  | .setL => match x with
    | .d (.list xs) => ∃ ns : List Int, xs = ns.map .int ∧ ns.length ≤ 4000 ∧ ∀ ks : List Int, ks.Nodup → (∀ z, z ∈ ks ↔ z ∈ ns) → Q (I ks.length) M
    | _ => False
  | .tupR => match x with
    | .d (.list xs) => Q (.d (.tuple xs.reverse)) M
    | .l k => ∃ xs : List PD, M[k]? = some (.lst (xs.map .d)) ∧ Q (.d (.tuple xs.reverse)) M
    | _ => False
  | _ => False
def wB2 (f : B2) (x y : S) (M : Mem) (Q : S → Mem → Prop) : Prop :=
  match f, x, y with
  | .max, .d (.int i), .d (.int j) => Q (I (if j > i then j else i)) M
  | .min, .d (.int i), .d (.int j) => Q (I (if j < i then j else i)) M
  | _, _, _ => False

def wRev (x : S) (M : Mem) (Q : S → Mem → Prop) : Prop :=
  match x with
  | .d (.list xs) => Q (.d (.list xs.reverse)) M
  | .d (.tuple xs) => Q (.d (.tuple xs.reverse)) M
  | .l k => ∃ xs : List PD, M[k]? = some (.lst (xs.map .d)) ∧ Q (.d (.list xs.reverse)) M
  | _ => False
def wGet (x y z : S) (M : Mem) (Q : S → Mem → Prop) : Prop := dAt M x y fun kvs k _ => Q ((lookK kvs k).getD z) M
def wPop (x : S) (M : Mem) (Q : S → Mem → Prop) : Prop :=
  match x with
  | .l k => ∃ xs v, M[k]? = some (.lst xs) ∧ xs[xs.length - 1]? = some v ∧ Q v (M.set k (.lst xs.dropLast))
  | _ => False
def wPopAt (x y : S) (M : Mem) (Q : S → Mem → Prop) : Prop :=
  match x, y with
  | .l k, .d (.int i) => ∃ xs j v, M[k]? = some (.lst xs) ∧ (-(2 ^ 63) ≤ i ∧ i < 2 ^ 63) ∧ ixN xs.length i = some j ∧ xs[j]? = some v ∧ Q v (M.set k (.lst (xs.eraseIdx j)))
  | _, _ => False

/-! ### weakest preconditions -/
structure Env where
  Φ : Str → Option FSpec
  /-- the order of a def's parameters -/
  ps : Str → List Str
  /-- the exception that the suite holds -/
  cur : Option S
  /-- the classes above a class, itself first -/
  mro : Str → Option (List Str)

/-- an item of what is walked: one value, or a new tuple of values -/
def keyPD : Key → PD
  | .inl i => .int i
  | .inr x => .str x
inductive Itm where
  | one (s : S)
  | many (ss : List S)
mutual
def wTg : Tg → Itm → Sto → (Sto → Prop) → Prop
  | .nm i, .one s, ρ, Q => Q (ρ.set i (some s))
  | .nm i, .many ss, ρ, Q => ∃ xs, dataAll ss = some xs ∧ Q (ρ.set i (some (.d (.tuple xs))))
  | .tp ts, .one (.d (.tuple xs)), ρ, Q => xs.length = ts.length ∧ wTgs ts (xs.map .d) ρ Q
  | .tp ts, .one (.d (.list xs)), ρ, Q => xs.length = ts.length ∧ wTgs ts (xs.map .d) ρ Q
  | .tp ts, .many ss, ρ, Q => ss.length = ts.length ∧ wTgs ts ss ρ Q
  | .tp _, .one _, _, _ => False
def wTgs : List Tg → List S → Sto → (Sto → Prop) → Prop
  | [], [], ρ, Q => Q ρ
  | t :: ts, s :: ss, ρ, Q => wTg t (.one s) ρ fun ρ1 => wTgs ts ss ρ1 Q
  | _, _, _, _ => False
end

mutual
def tgSlots : Tg → List Nat
  | .nm i => [i]
  | .tp ts => tgSlotss ts
def tgSlotss : List Tg → List Nat
  | [] => []
  | t :: ts => tgSlots t ++ tgSlotss ts
end
def wipeS (ρ : Sto) : List Nat → Sto
  | [] => ρ
  | i :: is => (wipeS ρ is).set i none
def tgAt (t : Tg) (ρ : Sto) : Itm → (Sto → Prop) → Prop := fun x k => wTg t x ρ k
/-- [e for t in items if c] over items -/
def wLc (tg : Itm → (Sto → Prop) → Prop) (ok : Mem → Prop) (cond : Sto → Comp Bool) (e : Sto → Comp S) : List Itm → List S → Comp (List S)
  | [], acc, M, Q, _ => ok M ∧ Q acc M
  | x :: xs, acc, M, Q, E => ok M ∧ tg x fun ρ => cond ρ M (fun b M1 => if b = true then e ρ M1 (fun v M2 => wLc tg ok cond e xs (acc ++ [v]) M2 Q E) E else wLc tg ok cond e xs acc M1 Q E) E

/-- [e for t in items for u in source if c], from acc on -/
def wLcK (tg : Itm → (Sto → Prop) → Prop) (ok : Mem → Prop) (cond : Sto → Comp Bool) (e : Sto → Comp S) : List Itm → List S → Mem → (List S → Mem → Prop) → Prop
  | [], acc, M, Q => ok M ∧ Q acc M
  | x :: xs, acc, M, Q => ok M ∧ tg x fun ρ => cond ρ M (fun b M1 => if b = true then e ρ M1 (fun v M2 => acc.length < sizeLine ∧ wLcK tg ok cond e xs (acc ++ [v]) M2 Q) (fun _ _ => False) else wLcK tg ok cond e xs acc M1 Q) (fun _ _ => False)
def wLc2 (tg : Itm → (Sto → Prop) → Prop) (ok : Mem → Prop) (src : Sto → Comp (List Itm × (Mem → Prop))) (tg2 : Sto → Itm → (Sto → Prop) → Prop) (cond : Sto → Comp Bool) (e : Sto → Comp S) : List Itm → List S → Mem → (List S → Mem → Prop) → Prop
  | [], acc, M, Q => ok M ∧ Q acc M
  | x :: xs, acc, M, Q => ok M ∧ tg x fun ρ => src ρ M (fun r M1 => wLcK (tg2 ρ) r.2 cond e r.1 acc M1 fun acc2 M2 => wLc2 tg ok src tg2 cond e xs acc2 M2 Q) (fun _ _ => False)

structure Outs where
  nx : Sto → Mem → Prop
  rt : S → Mem → Prop
  bk : Sto → Mem → Prop := fun _ _ => False
  ct : Sto → Mem → Prop := fun _ _ => False
  ex : Xc → Sto → Mem → Prop := fun _ _ _ => False

def rngItems (lo hi : Int) : List Itm := (List.range (hi - lo).toNat).map fun i => .one (I (lo + (i : Nat)))
def rng3Items (lo c : Int) (n : Nat) : List Itm := (List.range n).map fun i => .one (I (lo + (i : Nat) * c))
def rngLen (lo hi c : Int) : Nat := if 0 < c then ((hi - lo + c - 1) / c).toNat else if c < 0 then ((lo - hi + (-c) - 1) / (-c)).toNat else 0
def rngOk (a b : Int) : Prop := -(2 ^ 62) ≤ a ∧ a < 2 ^ 62 ∧ -(2 ^ 62) ≤ b ∧ b < 2 ^ 62

def wRng (vs : List S) (M : Mem) (Q : List Itm × (Mem → Prop) → Mem → Prop) : Prop :=
  match vs with
  | [.d (.int a)] => rngOk 0 a ∧ Q (rngItems 0 a, fun _ => True) M
  | [.d (.int a), .d (.int b)] => rngOk a b ∧ Q (rngItems a b, fun _ => True) M
  | [.d (.int a), .d (.int b), .d (.int c)] => (rngOk a b ∧ c ≠ 0 ∧ c.natAbs < 2 ^ 30) ∧ Q (rng3Items a c (rngLen a b c), fun _ => True) M
  | _ => False
/-- what stays while a list is walked -/
def okOf (x : S) (xs : List S) : Mem → Prop :=
  match x with
  | .l k => fun M => M[k]? = some (.lst xs)
  | _ => fun _ => True
def enumItems (xs : List S) : List Itm := xs.zipIdx.map fun p => .many [I p.2, p.1]
def zipItems (xs ys : List S) : List Itm := (xs.zip ys).map fun p => .many [p.1, p.2]

/-- for k in a dict that may change: it stands from now on -/
def wKeys (x : S) (M : Mem) (Q : List Itm × (Mem → Prop) → Mem → Prop) : Prop := match x with
  | .l k => ∃ kvs, M[k]? = some (.dct kvs) ∧ ∀ o kv, Q (kvs.map fun p => .one (.d (keyPD p.1)), fun M2 => M2[k]? = some (.fz o kv)) (M.set k (.fz o kv))
  | _ => False
def wIsX (mro : Str → Option (List Str)) (cs : List Str) (x : S) (M : Mem) (Q : S → Mem → Prop) : Prop :=
  match x with
  | .e _ _ c _ _ => ∃ l, mro c = some l ∧ Q (B (cs.any fun c => l.contains c)) M
  | _ => False
def wXval (f : Str) (x : S) (M : Mem) (Q : S → Mem → Prop) : Prop :=
  match x with
  | .e _ _ _ g v => g = f ∧ Q v M
  | _ => False
def wDisp (vs : List S) (M : Mem) (Q : List S → Mem → Prop) : Prop := vs.length ≤ sizeLine ∧ Q vs M

variable (Γ : Env)
mutual
def wE : E → Sto → Comp S
  | .var i, ρ, M, Q, _ => ∃ v, ρ[i]? = some (some v) ∧ Q v M
  | .cst c, _, M, Q, _ => Q (.d c) M
  | .neg a, ρ, M, Q, X => wE a ρ M (fun x M1 => ∃ i, int? x = some i ∧ Q (I (-i)) M1) X
  | .not a, ρ, M, Q, X => wE a ρ M (fun x M1 => ∃ k, truth M1 x = some k ∧ Q (B (!k)) M1) X
  | .and a b, ρ, M, Q, X => wE a ρ M (fun x M1 => ∃ k, truth M1 x = some k ∧ if k = true then wE b ρ M1 Q X else Q x M1) X
  | .or a b, ρ, M, Q, X => wE a ρ M (fun x M1 => ∃ k, truth M1 x = some k ∧ if k = true then Q x M1 else wE b ρ M1 Q X) X
  | .ite c a b, ρ, M, Q, X => wT c ρ M (fun k M1 => if k = true then wE a ρ M1 Q X else wE b ρ M1 Q X) X
  | .bin o a b, ρ, M, Q, X => wE a ρ M (fun x M1 => wE b ρ M1 (fun y M2 => wBin o x y M2 Q) X) X
  | .cmp o a b, ρ, M, Q, X => wE a ρ M (fun x M1 => wE b ρ M1 (fun y M2 => wCmp o x y M2 Q) X) X
  | .chain o p a b c, ρ, M, Q, X => wE a ρ M (fun x M1 => wE b ρ M1 (fun y M2 => wCmp o x y M2 fun r M3 => ∃ k, r = B k ∧
      if k = true then wE c ρ M3 (fun z M4 => wCmp p y z M4 Q) X else Q (B false) M3) X) X
  | .tup es, ρ, M, Q, X => wEs es ρ M (fun vs M1 => ∃ xs, dataAll vs = some xs ∧ xs.length ≤ sizeLine ∧ Q (.d (.tuple xs)) M1) X
  | .fr f, ρ, M, Q, X => wF f ρ M (fun vs M1 => ∃ xs, dataAll vs = some xs ∧ Q (.d (.list xs)) M1) X
  | .al f, ρ, M, Q, X => wF f ρ M (fun vs M1 => Q (.l M1.length) (M1 ++ [.lst vs])) X
  | .ddisp ks es, ρ, M, Q, _ => wEs es ρ M (fun vs M1 => Q (.l M1.length) (M1 ++ [.dct ((ks.map Sum.inr).zip vs)])) (fun _ _ => False)
  | .ix a b, ρ, M, Q, X => wE a ρ M (fun x M1 => wE b ρ M1 (fun y M2 => wIx x y M2 Q) X) X
  | .sl a lo hi, ρ, M, Q, X => wE a ρ M (fun x M1 => wO lo ρ M1 (fun l M2 => wO hi ρ M2 (fun h M3 => wSl x l h M3 Q) X) X) X
  | .rev a, ρ, M, Q, X => wE a ρ M (fun x M1 => wRev x M1 Q) X
  | .call f es, ρ, M, Q, X => wEs es ρ M (fun vs M1 => ∃ φ, Γ.Φ f = some φ ∧ φ vs M1 Q X) X
  | .callK f es ns ks, ρ, M, Q, X => wEs es ρ M (fun vs M1 => wEs ks ρ M1 (fun ws M2 => ∃ φ, Γ.Φ f = some φ ∧ φ (vs ++ ((Γ.ps f).drop vs.length).filterMap fun p => (ns.zip ws).lookup p) M2 Q X) X) X
  | .b1 f a, ρ, M, Q, X => wE a ρ M (fun x M1 => wB1 f x M1 Q) X
  | .b2 f a b, ρ, M, Q, X => wE a ρ M (fun x M1 => wE b ρ M1 (fun y M2 => wB2 f x y M2 Q) X) X
  | .isI a ts, ρ, M, Q, X => wE a ρ M (fun x M1 => ∃ bs, ts.mapM (fun t => isTyS M1 t x) = some bs ∧ Q (B (bs.any id)) M1) X
  | .isX a cs, ρ, M, Q, X => wE a ρ M (fun x M1 => Γ.cur = some x ∧ wIsX Γ.mro cs x M1 Q) X
  | .xval a f, ρ, M, Q, X => wE a ρ M (fun x M1 => Γ.cur = some x ∧ wXval f x M1 Q) X
  | .get d k x, ρ, M, Q, X => wE d ρ M (fun dd M1 => isTyS M1 "dict" dd = some true ∧ wE k ρ M1 (fun kk M2 => wE x ρ M2 (fun xx M3 => wGet dd kk xx M3 Q) X) X) X
  | .pop a, ρ, M, Q, X => wE a ρ M (fun x M1 => wPop x M1 Q) X
  | .popAt a b, ρ, M, Q, X => wE a ρ M (fun x M1 => isTyS M1 "list" x = some true ∧ wE b ρ M1 (fun y M2 => wPopAt x y M2 Q) X) X
  | .index a b, ρ, M, Q, X => wE a ρ M (fun x M1 => isTyS M1 "list" x = some true ∧ wE b ρ M1 (fun y M2 => ∃ (ns : List Int) (i : Int), isTyS M2 "list" x = some true ∧ items M2 x = some (ns.map I) ∧ y = I i ∧ i ∈ ns ∧ Q (I (ns.idxOf i : Nat)) M2) X) X
  | .indexT a b, ρ, M, Q, X => wE a ρ M (fun x M1 => isTyS M1 "tuple" x = some true ∧ wE b ρ M1 (fun y M2 => ∃ (ns : List Int) (i : Int), isTyS M2 "tuple" x = some true ∧ items M2 x = some (ns.map I) ∧ y = I i ∧ i ∈ ns ∧ Q (I (ns.idxOf i : Nat)) M2) X) X
  | .mtup es, ρ, M, Q, X => wEs es ρ M (fun vs M1 => vs.length ≤ sizeLine ∧ Q (.l M1.length) (M1 ++ [.tpl vs])) X
  | .dnew, _, M, Q, _ => Q (.l M.length) (M ++ [.dct []])
  | .dix a b, ρ, M, Q, X => wE a ρ M (fun x M1 => wE b ρ M1 (fun y M2 => wDix x y M2 Q) X) X
def wT : E → Sto → Comp Bool
  | .not a, ρ, M, Q, X => wT a ρ M (fun b M1 => Q (!b) M1) X
  | .and a b, ρ, M, Q, X => wT a ρ M (fun k M1 => if k = true then wT b ρ M1 Q X else Q false M1) X
  | .or a b, ρ, M, Q, X => wT a ρ M (fun k M1 => if k = true then Q true M1 else wT b ρ M1 Q X) X
  | e, ρ, M, Q, X => wE e ρ M (fun x M1 => ∃ k, truth M1 x = some k ∧ Q k M1) X
def wEs : Es → Sto → Comp (List S)
  | .nil, _, M, Q, _ => Q [] M
  | .cons e es, ρ, M, Q, X => wE e ρ M (fun v M1 => wEs es ρ M1 (fun vs M2 => Q (v :: vs) M2) X) X
def wO : Oe → Sto → Comp (Option Int)
  | .none, _, M, Q, _ => Q none M
  | .some e, ρ, M, Q, X => wE e ρ M (fun x M1 => ∃ i, int? x = some i ∧ Q (some i) M1) X
def wC : Oe → Sto → Comp Bool
  | .none, _, M, Q, _ => Q true M
  | .some e, ρ, M, Q, X => wT e ρ M Q X
def wF : F → Sto → Comp (List S)
  | .disp es, ρ, M, Q, X => wEs es ρ M (fun vs M1 => wDisp vs M1 Q) X
  | .comp e t it c, ρ, M, Q, X => wI it ρ M (fun r M1 => r.1.length ≤ sizeLine ∧ wLc (tgAt t (wipeS ρ (tgSlots t))) r.2 (fun ρ1 => wC c ρ1) (fun ρ1 => wE e ρ1) r.1 [] M1 Q (fun _ _ => False)) X
  | .comp2 e t it u ju c, ρ, M, Q, X => wI it ρ M (fun r M1 => wLc2 (tgAt t (wipeS ρ (tgSlots t ++ tgSlots u))) r.2 (fun ρ1 => wI ju ρ1) (fun ρ1 => tgAt u (wipeS ρ1 (tgSlots u))) (fun ρ1 => wC c ρ1) (fun ρ1 => wE e ρ1) r.1 [] M1 Q) X
  | .listOf a, ρ, M, Q, X => wE a ρ M (fun x M1 => ∃ xs, items M1 x = some xs ∧ Q xs M1) X
  | .cat a b, ρ, M, Q, X => wE a ρ M (fun x M1 => wE b ρ M1 (fun y M2 => ∃ xs ys, isTyS M2 "list" x = some true ∧ isTyS M2 "list" y = some true ∧ items M2 x = some xs ∧ items M2 y = some ys ∧ xs.length + ys.length ≤ sizeLine ∧ Q (xs ++ ys) M2) X) X
  | .rep a b, ρ, M, Q, X => wE a ρ M (fun x M1 => wE b ρ M1 (fun y M2 => ∃ xs j, isTyS M2 "list" x = some true ∧ items M2 x = some xs ∧ y = I j ∧ (-(2 ^ 63) ≤ j ∧ j < 2 ^ 63 ∧ xs.length * j.toNat ≤ sizeLine) ∧ Q (List.replicate j.toNat xs).flatten M2) X) X
  | .slice a lo hi, ρ, M, Q, X => wE a ρ M (fun x M1 => wO lo ρ M1 (fun l M2 => wO hi ρ M2 (fun h M3 => ∃ xs, isTyS M3 "list" x = some true ∧ items M3 x = some xs ∧ Q (cut xs l h) M3) X) X) X
  | .lrng a, ρ, M, Q, X => wE a ρ M (fun x M1 => ∃ i, int? x = some i ∧ (rngOk 0 i ∧ i ≤ 16777216) ∧ Q ((List.range i.toNat).map fun k => I (k : Nat)) M1) X
def wI : It → Sto → Comp (List Itm × (Mem → Prop))
  | .of e, ρ, M, Q, X => wE e ρ M (fun x M1 => ∃ xs, items M1 x = some xs ∧ Q (xs.map .one, okOf x xs) M1) X
  | .rng es, ρ, M, Q, X => wEs es ρ M (fun vs M1 => wRng vs M1 Q) X
  | .enum e, ρ, M, Q, X => wE e ρ M (fun x M1 => ∃ xs, items M1 x = some xs ∧ Q (enumItems xs, okOf x xs) M1) X
  | .zip a b, ρ, M, Q, X => wE a ρ M (fun x M1 => wE b ρ M1 (fun y M2 => ∃ xs ys, (∃ t, isTyS M2 t x = some true ∧ isTyS M2 t y = some true ∧ (t = "list" ∨ t = "tuple")) ∧ items M2 x = some xs ∧ items M2 y = some ys ∧ Q (zipItems xs ys, fun M => okOf x xs M ∧ okOf y ys M) M2) X) X
  | .rev e, ρ, M, Q, X => wE e ρ M (fun x M1 => ∃ xs, items M1 x = some xs ∧ Q (xs.reverse.map .one, okOf x xs) M1) X
  | .keys e, ρ, M, Q, X => wE e ρ M (fun x M1 => wKeys x M1 Q) X
end

/-! ### statements -/
def wFor (tg : Itm → Sto → (Sto → Prop) → Prop) (ok : Mem → Prop) (body : Sto → Mem → Outs → Prop) : List Itm → Sto → Mem → Outs → Prop
  | [], ρ, M, O => ok M ∧ O.nx ρ M
  | x :: xs, ρ, M, O => ok M ∧ tg x ρ fun ρ1 => body ρ1 M { O with nx := fun ρ2 M2 => wFor tg ok body xs ρ2 M2 O, ct := fun ρ2 M2 => wFor tg ok body xs ρ2 M2 O, bk := O.nx }
def wWhl (c : Sto → Comp Bool) (body : Sto → Mem → Outs → Prop) : Nat → Sto → Mem → Outs → Prop
  | 0, _, _, _ => False
  | n + 1, ρ, M, O => c ρ M (fun b M1 => if b = true then body ρ M1 { O with nx := fun ρ2 M2 => wWhl c body n ρ2 M2 O, ct := fun ρ2 M2 => wWhl c body n ρ2 M2 O, bk := O.nx } else O.nx ρ M1) (fun x M1 => O.ex x ρ M1)
def wPut (x y v : S) (M : Mem) (Q : Mem → Prop) : Prop :=
  match x, y with
  | .l k, .d (.int i) => ∃ xs j, M[k]? = some (.lst xs) ∧ ixN xs.length i = some j ∧ Q (M.set k (.lst (xs.set j v)))
  | .l k, .d (.str z) => ∃ kvs, M[k]? = some (.dct kvs) ∧ kvs.length < sizeLine ∧ Q (M.set k (.dct (setK kvs (.inr z) v)))
  | _, _ => False
def wDput (x y v : S) (M : Mem) (Q : Mem → Prop) : Prop := dAt M x y fun kvs k n => kvs.length < sizeLine ∧ Q (M.set n (.dct (setK kvs k v)))
/-- a op= b of ints -/
def wAug (o : Operator) (x y : S) (Q : S → Prop) : Prop :=
  match o, x, y with
  | .Add, .d (.int i), .d (.int j) => Q (I (i + j))
  | .Sub, .d (.int i), .d (.int j) => Q (I (i - j))
  | .Mult, .d (.int i), .d (.int j) => MulOk i j ∧ Q (I (i * j))
  | _, _, _ => False
mutual
def wS : Env → St → Sto → Mem → Outs → Prop
  | Γ, .asg t e, ρ, M, O => wE Γ e ρ M (fun v M1 => wTg t (.one v) ρ fun ρ1 => O.nx ρ1 M1) (fun x M1 => O.ex x ρ M1)
  | Γ, .setIx a b e, ρ, M, O => wE Γ e ρ M (fun v M1 => wE Γ a ρ M1 (fun x M2 => wE Γ b ρ M2 (fun y M3 => wPut x y v M3 fun M4 => O.nx ρ M4) (fun x M1 => O.ex x ρ M1)) (fun x M1 => O.ex x ρ M1)) (fun x M1 => O.ex x ρ M1)
  | Γ, .par i j a b, ρ, M, O => wE Γ a ρ M (fun v M1 => wE Γ b ρ M1 (fun w M2 => O.nx ((ρ.set i (some v)).set j (some w)) M2) (fun x M1 => O.ex x ρ M1)) (fun x M1 => O.ex x ρ M1)
  | Γ, .aug i o e, ρ, M, O => ∃ v, ρ[i]? = some (some v) ∧ wE Γ e ρ M (fun w M1 => wAug o v w fun r => O.nx (ρ.set i (some r)) M1) (fun x M1 => O.ex x ρ M1)
  | Γ, .augIx a b o e, ρ, M, O => wE Γ a ρ M (fun x M1 => wE Γ b ρ M1 (fun y M2 => wIx x y M2 fun v M3 => wE Γ e ρ M3 (fun w M4 => wAug o v w fun r => wPut x y r M4 fun M5 => O.nx ρ M5) (fun x M1 => O.ex x ρ M1)) (fun x M1 => O.ex x ρ M1)) (fun x M1 => O.ex x ρ M1)
  | Γ, .expr e, ρ, M, O => wE Γ e ρ M (fun _ M1 => O.nx ρ M1) (fun x M1 => O.ex x ρ M1)
  | Γ, .app a e, ρ, M, O => wE Γ a ρ M (fun x M1 => isTyS M1 "list" x = some true ∧ wE Γ e ρ M1 (fun v M2 => ∃ k xs, x = .l k ∧ M2[k]? = some (.lst xs) ∧ xs.length < sizeLine ∧ O.nx ρ (M2.set k (.lst (xs ++ [v])))) (fun x M1 => O.ex x ρ M1)) (fun x M1 => O.ex x ρ M1)
  | Γ, .ext a e, ρ, M, O => wE Γ a ρ M (fun x M1 => isTyS M1 "list" x = some true ∧ wE Γ e ρ M1 (fun v M2 => ∃ k xs ys, x = .l k ∧ M2[k]? = some (.lst xs) ∧ items M2 v = some ys ∧ isTyS M2 "list" v = some true ∧ xs.length + ys.length ≤ sizeLine ∧ O.nx ρ (M2.set k (.lst (xs ++ ys)))) (fun x M1 => O.ex x ρ M1)) (fun x M1 => O.ex x ρ M1)
  | Γ, .ins a b e, ρ, M, O => wE Γ a ρ M (fun x M1 => isTyS M1 "list" x = some true ∧ wE Γ b ρ M1 (fun y M2 => wE Γ e ρ M2 (fun v M3 => ∃ k xs j, x = .l k ∧ y = I (j : Nat) ∧ M3[k]? = some (.lst xs) ∧ j ≤ xs.length ∧ xs.length < sizeLine ∧ O.nx ρ (M3.set k (.lst (xs.take j ++ v :: xs.drop j)))) (fun x M1 => O.ex x ρ M1)) (fun x M1 => O.ex x ρ M1)) (fun x M1 => O.ex x ρ M1)
  | Γ, .ret e, ρ, M, O => wE Γ e ρ M (fun v M1 => O.rt v M1) (fun x M1 => O.ex x ρ M1)
  | _, .retN, _, M, O => O.rt N0 M
  | Γ, .cond c a b, ρ, M, O => wT Γ c ρ M (fun k M1 => if k = true then wSs Γ a ρ M1 O else wSs Γ b ρ M1 O) (fun x M1 => O.ex x ρ M1)
  | Γ, .loop t it b, ρ, M, O => wI Γ it ρ M (fun r M1 => wFor (wTg t) r.2 (fun ρ1 M2 O1 => wSs Γ b ρ1 M2 O1) r.1 ρ M1 O) (fun x M1 => O.ex x ρ M1)
  | Γ, .whl c b, ρ, M, O => ∃ n, wWhl (fun ρ1 => wT Γ c ρ1) (fun ρ1 M2 O1 => wSs Γ b ρ1 M2 O1) n ρ M O
  | Γ, .raise c e, ρ, M, O => wE Γ e ρ M (fun v M1 => O.ex ⟨c, (if c = "Undefined" then "what" else "value"), v⟩ ρ M1) (fun x M1 => O.ex x ρ M1)
  | Γ, .tryX b hs, ρ, M, O => wSs Γ b ρ M { O with ex := fun x ρ1 M1 => wHs Γ hs x ρ1 M1 O }
  | _, .pass, ρ, M, O => O.nx ρ M
  | _, .brk, ρ, M, O => O.bk ρ M
  | _, .cont, ρ, M, O => O.ct ρ M
  | _, .any, _, _, _ => False
  | Γ, .parIx a i b j e f, ρ, M, O => wE Γ (.tup (.cons e (.cons f .nil))) ρ M (fun v M1 => ∃ p q, v = .d (.tuple [p, q]) ∧ wE Γ a ρ M1 (fun x M2 => wE Γ i ρ M2 (fun y M3 => wPut x y (.d p) M3 fun M4 => wE Γ b ρ M4 (fun x2 M5 => wE Γ j ρ M5 (fun y2 M6 => wPut x2 y2 (.d q) M6 fun M7 => O.nx ρ M7) (fun x M1 => O.ex x ρ M1)) (fun x M1 => O.ex x ρ M1)) (fun x M1 => O.ex x ρ M1)) (fun x M1 => O.ex x ρ M1)) (fun x M1 => O.ex x ρ M1)
  | Γ, .unp ts e, ρ, M, O => wE Γ e ρ M (fun v M1 => ∃ k, v = .l k ∧ ∃ ss, M1[k]? = some (.tpl ss) ∧ ss.length = ts.length ∧ wTgs ts ss ρ fun ρ1 => O.nx ρ1 M1) (fun x M1 => O.ex x ρ M1)
  | Γ, .dput a b e, ρ, M, O => wE Γ e ρ M (fun v M1 => wE Γ a ρ M1 (fun x M2 => wE Γ b ρ M2 (fun y M3 => wDput x y v M3 fun M4 => O.nx ρ M4) (fun x M1 => O.ex x ρ M1)) (fun x M1 => O.ex x ρ M1)) (fun x M1 => O.ex x ρ M1)
def wSs : Env → Ss → Sto → Mem → Outs → Prop
  | _, .nil, ρ, M, O => O.nx ρ M
  | Γ, .cons s ss, ρ, M, O => wS Γ s ρ M { O with nx := fun ρ1 M1 => wSs Γ ss ρ1 M1 O }
def wHs : Env → Hs → Xc → Sto → Mem → Outs → Prop
  | _, .nil, x, ρ, M, O => O.ex x ρ M
  | Γ, .cons c i b hs, x, ρ, M, O => ∃ l, Γ.mro x.cls = some l ∧ if l.contains c = true then
      ∀ a dd, wSs { Γ with cur := some (.e a dd x.cls x.fld x.val) } b (ρ.set i (some (.e a dd x.cls x.fld x.val))) M { nx := fun ρ1 M1 => O.nx (ρ1.set i none) M1, rt := O.rt, bk := fun ρ1 M1 => O.bk (ρ1.set i none) M1, ct := fun ρ1 M1 => O.ct (ρ1.set i none) M1, ex := fun _ _ _ => False }
    else wHs Γ hs x ρ M O
end
end G

/-! Layer G, part 1: the weakest preconditions are monotone. -/
namespace G
open PySem L2

def Mono {α : Type} (c : Comp α) : Prop := ∀ M Q Q' X X', (∀ a M, Q a M → Q' a M) → (∀ x M, X x M → X' x M) → c M Q X → c M Q' X'
structure Env.Mo (Γ : Env) : Prop where
  mo : ∀ f φ, Γ.Φ f = some φ → ∀ vs, Mono (φ vs)

theorem dAt_mo {M : Mem} {x y : S} {R R' : List (Key × S) → Key → Nat → Prop} (hr : ∀ a b c, R a b c → R' a b c) (h : dAt M x y R) : dAt M x y R' := by
  unfold dAt at h ⊢
  split at h
  · obtain ⟨kvs, k, h1, h2, h3⟩ := h; exact ⟨kvs, k, h1, h2, hr _ _ _ h3⟩
  · exact h.elim
section
variable {x y v : S} {M : Mem} {Q Q' : S → Mem → Prop} (hq : ∀ a M, Q a M → Q' a M)
include hq
theorem wBin_mo {o : Operator} (h : wBin o x y M Q) : wBin o x y M Q' := by
  unfold wBin at h ⊢
  split at h <;> first | exact hq _ _ h | exact ⟨h.1, hq _ _ h.2⟩ | exact h.elim
theorem wOrd_mo {f g} (h : wOrd f g x y M Q) : wOrd f g x y M Q' := by
  unfold wOrd at h ⊢
  split at h <;> first | exact hq _ _ h | exact ⟨h.1, hq _ _ h.2⟩ | exact h.elim
theorem wEq_mo {a b f} (h : wEq a b f M Q) : wEq a b f M Q' := ⟨h.1, h.2.1, hq _ _ h.2.2⟩
theorem wEqD_mo {a b} (h : wEqD a b M Q) : wEqD a b M Q' := by
  unfold wEqD at *
  split at h
  · exact hq _ _ h
  · exact wEq_mo hq h
theorem wIn_mo {f} (h : wIn x y f M Q) : wIn x y f M Q' := by
  unfold wIn at h ⊢
  split at h <;> first | exact hq _ _ h | exact ⟨h.1, hq _ _ h.2⟩ | exact h.elim
theorem wCmp_mo {o : CmpOp} (h : wCmp o x y M Q) : wCmp o x y M Q' := by
  unfold wCmp at h ⊢
  cases o <;> dsimp only at h ⊢ <;> first
    | exact wOrd_mo hq h
    | (split at h <;> first | exact wEq_mo hq h | exact wEqD_mo hq h | exact wIn_mo hq h | exact hq _ _ h | exact dAt_mo (fun _ _ _ h => hq _ _ h) h | exact h.elim)
theorem wIx_mo (h : wIx x y M Q) : wIx x y M Q' := by
  unfold wIx at h ⊢
  split at h <;> first
    | (obtain ⟨v, h1, h2⟩ := h; exact ⟨v, h1, hq _ _ h2⟩)
    | (obtain ⟨v, u, h1, h2, h3⟩ := h; exact ⟨v, u, h1, h2, hq _ _ h3⟩)
    | exact h.elim
theorem wSl_mo {lo hi} (h : wSl x lo hi M Q) : wSl x lo hi M Q' := by
  unfold wSl at h ⊢
  split at h <;> first
    | exact hq _ _ h
    | (obtain ⟨v, h1, h2⟩ := h; exact ⟨v, h1, hq _ _ h2⟩)
    | exact h.elim
theorem wB1_mo {f : B1} (h : wB1 f x M Q) : wB1 f x M Q' := by
  unfold wB1 at h ⊢
  cases f <;> dsimp only at h ⊢ <;> first
    | exact h.elim
    | (obtain ⟨v, vs, h1, h2, h3⟩ := h; exact ⟨v, vs, h1, h2, hq _ _ h3⟩)
    | (obtain ⟨v, h1, h2, h3⟩ := h; exact ⟨v, h1, h2, hq _ _ h3⟩)
    | (obtain ⟨v, h1, h2⟩ := h; exact ⟨v, h1, hq _ _ h2⟩)
    | (split at h <;> first
        | exact hq _ _ h
        | exact ⟨h.1, hq _ _ h.2⟩
        | (obtain ⟨v, h1, h2⟩ := h; exact ⟨v, h1, fun a b c => hq _ _ (h2 a b c)⟩)
        | (obtain ⟨v, h1, h2, h3⟩ := h; exact ⟨v, h1, h2, fun a b c => hq _ _ (h3 a b c)⟩)
        | (obtain ⟨v, h1, h2, h3⟩ := h; exact ⟨v, h1, h2, hq _ _ h3⟩)
        | (obtain ⟨v, h1, h2⟩ := h; exact ⟨v, h1, hq _ _ h2⟩)
        | exact h.elim)
theorem wRev_mo (h : wRev x M Q) : wRev x M Q' := by
  unfold wRev at h ⊢
  split at h <;> first
    | exact hq _ _ h
    | (obtain ⟨v, h1, h2⟩ := h; exact ⟨v, h1, hq _ _ h2⟩)
    | exact h.elim
theorem wGet_mo (h : wGet x y v M Q) : wGet x y v M Q' := dAt_mo (fun _ _ _ h => hq _ _ h) h
theorem wDix_mo (h : wDix x y M Q) : wDix x y M Q' := dAt_mo (fun _ _ _ ⟨v, h1, h2⟩ => ⟨v, h1, hq _ _ h2⟩) h
theorem wPop_mo (h : wPop x M Q) : wPop x M Q' := by
  unfold wPop at h ⊢
  split at h
  · obtain ⟨xs, v, h1, h2, h3⟩ := h; exact ⟨xs, v, h1, h2, hq _ _ h3⟩
  · exact h.elim
theorem wPopAt_mo (h : wPopAt x y M Q) : wPopAt x y M Q' := by
  unfold wPopAt at h ⊢
  split at h
  · obtain ⟨xs, j, v, h1, h2, h3, h4, h5⟩ := h; exact ⟨xs, j, v, h1, h2, h3, h4, hq _ _ h5⟩
  · exact h.elim
theorem wIsX_mo {mro : Str → Option (List Str)} {cs : List Str} (h : wIsX mro cs x M Q) : wIsX mro cs x M Q' := by
  unfold wIsX at h ⊢
  split at h
  · obtain ⟨l, h1, h2⟩ := h; exact ⟨l, h1, hq _ _ h2⟩
  · exact h.elim
theorem wXval_mo {f : Str} (h : wXval f x M Q) : wXval f x M Q' := by
  unfold wXval at h ⊢
  split at h
  · exact ⟨h.1, hq _ _ h.2⟩
  · exact h.elim
theorem wB2_mo {f : B2} (h : wB2 f x y M Q) : wB2 f x y M Q' := by
  unfold wB2 at h ⊢
  split at h <;> first | exact hq _ _ h | exact h.elim
end
theorem wRng_mo {vs : List S} {M : Mem} {Q Q' : List Itm × (Mem → Prop) → Mem → Prop} (hq : ∀ a M, Q a M → Q' a M) (h : wRng vs M Q) : wRng vs M Q' := by
  unfold wRng at h ⊢
  split at h <;> first | exact ⟨h.1, hq _ _ h.2⟩ | exact h.elim
mutual
theorem wTg_mo : ∀ (t : Tg) (x : Itm) (ρ : Sto) (Q Q' : Sto → Prop), (∀ ρ, Q ρ → Q' ρ) → wTg t x ρ Q → wTg t x ρ Q'
  | .nm i, .one s, ρ, Q, Q', hq, h => by simp only [wTg] at h ⊢; exact hq _ h
  | .nm i, .many ss, ρ, Q, Q', hq, h => by
    simp only [wTg] at h ⊢
    obtain ⟨xs, h1, h2⟩ := h
    exact ⟨xs, h1, hq _ h2⟩
  | .tp ts, .one (.d (.tuple xs)), ρ, Q, Q', hq, h => by simp only [wTg] at h ⊢; exact ⟨h.1, wTgs_mo ts _ ρ Q Q' hq h.2⟩
  | .tp ts, .one (.d (.list xs)), ρ, Q, Q', hq, h => by simp only [wTg] at h ⊢; exact ⟨h.1, wTgs_mo ts _ ρ Q Q' hq h.2⟩
  | .tp ts, .many ss, ρ, Q, Q', hq, h => by simp only [wTg] at h ⊢; exact ⟨h.1, wTgs_mo ts _ ρ Q Q' hq h.2⟩
  | .tp ts, .one (.l k), ρ, Q, Q', hq, h => by simp only [wTg] at h
  | .tp ts, .one (.d .none), ρ, Q, Q', hq, h => by simp only [wTg] at h
  | .tp ts, .one (.d (.bool _)), ρ, Q, Q', hq, h => by simp only [wTg] at h
  | .tp ts, .one (.d (.int _)), ρ, Q, Q', hq, h => by simp only [wTg] at h
  | .tp ts, .one (.d (.str _)), ρ, Q, Q', hq, h => by simp only [wTg] at h
  | .tp ts, .one (.d (.dict _)), ρ, Q, Q', hq, h => by simp only [wTg] at h
theorem wTgs_mo : ∀ (ts : List Tg) (ss : List S) (ρ : Sto) (Q Q' : Sto → Prop), (∀ ρ, Q ρ → Q' ρ) → wTgs ts ss ρ Q → wTgs ts ss ρ Q'
  | [], [], ρ, Q, Q', hq, h => by simp only [wTgs] at h ⊢; exact hq _ h
  | t :: ts, s :: ss, ρ, Q, Q', hq, h => by
    simp only [wTgs] at h ⊢
    exact wTg_mo t _ ρ _ _ (fun ρ1 h1 => wTgs_mo ts ss ρ1 Q Q' hq h1) h
  | [], s :: ss, ρ, Q, Q', hq, h => by simp only [wTgs] at h
  | t :: ts, [], ρ, Q, Q', hq, h => by simp only [wTgs] at h
end
theorem wLcK_mo {tg : Itm → (Sto → Prop) → Prop} {ok : Mem → Prop} {cond : Sto → Comp Bool} {e : Sto → Comp S} (ht : ∀ x Q Q', (∀ ρ, Q ρ → Q' ρ) → tg x Q → tg x Q') (hc : ∀ ρ, Mono (cond ρ)) (he : ∀ ρ, Mono (e ρ)) : ∀ (xs : List Itm) (acc : List S) (M : Mem) (Q Q' : List S → Mem → Prop), (∀ a M, Q a M → Q' a M) → wLcK tg ok cond e xs acc M Q → wLcK tg ok cond e xs acc M Q'
  | [], acc, M, Q, Q', hq, h => by
    simp only [wLcK] at h ⊢
    exact ⟨h.1, hq _ _ h.2⟩
  | x :: xs, acc, M, Q, Q', hq, h => by
    simp only [wLcK] at h ⊢
    refine ⟨h.1, ht _ _ _ (fun ρ h2 => hc ρ _ _ _ _ _ (fun b M1 h3 => ?_) (fun _ _ z => z) h2) h.2⟩
    split
    · rename_i hb
      rw [if_pos hb] at h3
      exact he ρ _ _ _ _ _ (fun v M2 h4 => ⟨h4.1, wLcK_mo ht hc he xs _ _ _ _ hq h4.2⟩) (fun _ _ z => z) h3
    · rename_i hb
      rw [if_neg hb] at h3
      exact wLcK_mo ht hc he xs _ _ _ _ hq h3
theorem wLc2_mo {tg : Itm → (Sto → Prop) → Prop} {ok : Mem → Prop} {src : Sto → Comp (List Itm × (Mem → Prop))} {tg2 : Sto → Itm → (Sto → Prop) → Prop} {cond : Sto → Comp Bool} {e : Sto → Comp S} (ht : ∀ x Q Q', (∀ ρ, Q ρ → Q' ρ) → tg x Q → tg x Q') (ht2 : ∀ ρ x Q Q', (∀ ρ, Q ρ → Q' ρ) → tg2 ρ x Q → tg2 ρ x Q') (hs : ∀ ρ, Mono (src ρ)) (hc : ∀ ρ, Mono (cond ρ)) (he : ∀ ρ, Mono (e ρ)) : ∀ (xs : List Itm) (acc : List S) (M : Mem) (Q Q' : List S → Mem → Prop), (∀ a M, Q a M → Q' a M) → wLc2 tg ok src tg2 cond e xs acc M Q → wLc2 tg ok src tg2 cond e xs acc M Q'
  | [], acc, M, Q, Q', hq, h => by
    simp only [wLc2] at h ⊢
    exact ⟨h.1, hq _ _ h.2⟩
  | x :: xs, acc, M, Q, Q', hq, h => by
    simp only [wLc2] at h ⊢
    exact ⟨h.1, ht _ _ _ (fun ρ h2 => hs ρ _ _ _ _ _ (fun r M1 h3 => wLcK_mo (ht2 ρ) hc he r.1 _ _ _ _ (fun a M2 h4 => wLc2_mo ht ht2 hs hc he xs _ _ _ _ hq h4) h3) (fun _ _ z => z) h2) h.2⟩
theorem wLc_mo {tg : Itm → (Sto → Prop) → Prop} {ok : Mem → Prop} {cond : Sto → Comp Bool} {e : Sto → Comp S} (ht : ∀ x Q Q', (∀ ρ, Q ρ → Q' ρ) → tg x Q → tg x Q') (hc : ∀ ρ, Mono (cond ρ)) (he : ∀ ρ, Mono (e ρ)) :
    ∀ (xs : List Itm) (acc : List S), Mono (wLc tg ok cond e xs acc) := by
  intro xs
  induction xs with
  | nil =>
    intro acc M Q Q' X X' hq hx h
    simp only [wLc] at h ⊢
    exact ⟨h.1, hq _ _ h.2⟩
  | cons x xs ih =>
    intro acc M Q Q' X X' hq hx h
    simp only [wLc] at h ⊢
    refine ⟨h.1, ht _ _ _ (fun ρ h => ?_) h.2⟩
    refine hc ρ _ _ _ _ _ (fun b M1 h1 => ?_) hx h
    split
    · rename_i hb
      rw [if_pos hb] at h1
      exact he ρ _ _ _ _ _ (fun v M2 h2 => ih _ _ _ _ _ _ hq hx h2) hx h1
    · rename_i hb
      rw [if_neg hb] at h1
      exact ih _ _ _ _ _ _ hq hx h1

section
variable {Γ : Env} (hΓ : Γ.Mo)
include hΓ
mutual
theorem mE : ∀ (e : E) (ρ : Sto), Mono (wE Γ e ρ)
  | .var i, ρ => fun M Q Q' X X' hq hx h => by
    simp only [wE] at h ⊢
    obtain ⟨v, h1, h2⟩ := h
    exact ⟨v, h1, hq _ _ h2⟩
  | .cst c, ρ => fun M Q Q' X X' hq hx h => by simp only [wE] at h ⊢; exact hq _ _ h
  | .neg a, ρ => fun M Q Q' X X' hq hx h => by
    simp only [wE] at h ⊢
    exact mE a ρ _ _ _ _ _ (fun x M1 ⟨i, h1, h2⟩ => ⟨i, h1, hq _ _ h2⟩) hx h
  | .not a, ρ => fun M Q Q' X X' hq hx h => by
    simp only [wE] at h ⊢
    exact mE a ρ _ _ _ _ _ (fun x M1 ⟨k, h1, h2⟩ => ⟨k, h1, hq _ _ h2⟩) hx h
  | .and a b, ρ => fun M Q Q' X X' hq hx h => by
    simp only [wE] at h ⊢
    refine mE a ρ _ _ _ _ _ (fun x M1 ⟨k, h1, h2⟩ => ⟨k, h1, ?_⟩) hx h
    split
    · rename_i hk; rw [if_pos hk] at h2; exact mE b ρ _ _ _ _ _ hq hx h2
    · rename_i hk; rw [if_neg hk] at h2; exact hq _ _ h2
  | .or a b, ρ => fun M Q Q' X X' hq hx h => by
    simp only [wE] at h ⊢
    refine mE a ρ _ _ _ _ _ (fun x M1 ⟨k, h1, h2⟩ => ⟨k, h1, ?_⟩) hx h
    split
    · rename_i hk; rw [if_pos hk] at h2; exact hq _ _ h2
    · rename_i hk; rw [if_neg hk] at h2; exact mE b ρ _ _ _ _ _ hq hx h2
  | .ite c a b, ρ => fun M Q Q' X X' hq hx h => by
    simp only [wE] at h ⊢
    refine mT c ρ _ _ _ _ _ (fun x M1 h2 => ?_) hx h
    split
    · rename_i hk; rw [if_pos hk] at h2; exact mE a ρ _ _ _ _ _ hq hx h2
    · rename_i hk; rw [if_neg hk] at h2; exact mE b ρ _ _ _ _ _ hq hx h2
  | .bin o a b, ρ => fun M Q Q' X X' hq hx h => by
    simp only [wE] at h ⊢
    exact mE a ρ _ _ _ _ _ (fun x M1 h1 => mE b ρ _ _ _ _ _ (fun y M2 h2 => wBin_mo hq h2) hx h1) hx h
  | .cmp o a b, ρ => fun M Q Q' X X' hq hx h => by
    simp only [wE] at h ⊢
    exact mE a ρ _ _ _ _ _ (fun x M1 h1 => mE b ρ _ _ _ _ _ (fun y M2 h2 => wCmp_mo hq h2) hx h1) hx h
  | .chain o p a b c, ρ => fun M Q Q' X X' hq hx h => by
    simp only [wE] at h ⊢
    refine mE a ρ _ _ _ _ _ (fun x M1 h1 => mE b ρ _ _ _ _ _ (fun y M2 h2 => wCmp_mo (fun r M3 ⟨k, e, h3⟩ => ⟨k, e, ?_⟩) h2) hx h1) hx h
    split
    · rename_i hk; rw [if_pos hk] at h3; exact mE c ρ _ _ _ _ _ (fun z M4 h4 => wCmp_mo hq h4) hx h3
    · rename_i hk; rw [if_neg hk] at h3; exact hq _ _ h3
  | .tup es, ρ => fun M Q Q' X X' hq hx h => by
    simp only [wE] at h ⊢
    exact mEs es ρ _ _ _ _ _ (fun vs M1 ⟨xs, h1, h2, h3⟩ => ⟨xs, h1, h2, hq _ _ h3⟩) hx h
  | .fr f, ρ => fun M Q Q' X X' hq hx h => by
    simp only [wE] at h ⊢
    exact mF f ρ _ _ _ _ _ (fun vs M1 ⟨xs, h1, h2⟩ => ⟨xs, h1, hq _ _ h2⟩) hx h
  | .al f, ρ => fun M Q Q' X X' hq hx h => by
    simp only [wE] at h ⊢
    exact mF f ρ _ _ _ _ _ (fun vs M1 h1 => hq _ _ h1) hx h
  | .ddisp ks es, ρ => fun M Q Q' X X' hq hx h => by
    simp only [wE] at h ⊢
    exact mEs es ρ _ _ _ _ _ (fun vs M1 h1 => hq _ _ h1) (fun _ _ z => z) h
  | .ix a b, ρ => fun M Q Q' X X' hq hx h => by
    simp only [wE] at h ⊢
    exact mE a ρ _ _ _ _ _ (fun x M1 h1 => mE b ρ _ _ _ _ _ (fun y M2 h2 => wIx_mo hq h2) hx h1) hx h
  | .sl a lo hi, ρ => fun M Q Q' X X' hq hx h => by
    simp only [wE] at h ⊢
    exact mE a ρ _ _ _ _ _ (fun x M1 h1 => mO lo ρ _ _ _ _ _ (fun y M2 h2 => mO hi ρ _ _ _ _ _ (fun z M3 h3 => wSl_mo hq h3) hx h2) hx h1) hx h
  | .rev a, ρ => fun M Q Q' X X' hq hx h => by
    simp only [wE] at h ⊢
    exact mE a ρ _ _ _ _ _ (fun x M1 h1 => wRev_mo hq h1) hx h
  | .call f es, ρ => fun M Q Q' X X' hq hx h => by
    simp only [wE] at h ⊢
    exact mEs es ρ _ _ _ _ _ (fun vs M1 ⟨φ, h1, h2⟩ => ⟨φ, h1, hΓ.mo f φ h1 _ _ _ _ _ _ hq hx h2⟩) hx h
  | .callK f es ns ks, ρ => fun M Q Q' X X' hq hx h => by
    simp only [wE] at h ⊢
    exact mEs es ρ _ _ _ _ _ (fun vs M1 h1 => mEs ks ρ _ _ _ _ _ (fun ws M2 ⟨φ, h1, h2⟩ => ⟨φ, h1, hΓ.mo f φ h1 _ _ _ _ _ _ hq hx h2⟩) hx h1) hx h
  | .b1 f a, ρ => fun M Q Q' X X' hq hx h => by
    simp only [wE] at h ⊢
    exact mE a ρ _ _ _ _ _ (fun x M1 h1 => wB1_mo hq h1) hx h
  | .b2 f a b, ρ => fun M Q Q' X X' hq hx h => by
    simp only [wE] at h ⊢
    exact mE a ρ _ _ _ _ _ (fun x M1 h1 => mE b ρ _ _ _ _ _ (fun y M2 h2 => wB2_mo hq h2) hx h1) hx h
  | .isI a ts, ρ => fun M Q Q' X X' hq hx h => by
    simp only [wE] at h ⊢
    exact mE a ρ _ _ _ _ _ (fun x M1 ⟨bs, h1, h2⟩ => ⟨bs, h1, hq _ _ h2⟩) hx h
  | .isX a cs, ρ => fun M Q Q' X X' hq hx h => by
    simp only [wE] at h ⊢
    exact mE a ρ _ _ _ _ _ (fun x M1 ⟨h1, h2⟩ => ⟨h1, wIsX_mo hq h2⟩) hx h
  | .xval a f, ρ => fun M Q Q' X X' hq hx h => by
    simp only [wE] at h ⊢
    exact mE a ρ _ _ _ _ _ (fun x M1 ⟨h1, h2⟩ => ⟨h1, wXval_mo hq h2⟩) hx h
  | .get d k x, ρ => fun M Q Q' X X' hq hx h => by
    simp only [wE] at h ⊢
    exact mE d ρ _ _ _ _ _ (fun dd M1 ⟨h0, h1⟩ => ⟨h0, mE k ρ _ _ _ _ _ (fun kk M2 h2 => mE x ρ _ _ _ _ _ (fun xx M3 h3 => wGet_mo hq h3) hx h2) hx h1⟩) hx h
  | .pop a, ρ => fun M Q Q' X X' hq hx h => by
    simp only [wE] at h ⊢
    exact mE a ρ _ _ _ _ _ (fun x M1 h1 => wPop_mo hq h1) hx h
  | .popAt a b, ρ => fun M Q Q' X X' hq hx h => by
    simp only [wE] at h ⊢
    exact mE a ρ _ _ _ _ _ (fun x M1 ⟨h0, h1⟩ => ⟨h0, mE b ρ _ _ _ _ _ (fun y M2 h2 => wPopAt_mo hq h2) hx h1⟩) hx h
  | .index a b, ρ => fun M Q Q' X X' hq hx h => by
    simp only [wE] at h ⊢
    exact mE a ρ _ _ _ _ _ (fun x M1 ⟨h0, h1⟩ => ⟨h0, mE b ρ _ _ _ _ _ (fun y M2 ⟨ns, i, h1, h2, h3, h4, h5⟩ => ⟨ns, i, h1, h2, h3, h4, hq _ _ h5⟩) hx h1⟩) hx h
  | .indexT a b, ρ => fun M Q Q' X X' hq hx h => by
    simp only [wE] at h ⊢
    exact mE a ρ _ _ _ _ _ (fun x M1 ⟨h0, h1⟩ => ⟨h0, mE b ρ _ _ _ _ _ (fun y M2 ⟨ns, i, h1, h2, h3, h4, h5⟩ => ⟨ns, i, h1, h2, h3, h4, hq _ _ h5⟩) hx h1⟩) hx h
  | .mtup es, ρ => fun M Q Q' X X' hq hx h => by
    simp only [wE] at h ⊢
    exact mEs es ρ _ _ _ _ _ (fun vs M1 h1 => ⟨h1.1, hq _ _ h1.2⟩) hx h
  | .dnew, ρ => fun M Q Q' X X' hq hx h => by
    simp only [wE] at h ⊢
    exact hq _ _ h
  | .dix a b, ρ => fun M Q Q' X X' hq hx h => by
    simp only [wE] at h ⊢
    exact mE a ρ _ _ _ _ _ (fun x M1 h1 => mE b ρ _ _ _ _ _ (fun y M2 h2 => wDix_mo hq h2) hx h1) hx h
theorem mT : ∀ (e : E) (ρ : Sto), Mono (wT Γ e ρ)
  | .not a, ρ => fun M Q Q' X X' hq hx h => by
    simp only [wT] at h ⊢
    exact mT a ρ _ _ _ _ _ (fun x M1 h1 => hq _ _ h1) hx h
  | .and a b, ρ => fun M Q Q' X X' hq hx h => by
    simp only [wT] at h ⊢
    refine mT a ρ _ _ _ _ _ (fun x M1 h2 => ?_) hx h
    split
    · rename_i hk; rw [if_pos hk] at h2; exact mT b ρ _ _ _ _ _ hq hx h2
    · rename_i hk; rw [if_neg hk] at h2; exact hq _ _ h2
  | .or a b, ρ => fun M Q Q' X X' hq hx h => by
    simp only [wT] at h ⊢
    refine mT a ρ _ _ _ _ _ (fun x M1 h2 => ?_) hx h
    split
    · rename_i hk; rw [if_pos hk] at h2; exact hq _ _ h2
    · rename_i hk; rw [if_neg hk] at h2; exact mT b ρ _ _ _ _ _ hq hx h2
  | .var i, ρ => fun M Q Q' X X' hq hx h => by
    simp only [wT] at h ⊢
    exact mE _ ρ _ _ _ _ _ (fun x M1 ⟨k, h1, h2⟩ => ⟨k, h1, hq _ _ h2⟩) hx h
  | .cst c, ρ => fun M Q Q' X X' hq hx h => by simp only [wT] at h ⊢; exact mE _ ρ _ _ _ _ _ (fun x M1 ⟨k, h1, h2⟩ => ⟨k, h1, hq _ _ h2⟩) hx h
  | .neg a, ρ => fun M Q Q' X X' hq hx h => by simp only [wT] at h ⊢; exact mE _ ρ _ _ _ _ _ (fun x M1 ⟨k, h1, h2⟩ => ⟨k, h1, hq _ _ h2⟩) hx h
  | .ite c a b, ρ => fun M Q Q' X X' hq hx h => by simp only [wT] at h ⊢; exact mE _ ρ _ _ _ _ _ (fun x M1 ⟨k, h1, h2⟩ => ⟨k, h1, hq _ _ h2⟩) hx h
  | .bin o a b, ρ => fun M Q Q' X X' hq hx h => by simp only [wT] at h ⊢; exact mE _ ρ _ _ _ _ _ (fun x M1 ⟨k, h1, h2⟩ => ⟨k, h1, hq _ _ h2⟩) hx h
  | .cmp o a b, ρ => fun M Q Q' X X' hq hx h => by simp only [wT] at h ⊢; exact mE _ ρ _ _ _ _ _ (fun x M1 ⟨k, h1, h2⟩ => ⟨k, h1, hq _ _ h2⟩) hx h
  | .chain o p a b c, ρ => fun M Q Q' X X' hq hx h => by simp only [wT] at h ⊢; exact mE _ ρ _ _ _ _ _ (fun x M1 ⟨k, h1, h2⟩ => ⟨k, h1, hq _ _ h2⟩) hx h
  | .tup es, ρ => fun M Q Q' X X' hq hx h => by simp only [wT] at h ⊢; exact mE _ ρ _ _ _ _ _ (fun x M1 ⟨k, h1, h2⟩ => ⟨k, h1, hq _ _ h2⟩) hx h
  | .fr f, ρ => fun M Q Q' X X' hq hx h => by simp only [wT] at h ⊢; exact mE _ ρ _ _ _ _ _ (fun x M1 ⟨k, h1, h2⟩ => ⟨k, h1, hq _ _ h2⟩) hx h
  | .al f, ρ => fun M Q Q' X X' hq hx h => by simp only [wT] at h ⊢; exact mE _ ρ _ _ _ _ _ (fun x M1 ⟨k, h1, h2⟩ => ⟨k, h1, hq _ _ h2⟩) hx h
  | .ddisp ks es, ρ => fun M Q Q' X X' hq hx h => by simp only [wT] at h ⊢; exact mE _ ρ _ _ _ _ _ (fun x M1 ⟨k, h1, h2⟩ => ⟨k, h1, hq _ _ h2⟩) hx h
  | .ix a b, ρ => fun M Q Q' X X' hq hx h => by simp only [wT] at h ⊢; exact mE _ ρ _ _ _ _ _ (fun x M1 ⟨k, h1, h2⟩ => ⟨k, h1, hq _ _ h2⟩) hx h
  | .sl a lo hi, ρ => fun M Q Q' X X' hq hx h => by simp only [wT] at h ⊢; exact mE _ ρ _ _ _ _ _ (fun x M1 ⟨k, h1, h2⟩ => ⟨k, h1, hq _ _ h2⟩) hx h
  | .rev a, ρ => fun M Q Q' X X' hq hx h => by simp only [wT] at h ⊢; exact mE _ ρ _ _ _ _ _ (fun x M1 ⟨k, h1, h2⟩ => ⟨k, h1, hq _ _ h2⟩) hx h
  | .call f es, ρ => fun M Q Q' X X' hq hx h => by simp only [wT] at h ⊢; exact mE _ ρ _ _ _ _ _ (fun x M1 ⟨k, h1, h2⟩ => ⟨k, h1, hq _ _ h2⟩) hx h
  | .callK f es ns ks, ρ => fun M Q Q' X X' hq hx h => by simp only [wT] at h ⊢; exact mE _ ρ _ _ _ _ _ (fun x M1 ⟨k, h1, h2⟩ => ⟨k, h1, hq _ _ h2⟩) hx h
  | .b1 f a, ρ => fun M Q Q' X X' hq hx h => by simp only [wT] at h ⊢; exact mE _ ρ _ _ _ _ _ (fun x M1 ⟨k, h1, h2⟩ => ⟨k, h1, hq _ _ h2⟩) hx h
  | .b2 f a b, ρ => fun M Q Q' X X' hq hx h => by simp only [wT] at h ⊢; exact mE _ ρ _ _ _ _ _ (fun x M1 ⟨k, h1, h2⟩ => ⟨k, h1, hq _ _ h2⟩) hx h
  | .isI a ts, ρ => fun M Q Q' X X' hq hx h => by simp only [wT] at h ⊢; exact mE _ ρ _ _ _ _ _ (fun x M1 ⟨k, h1, h2⟩ => ⟨k, h1, hq _ _ h2⟩) hx h
  | .isX a cs, ρ => fun M Q Q' X X' hq hx h => by simp only [wT] at h ⊢; exact mE _ ρ _ _ _ _ _ (fun x M1 ⟨k, h1, h2⟩ => ⟨k, h1, hq _ _ h2⟩) hx h
  | .xval a f, ρ => fun M Q Q' X X' hq hx h => by simp only [wT] at h ⊢; exact mE _ ρ _ _ _ _ _ (fun x M1 ⟨k, h1, h2⟩ => ⟨k, h1, hq _ _ h2⟩) hx h
  | .get d k x, ρ => fun M Q Q' X X' hq hx h => by simp only [wT] at h ⊢; exact mE _ ρ _ _ _ _ _ (fun x M1 ⟨k, h1, h2⟩ => ⟨k, h1, hq _ _ h2⟩) hx h
  | .pop a, ρ => fun M Q Q' X X' hq hx h => by simp only [wT] at h ⊢; exact mE _ ρ _ _ _ _ _ (fun x M1 ⟨k, h1, h2⟩ => ⟨k, h1, hq _ _ h2⟩) hx h
  | .popAt a b, ρ => fun M Q Q' X X' hq hx h => by simp only [wT] at h ⊢; exact mE _ ρ _ _ _ _ _ (fun x M1 ⟨k, h1, h2⟩ => ⟨k, h1, hq _ _ h2⟩) hx h
  | .index a b, ρ => fun M Q Q' X X' hq hx h => by simp only [wT] at h ⊢; exact mE _ ρ _ _ _ _ _ (fun x M1 ⟨k, h1, h2⟩ => ⟨k, h1, hq _ _ h2⟩) hx h
  | .indexT a b, ρ => fun M Q Q' X X' hq hx h => by simp only [wT] at h ⊢; exact mE _ ρ _ _ _ _ _ (fun x M1 ⟨k, h1, h2⟩ => ⟨k, h1, hq _ _ h2⟩) hx h
  | .mtup es, ρ => fun M Q Q' X X' hq hx h => by simp only [wT] at h ⊢; exact mE _ ρ _ _ _ _ _ (fun x M1 ⟨k, h1, h2⟩ => ⟨k, h1, hq _ _ h2⟩) hx h
  | .dnew, ρ => fun M Q Q' X X' hq hx h => by simp only [wT] at h ⊢; exact mE _ ρ _ _ _ _ _ (fun x M1 ⟨k, h1, h2⟩ => ⟨k, h1, hq _ _ h2⟩) hx h
  | .dix a b, ρ => fun M Q Q' X X' hq hx h => by simp only [wT] at h ⊢; exact mE _ ρ _ _ _ _ _ (fun x M1 ⟨k, h1, h2⟩ => ⟨k, h1, hq _ _ h2⟩) hx h
theorem mEs : ∀ (es : Es) (ρ : Sto), Mono (wEs Γ es ρ)
  | .nil, ρ => fun M Q Q' X X' hq hx h => by simp only [wEs] at h ⊢; exact hq _ _ h
  | .cons e es, ρ => fun M Q Q' X X' hq hx h => by
    simp only [wEs] at h ⊢
    exact mE e ρ _ _ _ _ _ (fun v M1 h1 => mEs es ρ _ _ _ _ _ (fun vs M2 h2 => hq _ _ h2) hx h1) hx h
theorem mO : ∀ (o : Oe) (ρ : Sto), Mono (wO Γ o ρ)
  | .none, ρ => fun M Q Q' X X' hq hx h => by simp only [wO] at h ⊢; exact hq _ _ h
  | .some e, ρ => fun M Q Q' X X' hq hx h => by
    simp only [wO] at h ⊢
    exact mE e ρ _ _ _ _ _ (fun x M1 ⟨i, h1, h2⟩ => ⟨i, h1, hq _ _ h2⟩) hx h
theorem mC : ∀ (o : Oe) (ρ : Sto), Mono (wC Γ o ρ)
  | .none, ρ => fun M Q Q' X X' hq hx h => by simp only [wC] at h ⊢; exact hq _ _ h
  | .some e, ρ => fun M Q Q' X X' hq hx h => by
    simp only [wC] at h ⊢
    exact mT e ρ _ _ _ _ _ hq hx h
theorem mF : ∀ (f : F) (ρ : Sto), Mono (wF Γ f ρ)
  | .disp es, ρ => fun M Q Q' X X' hq hx h => by
    simp only [wF, wDisp] at h ⊢
    exact mEs es ρ _ _ _ _ _ (fun v M1 h1 => ⟨h1.1, hq _ _ h1.2⟩) hx h
  | .comp e t it c, ρ => fun M Q Q' X X' hq hx h => by
    simp only [wF] at h ⊢
    exact mI it ρ _ _ _ _ _ (fun r M1 ⟨h1, h2⟩ => ⟨h1, wLc_mo (tg := tgAt t (wipeS ρ (tgSlots t))) (fun x Q Q' => wTg_mo t x _ Q Q') (mC c) (mE e) r.1 [] _ _ _ _ _ hq (fun _ _ z => z) h2⟩) hx h
  | .comp2 e t it u ju c, ρ => fun M Q Q' X X' hq hx h => by
    simp only [wF] at h ⊢
    exact mI it ρ _ _ _ _ _ (fun r M1 h2 => wLc2_mo (tg := tgAt t (wipeS ρ (tgSlots t ++ tgSlots u))) (tg2 := fun ρ1 => tgAt u (wipeS ρ1 (tgSlots u))) (fun x Q Q' => wTg_mo t x _ Q Q') (fun ρ x Q Q' => wTg_mo u x _ Q Q') (mI ju) (mC c) (mE e) r.1 [] _ _ _ hq h2) hx h
  | .listOf a, ρ => fun M Q Q' X X' hq hx h => by
    simp only [wF] at h ⊢
    exact mE a ρ _ _ _ _ _ (fun x M1 ⟨xs, h1, h2⟩ => ⟨xs, h1, hq _ _ h2⟩) hx h
  | .cat a b, ρ => fun M Q Q' X X' hq hx h => by
    simp only [wF] at h ⊢
    exact mE a ρ _ _ _ _ _ (fun x M1 h1 => mE b ρ _ _ _ _ _ (fun y M2 ⟨xs, ys, h1, h2, h3, h4, h5, h6⟩ => ⟨xs, ys, h1, h2, h3, h4, h5, hq _ _ h6⟩) hx h1) hx h
  | .rep a b, ρ => fun M Q Q' X X' hq hx h => by
    simp only [wF] at h ⊢
    exact mE a ρ _ _ _ _ _ (fun x M1 h1 => mE b ρ _ _ _ _ _ (fun y M2 ⟨xs, j, h1, h2, h3, h4, h5⟩ => ⟨xs, j, h1, h2, h3, h4, hq _ _ h5⟩) hx h1) hx h
  | .slice a lo hi, ρ => fun M Q Q' X X' hq hx h => by
    simp only [wF] at h ⊢
    exact mE a ρ _ _ _ _ _ (fun x M1 h1 => mO lo ρ _ _ _ _ _ (fun y M2 h2 => mO hi ρ _ _ _ _ _ (fun z M3 ⟨xs, h1, h2, h3⟩ => ⟨xs, h1, h2, hq _ _ h3⟩) hx h2) hx h1) hx h
  | .lrng a, ρ => fun M Q Q' X X' hq hx h => by
    simp only [wF] at h ⊢
    exact mE a ρ _ _ _ _ _ (fun x M1 ⟨i, h1, h2, h3⟩ => ⟨i, h1, h2, hq _ _ h3⟩) hx h
theorem mI : ∀ (it : It) (ρ : Sto), Mono (wI Γ it ρ)
  | .of e, ρ => fun M Q Q' X X' hq hx h => by
    simp only [wI] at h ⊢
    exact mE e ρ _ _ _ _ _ (fun x M1 ⟨xs, h1, h2⟩ => ⟨xs, h1, hq _ _ h2⟩) hx h
  | .rng es, ρ => fun M Q Q' X X' hq hx h => by
    simp only [wI] at h ⊢
    exact mEs es ρ _ _ _ _ _ (fun vs M1 h1 => wRng_mo hq h1) hx h
  | .enum e, ρ => fun M Q Q' X X' hq hx h => by
    simp only [wI] at h ⊢
    exact mE e ρ _ _ _ _ _ (fun x M1 ⟨xs, h1, h2⟩ => ⟨xs, h1, hq _ _ h2⟩) hx h
  | .zip a b, ρ => fun M Q Q' X X' hq hx h => by
    simp only [wI] at h ⊢
    exact mE a ρ _ _ _ _ _ (fun x M1 h1 => mE b ρ _ _ _ _ _ (fun y M2 ⟨xs, ys, h0, h1, h2, h3⟩ => ⟨xs, ys, h0, h1, h2, hq _ _ h3⟩) hx h1) hx h
  | .rev e, ρ => fun M Q Q' X X' hq hx h => by
    simp only [wI] at h ⊢
    exact mE e ρ _ _ _ _ _ (fun x M1 ⟨xs, h1, h2⟩ => ⟨xs, h1, hq _ _ h2⟩) hx h
  | .keys e, ρ => fun M Q Q' X X' hq hx h => by
    simp only [wI] at h ⊢
    refine mE e ρ _ _ _ _ _ (fun x M1 h => ?_) hx h
    cases x with
    | l k =>
      obtain ⟨kvs, h1, h2⟩ := h
      exact ⟨kvs, h1, fun o kv => hq _ _ (h2 o kv)⟩
    | _ => exact h
end
end

/-! ### statements -/
structure Outs.Le (O O' : Outs) : Prop where
  nx : ∀ ρ M, O.nx ρ M → O'.nx ρ M
  rt : ∀ v M, O.rt v M → O'.rt v M
  bk : ∀ ρ M, O.bk ρ M → O'.bk ρ M
  ct : ∀ ρ M, O.ct ρ M → O'.ct ρ M
  ex : ∀ x ρ M, O.ex x ρ M → O'.ex x ρ M
def MonoS (s : Sto → Mem → Outs → Prop) : Prop := ∀ ρ M O O', O.Le O' → s ρ M O → s ρ M O'
theorem MonoS.go {s : Sto → Mem → Outs → Prop} {ρ : Sto} {M : Mem} {O O' : Outs} (m : MonoS s) (h : s ρ M O) (l : O.Le O') : s ρ M O' := m ρ M O O' l h
theorem wFor_mo {tg : Itm → Sto → (Sto → Prop) → Prop} {ok : Mem → Prop} {body : Sto → Mem → Outs → Prop} (ht : ∀ x ρ Q Q', (∀ ρ, Q ρ → Q' ρ) → tg x ρ Q → tg x ρ Q') (hb : MonoS body) : ∀ xs, MonoS (wFor tg ok body xs) := by
  intro xs
  induction xs with
  | nil => intro ρ M O O' l h; simp only [wFor] at h ⊢; exact ⟨h.1, l.nx _ _ h.2⟩
  | cons x xs ih =>
    intro ρ M O O' l h
    simp only [wFor] at h ⊢
    refine ⟨h.1, ht _ _ _ _ (fun ρ1 h1 => ?_) h.2⟩
    exact hb.go h1 ⟨fun ρ2 M2 => ih ρ2 M2 O O' l, l.rt, l.nx, fun ρ2 M2 => ih ρ2 M2 O O' l, l.ex⟩
theorem wWhl_mo {c : Sto → Comp Bool} {body : Sto → Mem → Outs → Prop} (hc : ∀ ρ, Mono (c ρ)) (hb : MonoS body) : ∀ n, MonoS (wWhl c body n) := by
  intro n
  induction n with
  | zero => intro ρ M O O' l h; simp only [wWhl] at h
  | succ n ih =>
    intro ρ M O O' l h
    simp only [wWhl] at h ⊢
    refine hc ρ _ _ _ _ _ (fun b M1 h1 => ?_) (fun x M1 h1 => l.ex _ _ _ h1) h
    split
    · rename_i hk
      rw [if_pos hk] at h1
      exact hb.go h1 ⟨fun ρ2 M2 => ih ρ2 M2 O O' l, l.rt, l.nx, fun ρ2 M2 => ih ρ2 M2 O O' l, l.ex⟩
    · rename_i hk
      rw [if_neg hk] at h1
      exact l.nx _ _ h1
theorem wPut_mo {x y v : S} {M : Mem} {Q Q' : Mem → Prop} (hq : ∀ M, Q M → Q' M) (h : wPut x y v M Q) : wPut x y v M Q' := by
  unfold wPut at h ⊢
  split at h
  · obtain ⟨xs, j, h1, h2, h3⟩ := h; exact ⟨xs, j, h1, h2, hq _ h3⟩
  · obtain ⟨kvs, h1, h2, h3⟩ := h; exact ⟨kvs, h1, h2, hq _ h3⟩
  · exact h.elim
theorem wDput_mo {x y v : S} {M : Mem} {Q Q' : Mem → Prop} (hq : ∀ M, Q M → Q' M) (h : wDput x y v M Q) : wDput x y v M Q' := dAt_mo (fun _ _ _ h => ⟨h.1, hq _ h.2⟩) h
theorem wAug_mo {o : Operator} {x y : S} {Q Q' : S → Prop} (hq : ∀ v, Q v → Q' v) (h : wAug o x y Q) : wAug o x y Q' := by
  unfold wAug at h ⊢
  split at h <;> first | exact hq _ h | exact ⟨h.1, hq _ h.2⟩ | exact h.elim
theorem Env.Mo.cur {Γ : Env} (h : Γ.Mo) (x : Option S) : Env.Mo { Γ with cur := x } := ⟨h.mo⟩
mutual
theorem mS : ∀ (s : St) (Γ : Env), Γ.Mo → MonoS (wS Γ s)
  | .asg t e, Γ, hΓ => fun ρ M O O' l h => by
    simp only [wS] at h ⊢
    exact mE hΓ e ρ _ _ _ _ _ (fun v M1 h1 => wTg_mo _ _ _ _ _ (fun ρ1 h2 => l.nx _ _ h2) h1) (fun x M1 h1 => l.ex _ _ _ h1) h
  | .setIx a b e, Γ, hΓ => fun ρ M O O' l h => by
    simp only [wS] at h ⊢
    exact mE hΓ e ρ _ _ _ _ _ (fun v M1 h1 => mE hΓ a ρ _ _ _ _ _ (fun x M2 h2 => mE hΓ b ρ _ _ _ _ _ (fun y M3 h3 => wPut_mo (fun M4 h4 => l.nx _ _ h4) h3) (fun x M1 h1 => l.ex _ _ _ h1) h2) (fun x M1 h1 => l.ex _ _ _ h1) h1) (fun x M1 h1 => l.ex _ _ _ h1) h
  | .par i j a b, Γ, hΓ => fun ρ M O O' l h => by
    simp only [wS] at h ⊢
    exact mE hΓ a ρ _ _ _ _ _ (fun v M1 h1 => mE hΓ b ρ _ _ _ _ _ (fun x M2 h2 => l.nx _ _ h2) (fun x M1 h1 => l.ex _ _ _ h1) h1) (fun x M1 h1 => l.ex _ _ _ h1) h
  | .aug i o e, Γ, hΓ => fun ρ M O O' l h => by
    simp only [wS] at h ⊢
    obtain ⟨v, h0, h⟩ := h
    exact ⟨v, h0, mE hΓ e ρ _ _ _ _ _ (fun v M1 h1 => wAug_mo (fun r h2 => l.nx _ _ h2) h1) (fun x M1 h1 => l.ex _ _ _ h1) h⟩
  | .augIx a b o e, Γ, hΓ => fun ρ M O O' l h => by
    simp only [wS] at h ⊢
    exact mE hΓ a ρ _ _ _ _ _ (fun x M1 h1 => mE hΓ b ρ _ _ _ _ _ (fun y M2 h2 => wIx_mo (fun v M3 h3 => mE hΓ e ρ _ _ _ _ _ (fun w M4 h4 => wAug_mo (fun r h5 => wPut_mo (fun M5 h6 => l.nx _ _ h6) h5) h4) (fun x M1 h1 => l.ex _ _ _ h1) h3) h2) (fun x M1 h1 => l.ex _ _ _ h1) h1) (fun x M1 h1 => l.ex _ _ _ h1) h
  | .expr e, Γ, hΓ => fun ρ M O O' l h => by
    simp only [wS] at h ⊢
    exact mE hΓ e ρ _ _ _ _ _ (fun v M1 h1 => l.nx _ _ h1) (fun x M1 h1 => l.ex _ _ _ h1) h
  | .app a e, Γ, hΓ => fun ρ M O O' l h => by
    simp only [wS] at h ⊢
    exact mE hΓ a ρ _ _ _ _ _ (fun x M1 ⟨h0, h1⟩ => ⟨h0, mE hΓ e ρ _ _ _ _ _ (fun v M2 ⟨k, xs, h1, h2, h3, h4⟩ => ⟨k, xs, h1, h2, h3, l.nx _ _ h4⟩) (fun x M1 h1 => l.ex _ _ _ h1) h1⟩) (fun x M1 h1 => l.ex _ _ _ h1) h
  | .ext a e, Γ, hΓ => fun ρ M O O' l h => by
    simp only [wS] at h ⊢
    exact mE hΓ a ρ _ _ _ _ _ (fun x M1 ⟨h0, h1⟩ => ⟨h0, mE hΓ e ρ _ _ _ _ _ (fun v M2 ⟨k, xs, ys, h1, h2, h3, h4, h5, h6⟩ => ⟨k, xs, ys, h1, h2, h3, h4, h5, l.nx _ _ h6⟩) (fun x M1 h1 => l.ex _ _ _ h1) h1⟩) (fun x M1 h1 => l.ex _ _ _ h1) h
  | .ins a b e, Γ, hΓ => fun ρ M O O' l h => by
    simp only [wS] at h ⊢
    exact mE hΓ a ρ _ _ _ _ _ (fun x M1 ⟨h0, h1⟩ => ⟨h0, mE hΓ b ρ _ _ _ _ _ (fun y M2 h2 => mE hΓ e ρ _ _ _ _ _ (fun v M3 ⟨k, xs, j, h1, h2, h3, h4, h5, h6⟩ => ⟨k, xs, j, h1, h2, h3, h4, h5, l.nx _ _ h6⟩) (fun x M1 h1 => l.ex _ _ _ h1) h2) (fun x M1 h1 => l.ex _ _ _ h1) h1⟩) (fun x M1 h1 => l.ex _ _ _ h1) h
  | .ret e, Γ, hΓ => fun ρ M O O' l h => by
    simp only [wS] at h ⊢
    exact mE hΓ e ρ _ _ _ _ _ (fun v M1 h1 => l.rt _ _ h1) (fun x M1 h1 => l.ex _ _ _ h1) h
  | .retN, Γ, hΓ => fun ρ M O O' l h => by simp only [wS] at h ⊢; exact l.rt _ _ h
  | .cond c a b, Γ, hΓ => fun ρ M O O' l h => by
    simp only [wS] at h ⊢
    refine mT hΓ c ρ _ _ _ _ _ (fun k M1 h1 => ?_) (fun x M1 h1 => l.ex _ _ _ h1) h
    split
    · rename_i hk; rw [if_pos hk] at h1; exact mSs a Γ hΓ _ _ _ _ l h1
    · rename_i hk; rw [if_neg hk] at h1; exact mSs b Γ hΓ _ _ _ _ l h1
  | .loop t it b, Γ, hΓ => fun ρ M O O' l h => by
    simp only [wS] at h ⊢
    exact mI hΓ it ρ _ _ _ _ _ (fun r M1 h1 => wFor_mo (fun x ρ Q Q' => wTg_mo t x ρ Q Q') (mSs b Γ hΓ) _ _ _ _ _ l h1) (fun x M1 h1 => l.ex _ _ _ h1) h
  | .whl c b, Γ, hΓ => fun ρ M O O' l h => by
    simp only [wS] at h ⊢
    obtain ⟨n, h⟩ := h
    exact ⟨n, wWhl_mo (mT hΓ c) (mSs b Γ hΓ) n _ _ _ _ l h⟩
  | .raise c e, Γ, hΓ => fun ρ M O O' l h => by
    simp only [wS] at h ⊢
    exact mE hΓ e ρ _ _ _ _ _ (fun v M1 h2 => l.ex _ _ _ h2) (fun x M1 h1 => l.ex _ _ _ h1) h
  | .tryX b hs, Γ, hΓ => fun ρ M O O' l h => by
    simp only [wS] at h ⊢
    exact (mSs b Γ hΓ).go h ⟨l.nx, l.rt, l.bk, l.ct, fun x ρ1 M1 h1 => mHs hs Γ hΓ x _ _ _ _ l h1⟩
  | .pass, Γ, hΓ => fun ρ M O O' l h => by simp only [wS] at h ⊢; exact l.nx _ _ h
  | .brk, Γ, hΓ => fun ρ M O O' l h => by simp only [wS] at h ⊢; exact l.bk _ _ h
  | .cont, Γ, hΓ => fun ρ M O O' l h => by simp only [wS] at h ⊢; exact l.ct _ _ h
  | .any, Γ, hΓ => fun ρ M O O' l h => by simp only [wS] at h
  | .parIx a i b j e f, Γ, hΓ => fun ρ M O O' l h => by
    simp only [wS] at h ⊢
    exact mE hΓ _ ρ _ _ _ _ _ (fun v M1 ⟨p, q, e, h1⟩ => ⟨p, q, e, mE hΓ a ρ _ _ _ _ _ (fun x M2 h2 => mE hΓ i ρ _ _ _ _ _ (fun y M3 h3 => wPut_mo (fun M4 h4 => mE hΓ b ρ _ _ _ _ _ (fun x2 M5 h5 => mE hΓ j ρ _ _ _ _ _ (fun y2 M6 h6 => wPut_mo (fun M7 h7 => l.nx _ _ h7) h6) (fun x M1 h1 => l.ex _ _ _ h1) h5) (fun x M1 h1 => l.ex _ _ _ h1) h4) h3) (fun x M1 h1 => l.ex _ _ _ h1) h2) (fun x M1 h1 => l.ex _ _ _ h1) h1⟩) (fun x M1 h1 => l.ex _ _ _ h1) h
  | .unp ts e, Γ, hΓ => fun ρ M O O' l h => by
    simp only [wS] at h ⊢
    exact mE hΓ e ρ _ _ _ _ _ (fun v M1 ⟨k, h1, ss, h2, h3, h4⟩ => ⟨k, h1, ss, h2, h3, wTgs_mo ts ss ρ _ _ (fun ρ1 h5 => l.nx _ _ h5) h4⟩) (fun x M1 h1 => l.ex _ _ _ h1) h
  | .dput a b e, Γ, hΓ => fun ρ M O O' l h => by
    simp only [wS] at h ⊢
    exact mE hΓ e ρ _ _ _ _ _ (fun v M1 h1 => mE hΓ a ρ _ _ _ _ _ (fun x M2 h2 => mE hΓ b ρ _ _ _ _ _ (fun y M3 h3 => wDput_mo (fun M4 h4 => l.nx _ _ h4) h3) (fun x M1 h1 => l.ex _ _ _ h1) h2) (fun x M1 h1 => l.ex _ _ _ h1) h1) (fun x M1 h1 => l.ex _ _ _ h1) h
theorem mSs : ∀ (s : Ss) (Γ : Env), Γ.Mo → MonoS (wSs Γ s)
  | .nil, Γ, hΓ => fun ρ M O O' l h => by simp only [wSs] at h ⊢; exact l.nx _ _ h
  | .cons s ss, Γ, hΓ => fun ρ M O O' l h => by
    simp only [wSs] at h ⊢
    exact (mS s Γ hΓ).go h ⟨fun ρ1 M1 h1 => mSs ss Γ hΓ _ _ _ _ l h1, l.rt, l.bk, l.ct, l.ex⟩
theorem mHs : ∀ (hs : Hs) (Γ : Env), Γ.Mo → ∀ x, MonoS (wHs Γ hs x)
  | .nil, Γ, hΓ => fun x ρ M O O' l h => by simp only [wHs] at h ⊢; exact l.ex _ _ _ h
  | .cons c i b hs, Γ, hΓ => fun x ρ M O O' l h => by
    simp only [wHs] at h ⊢
    obtain ⟨m, hm, h⟩ := h
    refine ⟨m, hm, ?_⟩
    split
    · rename_i hk
      rw [if_pos hk] at h
      exact fun a dd => (mSs b _ (hΓ.cur _)).go (h a dd) ⟨fun ρ1 M1 h1 => l.nx _ _ h1, l.rt, fun ρ1 M1 h1 => l.bk _ _ h1, fun ρ1 M1 h1 => l.ct _ _ h1, fun _ _ _ z => z⟩
    · rename_i hk
      rw [if_neg hk] at h
      exact mHs hs Γ hΓ x _ _ _ _ l h
end
end G

/-! Layer G, part 1b: rules by which a proof runs the weakest preconditions. -/
namespace G
open PySem L2
section
variable {M : Mem} {Q : S → Mem → Prop} {i j : Int} {xs ys : List PD} {P : Prop}
theorem r_add : wBin .Add (.d (.int i)) (.d (.int j)) M Q = Q (.d (.int (i + j))) M := rfl
theorem r_sub : wBin .Sub (.d (.int i)) (.d (.int j)) M Q = Q (.d (.int (i - j))) M := rfl
theorem r_mul : wBin .Mult (.d (.int i)) (.d (.int j)) M Q = (MulOk i j ∧ Q (.d (.int (i * j))) M) := rfl
theorem r_div : wBin .FloorDiv (.d (.int i)) (.d (.int j)) M Q = (DivOk j i ∧ Q (.d (.int (i / j))) M) := rfl
theorem r_mod : wBin .Mod (.d (.int i)) (.d (.int j)) M Q = (0 < j ∧ Q (.d (.int (i % j))) M) := rfl
theorem r_pow : wBin .Pow (.d (.int i)) (.d (.int j)) M Q = (PowOk i j ∧ Q (.d (.int (i ^ j.toNat))) M) := rfl
theorem r_shl : wBin .LShift (.d (.int i)) (.d (.int j)) M Q = (PowOk i j ∧ Q (.d (.int (i * 2 ^ j.toNat))) M) := rfl
theorem r_cat : wBin .Add (.d (.tuple xs)) (.d (.tuple ys)) M Q = (xs.length + ys.length ≤ sizeLine ∧ Q (.d (.tuple (xs ++ ys))) M) := rfl
theorem r_cats {a b : Str} : wBin .Add (.d (.str a)) (.d (.str b)) M Q = (a.length + b.length ≤ sizeLine ∧ Q (.d (.str (a ++ b))) M) := rfl
theorem r_rep : wBin .Mult (.d (.tuple xs)) (.d (.int j)) M Q = ((xs ≠ [] ∧ xs.length ≤ 1000 ∧ 0 ≤ j ∧ j ≤ 1000) ∧ Q (.d (.tuple (List.replicate j.toNat xs).flatten)) M) := rfl
theorem r_lt : wCmp .Lt (.d (.int i)) (.d (.int j)) M Q = Q (.d (.bool (decide (i < j)))) M := rfl
theorem r_le : wCmp .LtE (.d (.int i)) (.d (.int j)) M Q = Q (.d (.bool (decide (i ≤ j)))) M := rfl
theorem r_gt : wCmp .Gt (.d (.int i)) (.d (.int j)) M Q = Q (.d (.bool (decide (j < i)))) M := rfl
theorem r_ge : wCmp .GtE (.d (.int i)) (.d (.int j)) M Q = Q (.d (.bool (decide (j ≤ i)))) M := rfl
theorem sh_int : okD (.int i) = true := by simp [okD, PyData.plain, PyData.depth]
theorem sh_bool {b : Bool} : okD (.bool b) = true := by simp [okD, PyData.plain, PyData.depth]
theorem sh_none : okD .none = true := by simp [okD, PyData.plain, PyData.depth]
theorem r_eqI : wCmp .Eq (.d (.int i)) (.d (.int j)) M Q = Q (.d (.bool (decide (i = j)))) M := by
  have e : PyData.eqv (.int i) (.int j) = decide (i = j) := by simp [PyData.eqv]; rfl
  simp only [wCmp, pd2, pd, wEqD, wEq, sh_int, true_and, e, id, B]
theorem r_neI : wCmp .NotEq (.d (.int i)) (.d (.int j)) M Q = Q (.d (.bool (!decide (i = j)))) M := by
  have e : PyData.eqv (.int i) (.int j) = decide (i = j) := by simp [PyData.eqv]; rfl
  simp only [wCmp, pd2, pd, wEqD, wEq, sh_int, true_and, e, id, B]
theorem tr_bool {b : Bool} : truth M (.d (.bool b)) = some b := rfl
theorem tr_int : truth M (.d (.int i)) = some (i != 0) := rfl
theorem tr_none : truth M (.d .none) = some false := rfl
theorem tr_tuple : truth M (.d (.tuple xs)) = some (!xs.isEmpty) := rfl
theorem tr_list : truth M (.d (.list xs)) = some (!xs.isEmpty) := rfl
theorem r_augA {Q : S → Prop} : wAug .Add (.d (.int i)) (.d (.int j)) Q = Q (.d (.int (i + j))) := rfl
theorem r_augS {Q : S → Prop} : wAug .Sub (.d (.int i)) (.d (.int j)) Q = Q (.d (.int (i - j))) := rfl
theorem r_augM {Q : S → Prop} : wAug .Mult (.d (.int i)) (.d (.int j)) Q = (MulOk i j ∧ Q (.d (.int (i * j)))) := rfl
/-- the memory of a body: what was there, then its own objects -/
theorem m_get {L : List MO} {k : Nat} : (M ++ L)[M.length + k]? = L[k]? := by
  rw [List.getElem?_append_right (by omega)]
  congr 1
  omega
theorem m_get0 {L : List MO} : (M ++ L)[M.length]? = L[0]? := by
  rw [List.getElem?_append_right (Nat.le_refl _)]
  congr 1
  omega
theorem m_set {L : List MO} {k : Nat} {o : MO} : (M ++ L).set (M.length + k) o = M ++ L.set k o := by
  rw [List.set_append_right _ _ (by omega)]
  congr 2
  omega
theorem m_set0 {L : List MO} {o : MO} : (M ++ L).set M.length o = M ++ L.set 0 o := by
  rw [List.set_append_right _ _ (Nat.le_refl _)]
  congr 2
  omega
theorem ex_v {v : S} {P : S → Prop} : (∃ w, some (some v) = some (some w) ∧ P w) = P v := by
  apply propext
  constructor
  · rintro ⟨w, e, h⟩; cases e; exact h
  · intro h; exact ⟨v, rfl, h⟩
theorem ex_k {b : Bool} {P : Bool → Prop} : (∃ k, some b = some k ∧ P k) = P b := by
  apply propext
  constructor
  · rintro ⟨w, e, h⟩; cases e; exact h
  · intro h; exact ⟨b, rfl, h⟩
theorem ex_lst {xs : List S} {P : List S → Prop} : (∃ w, some (MO.lst xs) = some (MO.lst w) ∧ P w) = P xs := by
  apply propext
  constructor
  · rintro ⟨w, e, h⟩; cases e; exact h
  · intro h; exact ⟨xs, rfl, h⟩
theorem ex_app {k : Nat} {ys : List S} {P : Nat → List S → Prop} {L : Mem} (h : L[k]? = some (MO.lst ys)) : (∃ n xs, S.l k = S.l n ∧ L[n]? = some (MO.lst xs) ∧ P n xs) = P k ys := by
  apply propext
  constructor
  · rintro ⟨n, w, e, h1, h2⟩; cases e; rw [h] at h1; cases h1; exact h2
  · intro h2; exact ⟨k, ys, rfl, h, h2⟩
end
/-! ### equations -/
section
variable {Γ : Env}
theorem e_var (i : Nat) (ρ : Sto) (M : Mem) (Q : S → Mem → Prop) (X : Xc → Mem → Prop) : wE Γ (.var i) ρ M Q X = (∃ v, ρ[i]? = some (some v) ∧ Q v M) := by simp only [wE]
theorem e_cst (c : PD) (ρ : Sto) (M : Mem) (Q : S → Mem → Prop) (X : Xc → Mem → Prop) : wE Γ (.cst c) ρ M Q X = (Q (.d c) M) := by simp only [wE]
theorem e_neg (a : E) (ρ : Sto) (M : Mem) (Q : S → Mem → Prop) (X : Xc → Mem → Prop) : wE Γ (.neg a) ρ M Q X = (wE Γ a ρ M (fun x M1 => ∃ i, int? x = some i ∧ Q (I (-i)) M1) X) := by simp only [wE]
theorem e_not (a : E) (ρ : Sto) (M : Mem) (Q : S → Mem → Prop) (X : Xc → Mem → Prop) : wE Γ (.not a) ρ M Q X = (wE Γ a ρ M (fun x M1 => ∃ k, truth M1 x = some k ∧ Q (B (!k)) M1) X) := by simp only [wE]
theorem e_and (a : E) (b : E) (ρ : Sto) (M : Mem) (Q : S → Mem → Prop) (X : Xc → Mem → Prop) : wE Γ (.and a b) ρ M Q X = (wE Γ a ρ M (fun x M1 => ∃ k, truth M1 x = some k ∧ if k = true then wE Γ b ρ M1 Q X else Q x M1) X) := by simp only [wE]
theorem e_or (a : E) (b : E) (ρ : Sto) (M : Mem) (Q : S → Mem → Prop) (X : Xc → Mem → Prop) : wE Γ (.or a b) ρ M Q X = (wE Γ a ρ M (fun x M1 => ∃ k, truth M1 x = some k ∧ if k = true then Q x M1 else wE Γ b ρ M1 Q X) X) := by simp only [wE]
theorem e_ite (c : E) (a : E) (b : E) (ρ : Sto) (M : Mem) (Q : S → Mem → Prop) (X : Xc → Mem → Prop) : wE Γ (.ite c a b) ρ M Q X = (wT Γ c ρ M (fun k M1 => if k = true then wE Γ a ρ M1 Q X else wE Γ b ρ M1 Q X) X) := by simp only [wE]
theorem e_bin (o : Operator) (a : E) (b : E) (ρ : Sto) (M : Mem) (Q : S → Mem → Prop) (X : Xc → Mem → Prop) : wE Γ (.bin o a b) ρ M Q X = (wE Γ a ρ M (fun x M1 => wE Γ b ρ M1 (fun y M2 => wBin o x y M2 Q) X) X) := by simp only [wE]
theorem e_cmp (o : CmpOp) (a : E) (b : E) (ρ : Sto) (M : Mem) (Q : S → Mem → Prop) (X : Xc → Mem → Prop) : wE Γ (.cmp o a b) ρ M Q X = (wE Γ a ρ M (fun x M1 => wE Γ b ρ M1 (fun y M2 => wCmp o x y M2 Q) X) X) := by simp only [wE]
theorem e_chain (o : CmpOp) (p : CmpOp) (a : E) (b : E) (c : E) (ρ : Sto) (M : Mem) (Q : S → Mem → Prop) (X : Xc → Mem → Prop) : wE Γ (.chain o p a b c) ρ M Q X = (wE Γ a ρ M (fun x M1 => wE Γ b ρ M1 (fun y M2 => wCmp o x y M2 fun r M3 => ∃ k, r = B k ∧
        if k = true then wE Γ c ρ M3 (fun z M4 => wCmp p y z M4 Q) X else Q (B false) M3) X) X) := by simp only [wE]
theorem e_tup (es : Es) (ρ : Sto) (M : Mem) (Q : S → Mem → Prop) (X : Xc → Mem → Prop) : wE Γ (.tup es) ρ M Q X = (wEs Γ es ρ M (fun vs M1 => ∃ xs, dataAll vs = some xs ∧ xs.length ≤ sizeLine ∧ Q (.d (.tuple xs)) M1) X) := by simp only [wE]
theorem e_fr (f : F) (ρ : Sto) (M : Mem) (Q : S → Mem → Prop) (X : Xc → Mem → Prop) : wE Γ (.fr f) ρ M Q X = (wF Γ f ρ M (fun vs M1 => ∃ xs, dataAll vs = some xs ∧ Q (.d (.list xs)) M1) X) := by simp only [wE]
theorem e_al (f : F) (ρ : Sto) (M : Mem) (Q : S → Mem → Prop) (X : Xc → Mem → Prop) : wE Γ (.al f) ρ M Q X = (wF Γ f ρ M (fun vs M1 => Q (.l M1.length) (M1 ++ [.lst vs])) X) := by simp only [wE]
theorem e_ddisp (ks : List Str) (es : Es) (ρ : Sto) (M : Mem) (Q : S → Mem → Prop) (X : Xc → Mem → Prop) : wE Γ (.ddisp ks es) ρ M Q X = (wEs Γ es ρ M (fun vs M1 => Q (.l M1.length) (M1 ++ [.dct ((ks.map Sum.inr).zip vs)])) (fun _ _ => False)) := by simp only [wE]
theorem e_ix (a : E) (b : E) (ρ : Sto) (M : Mem) (Q : S → Mem → Prop) (X : Xc → Mem → Prop) : wE Γ (.ix a b) ρ M Q X = (wE Γ a ρ M (fun x M1 => wE Γ b ρ M1 (fun y M2 => wIx x y M2 Q) X) X) := by simp only [wE]
theorem e_sl (a : E) (lo : Oe) (hi : Oe) (ρ : Sto) (M : Mem) (Q : S → Mem → Prop) (X : Xc → Mem → Prop) : wE Γ (.sl a lo hi) ρ M Q X = (wE Γ a ρ M (fun x M1 => wO Γ lo ρ M1 (fun l M2 => wO Γ hi ρ M2 (fun h M3 => wSl x l h M3 Q) X) X) X) := by simp only [wE]
theorem e_rev (a : E) (ρ : Sto) (M : Mem) (Q : S → Mem → Prop) (X : Xc → Mem → Prop) : wE Γ (.rev a) ρ M Q X = (wE Γ a ρ M (fun x M1 => wRev x M1 Q) X) := by simp only [wE]
theorem e_call (f : Str) (es : Es) (ρ : Sto) (M : Mem) (Q : S → Mem → Prop) (X : Xc → Mem → Prop) : wE Γ (.call f es) ρ M Q X = (wEs Γ es ρ M (fun vs M1 => ∃ φ, Γ.Φ f = some φ ∧ φ vs M1 Q X) X) := by simp only [wE]
theorem e_callK (f : Str) (es : Es) (ns : List Str) (ks : Es) (ρ : Sto) (M : Mem) (Q : S → Mem → Prop) (X : Xc → Mem → Prop) : wE Γ (.callK f es ns ks) ρ M Q X = (wEs Γ es ρ M (fun vs M1 => wEs Γ ks ρ M1 (fun ws M2 => ∃ φ, Γ.Φ f = some φ ∧ φ (vs ++ ((Γ.ps f).drop vs.length).filterMap fun p => (ns.zip ws).lookup p) M2 Q X) X) X) := by simp only [wE]
theorem e_b1 (f : B1) (a : E) (ρ : Sto) (M : Mem) (Q : S → Mem → Prop) (X : Xc → Mem → Prop) : wE Γ (.b1 f a) ρ M Q X = (wE Γ a ρ M (fun x M1 => wB1 f x M1 Q) X) := by simp only [wE]
theorem e_b2 (f : B2) (a : E) (b : E) (ρ : Sto) (M : Mem) (Q : S → Mem → Prop) (X : Xc → Mem → Prop) : wE Γ (.b2 f a b) ρ M Q X = (wE Γ a ρ M (fun x M1 => wE Γ b ρ M1 (fun y M2 => wB2 f x y M2 Q) X) X) := by simp only [wE]
theorem e_isI (a : E) (ts : List String) (ρ : Sto) (M : Mem) (Q : S → Mem → Prop) (X : Xc → Mem → Prop) : wE Γ (.isI a ts) ρ M Q X = (wE Γ a ρ M (fun x M1 => ∃ bs, ts.mapM (fun t => isTyS M1 t x) = some bs ∧ Q (B (bs.any id)) M1) X) := by simp only [wE]
theorem e_isX (a : E) (cs : List Str) (ρ : Sto) (M : Mem) (Q : S → Mem → Prop) (X : Xc → Mem → Prop) : wE Γ (.isX a cs) ρ M Q X = (wE Γ a ρ M (fun x M1 => Γ.cur = some x ∧ wIsX Γ.mro cs x M1 Q) X) := by simp only [wE]
theorem e_xval (a : E) (f : Str) (ρ : Sto) (M : Mem) (Q : S → Mem → Prop) (X : Xc → Mem → Prop) : wE Γ (.xval a f) ρ M Q X = (wE Γ a ρ M (fun x M1 => Γ.cur = some x ∧ wXval f x M1 Q) X) := by simp only [wE]
theorem e_get (d : E) (k : E) (x : E) (ρ : Sto) (M : Mem) (Q : S → Mem → Prop) (X : Xc → Mem → Prop) : wE Γ (.get d k x) ρ M Q X = (wE Γ d ρ M (fun dd M1 => isTyS M1 "dict" dd = some true ∧ wE Γ k ρ M1 (fun kk M2 => wE Γ x ρ M2 (fun xx M3 => wGet dd kk xx M3 Q) X) X) X) := by simp only [wE]
theorem e_pop (a : E) (ρ : Sto) (M : Mem) (Q : S → Mem → Prop) (X : Xc → Mem → Prop) : wE Γ (.pop a) ρ M Q X = (wE Γ a ρ M (fun x M1 => wPop x M1 Q) X) := by simp only [wE]
theorem e_popAt (a : E) (b : E) (ρ : Sto) (M : Mem) (Q : S → Mem → Prop) (X : Xc → Mem → Prop) : wE Γ (.popAt a b) ρ M Q X = (wE Γ a ρ M (fun x M1 => isTyS M1 "list" x = some true ∧ wE Γ b ρ M1 (fun y M2 => wPopAt x y M2 Q) X) X) := by simp only [wE]
theorem e_index (a : E) (b : E) (ρ : Sto) (M : Mem) (Q : S → Mem → Prop) (X : Xc → Mem → Prop) : wE Γ (.index a b) ρ M Q X = (wE Γ a ρ M (fun x M1 => isTyS M1 "list" x = some true ∧ wE Γ b ρ M1 (fun y M2 => ∃ (ns : List Int) (i : Int), isTyS M2 "list" x = some true ∧ items M2 x = some (ns.map I) ∧ y = I i ∧ i ∈ ns ∧ Q (I (ns.idxOf i : Nat)) M2) X) X) := by simp only [wE]
theorem e_indexT (a : E) (b : E) (ρ : Sto) (M : Mem) (Q : S → Mem → Prop) (X : Xc → Mem → Prop) : wE Γ (.indexT a b) ρ M Q X = (wE Γ a ρ M (fun x M1 => isTyS M1 "tuple" x = some true ∧ wE Γ b ρ M1 (fun y M2 => ∃ (ns : List Int) (i : Int), isTyS M2 "tuple" x = some true ∧ items M2 x = some (ns.map I) ∧ y = I i ∧ i ∈ ns ∧ Q (I (ns.idxOf i : Nat)) M2) X) X) := by simp only [wE]
theorem e_mtup (es : Es) (ρ : Sto) (M : Mem) (Q : S → Mem → Prop) (X : Xc → Mem → Prop) : wE Γ (.mtup es) ρ M Q X = (wEs Γ es ρ M (fun vs M1 => vs.length ≤ sizeLine ∧ Q (.l M1.length) (M1 ++ [.tpl vs])) X) := by simp only [wE]
theorem e_dnew  (ρ : Sto) (M : Mem) (Q : S → Mem → Prop) (X : Xc → Mem → Prop) : wE Γ (.dnew) ρ M Q X = (Q (.l M.length) (M ++ [.dct []])) := by simp only [wE]
theorem e_dix (a : E) (b : E) (ρ : Sto) (M : Mem) (Q : S → Mem → Prop) (X : Xc → Mem → Prop) : wE Γ (.dix a b) ρ M Q X = (wE Γ a ρ M (fun x M1 => wE Γ b ρ M1 (fun y M2 => wDix x y M2 Q) X) X) := by simp only [wE]
theorem t_not (a : E) (ρ : Sto) (M : Mem) (Q : Bool → Mem → Prop) (X : Xc → Mem → Prop) : wT Γ (.not a) ρ M Q X = (wT Γ a ρ M (fun b M1 => Q (!b) M1) X) := by simp only [wT]
theorem t_and (a : E) (b : E) (ρ : Sto) (M : Mem) (Q : Bool → Mem → Prop) (X : Xc → Mem → Prop) : wT Γ (.and a b) ρ M Q X = (wT Γ a ρ M (fun k M1 => if k = true then wT Γ b ρ M1 Q X else Q false M1) X) := by simp only [wT]
theorem t_or (a : E) (b : E) (ρ : Sto) (M : Mem) (Q : Bool → Mem → Prop) (X : Xc → Mem → Prop) : wT Γ (.or a b) ρ M Q X = (wT Γ a ρ M (fun k M1 => if k = true then Q true M1 else wT Γ b ρ M1 Q X) X) := by simp only [wT]
theorem a_nil  (ρ : Sto) (M : Mem) (Q : List S → Mem → Prop) (X : Xc → Mem → Prop) : wEs Γ (.nil) ρ M Q X = (Q [] M) := by simp only [wEs]
theorem a_cons (e : E) (es : Es) (ρ : Sto) (M : Mem) (Q : List S → Mem → Prop) (X : Xc → Mem → Prop) : wEs Γ (.cons e es) ρ M Q X = (wE Γ e ρ M (fun v M1 => wEs Γ es ρ M1 (fun vs M2 => Q (v :: vs) M2) X) X) := by simp only [wEs]
theorem o_none  (ρ : Sto) (M : Mem) (Q : Option Int → Mem → Prop) (X : Xc → Mem → Prop) : wO Γ (.none) ρ M Q X = (Q none M) := by simp only [wO]
theorem o_some (e : E) (ρ : Sto) (M : Mem) (Q : Option Int → Mem → Prop) (X : Xc → Mem → Prop) : wO Γ (.some e) ρ M Q X = (wE Γ e ρ M (fun x M1 => ∃ i, int? x = some i ∧ Q (some i) M1) X) := by simp only [wO]
theorem c_none  (ρ : Sto) (M : Mem) (Q : Bool → Mem → Prop) (X : Xc → Mem → Prop) : wC Γ (.none) ρ M Q X = (Q true M) := by simp only [wC]
theorem c_some (e : E) (ρ : Sto) (M : Mem) (Q : Bool → Mem → Prop) (X : Xc → Mem → Prop) : wC Γ (.some e) ρ M Q X = (wT Γ e ρ M Q X) := by simp only [wC]
theorem f_disp (es : Es) (ρ : Sto) (M : Mem) (Q : List S → Mem → Prop) (X : Xc → Mem → Prop) : wF Γ (.disp es) ρ M Q X = (wEs Γ es ρ M (fun vs M1 => wDisp vs M1 Q) X) := by simp only [wF]
theorem f_comp (e : E) (t : Tg) (it : It) (c : Oe) (ρ : Sto) (M : Mem) (Q : List S → Mem → Prop) (X : Xc → Mem → Prop) : wF Γ (.comp e t it c) ρ M Q X = (wI Γ it ρ M (fun r M1 => r.1.length ≤ sizeLine ∧ wLc (tgAt t (wipeS ρ (tgSlots t))) r.2 (wC Γ c) (wE Γ e) r.1 [] M1 Q (fun _ _ => False)) X) := by simp only [wF]
theorem f_comp2 (e : E) (t : Tg) (it : It) (u : Tg) (ju : It) (c : Oe) (ρ : Sto) (M : Mem) (Q : List S → Mem → Prop) (X : Xc → Mem → Prop) : wF Γ (.comp2 e t it u ju c) ρ M Q X = (wI Γ it ρ M (fun r M1 => wLc2 (tgAt t (wipeS ρ (tgSlots t ++ tgSlots u))) r.2 (wI Γ ju) (fun ρ1 => tgAt u (wipeS ρ1 (tgSlots u))) (wC Γ c) (wE Γ e) r.1 [] M1 Q) X) := by simp only [wF]
theorem f_listOf (a : E) (ρ : Sto) (M : Mem) (Q : List S → Mem → Prop) (X : Xc → Mem → Prop) : wF Γ (.listOf a) ρ M Q X = (wE Γ a ρ M (fun x M1 => ∃ xs, items M1 x = some xs ∧ Q xs M1) X) := by simp only [wF]
theorem f_cat (a : E) (b : E) (ρ : Sto) (M : Mem) (Q : List S → Mem → Prop) (X : Xc → Mem → Prop) : wF Γ (.cat a b) ρ M Q X = (wE Γ a ρ M (fun x M1 => wE Γ b ρ M1 (fun y M2 => ∃ xs ys, isTyS M2 "list" x = some true ∧ isTyS M2 "list" y = some true ∧ items M2 x = some xs ∧ items M2 y = some ys ∧ xs.length + ys.length ≤ sizeLine ∧ Q (xs ++ ys) M2) X) X) := by simp only [wF]
theorem f_rep (a : E) (b : E) (ρ : Sto) (M : Mem) (Q : List S → Mem → Prop) (X : Xc → Mem → Prop) : wF Γ (.rep a b) ρ M Q X = (wE Γ a ρ M (fun x M1 => wE Γ b ρ M1 (fun y M2 => ∃ xs j, isTyS M2 "list" x = some true ∧ items M2 x = some xs ∧ y = I j ∧ (-(2 ^ 63) ≤ j ∧ j < 2 ^ 63 ∧ xs.length * j.toNat ≤ sizeLine) ∧ Q (List.replicate j.toNat xs).flatten M2) X) X) := by simp only [wF]
theorem f_slice (a : E) (lo : Oe) (hi : Oe) (ρ : Sto) (M : Mem) (Q : List S → Mem → Prop) (X : Xc → Mem → Prop) : wF Γ (.slice a lo hi) ρ M Q X = (wE Γ a ρ M (fun x M1 => wO Γ lo ρ M1 (fun l M2 => wO Γ hi ρ M2 (fun h M3 => ∃ xs, isTyS M3 "list" x = some true ∧ items M3 x = some xs ∧ Q (cut xs l h) M3) X) X) X) := by simp only [wF]
theorem f_lrng (a : E) (ρ : Sto) (M : Mem) (Q : List S → Mem → Prop) (X : Xc → Mem → Prop) : wF Γ (.lrng a) ρ M Q X = (wE Γ a ρ M (fun x M1 => ∃ i, int? x = some i ∧ (rngOk 0 i ∧ i ≤ 16777216) ∧ Q ((List.range i.toNat).map fun k => I (k : Nat)) M1) X) := by simp only [wF]
theorem i_of (e : E) (ρ : Sto) (M : Mem) (Q : List Itm × (Mem → Prop) → Mem → Prop) (X : Xc → Mem → Prop) : wI Γ (.of e) ρ M Q X = (wE Γ e ρ M (fun x M1 => ∃ xs, items M1 x = some xs ∧ Q (xs.map .one, okOf x xs) M1) X) := by simp only [wI]
theorem i_rng (es : Es) (ρ : Sto) (M : Mem) (Q : List Itm × (Mem → Prop) → Mem → Prop) (X : Xc → Mem → Prop) : wI Γ (.rng es) ρ M Q X = (wEs Γ es ρ M (fun vs M1 => wRng vs M1 Q) X) := by simp only [wI]
theorem i_enum (e : E) (ρ : Sto) (M : Mem) (Q : List Itm × (Mem → Prop) → Mem → Prop) (X : Xc → Mem → Prop) : wI Γ (.enum e) ρ M Q X = (wE Γ e ρ M (fun x M1 => ∃ xs, items M1 x = some xs ∧ Q (enumItems xs, okOf x xs) M1) X) := by simp only [wI]
theorem i_zip (a : E) (b : E) (ρ : Sto) (M : Mem) (Q : List Itm × (Mem → Prop) → Mem → Prop) (X : Xc → Mem → Prop) : wI Γ (.zip a b) ρ M Q X = (wE Γ a ρ M (fun x M1 => wE Γ b ρ M1 (fun y M2 => ∃ xs ys, (∃ t, isTyS M2 t x = some true ∧ isTyS M2 t y = some true ∧ (t = "list" ∨ t = "tuple")) ∧ items M2 x = some xs ∧ items M2 y = some ys ∧ Q (zipItems xs ys, fun M => okOf x xs M ∧ okOf y ys M) M2) X) X) := by simp only [wI]
theorem i_rev (e : E) (ρ : Sto) (M : Mem) (Q : List Itm × (Mem → Prop) → Mem → Prop) (X : Xc → Mem → Prop) : wI Γ (.rev e) ρ M Q X = (wE Γ e ρ M (fun x M1 => ∃ xs, items M1 x = some xs ∧ Q (xs.reverse.map .one, okOf x xs) M1) X) := by simp only [wI]
theorem i_keys (e : E) (ρ : Sto) (M : Mem) (Q : List Itm × (Mem → Prop) → Mem → Prop) (X : Xc → Mem → Prop) : wI Γ (.keys e) ρ M Q X = (wE Γ e ρ M (fun x M1 => wKeys x M1 Q) X) := by simp only [wI]
theorem t_var (a : Nat) (ρ : Sto) (M : Mem) (Q : Bool → Mem → Prop) (X : Xc → Mem → Prop) : wT Γ (.var a) ρ M Q X = wE Γ (.var a) ρ M (fun x M1 => ∃ k, truth M1 x = some k ∧ Q k M1) X := by simp only [wT]
theorem t_cst (a : PD) (ρ : Sto) (M : Mem) (Q : Bool → Mem → Prop) (X : Xc → Mem → Prop) : wT Γ (.cst a) ρ M Q X = wE Γ (.cst a) ρ M (fun x M1 => ∃ k, truth M1 x = some k ∧ Q k M1) X := by simp only [wT]
theorem t_neg (a : E) (ρ : Sto) (M : Mem) (Q : Bool → Mem → Prop) (X : Xc → Mem → Prop) : wT Γ (.neg a) ρ M Q X = wE Γ (.neg a) ρ M (fun x M1 => ∃ k, truth M1 x = some k ∧ Q k M1) X := by simp only [wT]
theorem t_ite (a : E) (b : E) (c : E) (ρ : Sto) (M : Mem) (Q : Bool → Mem → Prop) (X : Xc → Mem → Prop) : wT Γ (.ite a b c) ρ M Q X = wE Γ (.ite a b c) ρ M (fun x M1 => ∃ k, truth M1 x = some k ∧ Q k M1) X := by simp only [wT]
theorem t_bin (a : Operator) (b : E) (c : E) (ρ : Sto) (M : Mem) (Q : Bool → Mem → Prop) (X : Xc → Mem → Prop) : wT Γ (.bin a b c) ρ M Q X = wE Γ (.bin a b c) ρ M (fun x M1 => ∃ k, truth M1 x = some k ∧ Q k M1) X := by simp only [wT]
theorem t_cmp (a : CmpOp) (b : E) (c : E) (ρ : Sto) (M : Mem) (Q : Bool → Mem → Prop) (X : Xc → Mem → Prop) : wT Γ (.cmp a b c) ρ M Q X = wE Γ (.cmp a b c) ρ M (fun x M1 => ∃ k, truth M1 x = some k ∧ Q k M1) X := by simp only [wT]
theorem t_chain (a : CmpOp) (b : CmpOp) (c : E) (d : E) (e : E) (ρ : Sto) (M : Mem) (Q : Bool → Mem → Prop) (X : Xc → Mem → Prop) : wT Γ (.chain a b c d e) ρ M Q X = wE Γ (.chain a b c d e) ρ M (fun x M1 => ∃ k, truth M1 x = some k ∧ Q k M1) X := by simp only [wT]
theorem t_tup (a : Es) (ρ : Sto) (M : Mem) (Q : Bool → Mem → Prop) (X : Xc → Mem → Prop) : wT Γ (.tup a) ρ M Q X = wE Γ (.tup a) ρ M (fun x M1 => ∃ k, truth M1 x = some k ∧ Q k M1) X := by simp only [wT]
theorem t_fr (a : F) (ρ : Sto) (M : Mem) (Q : Bool → Mem → Prop) (X : Xc → Mem → Prop) : wT Γ (.fr a) ρ M Q X = wE Γ (.fr a) ρ M (fun x M1 => ∃ k, truth M1 x = some k ∧ Q k M1) X := by simp only [wT]
theorem t_al (a : F) (ρ : Sto) (M : Mem) (Q : Bool → Mem → Prop) (X : Xc → Mem → Prop) : wT Γ (.al a) ρ M Q X = wE Γ (.al a) ρ M (fun x M1 => ∃ k, truth M1 x = some k ∧ Q k M1) X := by simp only [wT]
theorem t_ddisp (a : List Str) (b : Es) (ρ : Sto) (M : Mem) (Q : Bool → Mem → Prop) (X : Xc → Mem → Prop) : wT Γ (.ddisp a b) ρ M Q X = wE Γ (.ddisp a b) ρ M (fun x M1 => ∃ k, truth M1 x = some k ∧ Q k M1) X := by simp only [wT]
theorem t_ix (a : E) (b : E) (ρ : Sto) (M : Mem) (Q : Bool → Mem → Prop) (X : Xc → Mem → Prop) : wT Γ (.ix a b) ρ M Q X = wE Γ (.ix a b) ρ M (fun x M1 => ∃ k, truth M1 x = some k ∧ Q k M1) X := by simp only [wT]
theorem t_sl (a : E) (b : Oe) (c : Oe) (ρ : Sto) (M : Mem) (Q : Bool → Mem → Prop) (X : Xc → Mem → Prop) : wT Γ (.sl a b c) ρ M Q X = wE Γ (.sl a b c) ρ M (fun x M1 => ∃ k, truth M1 x = some k ∧ Q k M1) X := by simp only [wT]
theorem t_rev (a : E) (ρ : Sto) (M : Mem) (Q : Bool → Mem → Prop) (X : Xc → Mem → Prop) : wT Γ (.rev a) ρ M Q X = wE Γ (.rev a) ρ M (fun x M1 => ∃ k, truth M1 x = some k ∧ Q k M1) X := by simp only [wT]
theorem t_call (a : Str) (b : Es) (ρ : Sto) (M : Mem) (Q : Bool → Mem → Prop) (X : Xc → Mem → Prop) : wT Γ (.call a b) ρ M Q X = wE Γ (.call a b) ρ M (fun x M1 => ∃ k, truth M1 x = some k ∧ Q k M1) X := by simp only [wT]
theorem t_callK (a : Str) (b : Es) (c : List Str) (d : Es) (ρ : Sto) (M : Mem) (Q : Bool → Mem → Prop) (X : Xc → Mem → Prop) : wT Γ (.callK a b c d) ρ M Q X = wE Γ (.callK a b c d) ρ M (fun x M1 => ∃ k, truth M1 x = some k ∧ Q k M1) X := by simp only [wT]
theorem t_b1 (a : B1) (b : E) (ρ : Sto) (M : Mem) (Q : Bool → Mem → Prop) (X : Xc → Mem → Prop) : wT Γ (.b1 a b) ρ M Q X = wE Γ (.b1 a b) ρ M (fun x M1 => ∃ k, truth M1 x = some k ∧ Q k M1) X := by simp only [wT]
theorem t_b2 (a : B2) (b : E) (c : E) (ρ : Sto) (M : Mem) (Q : Bool → Mem → Prop) (X : Xc → Mem → Prop) : wT Γ (.b2 a b c) ρ M Q X = wE Γ (.b2 a b c) ρ M (fun x M1 => ∃ k, truth M1 x = some k ∧ Q k M1) X := by simp only [wT]
theorem t_isI (a : E) (b : List String) (ρ : Sto) (M : Mem) (Q : Bool → Mem → Prop) (X : Xc → Mem → Prop) : wT Γ (.isI a b) ρ M Q X = wE Γ (.isI a b) ρ M (fun x M1 => ∃ k, truth M1 x = some k ∧ Q k M1) X := by simp only [wT]
theorem t_isX (a : E) (b : List Str) (ρ : Sto) (M : Mem) (Q : Bool → Mem → Prop) (X : Xc → Mem → Prop) : wT Γ (.isX a b) ρ M Q X = wE Γ (.isX a b) ρ M (fun x M1 => ∃ k, truth M1 x = some k ∧ Q k M1) X := by simp only [wT]
theorem t_xval (a : E) (b : Str) (ρ : Sto) (M : Mem) (Q : Bool → Mem → Prop) (X : Xc → Mem → Prop) : wT Γ (.xval a b) ρ M Q X = wE Γ (.xval a b) ρ M (fun x M1 => ∃ k, truth M1 x = some k ∧ Q k M1) X := by simp only [wT]
theorem t_get (a : E) (b : E) (c : E) (ρ : Sto) (M : Mem) (Q : Bool → Mem → Prop) (X : Xc → Mem → Prop) : wT Γ (.get a b c) ρ M Q X = wE Γ (.get a b c) ρ M (fun x M1 => ∃ k, truth M1 x = some k ∧ Q k M1) X := by simp only [wT]
theorem t_pop (a : E) (ρ : Sto) (M : Mem) (Q : Bool → Mem → Prop) (X : Xc → Mem → Prop) : wT Γ (.pop a) ρ M Q X = wE Γ (.pop a) ρ M (fun x M1 => ∃ k, truth M1 x = some k ∧ Q k M1) X := by simp only [wT]
theorem t_popAt (a : E) (b : E) (ρ : Sto) (M : Mem) (Q : Bool → Mem → Prop) (X : Xc → Mem → Prop) : wT Γ (.popAt a b) ρ M Q X = wE Γ (.popAt a b) ρ M (fun x M1 => ∃ k, truth M1 x = some k ∧ Q k M1) X := by simp only [wT]
theorem t_index (a : E) (b : E) (ρ : Sto) (M : Mem) (Q : Bool → Mem → Prop) (X : Xc → Mem → Prop) : wT Γ (.index a b) ρ M Q X = wE Γ (.index a b) ρ M (fun x M1 => ∃ k, truth M1 x = some k ∧ Q k M1) X := by simp only [wT]
theorem t_indexT (a : E) (b : E) (ρ : Sto) (M : Mem) (Q : Bool → Mem → Prop) (X : Xc → Mem → Prop) : wT Γ (.indexT a b) ρ M Q X = wE Γ (.indexT a b) ρ M (fun x M1 => ∃ k, truth M1 x = some k ∧ Q k M1) X := by simp only [wT]
theorem t_mtup (a : Es) (ρ : Sto) (M : Mem) (Q : Bool → Mem → Prop) (X : Xc → Mem → Prop) : wT Γ (.mtup a) ρ M Q X = wE Γ (.mtup a) ρ M (fun x M1 => ∃ k, truth M1 x = some k ∧ Q k M1) X := by simp only [wT]
theorem t_dnew  (ρ : Sto) (M : Mem) (Q : Bool → Mem → Prop) (X : Xc → Mem → Prop) : wT Γ (.dnew ) ρ M Q X = wE Γ (.dnew ) ρ M (fun x M1 => ∃ k, truth M1 x = some k ∧ Q k M1) X := by simp only [wT]
theorem t_dix (a : E) (b : E) (ρ : Sto) (M : Mem) (Q : Bool → Mem → Prop) (X : Xc → Mem → Prop) : wT Γ (.dix a b) ρ M Q X = wE Γ (.dix a b) ρ M (fun x M1 => ∃ k, truth M1 x = some k ∧ Q k M1) X := by simp only [wT]
theorem s_asg (t : Tg) (e : E) (ρ : Sto) (M : Mem) (O : Outs) : wS Γ (.asg t e) ρ M O = (wE Γ e ρ M (fun v M1 => wTg t (.one v) ρ fun ρ1 => O.nx ρ1 M1) (fun x M1 => O.ex x ρ M1)) := by simp only [wS]
theorem s_setIx (a : E) (b : E) (e : E) (ρ : Sto) (M : Mem) (O : Outs) : wS Γ (.setIx a b e) ρ M O = (wE Γ e ρ M (fun v M1 => wE Γ a ρ M1 (fun x M2 => wE Γ b ρ M2 (fun y M3 => wPut x y v M3 fun M4 => O.nx ρ M4) (fun x M1 => O.ex x ρ M1)) (fun x M1 => O.ex x ρ M1)) (fun x M1 => O.ex x ρ M1)) := by simp only [wS]
theorem s_par (i : Nat) (j : Nat) (a : E) (b : E) (ρ : Sto) (M : Mem) (O : Outs) : wS Γ (.par i j a b) ρ M O = (wE Γ a ρ M (fun v M1 => wE Γ b ρ M1 (fun w M2 => O.nx ((ρ.set i (some v)).set j (some w)) M2) (fun x M1 => O.ex x ρ M1)) (fun x M1 => O.ex x ρ M1)) := by simp only [wS]
theorem s_aug (i : Nat) (o : Operator) (e : E) (ρ : Sto) (M : Mem) (O : Outs) : wS Γ (.aug i o e) ρ M O = (∃ v, ρ[i]? = some (some v) ∧ wE Γ e ρ M (fun w M1 => wAug o v w fun r => O.nx (ρ.set i (some r)) M1) (fun x M1 => O.ex x ρ M1)) := by simp only [wS]
theorem s_augIx (a : E) (b : E) (o : Operator) (e : E) (ρ : Sto) (M : Mem) (O : Outs) : wS Γ (.augIx a b o e) ρ M O = (wE Γ a ρ M (fun x M1 => wE Γ b ρ M1 (fun y M2 => wIx x y M2 fun v M3 => wE Γ e ρ M3 (fun w M4 => wAug o v w fun r => wPut x y r M4 fun M5 => O.nx ρ M5) (fun x M1 => O.ex x ρ M1)) (fun x M1 => O.ex x ρ M1)) (fun x M1 => O.ex x ρ M1)) := by simp only [wS]
theorem s_expr (e : E) (ρ : Sto) (M : Mem) (O : Outs) : wS Γ (.expr e) ρ M O = (wE Γ e ρ M (fun _ M1 => O.nx ρ M1) (fun x M1 => O.ex x ρ M1)) := by simp only [wS]
theorem s_app (a : E) (e : E) (ρ : Sto) (M : Mem) (O : Outs) : wS Γ (.app a e) ρ M O = (wE Γ a ρ M (fun x M1 => isTyS M1 "list" x = some true ∧ wE Γ e ρ M1 (fun v M2 => ∃ k xs, x = .l k ∧ M2[k]? = some (.lst xs) ∧ xs.length < sizeLine ∧ O.nx ρ (M2.set k (.lst (xs ++ [v])))) (fun x M1 => O.ex x ρ M1)) (fun x M1 => O.ex x ρ M1)) := by simp only [wS]
theorem s_ext (a : E) (e : E) (ρ : Sto) (M : Mem) (O : Outs) : wS Γ (.ext a e) ρ M O = (wE Γ a ρ M (fun x M1 => isTyS M1 "list" x = some true ∧ wE Γ e ρ M1 (fun v M2 => ∃ k xs ys, x = .l k ∧ M2[k]? = some (.lst xs) ∧ items M2 v = some ys ∧ isTyS M2 "list" v = some true ∧ xs.length + ys.length ≤ sizeLine ∧ O.nx ρ (M2.set k (.lst (xs ++ ys)))) (fun x M1 => O.ex x ρ M1)) (fun x M1 => O.ex x ρ M1)) := by simp only [wS]
theorem s_ins (a : E) (b : E) (e : E) (ρ : Sto) (M : Mem) (O : Outs) : wS Γ (.ins a b e) ρ M O = (wE Γ a ρ M (fun x M1 => isTyS M1 "list" x = some true ∧ wE Γ b ρ M1 (fun y M2 => wE Γ e ρ M2 (fun v M3 => ∃ k xs j, x = .l k ∧ y = I (j : Nat) ∧ M3[k]? = some (.lst xs) ∧ j ≤ xs.length ∧ xs.length < sizeLine ∧ O.nx ρ (M3.set k (.lst (xs.take j ++ v :: xs.drop j)))) (fun x M1 => O.ex x ρ M1)) (fun x M1 => O.ex x ρ M1)) (fun x M1 => O.ex x ρ M1)) := by simp only [wS]
theorem s_ret (e : E) (ρ : Sto) (M : Mem) (O : Outs) : wS Γ (.ret e) ρ M O = (wE Γ e ρ M (fun v M1 => O.rt v M1) (fun x M1 => O.ex x ρ M1)) := by simp only [wS]
theorem s_retN  (ρ : Sto) (M : Mem) (O : Outs) : wS Γ (.retN) ρ M O = (O.rt N0 M) := by simp only [wS]
theorem s_cond (c : E) (a : Ss) (b : Ss) (ρ : Sto) (M : Mem) (O : Outs) : wS Γ (.cond c a b) ρ M O = (wT Γ c ρ M (fun k M1 => if k = true then wSs Γ a ρ M1 O else wSs Γ b ρ M1 O) (fun x M1 => O.ex x ρ M1)) := by simp only [wS]
theorem s_loop (t : Tg) (it : It) (b : Ss) (ρ : Sto) (M : Mem) (O : Outs) : wS Γ (.loop t it b) ρ M O = (wI Γ it ρ M (fun r M1 => wFor (wTg t) r.2 (wSs Γ b) r.1 ρ M1 O) (fun x M1 => O.ex x ρ M1)) := by simp only [wS]
theorem s_whl (c : E) (b : Ss) (ρ : Sto) (M : Mem) (O : Outs) : wS Γ (.whl c b) ρ M O = (∃ n, wWhl (wT Γ c) (wSs Γ b) n ρ M O) := by simp only [wS]
theorem s_raise (c : Str) (e : E) (ρ : Sto) (M : Mem) (O : Outs) : wS Γ (.raise c e) ρ M O = (wE Γ e ρ M (fun v M1 => O.ex ⟨c, (if c = "Undefined" then "what" else "value"), v⟩ ρ M1) (fun x M1 => O.ex x ρ M1)) := by simp only [wS]
theorem s_tryX (b : Ss) (hs : Hs) (ρ : Sto) (M : Mem) (O : Outs) : wS Γ (.tryX b hs) ρ M O = (wSs Γ b ρ M { O with ex := fun x ρ1 M1 => wHs Γ hs x ρ1 M1 O }) := by simp only [wS]
theorem s_pass  (ρ : Sto) (M : Mem) (O : Outs) : wS Γ (.pass) ρ M O = (O.nx ρ M) := by simp only [wS]
theorem s_brk  (ρ : Sto) (M : Mem) (O : Outs) : wS Γ (.brk) ρ M O = (O.bk ρ M) := by simp only [wS]
theorem s_cont  (ρ : Sto) (M : Mem) (O : Outs) : wS Γ (.cont) ρ M O = (O.ct ρ M) := by simp only [wS]
theorem s_any  (ρ : Sto) (M : Mem) (O : Outs) : wS Γ (.any) ρ M O = (False) := by simp only [wS]
theorem s_parIx (a : E) (i : E) (b : E) (j : E) (e : E) (f : E) (ρ : Sto) (M : Mem) (O : Outs) : wS Γ (.parIx a i b j e f) ρ M O = (wE Γ (.tup (.cons e (.cons f .nil))) ρ M (fun v M1 => ∃ p q, v = .d (.tuple [p, q]) ∧ wE Γ a ρ M1 (fun x M2 => wE Γ i ρ M2 (fun y M3 => wPut x y (.d p) M3 fun M4 => wE Γ b ρ M4 (fun x2 M5 => wE Γ j ρ M5 (fun y2 M6 => wPut x2 y2 (.d q) M6 fun M7 => O.nx ρ M7) (fun x M1 => O.ex x ρ M1)) (fun x M1 => O.ex x ρ M1)) (fun x M1 => O.ex x ρ M1)) (fun x M1 => O.ex x ρ M1)) (fun x M1 => O.ex x ρ M1)) := by simp only [wS]
theorem s_unp (ts : List Tg) (e : E) (ρ : Sto) (M : Mem) (O : Outs) : wS Γ (.unp ts e) ρ M O = (wE Γ e ρ M (fun v M1 => ∃ k, v = .l k ∧ ∃ ss, M1[k]? = some (.tpl ss) ∧ ss.length = ts.length ∧ wTgs ts ss ρ fun ρ1 => O.nx ρ1 M1) (fun x M1 => O.ex x ρ M1)) := by simp only [wS]
theorem s_dput (a : E) (b : E) (e : E) (ρ : Sto) (M : Mem) (O : Outs) : wS Γ (.dput a b e) ρ M O = (wE Γ e ρ M (fun v M1 => wE Γ a ρ M1 (fun x M2 => wE Γ b ρ M2 (fun y M3 => wDput x y v M3 fun M4 => O.nx ρ M4) (fun x M1 => O.ex x ρ M1)) (fun x M1 => O.ex x ρ M1)) (fun x M1 => O.ex x ρ M1)) := by simp only [wS]
theorem b_nil  (ρ : Sto) (M : Mem) (O : Outs) : wSs Γ (.nil) ρ M O = (O.nx ρ M) := by simp only [wSs]
theorem b_cons (s : St) (ss : Ss) (ρ : Sto) (M : Mem) (O : Outs) : wSs Γ (.cons s ss) ρ M O = (wS Γ s ρ M { O with nx := fun ρ1 M1 => wSs Γ ss ρ1 M1 O }) := by simp only [wSs]
theorem h_nil  (x : Xc) (ρ : Sto) (M : Mem) (O : Outs) : wHs Γ (.nil) x ρ M O = (O.ex x ρ M) := by simp only [wHs]
theorem h_cons (c : Str) (i : Nat) (b : Ss) (hs : Hs) (x : Xc) (ρ : Sto) (M : Mem) (O : Outs) : wHs Γ (.cons c i b hs) x ρ M O = (∃ l, Γ.mro x.cls = some l ∧ if l.contains c = true then
        ∀ a dd, wSs { Γ with cur := some (.e a dd x.cls x.fld x.val) } b (ρ.set i (some (.e a dd x.cls x.fld x.val))) M { nx := fun ρ1 M1 => O.nx (ρ1.set i none) M1, rt := O.rt, bk := fun ρ1 M1 => O.bk (ρ1.set i none) M1, ct := fun ρ1 M1 => O.ct (ρ1.set i none) M1, ex := fun _ _ _ => False }
      else wHs Γ hs x ρ M O) := by simp only [wHs]
end
theorem tg_nm (i : Nat) (v : S) (ρ : Sto) (Q : Sto → Prop) : wTg (.nm i) (.one v) ρ Q = Q (ρ.set i (some v)) := by simp only [wTg]
theorem tg_tpt (ts : List Tg) (xs : List PD) (ρ : Sto) (Q : Sto → Prop) : wTg (.tp ts) (.one (.d (.tuple xs))) ρ Q = (xs.length = ts.length ∧ wTgs ts (xs.map .d) ρ Q) := by simp only [wTg]
theorem tg_tpl (ts : List Tg) (xs : List PD) (ρ : Sto) (Q : Sto → Prop) : wTg (.tp ts) (.one (.d (.list xs))) ρ Q = (xs.length = ts.length ∧ wTgs ts (xs.map .d) ρ Q) := by simp only [wTg]
theorem tg_tpm (ts : List Tg) (ss : List S) (ρ : Sto) (Q : Sto → Prop) : wTg (.tp ts) (.many ss) ρ Q = (ss.length = ts.length ∧ wTgs ts ss ρ Q) := by simp only [wTg]
theorem tgs_nil (ρ : Sto) (Q : Sto → Prop) : wTgs [] [] ρ Q = Q ρ := by simp only [wTgs]
theorem tgs_cons (t : Tg) (ts : List Tg) (s : S) (ss : List S) (ρ : Sto) (Q : Sto → Prop) : wTgs (t :: ts) (s :: ss) ρ Q = wTg t (.one s) ρ (fun ρ1 => wTgs ts ss ρ1 Q) := by simp only [wTgs]
theorem tgAt_eq (t : Tg) (ρ : Sto) (x : Itm) (k : Sto → Prop) : tgAt t ρ x k = wTg t x ρ k := rfl
end G

/-! Layer G, part 2: how plain data stand in the abstract heap of HandS. -/
namespace G
open PySem L2 PySem.Spec PyProof.Rows

/-- the addresses that may change: those of the mutable objects, those of lists in the making -/
structure Loc where
  at_ : List Addr
  tmp : List Addr
def Loc.out (κ : Loc) (a : Addr) : Prop := a ∉ κ.at_ ∧ a ∉ κ.tmp

/-- a list of the module's own -/
def KL (K : PySem.W.Frag) (a : Addr) (xs : List V) : Prop :=
  ∃ (its : List Value) (n : Nat), K.lookup a = some { cls := .type "list", data := .seq its.toArray n } ∧ xs.length ≤ sizeLine ∧ Vals xs its
/-- a list, a tuple that stands still -/
def SL (K : PySem.W.Frag) (H : Hp) (κ : Loc) (a : Addr) (xs : List V) : Prop := (Rd H a (.lst xs) ∧ κ.out a) ∨ KL K a xs
def ST (H : Hp) (κ : Loc) (a : Addr) (xs : List V) : Prop := Rd H a (.tup xs) ∧ κ.out a
theorem KL.sq {K a xs} {H : Hp} (h : KL K a xs) : SqL K H a xs := by
  obtain ⟨its, n, e, z, r⟩ := h
  refine .inr ⟨_, its.toArray, n, e, rfl, rfl, rfl, ?_, by simpa using r⟩
  rw [List.size_toArray, ← r.length]
  exact z
theorem SL.sq {K H κ a xs} (h : SL K H κ a xs) : SqL K H a xs := h.elim (fun h => .inl h.1) KL.sq
theorem ST.sq {K : PySem.W.Frag} {H κ a xs} (h : ST H κ a xs) : SqT K H a xs := .inl h.1

mutual
inductive RP (K : PySem.W.Frag) (H : Hp) (κ : Loc) : V → PD → Prop
  | non : RP K H κ .non .none
  | bl (b : Bool) : RP K H κ (.bl b) (.bool b)
  | int (i : Int) : RP K H κ (.int i) (.int i)
  | str (x : Str) : RP K H κ (.str x) (.str x)
  | lst {a : Addr} {xs : List V} {ds : List PD} : SL K H κ a xs → xs.length ≤ sizeLine → RPs K H κ xs ds → RP K H κ (.ref a) (.list ds)
  | tup {a : Addr} {xs : List V} {ds : List PD} : ST H κ a xs → xs.length ≤ sizeLine → RPs K H κ xs ds → RP K H κ (.ref a) (.tuple ds)
  | dct {a : Addr} : H a = some (.dK []) → κ.out a → RP K H κ (.ref a) (.dict [])
  | dc1 {a : Addr} {i j : Int} : H a = some (.dK [(.inl i, .int j)]) → κ.out a → RP K H κ (.ref a) (.dict [(.int i, .int j)])
inductive RPs (K : PySem.W.Frag) (H : Hp) (κ : Loc) : List V → List PD → Prop
  | nil : RPs K H κ [] []
  | cons {v : V} {vs : List V} {d : PD} {ds : List PD} : RP K H κ v d → RPs K H κ vs ds → RPs K H κ (v :: vs) (d :: ds)
end
inductive RS (K : PySem.W.Frag) (H : Hp) (κ : Loc) : V → S → Prop
  | d {v : V} {x : PD} : RP K H κ v x → RS K H κ v (.d x)
  | l {a : Addr} {k : Nat} : κ.at_[k]? = some a → RS K H κ (.ref a) (.l k)
  | e {a dd : Addr} {c f : Str} {v : V} {s : S} : H dd = some (.xd [(f, v)]) → κ.out dd → RS K H κ v s → RS K H κ (.ref a) (.e a dd c f s)
abbrev RSs (K : PySem.W.Frag) (H : Hp) (κ : Loc) : List V → List S → Prop := Paired (RS K H κ)

def RO (K : PySem.W.Frag) (H : Hp) (κ : Loc) (a : Addr) : MO → Prop
  | .lst xs => ∃ vs, H a = some (.lst vs) ∧ vs.length ≤ sizeLine ∧ RSs K H κ vs xs
  | .dct kvs => ∃ kv : List (Key × V), H a = some (.dK kv) ∧ kv.length ≤ sizeLine ∧ Paired (fun p q => p.1 = q.1 ∧ RS K H κ p.2 q.2) kv kvs
  | .tpl xs => ∃ vs, H a = some (.tup vs) ∧ vs.length ≤ sizeLine ∧ RSs K H κ vs xs
  | .fz o kv => H a = some (.frz o (.dK kv))
structure RM (K : PySem.W.Frag) (H : Hp) (κ : Loc) (M : Mem) : Prop where
  len : κ.at_.length = M.length
  nd : κ.at_.Nodup
  ob : ∀ (k : Nat) (a : Addr) (o : MO), κ.at_[k]? = some a → M[k]? = some o → RO K H κ a o
  tm : ∀ a ∈ κ.tmp, H a ≠ none ∧ a ∉ κ.at_
structure RSt (K : PySem.W.Frag) (H : Hp) (κ : Loc) (ρ : Sto) (σ : L2.St) : Prop where
  len : ρ.length = σ.length
  here : ∀ (i : Nat) (s : S), ρ[i]? = some (some s) → ∃ v, σ[i]? = some (some v) ∧ RS K H κ v s
/-- the heap has grown; what may change has changed, and some of it is new -/
structure Grow (κ : Loc) (H : Hp) (κ' : Loc) (H' : Hp) : Prop where
  pre : ∃ l, κ'.at_ = κ.at_ ++ l
  keep : ∀ a o, H a = some o → κ.out a → H' a = some o ∧ κ'.out a

section
variable {K : PySem.W.Frag} {H H' H1 H2 : Hp} {κ κ' κ1 κ2 : Loc} {M M' : Mem} {ρ : Sto} {σ : L2.St} {a : Addr} {v : V} {s : S}
theorem Grow.refl : Grow κ H κ H := ⟨⟨[], by simp⟩, fun _ _ h o => ⟨h, o⟩⟩
theorem Grow.trans (g : Grow κ H κ1 H1) (g' : Grow κ1 H1 κ2 H2) : Grow κ H κ2 H2 :=
  ⟨let ⟨l, e⟩ := g.pre; let ⟨l', e'⟩ := g'.pre; ⟨l ++ l', by rw [e', e, List.append_assoc]⟩, fun a o h u => let ⟨h1, u1⟩ := g.keep a o h u; g'.keep a o h1 u1⟩
theorem Rd.grow {a : Addr} {u : HO} (g : Grow κ H κ' H') (r : Rd H a u) (o : κ.out a) : Rd H' a u ∧ κ'.out a := by
  rcases r with r | ⟨ob, r⟩
  · exact ⟨.inl (g.keep _ _ r o).1, (g.keep _ _ r o).2⟩
  · exact ⟨.inr ⟨ob, (g.keep _ _ r o).1⟩, (g.keep _ _ r o).2⟩
theorem SL.grow {xs} (g : Grow κ H κ' H') (h : SL K H κ a xs) : SL K H' κ' a xs := h.elim (fun h => .inl (Rd.grow g h.1 h.2)) .inr
theorem ST.grow {xs} (g : Grow κ H κ' H') (h : ST H κ a xs) : ST H' κ' a xs := Rd.grow g h.1 h.2
mutual
theorem RP.grow (g : Grow κ H κ' H') : ∀ {v : V} {d : PD}, RP K H κ v d → RP K H' κ' v d
  | _, _, .non => .non
  | _, _, .bl b => .bl b
  | _, _, .int i => .int i
  | _, _, .str x => .str x
  | _, _, .lst h z r => .lst (h.grow g) z (RPs.grow g r)
  | _, _, .tup h z r => .tup (h.grow g) z (RPs.grow g r)
  | _, _, .dct h o => .dct (g.keep _ _ h o).1 (g.keep _ _ h o).2
  | _, _, .dc1 h o => .dc1 (g.keep _ _ h o).1 (g.keep _ _ h o).2
theorem RPs.grow (g : Grow κ H κ' H') : ∀ {vs : List V} {ds : List PD}, RPs K H κ vs ds → RPs K H' κ' vs ds
  | _, _, .nil => .nil
  | _, _, .cons h t => .cons (RP.grow g h) (RPs.grow g t)
end
theorem RS.grow (g : Grow κ H κ' H') {v : V} {s : S} (h : RS K H κ v s) : RS K H' κ' v s := by
  induction h with
  | d h => exact .d (h.grow g)
  | l h =>
    obtain ⟨l, e⟩ := g.pre
    exact .l (by rw [e, List.getElem?_append_left (List.getElem?_eq_some_iff.mp h).1]; exact h)
  | e h o r ih => exact .e (g.keep _ _ h o).1 (g.keep _ _ h o).2 ih
theorem RSs.grow (g : Grow κ H κ' H') {vs : List V} {ss : List S} (h : RSs K H κ vs ss) : RSs K H' κ' vs ss := Paired.mapP h fun _ _ r => r.grow g
theorem RSt.grow (g : Grow κ H κ' H') (h : RSt K H κ ρ σ) : RSt K H' κ' ρ σ := ⟨h.len, fun i s e => let ⟨v, e1, r⟩ := h.here i s e; ⟨v, e1, r.grow g⟩⟩
theorem RSt.set (h : RSt K H κ ρ σ) (r : RS K H κ v s) (i : Nat) : RSt K H κ (ρ.set i (some s)) (σ.set i (some v)) := by
  refine ⟨by simp [h.len], fun j u e => ?_⟩
  by_cases hj : i = j
  · subst hj
    by_cases hi : i < ρ.length
    · rw [List.getElem?_set_self hi] at e
      cases e
      exact ⟨v, by rw [List.getElem?_set_self (by rw [← h.len]; exact hi)], r⟩
    · rw [List.getElem?_eq_none (by simp; omega)] at e
      cases e
  · rw [List.getElem?_set_ne hj] at e ⊢
    exact h.here j u e
theorem RSt.unset (h : RSt K H κ ρ σ) (i : Nat) (x : Option V) : RSt K H κ (ρ.set i none) (σ.set i x) := by
  refine ⟨by simp [h.len], fun j u e => ?_⟩
  by_cases hj : i = j
  · subst hj
    by_cases hi : i < ρ.length
    · rw [List.getElem?_set_self hi] at e
      cases e
    · rw [List.getElem?_eq_none (by simp; omega)] at e
      cases e
  · rw [List.getElem?_set_ne hj] at e ⊢
    exact h.here j u e
theorem RO.grow {o : MO} (g : Grow κ H κ' H') (h : RO K H κ a o) (ha : H' a = H a) : RO K H' κ' a o := by
  cases o with
  | lst xs =>
    obtain ⟨vs, h1, h2, h3⟩ := h
    exact ⟨vs, ha.trans h1, h2, RSs.grow g h3⟩
  | dct kvs =>
    obtain ⟨kv, h1, h2, h3⟩ := h
    exact ⟨kv, ha.trans h1, h2, Paired.mapP h3 fun _ _ z => ⟨z.1, z.2.grow g⟩⟩
  | tpl xs =>
    obtain ⟨vs, h1, h2, h3⟩ := h
    exact ⟨vs, ha.trans h1, h2, RSs.grow g h3⟩
  | fz o kv => exact ha.trans h
theorem RO.some {o : MO} (h : RO K H κ a o) : H a ≠ none := by
  cases o with
  | lst xs => obtain ⟨vs, h1, _⟩ := h; rw [h1]; simp
  | dct kvs => obtain ⟨kv, h1, _⟩ := h; rw [h1]; simp
  | tpl xs => obtain ⟨vs, h1, _⟩ := h; rw [h1]; simp
  | fz o kv => rw [show H a = _ from h]; simp
theorem RM.has (m : RM K H κ M) (h : a ∈ κ.at_) : H a ≠ none := by
  obtain ⟨k, hk, e⟩ := List.mem_iff_getElem.mp h
  have h1 : κ.at_[k]? = some a := by rw [List.getElem?_eq_getElem hk, e]
  have h2 : k < M.length := by rw [← m.len]; exact hk
  exact (m.ob k a M[k] h1 (List.getElem?_eq_getElem h2)).some
/-- a new address may not be one of those that change -/
theorem RM.out (m : RM K H κ M) (h : H a = none) : κ.out a := ⟨fun z => m.has z h, fun z => (m.tm a z).1 h⟩
/-- a new object is laid -/
theorem Grow.new (m : RM K H κ M) {p : Addr} {o : HO} (h : H p = none) : Grow κ H κ (upd H p o) :=
  ⟨⟨[], by simp⟩, fun a u e ou => ⟨by rw [upd_ne (ne_of_none e h)]; exact e, ou⟩⟩
theorem RM.new (m : RM K H κ M) {p : Addr} {o : HO} (h : H p = none) : RM K (upd H p o) κ M := by
  refine ⟨m.len, m.nd, fun k a u e1 e2 => ?_, fun a ha => ?_⟩
  · have h1 := m.ob k a u e1 e2
    refine h1.grow (Grow.new m h) (upd_ne ?_)
    rintro rfl
    exact h1.some h
  · obtain ⟨h1, h2⟩ := m.tm a ha
    refine ⟨?_, h2⟩
    rw [upd_ne (fun e => h1 (by rw [e]; exact h))]
    exact h1
/-- an object that may change changes -/
theorem Grow.put (m : RM K H κ M) {k : Nat} {o : HO} (e : κ.at_[k]? = some a) : Grow κ H κ (upd H a o) :=
  ⟨⟨[], by simp⟩, fun b u eb ou => ⟨by rw [upd_ne (fun z => ou.1 (by rw [z]; exact List.mem_of_getElem? e))]; exact eb, ou⟩⟩
theorem RM.put (m : RM K H κ M) {k : Nat} {o : HO} {mo : MO} (e : κ.at_[k]? = some a) (r : RO K (upd H a o) κ a mo) : RM K (upd H a o) κ (M.set k mo) := by
  refine ⟨by simp [m.len], m.nd, fun j b u e1 e2 => ?_, fun b hb => ?_⟩
  · by_cases hj : k = j
    · subst hj
      rw [e] at e1
      cases e1
      rw [List.getElem?_set_self (by rw [← m.len]; exact (List.getElem?_eq_some_iff.mp e).1)] at e2
      cases e2
      exact r
    · rw [List.getElem?_set_ne hj] at e2
      refine (m.ob j b u e1 e2).grow (Grow.put m e) (upd_ne ?_)
      rintro rfl
      obtain ⟨i1, q1⟩ := List.getElem?_eq_some_iff.mp e
      obtain ⟨i2, q2⟩ := List.getElem?_eq_some_iff.mp e1
      exact hj ((List.getElem_inj m.nd).mp (q1.trans q2.symm))
  · obtain ⟨h1, h2⟩ := m.tm b hb
    refine ⟨?_, h2⟩
    rw [upd_ne (fun z => h2 (by rw [z]; exact List.mem_of_getElem? e))]
    exact h1
def Loc.more (κ : Loc) (p : Addr) : Loc := ⟨κ.at_ ++ [p], κ.tmp⟩
/-- what is new becomes an object that may change -/
theorem Grow.more (m : RM K H κ M) {p : Addr} {o : HO} (h : H p = none) : Grow κ H (κ.more p) (upd H p o) :=
  ⟨⟨[p], rfl⟩, fun a u e ou => ⟨by rw [upd_ne (ne_of_none e h)]; exact e, by
    refine ⟨fun z => ?_, ou.2⟩
    rcases List.mem_append.mp z with z | z
    · exact ou.1 z
    · have : a = p := by simpa using z
      rw [this, h] at e; cases e⟩⟩
theorem RM.more (m : RM K H κ M) {p : Addr} {o : HO} {mo : MO} (h : H p = none) (r : RO K (upd H p o) (κ.more p) p mo) : RM K (upd H p o) (κ.more p) (M ++ [mo]) := by
  have hn : p ∉ κ.at_ := (m.out h).1
  refine ⟨by simp [Loc.more, m.len], ?_, fun j b u e1 e2 => ?_, fun b hb => ?_⟩
  · show (κ.at_ ++ [p]).Nodup
    rw [List.nodup_append]
    exact ⟨m.nd, by simp, fun x hx y hy e => hn (by
      have h1 : y = p := by simpa using hy
      rw [← h1, ← e]
      exact hx)⟩
  · by_cases hj : j < κ.at_.length
    · have e1' : κ.at_[j]? = Option.some b := by
        have : (κ.at_ ++ [p])[j]? = Option.some b := e1
        rwa [List.getElem?_append_left hj] at this
      rw [List.getElem?_append_left (by rw [← m.len]; exact hj)] at e2
      have h1 := m.ob j b u e1' e2
      refine h1.grow (Grow.more m h) (upd_ne ?_)
      rintro rfl
      exact h1.some h
    · have hj2 : j = κ.at_.length := by
        have := (List.getElem?_eq_some_iff.mp e1).1
        simp [Loc.more] at this
        omega
      subst hj2
      have : (κ.at_ ++ [p])[κ.at_.length]? = Option.some b := e1
      rw [List.getElem?_append_right (Nat.le_refl _), Nat.sub_self] at this
      cases this
      rw [m.len, List.getElem?_append_right (Nat.le_refl _), Nat.sub_self] at e2
      cases e2
      exact r
  · obtain ⟨h1, h2⟩ := m.tm b hb
    have hb2 : b ≠ p := fun e => h1 (by rw [e]; exact h)
    refine ⟨by rw [upd_ne hb2]; exact h1, fun z => ?_⟩
    rcases List.mem_append.mp z with z | z
    · exact h2 z
    · exact hb2 (by simpa using z)
theorem more_last {p : Addr} : (κ.more p).at_[κ.at_.length]? = Option.some p := by
  show (κ.at_ ++ [p])[κ.at_.length]? = _
  rw [List.getElem?_append_right (Nat.le_refl _), Nat.sub_self] <;> rfl
/-- .. and the lists in the making stand -/
structure Gr (κ : Loc) (H : Hp) (κ' : Loc) (H' : Hp) : Prop extends Grow κ H κ' H' where
  tmp : κ'.tmp = κ.tmp
  st : ∀ a ∈ κ.tmp, H' a = H a
theorem Gr.refl : Gr κ H κ H := ⟨.refl, rfl, fun _ _ => rfl⟩
theorem Gr.trans (g : Gr κ H κ1 H1) (g' : Gr κ1 H1 κ2 H2) : Gr κ H κ2 H2 := ⟨g.toGrow.trans g'.toGrow, g'.tmp.trans g.tmp, fun a h => (g'.st a (by rw [g.tmp]; exact h)).trans (g.st a h)⟩
theorem RM.tmNe (m : RM K H κ M) {p : Addr} (h : H p = none) : ∀ a ∈ κ.tmp, a ≠ p := fun a ha e => (m.tm a ha).1 (by rw [e]; exact h)
theorem Gr.new (m : RM K H κ M) {p : Addr} {o : HO} (h : H p = none) : Gr κ H κ (upd H p o) := ⟨Grow.new m h, rfl, fun a ha => upd_ne (m.tmNe h a ha)⟩
theorem Gr.put (m : RM K H κ M) {k : Nat} {o : HO} (e : κ.at_[k]? = some a) : Gr κ H κ (upd H a o) := ⟨Grow.put m e, rfl, fun b hb => upd_ne fun z => (m.tm b hb).2 (by rw [z]; exact List.mem_of_getElem? e)⟩
theorem Gr.more (m : RM K H κ M) {p : Addr} {o : HO} (h : H p = none) : Gr κ H (κ.more p) (upd H p o) := ⟨Grow.more m h, rfl, fun a ha => upd_ne (m.tmNe h a ha)⟩
theorem Gr.forget (g : Gr κ H κ' H') : Gr κ H κ H' := ⟨⟨⟨[], by simp⟩, fun a o h u => ⟨(g.keep a o h u).1, u⟩⟩, rfl, g.st⟩

/-! ### lists in the making -/
def Loc.on (κ : Loc) (D : Addr) : Loc := ⟨κ.at_, D :: κ.tmp⟩
def Loc.off (κ : Loc) : Loc := ⟨κ.at_, κ.tmp.tail⟩
theorem Loc.out_on {D : Addr} (h : (κ.on D).out a) : κ.out a ∧ a ≠ D := ⟨⟨h.1, fun z => h.2 (List.mem_cons_of_mem _ z)⟩, fun e => h.2 (by rw [e]; exact List.mem_cons_self)⟩
theorem Loc.on_out {D : Addr} (h : κ.out a) (n : a ≠ D) : (κ.on D).out a := ⟨h.1, fun z => (List.mem_cons.mp z).elim n h.2⟩
/-- D is laid and made -/
theorem Grow.on (m : RM K H κ M) {D : Addr} {o : HO} (h : H D = none) : Grow κ H (κ.on D) (upd H D o) :=
  ⟨⟨[], by simp [Loc.on]⟩, fun a u e ou => ⟨by rw [upd_ne (ne_of_none e h)]; exact e, Loc.on_out ou (ne_of_none e h)⟩⟩
theorem RM.on (m : RM K H κ M) {D : Addr} {o : HO} (h : H D = none) : RM K (upd H D o) (κ.on D) M := by
  refine ⟨m.len, m.nd, fun k a u e1 e2 => ?_, fun a ha => ?_⟩
  · have h1 := m.ob k a u e1 e2
    refine h1.grow (Grow.on m h) (upd_ne ?_)
    rintro rfl
    exact h1.some h
  · rcases List.mem_cons.mp ha with rfl | ha
    · exact ⟨by rw [upd_same]; simp, (m.out h).1⟩
    · obtain ⟨h1, h2⟩ := m.tm a ha
      refine ⟨?_, h2⟩
      rw [upd_ne (fun e => h1 (by rw [e]; exact h))]
      exact h1
/-- D grows -/
theorem Grow.tick {D : Addr} {o : HO} : Grow (κ.on D) H (κ.on D) (upd H D o) :=
  ⟨⟨[], by simp⟩, fun a u e ou => ⟨by rw [upd_ne (Loc.out_on ou).2]; exact e, ou⟩⟩
theorem RM.tick {D : Addr} {o : HO} (m : RM K H (κ.on D) M) : RM K (upd H D o) (κ.on D) M := by
  have hD := (m.tm D List.mem_cons_self).2
  refine ⟨m.len, m.nd, fun k a u e1 e2 => (m.ob k a u e1 e2).grow Grow.tick (upd_ne ?_), fun a ha => ?_⟩
  · rintro rfl
    exact hD (List.mem_of_getElem? e1)
  · obtain ⟨h1, h2⟩ := m.tm a ha
    refine ⟨?_, h2⟩
    by_cases e : a = D
    · rw [e, upd_same]; simp
    · rw [upd_ne e]; exact h1
/-- D is made: it stands still from now on -/
theorem Grow.off {D : Addr} : Grow (κ.on D) H κ H := ⟨⟨[], by simp [Loc.on]⟩, fun _ _ e ou => ⟨e, (Loc.out_on ou).1⟩⟩
theorem RM.off {D : Addr} (m : RM K H (κ.on D) M) : RM K H κ M :=
  ⟨m.len, m.nd, fun k a u e1 e2 => (m.ob k a u e1 e2).grow Grow.off rfl, fun a ha => m.tm a (List.mem_cons_of_mem _ ha)⟩
/-- .. or is an object that may change -/
theorem Grow.offMore {D : Addr} : Grow (κ.on D) H (κ.more D) H := ⟨⟨[D], rfl⟩, fun a _ e ou => ⟨e, fun z => (List.mem_append.mp z).elim (Loc.out_on ou).1.1 fun z => (Loc.out_on ou).2 (by simpa using z), (Loc.out_on ou).1.2⟩⟩
theorem RM.offMore {D : Addr} {mo : MO} (m : RM K H (κ.on D) M) (hn : D ∉ κ.tmp) (r : RO K H (κ.more D) D mo) : RM K H (κ.more D) (M ++ [mo]) := by
  have hD : D ∉ κ.at_ := (m.tm D List.mem_cons_self).2
  have hlen : κ.at_.length = M.length := m.len
  refine ⟨by simp [Loc.more, hlen], ?_, fun j b u e1 e2 => ?_, fun b hb => ?_⟩
  · show (κ.at_ ++ [D]).Nodup
    rw [List.nodup_append]
    exact ⟨m.nd, by simp, fun x hx y hy e => hD (by
      have h1 : y = D := by simpa using hy
      rw [← h1, ← e]
      exact hx)⟩
  · have e1 : (κ.at_ ++ [D])[j]? = Option.some b := e1
    by_cases hj : j < κ.at_.length
    · rw [List.getElem?_append_left hj] at e1
      rw [List.getElem?_append_left (by rw [← hlen]; exact hj)] at e2
      exact (m.ob j b u e1 e2).grow Grow.offMore rfl
    · have hj2 : j = κ.at_.length := by
        have := (List.getElem?_eq_some_iff.mp e1).1
        simp at this
        omega
      subst hj2
      rw [List.getElem?_append_right (Nat.le_refl _), Nat.sub_self] at e1
      cases e1
      rw [hlen, List.getElem?_append_right (Nat.le_refl _), Nat.sub_self] at e2
      cases e2
      exact r
  · obtain ⟨h1, h2⟩ := m.tm b (List.mem_cons_of_mem _ hb)
    refine ⟨h1, fun z => ?_⟩
    rcases List.mem_append.mp z with z | z
    · exact h2 z
    · have : b = D := by simpa using z
      exact hn (by rw [← this]; exact hb)

/-- the objects that came behind a point are forgotten -/
theorem Grow.forget (g : Grow κ H κ' H') : Grow κ H κ H' := ⟨⟨[], by simp⟩, fun a o h u => ⟨(g.keep a o h u).1, u⟩⟩
end

section
variable {K : PySem.W.Frag} {H H' : Hp} {κ κ' : Loc} {vs : List V} {ds : List PD} {ss : List S}
theorem RPs.length : ∀ {vs : List V} {ds : List PD}, RPs K H κ vs ds → vs.length = ds.length
  | _, _, .nil => rfl
  | _, _, .cons _ t => by rw [List.length_cons, List.length_cons, RPs.length t]
theorem RPs.get : ∀ {vs : List V} {ds : List PD} {i : Nat} {v : V}, RPs K H κ vs ds → vs[i]? = some v → ∃ d, ds[i]? = some d ∧ RP K H κ v d
  | _, _, _, _, .nil, e => by simp at e
  | _, _, 0, _, .cons r _, e => by simp at e; subst e; exact ⟨_, rfl, r⟩
  | _, _, i + 1, v, .cons _ t, e => by simpa using RPs.get (i := i) t (by simpa using e)
theorem RPs.get' : ∀ {vs : List V} {ds : List PD} {i : Nat} {d : PD}, RPs K H κ vs ds → ds[i]? = some d → ∃ v, vs[i]? = some v ∧ RP K H κ v d
  | _, _, _, _, .nil, e => by simp at e
  | _, _, 0, _, .cons r _, e => by simp at e; subst e; exact ⟨_, rfl, r⟩
  | _, _, i + 1, v, .cons _ t, e => by simpa using RPs.get' (i := i) t (by simpa using e)
theorem RPs.toS : ∀ {vs : List V} {ds : List PD}, RPs K H κ vs ds → RSs K H κ vs (ds.map .d)
  | _, _, .nil => .nil
  | _, _, .cons r t => .cons (.d r) (RPs.toS t)
theorem RSs.toP : ∀ {vs : List V} {ss : List S} {ds : List PD}, RSs K H κ vs ss → dataAll ss = some ds → RPs K H κ vs ds
  | _, _, _, .nil, e => by cases e; exact .nil
  | _, _, ds, .cons (b := .d x) (l₂ := r) h t, e => by
    cases e1 : dataAll r with
    | none => rw [dataAll, e1] at e; cases e
    | some ys =>
      rw [dataAll, e1] at e
      cases e
      cases h with
      | d h => exact .cons h (RSs.toP t e1)
  | _, _, _, .cons (b := .l k) h t, e => by cases e
  | _, _, _, .cons (b := .e ..) h t, e => by cases e
theorem RSs.toP' (h : RSs K H κ vs (ds.map .d)) : RPs K H κ vs ds := h.toP (dataAll_map ds)
theorem RSs.length (h : RSs K H κ vs ss) : vs.length = ss.length := Paired.length h
theorem Pd.get {α β : Type} {F : α → β → Prop} : ∀ {xs : List α} {ys : List β} {i : Nat} {x : α}, Paired F xs ys → xs[i]? = some x → ∃ y, ys[i]? = some y ∧ F x y
  | _, _, _, _, .nil, e => by simp at e
  | _, _, 0, _, .cons r _, e => by simp at e; subst e; exact ⟨_, rfl, r⟩
  | _, _, i + 1, v, .cons _ t, e => by simpa using Pd.get (i := i) t (by simpa using e)
theorem Pd.get' {α β : Type} {F : α → β → Prop} : ∀ {xs : List α} {ys : List β} {i : Nat} {y : β}, Paired F xs ys → ys[i]? = some y → ∃ x, xs[i]? = some x ∧ F x y
  | _, _, _, _, .nil, e => by simp at e
  | _, _, 0, _, .cons r _, e => by simp at e; subst e; exact ⟨_, rfl, r⟩
  | _, _, i + 1, v, .cons _ t, e => by simpa using Pd.get' (i := i) t (by simpa using e)
theorem Pd.append {α β : Type} {F : α → β → Prop} : ∀ {xs xs' : List α} {ys ys' : List β}, Paired F xs ys → Paired F xs' ys' → Paired F (xs ++ xs') (ys ++ ys')
  | _, _, _, _, .nil, s => s
  | _, _, _, _, .cons r t, s => .cons r (Pd.append t s)
theorem Pd.take {α β : Type} {F : α → β → Prop} : ∀ {xs : List α} {ys : List β} (n : Nat), Paired F xs ys → Paired F (xs.take n) (ys.take n)
  | _, _, 0, _ => by simpa using Paired.nil
  | _, _, _ + 1, .nil => by simpa using Paired.nil
  | _, _, n + 1, .cons r t => .cons r (Pd.take n t)
theorem Pd.drop {α β : Type} {F : α → β → Prop} : ∀ {xs : List α} {ys : List β} (n : Nat), Paired F xs ys → Paired F (xs.drop n) (ys.drop n)
  | _, _, 0, h => h
  | _, _, _ + 1, .nil => by simpa using Paired.nil
  | _, _, n + 1, .cons r t => Pd.drop n t
theorem Pd.set {α β : Type} {F : α → β → Prop} {x : α} {y : β} (r : F x y) : ∀ {xs : List α} {ys : List β} (i : Nat), Paired F xs ys → Paired F (xs.set i x) (ys.set i y)
  | _, _, _, .nil => .nil
  | _, _, 0, .cons _ t => .cons r t
  | _, _, i + 1, .cons q t => .cons q (Pd.set r i t)
theorem Pd.erase {α β : Type} {F : α → β → Prop} : ∀ {xs : List α} {ys : List β} (i : Nat), Paired F xs ys → Paired F (xs.eraseIdx i) (ys.eraseIdx i)
  | _, _, _, .nil => .nil
  | _, _, 0, .cons _ t => t
  | _, _, i + 1, .cons q t => .cons q (Pd.erase i t)
theorem Pd.dropLast {α β : Type} {F : α → β → Prop} {xs : List α} {ys : List β} (h : Paired F xs ys) : Paired F xs.dropLast ys.dropLast := by
  rw [List.dropLast_eq_take, List.dropLast_eq_take, Paired.length h]
  exact Pd.take _ h
theorem Pd.reverse {α β : Type} {F : α → β → Prop} {xs : List α} {ys : List β} (h : Paired F xs ys) : Paired F xs.reverse ys.reverse := by
  induction h with
  | nil => exact .nil
  | cons r t ih => rw [List.reverse_cons, List.reverse_cons]; exact Pd.append ih (.cons r .nil)
theorem Pd.rep {α β : Type} {F : α → β → Prop} {xs : List α} {ys : List β} (h : Paired F xs ys) : ∀ k : Nat, Paired F (List.replicate k xs).flatten (List.replicate k ys).flatten
  | 0 => .nil
  | k + 1 => by rw [List.replicate_succ, List.replicate_succ, List.flatten_cons, List.flatten_cons]; exact Pd.append h (Pd.rep h k)
theorem Pd.cut {α β : Type} {F : α → β → Prop} {xs : List α} {ys : List β} (h : Paired F xs ys) (lo hi : Option Int) : Paired F (cut xs lo hi) (cut ys lo hi) := by
  unfold G.cut
  rw [Paired.length h]
  exact Pd.take _ (Pd.drop _ h)
end

/-! ### data as the library reads them -/
section
variable {X : Cx} {pins : List (Addr × Obj)} {σ : L2.St} {H : Hp} {s : Shared} {κ : Loc}
theorem SL.get {a : Addr} {xs : List V} (I : Inv X pins σ H s) (h : SL X.K H κ a xs) : ∃ its : List Value, Vals xs its ∧ PlainL s.heap a its.toArray := let ⟨its, r, p, _⟩ := I.list h.sq; ⟨its, r, p⟩
theorem ST.get {a : Addr} {xs : List V} (I : Inv X pins σ H s) (h : ST H κ a xs) : ∃ its : List Value, Vals xs its ∧ IsTup s.heap a its.toArray := let ⟨its, r, p, _⟩ := I.tuple h.sq; ⟨its, r, p⟩
theorem SL.obj {a : Addr} {xs : List V} (I : Inv X pins σ H s) (h : SL X.K H κ a xs) : ∃ (its : List Value) (n : Nat), Vals xs its ∧ xs.length ≤ sizeLine ∧ s.heap.get? a = some { cls := .type "list", data := .seq its.toArray n } := by
  rcases h with ⟨h, _⟩ | ⟨its, n, e, z, r⟩
  · obtain ⟨z, its, n, r, e⟩ := h.ok I.hok
    exact ⟨its, n, r, z, e⟩
  · exact ⟨its, n, r, z, I.kIn a _ e⟩
mutual
theorem RP.reads (I : Inv X pins σ H s) : ∀ {v : V} {d : PD} {u : Value}, RP X.K H κ v d → RelV v u → ∃ as, Reads s.heap u d as
  | _, _, _, .non, r => by cases r; exact ⟨_, .none⟩
  | _, _, _, .bl b, r => by cases r; exact ⟨_, .bool b⟩
  | _, _, _, .int i, r => by obtain ⟨t, rfl⟩ := r; exact ⟨_, .int i t⟩
  | _, _, _, .str x, r => by obtain ⟨t, rfl⟩ := r; exact ⟨_, .str x t⟩
  | _, _, _, .lst h z rs, r => by
    cases r
    obtain ⟨its, rv, o, n, e, c, _, d⟩ := h.get I
    obtain ⟨as, q⟩ := RPs.reads I rs rv
    exact ⟨_, .list e c d (by simpa using q)⟩
  | _, _, _, .tup h z rs, r => by
    cases r
    obtain ⟨its, rv, o, e, c, n, d⟩ := h.get I
    obtain ⟨as, q⟩ := RPs.reads I rs rv
    exact ⟨_, .tuple e c d (by simpa using q)⟩
  | _, _, _, .dct h o, r => by
    cases r
    obtain ⟨_, _, vs, kv, ob, es, ep, e, ex, d, ko, pr, _⟩ := I.hok _ _ h
    cases kv
    have e0 : es.toList = [] := by
      cases q : es.toList with
      | nil => rfl
      | cons x r => rw [q] at pr; cases pr
    refine ⟨_, .dict (kvs := []) e ex.1 d (as := []) (bs := []) ?_ ?_⟩
    · rw [e0]; exact .nil
    · rw [e0]; exact .nil
  | _, _, _, .dc1 h o, r => by
    cases r
    obtain ⟨_, _, vs, kv, ob, es, ep, e, ex, d, ko, pr, _⟩ := I.hok _ _ h
    cases kv with
    | @cons p q ps qs h1 t =>
      cases t
      obtain ⟨q1, q2⟩ := q
      obtain ⟨h1, h2⟩ := h1
      dsimp only at h1 h2
      subst h1
      obtain ⟨t2, rfl⟩ := h2
      cases q : es.toList with
      | nil => rw [q] at pr; cases pr
      | cons x r =>
        rw [q] at pr
        cases pr with
        | cons k1 k2 k3 =>
          cases k3
          obtain ⟨t1, ek⟩ := Value.isInt_shape (show Value.isInt _ x.key = true from k1)
          refine ⟨_, .dict (kvs := [(.int _, .int _)]) e ex.1 d (as := []) (bs := []) ?_ ?_⟩
          · rw [q]
            simp only [List.map_cons, List.map_nil, ek]
            exact .cons (.int _ _) .nil
          · rw [q]
            simp only [List.map_cons, List.map_nil, k2]
            exact .cons (.int _ _) .nil
theorem RPs.reads (I : Inv X pins σ H s) : ∀ {vs : List V} {ds : List PD} {us : List Value}, RPs X.K H κ vs ds → Vals vs us → ∃ as, ReadsAll s.heap us ds as
  | _, _, _, .nil, r => by cases r; exact ⟨_, .nil⟩
  | _, _, _, .cons h t, r => by
    cases r with
    | cons r1 r2 =>
      obtain ⟨as, q1⟩ := RP.reads I h r1
      obtain ⟨bs, q2⟩ := RPs.reads I t r2
      exact ⟨_, .cons q1 q2⟩
end
end
end G
namespace G
open PySem L2 PySem.Spec PyProof.Rows
/-! ### dicts with keys ints and texts -/
abbrev RK (K : PySem.W.Frag) (H : Hp) (κ : Loc) : List (Key × V) → List (Key × S) → Prop := Paired fun p q => p.1 = q.1 ∧ RS K H κ p.2 q.2
section
variable {K : PySem.W.Frag} {H : Hp} {κ : Loc}
theorem RK.look {kv : List (Key × V)} {kvs : List (Key × S)} (h : RK K H κ kv kvs) (k : Key) : (∃ v s, valV kv k = some v ∧ lookK kvs k = some s ∧ RS K H κ v s) ∨ (valV kv k = none ∧ lookK kvs k = none) := by
  unfold RK at h
  induction h with
  | nil => exact .inr ⟨rfl, rfl⟩
  | @cons p q ps qs r t ih =>
    obtain ⟨p1, p2⟩ := p
    obtain ⟨q1, q2⟩ := q
    obtain ⟨e, r⟩ := r
    dsimp only at e r
    subst e
    by_cases c : p1 = k
    · refine .inl ⟨p2, q2, ?_, ?_, r⟩
      · unfold valV
        rw [List.find?_cons_of_pos (by simpa using c)]
        rfl
      · unfold lookK
        rw [List.find?_cons_of_pos (by simpa using c)]
        rfl
    · have e1 : valV ((p1, p2) :: ps) k = valV ps k := by
        unfold valV
        rw [List.find?_cons_of_neg (by simpa using c)]
      have e2 : lookK ((p1, q2) :: qs) k = lookK qs k := by
        unfold lookK
        rw [List.find?_cons_of_neg (by simpa using c)]
      rw [e1, e2]
      exact ih
theorem RK.any {kv : List (Key × V)} {kvs : List (Key × S)} (h : RK K H κ kv kvs) (k : Key) : (kv.any fun p => decide (p.1 = k)) = kvs.any fun p => decide (p.1 = k) := by
  unfold RK at h
  induction h with
  | nil => rfl
  | cons r t ih => rw [List.any_cons, List.any_cons, ih, r.1]
theorem Pd.map2 {α β γ δ : Type} {F : α → β → Prop} {F2 : γ → δ → Prop} {f : α → γ} {g : β → δ} (m : ∀ p q, F p q → F2 (f p) (g q)) : ∀ {xs : List α} {ys : List β}, Paired F xs ys → Paired F2 (xs.map f) (ys.map g)
  | _, _, .nil => .nil
  | _, _, .cons r t => .cons (m _ _ r) (Pd.map2 m t)
theorem RK.put {kv : List (Key × V)} {kvs : List (Key × S)} (h : RK K H κ kv kvs) (k : Key) {v : V} {s : S} (rv : RS K H κ v s) : RK K H κ (putK kv k v) (setK kvs k s) := by
  unfold putK setK
  rw [h.any k]
  split
  · refine Pd.map2 (fun p q z => ?_) h
    rw [z.1]
    split
    · exact ⟨rfl, rv⟩
    · exact z
  · exact Pd.append h (.cons ⟨rfl, rv⟩ .nil)
theorem key_of_PD {v : V} {z : PD} {k : Key} (h : RP K H κ v z) (e : keyOf z = some k) : v = kV k := by
  cases h <;> cases e <;> rfl
end
end G

/-! Layer G, part 3: the primitives, by values. -/
namespace G
open PySem L2 PySem.Spec PyProof.Rows

def Post (K : PySem.W.Frag) (H : Hp) (κ : Loc) (Q : VK) : S → Mem → Prop := fun z M' => ∀ κ' v H', Gr κ H κ' H' → RS K H' κ' v z → RM K H' κ' M' → Q v H'
section
variable {K : PySem.W.Frag} {H H' : Hp} {κ κ' : Loc} {Q : VK} {z : S} {M : Mem} {v : V} {p a : Addr} {o : HO}
theorem Post.at (h : Post K H κ Q z M) (r : RS K H κ v z) (m : RM K H κ M) : Q v H := h κ v H .refl r m
theorem Post.new (h : Post K H κ Q z M) (m : RM K H κ M) (n : H p = none) (r : RS K (upd H p o) κ v z) : Q v (upd H p o) := h κ v _ (Gr.new m n) r (m.new n)
theorem Post.grow (g : Gr κ H κ' H') (h : Post K H κ Q z M) : Post K H' κ' Q z M := fun κ1 v1 H1 g1 r m => h κ1 v1 H1 (g.trans g1) r m
/-- a new tuple, a new list of values that stand -/
theorem rp_tup {vs : List V} {ds : List PD} (m : RM K H κ M) (n : H p = none) (z : vs.length ≤ sizeLine) (r : RPs K H κ vs ds) : RS K (upd H p (.tup vs)) κ (.ref p) (.d (.tuple ds)) :=
  .d (.tup ⟨.of upd_same, m.out n⟩ z (r.grow (Grow.new m n)))
theorem rp_lst {vs : List V} {ds : List PD} (m : RM K H κ M) (n : H p = none) (z : vs.length ≤ sizeLine) (r : RPs K H κ vs ds) : RS K (upd H p (.lst vs)) κ (.ref p) (.d (.list ds)) :=
  .d (.lst (.inl ⟨.of upd_same, m.out n⟩) z (r.grow (Grow.new m n)))
end
def r2 (K : PySem.W.Frag) (f : S → S → Mem → (S → Mem → Prop) → Prop) : R2 := fun x y H Q => ∃ κ M sx sy, RM K H κ M ∧ RS K H κ x sx ∧ RS K H κ y sy ∧ f sx sy M (Post K H κ Q)
def r1 (K : PySem.W.Frag) (f : S → Mem → (S → Mem → Prop) → Prop) : List V → Hp → VK → Prop := fun vs H Q => ∃ κ M x sx, vs = [x] ∧ RM K H κ M ∧ RS K H κ x sx ∧ f sx M (Post K H κ Q)

/-! ### tuples times an int -/
section
variable {prog : Program} {w : World} {A : Around} {E : Value → Shared → Prop} {s : Shared}
theorem g_one' (l : Addr) (items : Array Value) (n : Nat) (dd : Option Addr) (sl : Array (Option Value)) (u : Tok) :
    Meets (Builtin.«tuple.__mul__» ⟨[.ref l, .int 1 u], []⟩) (fun _ R s => s.heap.get? l = some { cls := .type "tuple", dict := dd, data := .seq items n, slots := sl } ∧ R (.ok (.ret (Value.ref l))) s) :=
  .of_wp fun prog w A R s h => by
    obtain ⟨hp, g, d, tk, os⟩ := s
    obtain ⟨hl, h⟩ := h
    have f1 := AutoSeq1.idx_int
    have c1 : (items.isEmpty || (1 : Int) == 1) = true := by simp
    wp_walk using wpAny_loadPart' hl
    repeat (first
      | (refine wpAny_ite_true (decide_eq_true (by first | exact c1 | simp)) ?_
         wp_walk using wpAny_loadPart' hl)
      | (refine wpAny_ite_false (decide_eq_false (by simp)) ?_
         wp_walk using wpAny_loadPart' hl))
    exact ⟨_, rfl, h⟩
theorem g_zero' (l : Addr) (items : Array Value) (n : Nat) (dd : Option Addr) (sl : Array (Option Value)) (u : Tok) (hne : items.isEmpty = false) :
    Meets (Builtin.«tuple.__mul__» ⟨[.ref l, .int 0 u], []⟩) (fun _ R s => s.heap.get? l = some { cls := .type "tuple", dict := dd, data := .seq items n, slots := sl } ∧
      R (.ok (.ret (Value.ref s.heap.objs.size))) { s with heap := s.heap.push { cls := .type "tuple", data := .seq #[] }, toks := s.toks }) :=
  .of_wp fun prog w A R s h => by
    obtain ⟨hp, g, d, tk, os⟩ := s
    obtain ⟨hl, h⟩ := h
    have f1 := AutoSeq1.idx_int
    wp_walk using wpAny_loadPart' hl
    repeat (first
      | (refine wpAny_ite_true (decide_eq_true (by simp)) ?_
         wp_walk using wpAny_loadPart' hl)
      | (refine wpAny_ite_false (decide_eq_false (by first | (rw [hne]; decide) | simp)) ?_
         wp_walk using wpAny_loadPart' hl))
    exact ⟨_, rfl, h⟩
end

section
variable {X : Cx}
theorem op_repZ : OpR X (binaryOp .Mult) (fun x y H Q => ∃ l k xs, x = .ref l ∧ y = .int k ∧ Rd H l (.tup xs) ∧ xs ≠ [] ∧ (k = 0 ∨ k = 1) ∧ (k = 1 → Q (.ref l) H) ∧ (k = 0 → ∀ p, H p = none → Q (.ref p) (upd H p (.tup [])))) := by
  intro pins s σ H x y v u Q I rx ry h
  obtain ⟨l, k, xs, rfl, rfl, hT, hne, hk, q1, q0⟩ := h
  cases rx
  obtain ⟨t, rfl⟩ := ry
  obtain ⟨z, its, r, o, ho, hc, n, hd⟩ := hT.ok I.hok
  have hobj : s.heap.get? l = some o := ho
  obtain ⟨its', r', ⟨⟨cls, dd, data, sl⟩, ho', hc', n', hd'⟩, hs⟩ := I.tuple (show SqT X.K H l xs from .inl hT)
  simp only at hc' hd'
  subst hc' hd'
  have hn : its' ≠ [] := fun e => hne (by
    subst e
    cases r'
    rfl)
  have hi : its'.toArray.isEmpty = false := by
    cases its' with
    | nil => exact absurd rfl hn
    | cons a b => rfl
  rcases hk with rfl | rfl
  · refine wpAny_binaryOp_repeat_ref (T := "tuple") (U := "int") (by decide) ⟨_, ho', rfl⟩ (fun s' => typeIs_int s' 0 t) noFill_tuple_mul F.fills_int_mul F.slot_int_rmul repeat_tuple F.slot_int_index.lookup
      (call_meets F.slot_int_rmul (typeIs_int s 0 t) F.entry_int_rmul (F.args_int_rmul_2 _ _) (int_rmul_tuple 0 t l its'.toArray n' dd sl)
        ⟨ho', rfl, ⟨_, ho', rfl⟩, call_meets F.slot_tuple_mul ⟨_, ho', rfl⟩ F.entry_tuple_mul (F.args_tuple_mul_2 _ _) (g_zero' l its'.toArray n' dd sl t hi) ⟨ho', ?_⟩⟩)
    refine ⟨.ref s.heap.objs.size, _, I.laid (t' := s.toks) (o := .tup []) (fun b ob q => Heap.get?_push_of_some _ q) (Nat.le_refl _) ?_, rfl, q0 rfl _ (I.hok.fresh (Nat.le_refl _))⟩
    exact ⟨Nat.zero_le _, [], .nil, IsTup.new _ _⟩
  · refine wpAny_binaryOp_repeat_ref (T := "tuple") (U := "int") (by decide) ⟨_, ho', rfl⟩ (fun s' => typeIs_int s' 1 t) noFill_tuple_mul F.fills_int_mul F.slot_int_rmul repeat_tuple F.slot_int_index.lookup
      (call_meets F.slot_int_rmul (typeIs_int s 1 t) F.entry_int_rmul (F.args_int_rmul_2 _ _) (int_rmul_tuple 1 t l its'.toArray n' dd sl)
        ⟨ho', rfl, ⟨_, ho', rfl⟩, call_meets F.slot_tuple_mul ⟨_, ho', rfl⟩ F.entry_tuple_mul (F.args_tuple_mul_2 _ _) (g_one' l its'.toArray n' dd sl t) ⟨ho', ?_⟩⟩)
    exact ⟨.ref l, H, I, rfl, q1 rfl⟩

end
end G

/-! Layer G, part 3a: a dict beside a tuple. -/
namespace G
open PySem PySem.SeqAt PySem.Spec PyProof.Rows
open AutoSeq1 (wpAny_loadPart')
open MeetsSeq
/-- a tuple says nothing of a dict -/
theorem tup_dict (t e : Addr) (xs : Array Value) (es : Array DictEntry) (m k : Nat) (d1 d2 : Option Addr) (q1 q2 : Array (Option Value)) :
    Meets (Builtin.«tuple.__eq__» ⟨[.ref t, .ref e], []⟩) fun _ R s =>
      s.heap.get? t = some { cls := .type "tuple", dict := d1, data := .seq xs m, slots := q1 } ∧
      s.heap.get? e = some { cls := .type "dict", dict := d2, data := .dict es k, slots := q2 } ∧ R (.ok (.ret .notImplemented)) s := by
  refine .of_wp fun prog w A R s h => ?_
  obtain ⟨hp, g, d, tk, os⟩ := s
  obtain ⟨hl, hb, h⟩ := h
  have f1 := F.sub_dict_tuple
  wp_walk using wpAny_loadPart' hl, wpAny_loadPart' hb
  exact ⟨_, rfl, h⟩
/-- a dict says nothing of a tuple: they are not equal -/
theorem eq_dict_tup {P : Program} {w : World} {A : Around} {E : Value → Shared → Prop} {s : Shared} {a b : Value} {kvs : List (PyData × PyData)} {ys : List PyData} {as bs : List Addr} {Q : Value → Shared → Prop}
    (ra : Reads s.heap a (.dict kvs) as) (rb : Reads s.heap b (.tuple ys) bs) (hu : A.units < cLine) (h : Q (.bool false) s) : wpAny (model P w) A (compareOp .Eq a b) Q E s := by
  cases ra with
  | @dict l o es n _ _ _ h1 h2 h3 h4 h5 =>
    cases rb with
    | @tuple l' o' vs m _ _ k1 k2 k3 k4 =>
      obtain ⟨cls, dd, data, sl⟩ := o
      obtain ⟨cls2, dd2, data2, sl2⟩ := o'
      simp only at h2 h3 k2 k3
      subst h2 h3 k2 k3
      have ne : l ≠ l' := fun e => by
        subst e
        rw [h1] at k1
        simp at k1
      refine rc_eq_decline_or (k := false) ⟨_, h1, rfl⟩ ⟨_, k1, rfl⟩ (by decide) F.sub_tuple_dict F.slot_dict_eq F.slot_tuple_eq_refl (fun Q' hq => ?_)
        (fun Q' hq => call_meets F.slot_tuple_eq_refl ⟨_, k1, rfl⟩ F.entry_tuple_eq (F.args_tuple_eq_2 _ _) (tup_dict l' l vs es m n dd2 dd sl2 sl) ⟨k1, h1, hq⟩)
        (fun Q' hq => wpAny_isSame_ref_other ne h1 k1 (by simp) hq) (.inr hu) h
      have td : s.TypeIs (.ref l) "dict" := ⟨_, h1, rfl⟩
      have tt : s.TypeIs (.ref l') "tuple" := ⟨_, k1, rfl⟩
      refine wpAny_call_entry PySem.F.slot_dict_eq td PySem.F.entry_dict_eq ?_ (PySem.F.args_dict_eq_2 _ _)
      show wpAny _ _ (Builtin.Dict.dictSlotArgs "__eq__" ⟨[.ref l, .ref l'], []⟩ >>= _) _ _ s
      refine wpAny_bind ?_
      unfold Builtin.Dict.dictSlotArgs
      refine wpAny_bind (wpAny_notOrdered_dict td ?_)
      refine wpAny_pure ?_
      refine wpAny_bind (wpAny_isInstance (T := "tuple") tt PySem.F.sub_tuple_dict ?_)
      simp only [Bool.not_false, if_true]
      refine wpAny_bind (wpAny_rule ?_)
      exact wpAny_pure ⟨_, rfl, hq⟩
end G
namespace L2
open PySem PySem.Spec PyProof.Rows
section
variable {X : Cx}
/-- sorted(t), ints in a tuple -/
theorem sorted_tupI : CallR X (.builtin "sorted") (fun vs H Q => ∃ (a : Addr) (ns : List Int), vs = [V.ref a] ∧ SqT X.K H a (ns.map V.int) ∧ ∀ (ns' : List Int) (p : Addr), ns'.Perm ns → ns'.Pairwise (· ≤ ·) → H p = none → Q (.ref p) (upd H p (.lst (ns'.map V.int)))) := by
  intro pins s σ H vs us Q I r h
  obtain ⟨t, ns, rfl, ht, q⟩ := h
  obtain ⟨its, rv, ⟨o, ho, hc, n, hd⟩, hz⟩ := I.tuple ht
  have hi := rv.ints
  have zl : its.length ≤ sizeLine := by rw [← rv.length]; exact hz
  rw [Vals.ref1 r]
  refine (Calls.call_function_entry kind_sorted plain_sorted entry_sorted) (args_sorted1 _) ?_
  unfold Builtin.«sorted»
  refine (wpAny_bind (m := checkCount "sorted" 1 1 _)) (wpAny_pure ?_)
  refine wpAny_bind (wpAny_collect_seq t (.inr rfl) ho hc hd (fun g keep => ?_) (by simpa using zl))
  have I1 : Inv X pins σ H { s with heap := g } := I.kept (t' := s.toks) keep
  refine wpAny_bind (wpAny_newList ?_ zl)
  show wpAny _ _ _ _ _ { s with heap := g.push (seqObj "list" its.toArray 0) }
  have at_ : (g.push (seqObj "list" its.toArray 0)).get? g.objs.size = some (seqObj "list" its.toArray 0) := Heap.get?_push_size _ rfl
  show wpAny _ _ (do let _ ← holding [Value.ref g.objs.size] (call (Value.builtin "list.sort") [Value.ref g.objs.size] []); ret (Value.ref g.objs.size)) _ _ _
  have fin : ∀ out : List Value, SrtO.Srtd SrtO.ltIv out → SrtO.Stb SrtO.ltIv out its → EP X pins σ Q (.ref g.objs.size) { s with heap := sortedHeap (g.push (seqObj "list" its.toArray 0)) g.objs.size its out.toArray } := fun out h1 h2 => by
    obtain ⟨k1, k2, k3⟩ := SrtO.ints_out hi h1 h2
    obtain ⟨ep, he⟩ := sortedHeap_at (vs := its) (out := out.toArray) at_
    have lo : ((out.map SrtO.iv).map V.int).length ≤ sizeLine := by
      rw [List.length_map, k2.length_eq]
      rwa [List.length_map] at hz
    refine ⟨.ref _, upd H g.objs.size (.lst ((out.map SrtO.iv).map V.int)), I1.laid (t' := s.toks) (fun b u hb => ?_) (Nat.le_refl _) ⟨lo, out, ep, vals_of_ints k1, he⟩, rfl, q _ _ k2 k3 (I1.hok.fresh (Nat.le_refl _))⟩
    have lt : b < g.objs.size := Heap.lt_size hb
    rw [sortedHeap_old (Nat.ne_of_lt lt) (by rw [size_push']; exact Nat.lt_succ_of_lt lt)]
    exact Heap.get?_push_of_some _ hb
  refine wpAny_bind (wpAny_holding (wpAny_call_entry slot_list_sort ⟨_, at_, rfl⟩ entry_list_sort (SrtO.list_sort_ord SrtO.swo_int at_ zl (fun h2 => SrtO.ints_sortable hi h2) fun out h1 h2 => ⟨.none, rfl, ?_⟩) (args_list_sort _)))
  exact wpAny_pure ⟨_, rfl, fin out h1 h2⟩
end
end L2
namespace L2
open PySem PySem.Spec PyProof.Rows
section
variable {X : Cx}
/-- sorted(l), pairs of ints in a list, read as they stand -/
theorem sorted_two : CallR X (.builtin "sorted") (fun vs H Q => ∃ (a : Addr) (xs : List V) (k : V → Int × Int), vs = [V.ref a] ∧ SqL X.K H a xs ∧ (∀ x ∈ xs, ∃ t, x = V.ref t ∧ Rd H t (.tup [.int (k x).1, .int (k x).2])) ∧
    ∀ ys p, ys.Perm xs → ys.Pairwise (fun x y => SrtO.lexB (k y) (k x) = false) → H p = none → Q (.ref p) (upd H p (.lst ys))) := by
  intro pins s σ H vs us Q I r ⟨a, xs, k, e, hs, hx, q⟩
  subst e
  obtain ⟨its, rw', hl', zl⟩ := I.list hs
  rw [Vals.ref1 r]
  have ⟨b1, b2⟩ := refs_back rw' fun x m => (hx x m).imp fun _ h => h.1
  refine SrtO.sorted_pairsO (k := fun u => k (backV u)) hl'.isList (by rw [← rw'.length]; exact zl) (fun v mv => ?_) fun g d out o1 o2 keep dn mk => ?_
  · obtain ⟨t, rfl⟩ := b2 v mv
    obtain ⟨t', e, rd⟩ := hx (V.ref t) (by rw [b1]; exact List.mem_map.mpr ⟨_, mv, rfl⟩)
    cases e
    obtain ⟨_, its2, vl, o, ho, hc, n, hd⟩ := rd.ok I.hok
    obtain ⟨u1, u2, rfl, ⟨t1, rfl⟩, ⟨t2, rfl⟩⟩ := vals2 vl
    exact ⟨t, o, t1, t2, n, rfl, ho, hc, hd⟩
  · have rf : ∀ u ∈ out, ∃ a, u = Value.ref a := fun u hu => b2 u (o2.perm.mem_iff.mp hu)
    obtain ⟨n, mk⟩ := mk
    have pm : (out.map backV).Perm xs := by
      rw [b1]
      exact o2.perm.map _
    exact ⟨.ref d, upd H d (.lst (out.map backV)), I.laid (t' := s.toks) keep dn ⟨by rw [pm.length_eq]; exact zl, out, n, vals_back rf, mk⟩, rfl, q _ d pm (List.pairwise_map.mpr o1) (I.hok.fresh dn)⟩
end
end L2
namespace L2
open PySem PySem.Spec PyProof.Rows
section
variable {X : Cx}
/-- sorted(t, reverse=True), ints in a tuple -/
theorem sorted_tupR : CallRK X (.builtin "sorted") [Str.ofString "reverse"] (fun vs zs H Q => ∃ (a : Addr) (ns : List Int), vs = [V.ref a] ∧ zs = [.bl true] ∧ SqT X.K H a (ns.map V.int) ∧ ∀ (ns' : List Int) (p : Addr), ns'.Perm ns → ns'.Pairwise (· ≥ ·) → H p = none → Q (.ref p) (upd H p (.lst (ns'.map V.int)))) := by
  intro pins s σ H vs ks us ws Q I r rk h
  obtain ⟨t, ns, rfl, rfl, ht, q⟩ := h
  obtain ⟨its, rv, ⟨o, ho, hc, n, hd⟩, hz⟩ := I.tuple ht
  have hi := rv.ints
  have zl : its.length ≤ sizeLine := by rw [← rv.length]; exact hz
  rw [Vals.ref1 r]
  obtain ⟨w, ew, e1⟩ := vals1 rk
  subst ew
  obtain rfl : w = Value.bool true := e1
  refine (call_function_entry_kw kind_sorted plain_sorted entry_sorted) (args_sorted_rev _ _) ?_
  unfold Builtin.«sorted»
  refine (wpAny_bind (m := checkCount "sorted" 1 1 _)) (wpAny_pure ?_)
  refine wpAny_bind (wpAny_collect_seq t (.inr rfl) ho hc hd (fun g keep => ?_) (by simpa using zl))
  have I1 : Inv X pins σ H { s with heap := g } := I.kept (t' := s.toks) keep
  refine wpAny_bind (wpAny_newList ?_ zl)
  show wpAny _ _ _ _ _ { s with heap := g.push (seqObj "list" its.toArray 0) }
  have here : (g.push (seqObj "list" its.toArray 0)).get? g.objs.size = some (seqObj "list" its.toArray 0) := Heap.get?_push_size _ rfl
  refine wpAny_bind (wpAny_holding (wpAny_call_entry_kw slot_list_sort ⟨_, here, rfl⟩ entry_list_sort (SrtR.list_sort_ordR (b := true) SrtO.swo_int here zl (fun h2 => SrtO.ints_sortable hi h2) fun out h1 h2 => ⟨.none, rfl, ?_⟩) (args_list_sort_rev _ _)))
  obtain ⟨ns', k1, k2, k3⟩ := SrtR.ints_outR (b := true) hi h1 h2
  have ek : (if true = true then out.toArray.reverse else out.toArray) = out.toArray.reverse := rfl
  rw [ek] at k1 ⊢
  obtain ⟨ep, he⟩ := sortedHeap_at (vs := its) (out := out.toArray.reverse) here
  have lo : (ns'.map V.int).length ≤ sizeLine := by
    rw [List.length_map, k2.length_eq]
    rwa [List.length_map] at hz
  have e0 : (out.toArray.reverse.toList).toArray = out.toArray.reverse := by rw [Array.toArray_toList]
  refine wpAny_pure ⟨_, rfl, .ref _, upd H g.objs.size (.lst (ns'.map V.int)), I1.laid (t' := s.toks) (fun b u hb => ?_) (Nat.le_refl _) ⟨lo, _, ep, vals_of_ints k1, by rw [e0]; exact he⟩, rfl, q _ _ k2 k3 (I1.hok.fresh (Nat.le_refl _))⟩
  have lt : b < g.objs.size := Heap.lt_size hb
  rw [sortedHeap_old (Nat.ne_of_lt lt) (by rw [size_push']; exact Nat.lt_succ_of_lt lt)]
  exact Heap.get?_push_of_some _ hb
end
end L2

/-! Layer G, part 3b: operators and comparisons keep what wBin, wCmp say. -/
namespace G
open PySem L2 PySem.Spec PyProof.Rows
section
variable {X : Cx}
theorem PowOk.ok {i j : Int} (h : PowOk i j) : CPow i j := h
theorem flat_len (xs : List PD) : ∀ k : Nat, (List.replicate k xs).flatten.length = k * xs.length
  | 0 => by simp
  | k + 1 => by rw [List.replicate_succ, List.flatten_cons, List.length_append, flat_len xs k, Nat.succ_mul]; omega
theorem flat_lenV (xs : List V) : ∀ k : Nat, (List.replicate k xs).flatten.length = k * xs.length
  | 0 => by simp
  | k + 1 => by rw [List.replicate_succ, List.flatten_cons, List.length_append, flat_lenV xs k, Nat.succ_mul]; omega
theorem RPs.append {K H κ} : ∀ {vs ws : List V} {ds es : List PD}, RPs K H κ vs ds → RPs K H κ ws es → RPs K H κ (vs ++ ws) (ds ++ es)
  | _, _, _, _, .nil, h => h
  | _, _, _, _, .cons r t, h => .cons r (RPs.append t h)
theorem RPs.ofS {K H κ} {vs : List V} {ds : List PD} (h : RSs K H κ vs (ds.map .d)) : RPs K H κ vs ds := RSs.toP' h
theorem RPs.rep {K H κ} {vs : List V} {ds : List PD} (h : RPs K H κ vs ds) : ∀ k : Nat, RPs K H κ (List.replicate k vs).flatten (List.replicate k ds).flatten
  | 0 => .nil
  | k + 1 => by rw [List.replicate_succ, List.replicate_succ, List.flatten_cons, List.flatten_cons]; exact RPs.append h (RPs.rep h k)
theorem RPs.cut' {K H κ} {vs : List V} {ds : List PD} (h : RPs K H κ vs ds) (lo hi : Option Int) : RPs K H κ (G.cut vs lo hi) (G.cut ds lo hi) := by
  have h1 := Pd.cut h.toS lo hi
  have e : G.cut (ds.map S.d) lo hi = (G.cut ds lo hi).map .d := by
    unfold G.cut
    rw [List.length_map, List.map_take, List.map_drop]
  rw [e] at h1
  exact RSs.toP' h1
theorem RPs.reverse {K H κ} {vs : List V} {ds : List PD} (h : RPs K H κ vs ds) : RPs K H κ vs.reverse ds.reverse := by
  have h1 := Pd.reverse h.toS
  rw [← List.map_reverse] at h1
  exact RSs.toP' h1
theorem nil_of_len {α : Type} {xs : List α} {β : Type} {ys : List β} (h : xs.length = ys.length) (e : ys = []) : xs = [] := by
  subst e
  exact List.eq_nil_of_length_eq_zero h
def CDivP (i j : Int) : Prop := 0 < j ∧ Builtin.divisionGoesByPylong i j = false
theorem op_fdivP : OpR X (binaryOp .FloorDiv) (rI CDivP fun i j => .int (i / j)) := opI fun i j _ _ _ _ _ hc q => by
  have h1 : (0 : Int) < j := hc.1
  exact floordiv_int (by omega) (by rw [Int.fdiv_eq_ediv_of_nonneg i (by omega)]; exact q) (.inl hc.2)
theorem ok_bin (o : Operator) : OpR X (binaryOp o) (r2 X.K (wBin o)) := by
  intro pins s σ H x y v u Q I rx ry h
  obtain ⟨κ, M, sx, sy, hm, h1, h2, h⟩ := h
  unfold wBin at h
  split at h
  · cases h1 with | d h1 => cases h1; cases h2 with | d h2 => cases h2; exact op_add pins s σ H _ _ v u Q I rx ry ⟨_, _, rfl, rfl, h.at (.d (.int _)) hm⟩
  · cases h1 with | d h1 => cases h1; cases h2 with | d h2 => cases h2; exact op_sub pins s σ H _ _ v u Q I rx ry ⟨_, _, rfl, rfl, h.at (.d (.int _)) hm⟩
  · obtain ⟨hc, h⟩ := h
    cases h1 with
    | d h1 =>
      cases h1
      cases h2 with
      | d h2 =>
        cases h2
        rcases hc with hc | hc
        · exact op_mul pins s σ H _ _ v u Q I rx ry ⟨_, _, rfl, rfl, hc, h.at (.d (.int _)) hm⟩
        · exact op_mulW pins s σ H _ _ v u Q I rx ry ⟨_, _, rfl, rfl, hc, h.at (.d (.int _)) hm⟩
  · obtain ⟨⟨h0, hc⟩, h⟩ := h
    cases h1 with
    | d h1 =>
      cases h1
      cases h2 with
      | d h2 =>
        cases h2
        rcases hc with hc | hc | hc
        · exact op_fdiv pins s σ H _ _ v u Q I rx ry ⟨_, _, rfl, rfl, ⟨h0, hc⟩, h.at (.d (.int _)) hm⟩
        · exact op_fdivW pins s σ H _ _ v u Q I rx ry ⟨_, _, rfl, rfl, ⟨h0, hc⟩, h.at (.d (.int _)) hm⟩
        · exact op_fdivP pins s σ H _ _ v u Q I rx ry ⟨_, _, rfl, rfl, ⟨h0, hc⟩, h.at (.d (.int _)) hm⟩
  · obtain ⟨hc, h⟩ := h
    cases h1 with | d h1 => cases h1; cases h2 with | d h2 => cases h2; exact op_mod pins s σ H _ _ v u Q I rx ry ⟨_, _, rfl, rfl, hc, h.at (.d (.int _)) hm⟩
  · obtain ⟨hc, h⟩ := h
    cases h1 with | d h1 => cases h1; cases h2 with | d h2 => cases h2; exact op_pow pins s σ H _ _ v u Q I rx ry ⟨_, _, rfl, rfl, hc, h.at (.d (.int _)) hm⟩
  · obtain ⟨hc, h⟩ := h
    cases h1 with | d h1 => cases h1; cases h2 with | d h2 => cases h2; exact op_shl pins s σ H _ _ v u Q I rx ry ⟨_, _, rfl, rfl, hc, h.at (.d (.int _)) hm⟩
  · obtain ⟨hz, h⟩ := h
    cases h1 with
    | d h1 =>
      cases h1 with
      | tup t1 z1 r1 =>
        cases h2 with
        | d h2 =>
          cases h2 with
          | tup t2 z2 r2 =>
            refine op_catA pins s σ H _ _ v u Q I rx ry ⟨_, _, _, _, rfl, rfl, t1.sq, t2.sq, by rw [r1.length, r2.length]; exact hz, fun e => ?_, fun n e => ?_, fun n1 n2 p hp => ?_⟩
            · subst e
              cases r1
              exact h.at (.d (.tup t2 z2 r2)) hm
            · subst e
              cases r2
              rw [List.append_nil] at h
              exact h.at (.d (.tup t1 z1 r1)) hm
            · exact h.new hm hp (rp_tup hm hp (by rw [List.length_append, r1.length, r2.length]; exact hz) (r1.append r2))
  · obtain ⟨hz, h⟩ := h
    cases h1 with | d h1 => cases h1; cases h2 with | d h2 => cases h2; exact op_add_str pins s σ H _ _ v u Q I rx ry ⟨_, _, rfl, rfl, hz, h.at (.d (.str _)) hm⟩
  · rename_i xs j
    obtain ⟨⟨hne, hz, h0, h3⟩, h⟩ := h
    cases h1 with
    | d h1 =>
      cases h1 with
      | @tup a vs ds t1 z1 r1 =>
        cases h2 with
        | d h2 =>
          cases h2
          have hv : vs ≠ [] := fun e => hne (nil_of_len r1.length.symm e)
          by_cases hj : 2 ≤ j
          · refine op_repT pins s σ H _ _ v u Q I rx ry ⟨_, _, _, rfl, rfl, t1.sq, hv, hj, h3, by rw [r1.length]; exact hz, fun p hp => ?_⟩
            refine h.new hm hp (rp_tup hm hp ?_ (r1.rep _))
            rw [flat_lenV, r1.length, sizeLine_eq]
            have : j.toNat * xs.length ≤ 1000 * 1000 := Nat.mul_le_mul (by omega) hz
            omega
          · refine op_repZ pins s σ H _ _ v u Q I rx ry ⟨_, _, _, rfl, rfl, t1.1, hv, by omega, fun e => ?_, fun e p hp => ?_⟩
            · subst e
              have e2 : (List.replicate (Int.toNat 1) xs).flatten = xs := by simp
              rw [e2] at h
              exact h.at (.d (.tup t1 z1 r1)) hm
            · subst e
              have e2 : (List.replicate (Int.toNat 0) xs).flatten = [] := by simp
              rw [e2] at h
              exact h.new hm hp (rp_tup hm hp (Nat.zero_le _) .nil)
  · exact h.elim

/-! ### comparisons -/
theorem okD_plain {x : PD} (h : okD x = true) : x.plain = true := (Bool.and_eq_true_iff.mp h).1
theorem okD_depth {x : PD} (h : okD x = true) : x.depth ≤ 60 := of_decide_eq_true (Bool.and_eq_true_iff.mp h).2
theorem pd_reads {pins : List (Addr × Obj)} {σ : L2.St} {H : Hp} {s : Shared} {κ : Loc} {M : Mem} {x : V} {sx : S} {d : PD} {v : Value} (I : Inv X pins σ H s) (m : RM X.K H κ M) (h : RS X.K H κ x sx) (e : pd M sx = some d) (r : RelV x v) : ∃ as, Reads s.heap v d as := by
  cases h with
  | d h => cases e; exact h.reads I r
  | e _ _ _ => cases e
  | @l a k h =>
    cases r
    unfold pd at e
    dsimp only at e
    split at e
    · rename_i xs hx
      cases e1 : dataAll xs with
      | none => rw [e1] at e; cases e
      | some ds =>
        rw [e1] at e
        cases e
        obtain ⟨vs, ha, hz, rs⟩ := m.ob k a _ h hx
        obtain ⟨_, its, n, rv, eo⟩ := I.hok a _ ha
        obtain ⟨as, q⟩ := (rs.toP e1).reads I rv
        exact ⟨_, .list eo rfl rfl (by simpa using q)⟩
    · cases e
theorem pdAll_reads {pins : List (Addr × Obj)} {σ : L2.St} {H : Hp} {s : Shared} {κ : Loc} {M : Mem} (I : Inv X pins σ H s) (m : RM X.K H κ M) : ∀ {vs : List V} {ss : List S} {ds : List PD} {us : List Value}, RSs X.K H κ vs ss → pdAll M ss = some ds → Vals vs us → ∃ as, ReadsAll s.heap us ds as
  | _, _, _, _, .nil, e, .nil => by
    cases e
    exact ⟨_, .nil⟩
  | _, _, _, _, .cons r t, e, .cons rv tv => by
    rename_i a b as bs u us
    unfold pdAll at e
    cases e1 : pd M b with
    | none => rw [e1] at e; cases e
    | some d =>
      cases e2 : pdAll M bs with
      | none => rw [e1, e2] at e; cases e
      | some ds2 =>
        rw [e1, e2] at e
        cases e
        obtain ⟨_, q1⟩ := pd_reads I m r e1 rv
        obtain ⟨_, q2⟩ := pdAll_reads I m t e2 tv
        exact ⟨_, .cons q1 q2⟩
theorem pd2_reads {pins : List (Addr × Obj)} {σ : L2.St} {H : Hp} {s : Shared} {κ : Loc} {M : Mem} {x : V} {sx : S} {d : PD} {v : Value} (I : Inv X pins σ H s) (m : RM X.K H κ M) (h : RS X.K H κ x sx) (e : pd2 M sx = some d) (r : RelV x v) : ∃ as, Reads s.heap v d as := by
  cases sx with
  | d y => exact pd_reads I m h e r
  | e a b c f y => exact pd_reads I m h e r
  | l k =>
    cases h with
    | @l a _ h =>
      cases r
      unfold pd2 at e
      dsimp only at e
      split at e
      · rename_i xs hx
        cases e1 : pdAll M xs with
        | none => rw [e1] at e; cases e
        | some ds =>
          rw [e1] at e
          cases e
          obtain ⟨vs, ha, hz, rs⟩ := m.ob k a _ h hx
          obtain ⟨_, its, n, rv, eo⟩ := I.hok a _ ha
          obtain ⟨as, q⟩ := pdAll_reads I m rs e1 rv
          exact ⟨_, .list eo rfl rfl (by simpa using q)⟩
      · cases e
section
variable {pins : List (Addr × Obj)} {σ : L2.St} {H : Hp} {s : Shared} {κ : Loc} {M : Mem} {Q : VK} {b : Bool}
theorem fin_B (I : Inv X pins σ H s) (m : RM X.K H κ M) (h : Post X.K H κ Q (B b) M) : EP X pins σ Q (.bool b) s := ⟨.bl b, H, I, rfl, h.at (.d (.bl b)) m⟩
end
theorem ok_ord (hu : X.A.units + 100 < cLine) (o : CmpOp) (f : PD → PD → Bool) (g : Int → Int → Bool)
    (ho : OpR X (compareOp o) (rI0 fun i j => .bl (g i j)))
    (hd : ∀ {A : Around} {E : Value → Shared → Prop} {s : Shared} {a b : Value} {da db : PyData} {as bs : List Addr} {Q : Value → Shared → Prop}, Reads s.heap a da as → Reads s.heap b db bs → PySem.W.alike da db = true → da ≠ .none → A.units + min da.depth db.depth < cLine → Q (.bool (f da db)) s → wpAny (model X.prog X.w) A (compareOp o a b) Q E s) :
    OpR X (compareOp o) (r2 X.K (wOrd f g)) := by
  intro pins s σ H x y v u Q I rx ry h
  obtain ⟨κ, M, sx, sy, hm, h1, h2, h⟩ := h
  unfold wOrd at h
  split at h
  · cases h1 with | d h1 => cases h1; cases h2 with | d h2 => cases h2; exact ho pins s σ H _ _ v u Q I rx ry ⟨_, _, rfl, rfl, h.at (.d (.bl _)) hm⟩
  · obtain ⟨⟨k1, k2, k3⟩, h⟩ := h
    obtain ⟨as, q1⟩ := pd_reads I hm h1 rfl rx
    obtain ⟨bs, q2⟩ := pd_reads I hm h2 rfl ry
    have d1 := okD_depth k1
    exact hd q1 q2 k3 (fun z => nomatch z) (by omega) (fin_B I hm h)
  · exact h.elim
theorem ok_eq (hu : X.A.units + 100 < cLine) : OpR X (compareOp .Eq) (r2 X.K (wCmp .Eq)) := by
  intro pins s σ H x y v u Q I rx ry h
  obtain ⟨κ, M, sx, sy, hm, h1, h2, h⟩ := h
  unfold wCmp at h
  dsimp only at h
  split at h
  · rename_i a b ea eb
    unfold wEqD at h
    obtain ⟨as, q1⟩ := pd2_reads I hm h1 ea rx
    obtain ⟨bs, q2⟩ := pd2_reads I hm h2 eb ry
    split at h
    · exact eq_dict_tup q1 q2 (by omega) (fin_B I hm h)
    obtain ⟨k1, k2, h⟩ := h
    have d1 := okD_depth k1
    exact PySem.SeqAt.eq_plain q1 q2 (okD_plain k1) (okD_plain k2) (by omega) (fin_B I hm h)
  · exact h.elim
theorem ok_ne (hu : X.A.units + 100 < cLine) : OpR X (compareOp .NotEq) (r2 X.K (wCmp .NotEq)) := by
  intro pins s σ H x y v u Q I rx ry h
  obtain ⟨κ, M, sx, sy, hm, h1, h2, h⟩ := h
  unfold wCmp at h
  dsimp only at h
  split at h
  · rename_i a b ea eb
    obtain ⟨k1, k2, h⟩ := h
    obtain ⟨as, q1⟩ := pd_reads I hm h1 ea rx
    obtain ⟨bs, q2⟩ := pd_reads I hm h2 eb ry
    have d1 := okD_depth k1
    exact PySem.SeqAt.ne_plain q1 q2 (okD_plain k1) (okD_plain k2) (by omega) (fin_B I hm h)
  · exact h.elim
theorem plainAll_of {xs : List PD} (h : okD (.list xs) = true) : PyData.plainAll xs = true := by
  have := okD_plain h
  simpa [PyData.plain] using this
theorem plainAll_of' {xs : List PD} (h : okD (.tuple xs) = true) : PyData.plainAll xs = true := by
  have := okD_plain h
  simpa [PyData.plain] using this
theorem ok_in (hu : X.A.units + 100 < cLine) : OpR X (compareOp .In) (r2 X.K (wCmp .In)) := by
  intro pins s σ H x y v u Q I rx ry h
  obtain ⟨κ, M, sx, sy, hm, h1, h2, h⟩ := h
  unfold wCmp at h
  dsimp only at h
  split at h
  · rename_i a b ea eb
    obtain ⟨as, q1⟩ := pd_reads I hm h1 ea rx
    obtain ⟨bs, q2⟩ := pd_reads I hm h2 eb ry
    unfold wIn at h
    split at h
    · rename_i h3 h4
      cases h3; cases h4
      obtain ⟨⟨k1, k2⟩, h⟩ := h
      have d1 := okD_depth k1
      exact PySem.SeqAt.in_list_data q2 q1 (plainAll_of k2) (okD_plain k1) (by omega) (fin_B I hm h)
    · rename_i h3 h4
      cases h3; cases h4
      obtain ⟨⟨k1, k2⟩, h⟩ := h
      have d1 := okD_depth k1
      exact PySem.SeqAt.in_tuple_data q2 q1 (plainAll_of' k2) (okD_plain k1) (by omega) (fin_B I hm h)
    · exact h.elim
  · unfold dAt at h
    split at h
    · rename_i n z _ _
      obtain ⟨kvs, k, hk, ek, h⟩ := h
      cases h2 with
      | l h2 =>
        cases h1 with
        | d h1 =>
          have ev := key_of_PD h1 ek
          subst ev
          obtain ⟨kv, ha, zl, r⟩ := hm.ob _ _ _ h2 hk
          cases ry
          refine d_in (by omega) I (DGet.k ha) rx fun s' I' => ?_
          have e : (valV kv k).isSome = (lookK kvs k).isSome := by
            rcases RK.look r k with ⟨v1, s1, e1, e2, _⟩ | ⟨e1, e2⟩ <;> rw [e1, e2] <;> rfl
          rw [e]
          exact fin_B I' hm h
    · exact h.elim
theorem ok_nin (hu : X.A.units + 100 < cLine) : OpR X (compareOp .NotIn) (r2 X.K (wCmp .NotIn)) := by
  intro pins s σ H x y v u Q I rx ry h
  obtain ⟨κ, M, sx, sy, hm, h1, h2, h⟩ := h
  unfold wCmp at h
  dsimp only at h
  split at h
  · rename_i a b ea eb
    obtain ⟨as, q1⟩ := pd_reads I hm h1 ea rx
    obtain ⟨bs, q2⟩ := pd_reads I hm h2 eb ry
    unfold wIn at h
    split at h
    · rename_i h3 h4
      cases h3; cases h4
      obtain ⟨⟨k1, k2⟩, h⟩ := h
      have d1 := okD_depth k1
      exact PySem.SeqAt.notIn_list_data q2 q1 (plainAll_of k2) (okD_plain k1) (by omega) (fin_B I hm h)
    · rename_i h3 h4
      cases h3; cases h4
      obtain ⟨⟨k1, k2⟩, h⟩ := h
      have d1 := okD_depth k1
      exact PySem.SeqAt.notIn_tuple_data q2 q1 (plainAll_of' k2) (okD_plain k1) (by omega) (fin_B I hm h)
    · exact h.elim
  · unfold dAt at h
    split at h
    · rename_i n z _ _
      obtain ⟨kvs, k, hk, ek, h⟩ := h
      cases h2 with
      | l h2 =>
        cases h1 with
        | d h1 =>
          have ev := key_of_PD h1 ek
          subst ev
          obtain ⟨kv, ha, zl, r⟩ := hm.ob _ _ _ h2 hk
          cases ry
          refine d_notIn (by omega) I (DGet.k ha) rx fun s' I' => ?_
          have e : (valV kv k).isSome = (lookK kvs k).isSome := by
            rcases RK.look r k with ⟨v1, s1, e1, e2, _⟩ | ⟨e1, e2⟩ <;> rw [e1, e2] <;> rfl
          rw [e]
          exact fin_B I' hm h
    · exact h.elim
theorem bool_dec (a b : Bool) : decide (a = b) = (a == b) := by cases a <;> cases b <;> rfl
theorem ok_is : OpR X (compareOp .Is) (r2 X.K (wCmp .Is)) := by
  intro pins s σ H x y v u Q I rx ry h
  obtain ⟨κ, M, sx, sy, hm, h1, h2, h⟩ := h
  unfold wCmp at h
  dsimp only at h
  split at h
  case h_2 =>
    cases h1 with | d h1 => cases h1; cases h2 with | d h2 => cases h2; exact op_is_bl pins s σ H _ _ v u Q I rx ry ⟨_, _, rfl, rfl, by rw [bool_dec]; exact h.at (.d (.bl _)) hm⟩
  case h_9 => exact h.elim
  all_goals
    cases h2 with
    | d h2 =>
      cases h2
      refine op_isN pins s σ H _ _ v u Q I rx ry ⟨rfl, ?_⟩
      first
        | (cases h1 with | d h1 => cases h1; exact h.at (.d (.bl _)) hm)
        | (cases h1 with | l h1 => exact h.at (.d (.bl _)) hm)
theorem ok_isn : OpR X (compareOp .IsNot) (r2 X.K (wCmp .IsNot)) := by
  intro pins s σ H x y v u Q I rx ry h
  obtain ⟨κ, M, sx, sy, hm, h1, h2, h⟩ := h
  unfold wCmp at h
  dsimp only at h
  split at h
  case h_2 =>
    cases h1 with | d h1 => cases h1; cases h2 with | d h2 => cases h2; exact op_isnot_bl pins s σ H _ _ v u Q I rx ry ⟨_, _, rfl, rfl, by rw [bool_dec]; exact h.at (.d (.bl _)) hm⟩
  case h_9 => exact h.elim
  all_goals
    cases h2 with
    | d h2 =>
      cases h2
      refine op_notN pins s σ H _ _ v u Q I rx ry ⟨rfl, ?_⟩
      first
        | (cases h1 with | d h1 => cases h1; exact h.at (.d (.bl _)) hm)
        | (cases h1 with | l h1 => exact h.at (.d (.bl _)) hm)
theorem ok_cmp (hu : X.A.units + 100 < cLine) (o : CmpOp) : OpR X (compareOp o) (r2 X.K (wCmp o)) := by
  cases o with
  | Eq => exact ok_eq hu
  | NotEq => exact ok_ne hu
  | Lt => exact ok_ord hu .Lt _ _ op_lt PySem.W.lt_data
  | LtE => exact ok_ord hu .LtE _ _ op_le PySem.W.le_data
  | Gt => exact ok_ord hu .Gt _ _ op_gt PySem.W.gt_data
  | GtE => exact ok_ord hu .GtE _ _ op_ge PySem.W.ge_data
  | Is => exact ok_is
  | IsNot => exact ok_isn
  | In => exact ok_in hu
  | NotIn => exact ok_nin hu
end
end G

/-! Layer G, part 3c: built-in functions, subscripts, slices, methods keep what their primitives say. -/
namespace G
open PySem L2 PySem.Spec PyProof.Rows
section
variable {X : Cx} {pins : List (Addr × Obj)} {σ : L2.St} {H : Hp} {s : Shared} {κ : Loc} {M : Mem} {Q : VK}
/-- the items of a list or tuple, as they stand -/
theorem items_at {K : PySem.W.Frag} (m : RM K H κ M) {x : V} {sx : S} {xs : List S} (h : RS K H κ x sx) (e : items M sx = some xs) :
    ∃ a vs, x = .ref a ∧ vs.length ≤ sizeLine ∧ RSs K H κ vs xs ∧ (SqL K H a vs ∨ SqT K H a vs) ∧ ((∃ k, sx = .l k ∧ κ.at_[k]? = some a ∧ H a = some (.lst vs)) ∨ (∃ d, sx = .d d)) := by
  unfold items at e
  split at e
  · cases e
    cases h with
    | d h =>
      cases h with
      | lst h z r => exact ⟨_, _, rfl, z, r.toS, .inl h.sq, .inr ⟨_, rfl⟩⟩
  · cases e
    cases h with
    | d h =>
      cases h with
      | tup h z r => exact ⟨_, _, rfl, z, r.toS, .inr h.sq, .inr ⟨_, rfl⟩⟩
  · split at e
    · rename_i hk
      cases e
      cases h with
      | l h =>
        obtain ⟨vs, ha, z, r⟩ := m.ob _ _ _ h hk
        exact ⟨_, vs, rfl, z, r, .inl (SqL.of ha), .inl ⟨_, rfl, h, ha⟩⟩
    · cases e
  · cases e
theorem RPs.ints {K : PySem.W.Frag} : ∀ {vs : List V} {ns : List Int}, RPs K H κ vs (ns.map .int) → vs = ns.map V.int
  | _, [], .nil => rfl
  | _, n :: ns, .cons h t => by
    cases h
    rw [List.map_cons, RPs.ints t]
theorem ints_S {ns : List Int} : ns.map I = (ns.map PyData.int).map .d := by rw [List.map_map]; rfl
theorem bools_S {ns : List Bool} : ns.map B = (ns.map PyData.bool).map .d := by rw [List.map_map]; rfl
theorem truthy_bools (bs : List Bool) : (bs.map PyData.bool).all PyData.truthy = bs.all id ∧ (bs.map PyData.bool).any PyData.truthy = bs.any id := by
  induction bs with
  | nil => exact ⟨rfl, rfl⟩
  | cons b r ih =>
    rw [List.map_cons, List.all_cons, List.any_cons, List.all_cons, List.any_cons, ih.1, ih.2]
    exact ⟨rfl, rfl⟩
theorem plain_bools : ∀ bs : List Bool, PyData.plainAll (bs.map PyData.bool) = true
  | [] => rfl
  | b :: r => by simp [PyData.plainAll, PyData.plain, plain_bools r]
theorem fits_bools (bs : List Bool) : ∀ x ∈ bs.map PyData.bool, x.fits63 := by
  intro x hx
  obtain ⟨b, _, rfl⟩ := List.mem_map.mp hx
  trivial

theorem tru_at {K : PySem.W.Frag} (m : RM K H κ M) {x : V} {sx : S} {k : Bool} (h : RS K H κ x sx) (e : truth M sx = some k) : TruV K x H k := by
  unfold truth at e
  split at e
  · cases e; cases h with | d h => cases h; rfl
  · cases e; cases h with | d h => cases h; rfl
  · cases e; cases h with | d h => cases h; rfl
  · cases e
    cases h with
    | d h =>
      cases h with
      | lst h z r => exact .inl ⟨_, h.sq, by cases r <;> rfl⟩
  · cases e
    cases h with
    | d h =>
      cases h with
      | tup h z r => exact .inr (.inl ⟨_, h.sq, by cases r <;> rfl⟩)
  · split at e
    · rename_i hk
      cases e
      cases h with
      | l h =>
        obtain ⟨vs, ha, z, r⟩ := m.ob _ _ _ h hk
        exact .inl ⟨_, SqL.of ha, by cases r <;> rfl⟩
    · cases e
  · cases e
theorem vals_ref1 {a : Addr} {us : List Value} (r : Vals [V.ref a] us) : us = [Value.ref a] := Vals.ref1 r
/-- a built-in that looks at a list or tuple of plain data -/
theorem data_at (I : Inv X pins σ H s) (m : RM X.K H κ M) {x : V} {sx : S} {ds : List PD} (h : RS X.K H κ x sx) (e : items M sx = some (ds.map .d)) :
    ∃ a its as, x = .ref a ∧ its.length = ds.length ∧ ReadsAll s.heap its ds as ∧ (∀ (i : Nat) (d : PD), ds[i]? = some d → ∃ (v : V) (u : Value), its[i]? = some u ∧ RelV v u ∧ RP X.K H κ v d) ∧ (PlainL s.heap a its.toArray ∨ IsTup s.heap a its.toArray) := by
  obtain ⟨a, vs, rfl, z, r, h1, _⟩ := items_at m h e
  have rp := RSs.toP' r
  have fin : ∀ its : List Value, Vals vs its → (∀ (i : Nat) (d : PD), ds[i]? = some d → ∃ (v : V) (u : Value), its[i]? = some u ∧ RelV v u ∧ RP X.K H κ v d) := fun its rv i d hd => by
    obtain ⟨v, hv, q⟩ := rp.get' hd
    obtain ⟨u, hu, ru⟩ := rv.get hv
    exact ⟨v, u, hu, ru, q⟩
  rcases h1 with h1 | h1
  · obtain ⟨its, rv, p, _⟩ := I.list h1
    obtain ⟨as, q⟩ := rp.reads I rv
    exact ⟨a, its, as, rfl, by rw [← rv.length, rp.length], q, fin its rv, .inl p⟩
  · obtain ⟨its, rv, p, _⟩ := I.tuple h1
    obtain ⟨as, q⟩ := rp.reads I rv
    exact ⟨a, its, as, rfl, by rw [← rv.length, rp.length], q, fin its rv, .inr p⟩
theorem ints_are : ∀ {ns : List Int} {us : List Value} {as : List Addr} {h : Heap}, ReadsAll h us (ns.map .int) as → IntsAre us ns
  | [], _, _, _, .nil => .nil
  | n :: ns, _, _, _, .cons r t => by
    cases r
    exact .cons _ _ (ints_are t)
theorem depthAll_le {xs : List PD} (h : okD (.list xs) = true) : PyData.depthAll xs ≤ 59 := by
  have := okD_depth h
  simp only [PyData.depth] at this
  omega
theorem rlen {h : Heap} : ∀ {us : List Value} {ds : List PD} {as : List Addr}, ReadsAll h us ds as → us.length = ds.length
  | _, _, _, .nil => rfl
  | _, _, _, .cons _ t => by rw [List.length_cons, List.length_cons, rlen t]
theorem plain_mem' : ∀ {xs : List PD}, PyData.plainAll xs = true → ∀ x ∈ xs, x.plain = true
  | y :: ys, h, x, hx => by
    rw [PyData.plainAll, Bool.and_eq_true] at h
    rcases List.mem_cons.mp hx with rfl | hx
    · exact h.1
    · exact plain_mem' h.2 x hx
theorem best_rp (I : Inv X pins σ H s) {h' : Heap} (k : ∀ b o, s.heap.get? b = some o → h'.get? b = some o) {y : PD} {ys : List PD} {its : List Value} {as : List Addr} (hp : PyData.plainAll (y :: ys) = true) (ra : ReadsAll s.heap its (y :: ys) as)
    (hg : ∀ (i : Nat) (d : PD), (y :: ys)[i]? = some d → ∃ (v : V) (u : Value), its[i]? = some u ∧ RelV v u ∧ RP X.K H κ v d) {i : Nat} {u : Value} {m : PD} {bs : List Addr} (hi : its[i]? = some u) (r : Reads h' u m bs) : ∃ v, RelV v u ∧ RP X.K H κ v m := by
  have hl : its.length = (y :: ys).length := rlen ra
  have hi2 : i < (y :: ys).length := by rw [← hl]; exact (List.getElem?_eq_some_iff.mp hi).1
  obtain ⟨v, u', hu, ru, rp⟩ := hg i _ (List.getElem?_eq_getElem hi2)
  rw [hi] at hu
  cases hu
  obtain ⟨cs, q⟩ := rp.reads I ru
  have e := PySem.SeqAt.plain_unique _ m u cs bs (plain_mem' hp _ (List.getElem_mem hi2)) (Reads.keeps k q) r
  rw [← e] at *
  exact ⟨v, ru, rp⟩
end
end G

/-! Layer G, part 3d: the built-in functions of one argument, isinstance. -/
namespace G
open PySem L2 PySem.Spec PyProof.Rows
section
variable {X : Cx}
theorem ok_len : CallR X (.builtin "len") (r1 X.K (wB1 .len)) := by
  intro pins s σ H vs us Q I rv h
  obtain ⟨κ, M, x, sx, rfl, hm, h1, xs, e, h⟩ := h
  obtain ⟨a, vs, rfl, z, r, hs, _⟩ := items_at hm h1 e
  refine call_len pins s σ H _ us Q I rv ⟨_, vs.length, rfl, ?_, ?_⟩
  · rcases hs with hs | hs
    · exact .inl ⟨_, hs, rfl⟩
    · exact .inr ⟨_, hs, rfl⟩
  · rw [r.length]
    exact h.at (.d (.int _)) hm
theorem ok_tuple : CallR X (.type "tuple") (r1 X.K (wB1 .tuple)) := by
  intro pins s σ H vs us Q I rv h
  obtain ⟨κ, M, x, sx, rfl, hm, h1, h⟩ := h
  dsimp only [wB1] at h
  split at h
  · cases h1 with
    | d h1 =>
      cases h1 with
      | tup t z r => exact call_tuple_of pins s σ H _ us Q I rv ⟨_, _, rfl, .inr ⟨t.sq, h.at (.d (.tup t z r)) hm⟩⟩
  · cases h1 with
    | d h1 =>
      cases h1 with
      | lst t z r => exact call_tuple_of pins s σ H _ us Q I rv ⟨_, _, rfl, .inl ⟨t.sq, fun l hl => h.new hm hl (rp_tup hm hl z r)⟩⟩
  · obtain ⟨xs, hk, h⟩ := h
    cases h1 with
    | l h1 =>
      obtain ⟨ws, ha, z, r⟩ := hm.ob _ _ _ h1 hk
      exact call_tuple_of pins s σ H _ us Q I rv ⟨_, _, rfl, .inl ⟨SqL.of ha, fun l hl => h.new hm hl (rp_tup hm hl z (RSs.toP' r))⟩⟩
  · exact h.elim
theorem ok_list : CallR X (.type "list") (r1 X.K (wB1 .list)) := by
  intro pins s σ H vs us Q I rv h
  obtain ⟨κ, M, x, sx, rfl, hm, h1, xs, e, h⟩ := h
  obtain ⟨a, vs, rfl, z, r, hs, _⟩ := items_at hm h1 e
  exact call_list_of pins s σ H _ us Q I rv ⟨_, _, rfl, hs, fun l hl => h.new hm hl (rp_lst hm hl z (RSs.toP' r))⟩
theorem rp_ints {K : PySem.W.Frag} {H : Hp} {κ : Loc} : ∀ (ns : List Int), RPs K H κ (ns.map V.int) (ns.map PyData.int)
  | [] => .nil
  | n :: ns => .cons (.int n) (rp_ints ns)
theorem rp_ints_eq {K : PySem.W.Frag} {H : Hp} {κ : Loc} : ∀ {ns : List Int} {vs : List V}, RPs K H κ vs (ns.map PyData.int) → vs = ns.map V.int
  | [], _, h => by cases h; rfl
  | n :: ns, _, h => by
    cases h with
    | cons r t =>
      cases r
      rw [rp_ints_eq t]
      rfl
theorem ok_sorted : CallR X (.builtin "sorted") (r1 X.K (wB1 .sorted)) := by
  intro pins s σ H vs us Q I rv h
  obtain ⟨κ, M, x, sx, rfl, hm, h1, h⟩ := h
  dsimp only [wB1] at h
  split at h
  · obtain ⟨ns, rfl, h⟩ := h
    cases h1 with
    | d h1 =>
      cases h1 with
      | tup t z r =>
        cases rp_ints_eq r
        exact sorted_tupI pins s σ H _ us Q I rv ⟨_, ns, rfl, t.sq, fun ns' p hp hw hl => (h ns' hp hw).new hm hl (rp_lst hm hl (by rw [List.length_map, hp.length_eq]; rwa [List.length_map] at z) (rp_ints ns'))⟩
  · obtain ⟨ns, rfl, h⟩ := h
    cases h1 with
    | d h1 =>
      cases h1 with
      | lst t z r =>
        cases rp_ints_eq r
        exact cr_sortedI pins s σ H _ us Q I rv ⟨_, ns, rfl, t.sq, fun ns' p hp hw hl => (h ns' hp hw).new hm hl (rp_lst hm hl (by rw [List.length_map, hp.length_eq]; rwa [List.length_map] at z) (rp_ints ns'))⟩
  · obtain ⟨ns, hk, h⟩ := h
    cases h1 with
    | l h1 =>
      obtain ⟨ws, ha, z, r⟩ := hm.ob _ _ _ h1 hk
      cases rp_ints_eq (RSs.toP' r)
      exact cr_sortedI pins s σ H _ us Q I rv ⟨_, ns, rfl, SqL.of ha, fun ns' p hp hw hl => (h ns' hp hw).new hm hl (rp_lst hm hl (by rw [List.length_map, hp.length_eq]; rwa [List.length_map] at z) (rp_ints ns'))⟩
  · exact h.elim
theorem two_of {K : PySem.W.Frag} {H : Hp} {κ : Loc} {v : V} {p : Int × Int} (h : RP K H κ v (twoI p)) : ∃ t, v = .ref t ∧ Rd H t (.tup [.int p.1, .int p.2]) := by
  cases h with
  | tup st z r =>
    cases r with
    | cons r1 r =>
      cases r1
      cases r with
      | cons r2 r =>
        cases r2
        cases r
        exact ⟨_, rfl, st.1⟩
theorem rd_one {H : Hp} {t : Addr} {p q : Int × Int} (h : Rd H t (.tup [.int p.1, .int p.2])) (h' : Rd H t (.tup [.int q.1, .int q.2])) : p = q := by
  obtain ⟨a, b⟩ := p
  obtain ⟨c, d⟩ := q
  rcases h with h | ⟨o, h⟩ <;> rcases h' with h' | ⟨o', h'⟩ <;> rw [h] at h' <;> cases h' <;> rfl
/-- pairs of ints by what stands at them -/
theorem two_key {K : PySem.W.Frag} {H : Hp} {κ : Loc} {vs : List V} {ps : List (Int × Int)} (h : RPs K H κ vs (ps.map twoI)) :
    ∃ k : V → Int × Int, (∀ x ∈ vs, ∃ t, x = .ref t ∧ Rd H t (.tup [.int (k x).1, .int (k x).2])) ∧ vs.map k = ps ∧ ∀ x ∈ vs, RP K H κ x (twoI (k x)) := by
  classical
  have key : ∀ {vs : List V} {ps : List (Int × Int)}, RPs K H κ vs (ps.map twoI) → ∀ x ∈ vs, ∃ p, RP K H κ x (twoI p) := fun {vs} => by
    induction vs with
    | nil => exact fun _ x hx => nomatch hx
    | cons v vs ih =>
      intro ps h x hx
      cases ps with
      | nil => cases h
      | cons p ps =>
        cases h with
        | cons r t =>
          rcases List.mem_cons.mp hx with rfl | hx
          · exact ⟨p, r⟩
          · exact ih t x hx
  let k : V → Int × Int := fun x => if c : ∃ p, RP K H κ x (twoI p) then Classical.choose c else (0, 0)
  have kx : ∀ x p, RP K H κ x (twoI p) → k x = p := fun x p h => by
    have c : ∃ p, RP K H κ x (twoI p) := ⟨p, h⟩
    have e : k x = Classical.choose c := dif_pos c
    obtain ⟨t, e1, r1⟩ := two_of h
    obtain ⟨t', e2, r2⟩ := two_of (Classical.choose_spec c)
    rw [e1] at e2
    cases e2
    rw [e]
    exact rd_one r2 r1
  refine ⟨k, fun x hx => ?_, ?_, fun x hx => ?_⟩
  · obtain ⟨p, hp⟩ := key h x hx
    rw [kx x p hp]
    exact two_of hp
  · clear key
    induction vs generalizing ps with
    | nil => cases ps with
      | nil => rfl
      | cons _ _ => cases h
    | cons v vs ih =>
      cases ps with
      | nil => cases h
      | cons p ps =>
        cases h with
        | cons r t => rw [List.map_cons, kx v p r, ih t]
  · obtain ⟨p, hp⟩ := key h x hx
    rw [kx x p hp]
    exact hp
theorem rps_of {K : PySem.W.Frag} {H : Hp} {κ : Loc} {k : V → Int × Int} : ∀ {ys : List V}, (∀ x ∈ ys, RP K H κ x (twoI (k x))) → RPs K H κ ys ((ys.map k).map twoI)
  | [], _ => .nil
  | y :: ys, h => .cons (h y List.mem_cons_self) (rps_of fun x hx => h x (List.mem_cons_of_mem _ hx))
theorem ok_sortedP : CallR X (.builtin "sorted") (r1 X.K (wB1 .sortedP)) := by
  intro pins s σ H vs us Q I rv h
  obtain ⟨κ, M, x, sx, rfl, hm, h1, h⟩ := h
  have main : ∀ {a : Addr} {vs : List V} {ps : List (Int × Int)}, SqL X.K H a vs → vs.length ≤ sizeLine → RPs X.K H κ vs (ps.map twoI) → (∀ ps' : List (Int × Int), ps'.Perm ps → ps'.Pairwise leI → Post X.K H κ Q (.d (.list (ps'.map twoI))) M) → x = .ref a →
      wpAny (model X.prog X.w) X.A (call (.builtin "sorted") us) (EP X pins σ Q) X.xe s := fun {a vs ps} hs z r h e => by
    subst e
    obtain ⟨k, k1, k2, k3⟩ := two_key r
    refine sorted_two pins s σ H _ us Q I rv ⟨a, vs, k, rfl, hs, k1, fun ys p pm pw hp => ?_⟩
    refine (h (ys.map k) (by rw [← k2]; exact pm.map k) (List.pairwise_map.mpr (pw.imp fun {u v} e => ?_))).new hm hp (rp_lst hm hp (by rw [pm.length_eq]; exact z) (rps_of fun u hu => k3 u (pm.mem_iff.mp hu)))
    have := SrtO.lexB_no.mp e
    unfold leI
    omega
  dsimp only [wB1] at h
  split at h
  · obtain ⟨ps, rfl, h⟩ := h
    cases h1 with
    | d h1 =>
      cases h1 with
      | lst t z r => exact main t.sq z r h rfl
  · obtain ⟨ps, hk, h⟩ := h
    cases h1 with
    | l h1 =>
      obtain ⟨ws, ha, z, r⟩ := hm.ob _ _ _ h1 hk
      exact main (SqL.of ha) z (RSs.toP' r) h rfl
  · exact h.elim
theorem ok_sortedR : CallRK X (.builtin "sorted") [Str.ofString "reverse"] (fun vs zs H Q => zs = [.bl true] ∧ r1 X.K (wB1 .sortedR) vs H Q) := by
  intro pins s σ H vs zs us ws Q I rv rz h
  obtain ⟨rfl, κ, M, x, sx, rfl, hm, h1, h⟩ := h
  dsimp only [wB1] at h
  split at h
  · obtain ⟨ns, rfl, h⟩ := h
    cases h1 with
    | d h1 =>
      cases h1 with
      | tup t z r =>
        cases rp_ints_eq r
        exact sorted_tupR pins s σ H _ _ us ws Q I rv rz ⟨_, ns, rfl, rfl, t.sq, fun ns' p hp hw hl => (h ns' hp hw).new hm hl (rp_lst hm hl (by rw [List.length_map, hp.length_eq]; rwa [List.length_map] at z) (rp_ints ns'))⟩
  · obtain ⟨ns, rfl, h⟩ := h
    cases h1 with
    | d h1 =>
      cases h1 with
      | lst t z r =>
        cases rp_ints_eq r
        exact cr_sortedRev pins s σ H _ _ us ws Q I rv rz ⟨_, ns, rfl, rfl, t.sq, fun ns' p hp hw hl => (h ns' hp hw).new hm hl (rp_lst hm hl (by rw [List.length_map, hp.length_eq]; rwa [List.length_map] at z) (rp_ints ns'))⟩
  · obtain ⟨ns, hk, h⟩ := h
    cases h1 with
    | l h1 =>
      obtain ⟨ws', ha, z, r⟩ := hm.ob _ _ _ h1 hk
      cases rp_ints_eq (RSs.toP' r)
      exact cr_sortedRev pins s σ H _ _ us ws Q I rv rz ⟨_, ns, rfl, rfl, SqL.of ha, fun ns' p hp hw hl => (h ns' hp hw).new hm hl (rp_lst hm hl (by rw [List.length_map, hp.length_eq]; rwa [List.length_map] at z) (rp_ints ns'))⟩
  · exact h.elim
theorem ok_int : CallR X (.type "int") (r1 X.K (wB1 .int)) := by
  intro pins s σ H vs us Q I rv h
  obtain ⟨κ, M, x, sx, rfl, hm, h1, h⟩ := h
  dsimp only [wB1] at h
  split at h
  · cases h1 with | d h1 => cases h1; exact call_int1 pins s σ H _ us Q I rv (.inl ⟨_, rfl, h.at (.d (.int _)) hm⟩)
  · cases h1 with | d h1 => cases h1; exact call_int1 pins s σ H _ us Q I rv (.inr ⟨_, rfl, h.at (.d (.int _)) hm⟩)
  · exact h.elim
theorem ok_bool : CallR X (.type "bool") (r1 X.K (wB1 .bool)) := by
  intro pins s σ H vs us Q I rv h
  obtain ⟨κ, M, x, sx, rfl, hm, h1, h⟩ := h
  dsimp only [wB1] at h
  split at h
  · cases h1 with | d h1 => cases h1; exact call_bool1 pins s σ H _ us Q I rv (.inl ⟨_, rfl, h.at (.d (.bl _)) hm⟩)
  · cases h1 with | d h1 => cases h1; exact call_bool1 pins s σ H _ us Q I rv (.inr ⟨_, rfl, h.at (.d (.bl _)) hm⟩)
  · exact h.elim
theorem ok_str : CallR X (.type "str") (r1 X.K (wB1 .str)) := by
  intro pins s σ H vs us Q I rv h
  obtain ⟨κ, M, x, sx, rfl, hm, h1, h⟩ := h
  dsimp only [wB1] at h
  split at h
  · cases h1 with | d h1 => cases h1; exact call_str_int pins s σ H _ us Q I rv ⟨_, rfl, h.1, h.2.at (.d (.str _)) hm⟩
  · exact h.elim
theorem ok_abs : CallR X (.builtin "abs") (r1 X.K (wB1 .abs)) := by
  intro pins s σ H vs us Q I rv h
  obtain ⟨κ, M, x, sx, rfl, hm, h1, h⟩ := h
  dsimp only [wB1] at h
  split at h
  · cases h1 with | d h1 => cases h1; exact call_abs pins s σ H _ us Q I rv ⟨_, rfl, h.at (.d (.int _)) hm⟩
  · exact h.elim
theorem ok_sum (hc : X.calm = true) : CallR X (.builtin "sum") (r1 X.K (wB1 .sum)) := by
  intro pins s σ H vs us Q I rv h
  obtain ⟨κ, M, x, sx, rfl, hm, h1, ns, e, h⟩ := h
  rw [ints_S] at e
  obtain ⟨a, its, as, rfl, hl, ra, hg, hp⟩ := data_at I hm h1 e
  rw [vals_ref1 rv]
  have hi := ints_are ra
  rcases hp with hp | hp
  · exact sum_raw (I.ok.hd hc) hp.isList hi fun h' tk t' hk => ⟨.int _, H, I.kept hk, ⟨_, rfl⟩, h.at (.d (.int _)) hm⟩
  · obtain ⟨xs, e1⟩ := hi.allInts.items
    have hn : numsOf (intItems xs).toList = ns := by rw [← e1]; exact hi.numsOf
    rw [nums_intItems] at hn
    have hp' : s.heap.IsTuple a (intItems xs) := by rw [← e1]; exact hp
    refine PySem.W.ktm_sumG (I.ok.hd hc) hp' fun h' tk t' hk => ?_
    rw [preSum_eq, List.take_of_length_le (by simp), hn]
    exact ⟨.int _, H, I.kept hk, ⟨_, rfl⟩, h.at (.d (.int _)) hm⟩
theorem ok_all (hc : X.calm = true) : CallR X (.builtin "all") (r1 X.K (wB1 .all)) := by
  intro pins s σ H vs us Q I rv h
  obtain ⟨κ, M, x, sx, rfl, hm, h1, bs, e, h⟩ := h
  rw [bools_S] at e
  obtain ⟨a, its, as, rfl, hl, ra, hg, hp⟩ := data_at I hm h1 e
  rw [vals_ref1 rv]
  rcases hp with hp | hp
  · refine PySem.W.all_list_data (I.ok.hd hc) hp.isList (by simpa using ra) (plain_bools bs) (fits_bools bs) fun h' tk hk => ?_
    rw [(truthy_bools bs).1]
    exact ⟨.bl _, H, I.kept hk, rfl, h.at (.d (.bl _)) hm⟩
  · refine PySem.W.all_tuple_data (I.ok.hd hc) hp (by simpa using ra) (plain_bools bs) (fits_bools bs) fun h' tk hk => ?_
    rw [(truthy_bools bs).1]
    exact ⟨.bl _, H, I.kept hk, rfl, h.at (.d (.bl _)) hm⟩
theorem ok_any (hc : X.calm = true) : CallR X (.builtin "any") (r1 X.K (wB1 .any)) := by
  intro pins s σ H vs us Q I rv h
  obtain ⟨κ, M, x, sx, rfl, hm, h1, bs, e, h⟩ := h
  rw [bools_S] at e
  obtain ⟨a, its, as, rfl, hl, ra, hg, hp⟩ := data_at I hm h1 e
  rw [vals_ref1 rv]
  rcases hp with hp | hp
  · refine PySem.W.any_list_data (I.ok.hd hc) hp.isList (by simpa using ra) (plain_bools bs) (fits_bools bs) fun h' tk hk => ?_
    rw [(truthy_bools bs).2]
    exact ⟨.bl _, H, I.kept hk, rfl, h.at (.d (.bl _)) hm⟩
  · refine PySem.W.any_tuple_data (I.ok.hd hc) hp (by simpa using ra) (plain_bools bs) (fits_bools bs) fun h' tk hk => ?_
    rw [(truthy_bools bs).2]
    exact ⟨.bl _, H, I.kept hk, rfl, h.at (.d (.bl _)) hm⟩
theorem ok_max (hc : X.calm = true) (hu : X.A.units + 100 < cLine) : CallR X (.builtin "max") (r1 X.K (wB1 .max)) := by
  intro pins s σ H vs us Q I rv h
  obtain ⟨κ, M, x, sx, rfl, hm, h1, y, ys, e, ⟨k1, k2⟩, h⟩ := h
  obtain ⟨a, its, as, rfl, hl, ra, hg, hp⟩ := data_at I hm h1 e
  rw [vals_ref1 rv]
  have d1 := depthAll_le k1
  rcases hp with hp | hp
  · refine PySem.W.max_list_data (I.ok.hd hc) hp.isList (by simpa using ra) k2 (by omega) fun i v h' tk bs hv r hk => ?_
    obtain ⟨w, rw', rp⟩ := best_rp I hk (plainAll_of k1) ra hg (by simpa using hv) r
    exact ⟨w, H, I.kept hk, rw', h.at (.d rp) hm⟩
  · refine PySem.W.max_tuple_data (I.ok.hd hc) hp (by simpa using ra) k2 (by omega) fun i v h' tk bs hv r hk => ?_
    obtain ⟨w, rw', rp⟩ := best_rp I hk (plainAll_of k1) ra hg (by simpa using hv) r
    exact ⟨w, H, I.kept hk, rw', h.at (.d rp) hm⟩
theorem ok_min (hc : X.calm = true) (hu : X.A.units + 100 < cLine) : CallR X (.builtin "min") (r1 X.K (wB1 .min)) := by
  intro pins s σ H vs us Q I rv h
  obtain ⟨κ, M, x, sx, rfl, hm, h1, y, ys, e, ⟨k1, k2⟩, h⟩ := h
  obtain ⟨a, its, as, rfl, hl, ra, hg, hp⟩ := data_at I hm h1 e
  rw [vals_ref1 rv]
  have d1 := depthAll_le k1
  rcases hp with hp | hp
  · refine PySem.W.min_list_data (I.ok.hd hc) hp.isList (by simpa using ra) k2 (by omega) fun i v h' tk bs hv r hk => ?_
    obtain ⟨w, rw', rp⟩ := best_rp I hk (plainAll_of k1) ra hg (by simpa using hv) r
    exact ⟨w, H, I.kept hk, rw', h.at (.d rp) hm⟩
  · refine PySem.W.min_tuple_data (I.ok.hd hc) hp (by simpa using ra) k2 (by omega) fun i v h' tk bs hv r hk => ?_
    obtain ⟨w, rw', rp⟩ := best_rp I hk (plainAll_of k1) ra hg (by simpa using hv) r
    exact ⟨w, H, I.kept hk, rw', h.at (.d rp) hm⟩
theorem ok_repr (hu : X.A.units + 100 < cLine) (hg : X.A.guards = some []) : CallR X (.builtin "repr") (r1 X.K (wB1 .repr)) := by
  intro pins s σ H vs us Q I rv h
  obtain ⟨κ, M, x, sx, rfl, hm, h1, a, e, ⟨k0, k1, k2, k3⟩, h⟩ := h
  obtain ⟨u, rfl, ru⟩ := vals1 rv
  obtain ⟨as, r⟩ := pd_reads I hm h1 e ru
  have fin : ∀ h' t tk, (∀ b o, s.heap.get? b = some o → h'.get? b = some o) → EP X pins σ Q (.str a.shown t) { s with heap := h', toks := tk } := fun h' t tk k => ⟨.str _, H, I.kept k, ⟨_, rfl⟩, h.at (.d (.str _)) hm⟩
  have none_of : ∀ {l : List (PD × PD)}, a = .dict l → (l = [] ∨ ∃ i j : Int, l = [(.int i, .int j)]) → sysModules ∉ as := by
    rintro l rfl hl
    cases h1 with
    | d h1 =>
      cases e
      have key : ∀ {b : Addr} {kv0 : List (Key × V)}, x = .ref b → H b = some (.dK kv0) → (∀ p ∈ kv0, ∃ i : Int, p.2 = .int i) → (∀ p ∈ kv0, ∃ i : Int, p.1 = .inl i) → sysModules ∉ as := by
        intro b kv0 ex ha hv hk
        subst ex
        cases ru
        obtain ⟨_, hsm, vs, kv, ob, es, ep, eo, ex, d, ko, pr, _⟩ := I.hok _ _ ha
        cases r with
        | dict h1' h2' h3' h4' h5' =>
          rw [eo] at h1'
          cases h1'
          rw [d] at h3'
          cases h3'
          have e1 : ∀ {es : List DictEntry} {kv0 : List (Key × V)} {vs : List (Key × Value)} {l1 l2 : List PyData} {a1 a2 : List Addr}, KV kv0 vs → Pairs (mixKind X.prog X.w) es vs → (∀ p ∈ kv0, ∃ i : Int, p.2 = .int i) → (∀ p ∈ kv0, ∃ i : Int, p.1 = .inl i) →
              ReadsAll s.heap (es.map (·.key)) l1 a1 → ReadsAll s.heap (es.map (·.val)) l2 a2 → a1 = [] ∧ a2 = [] := by
            intro es kv0 vs l1 l2 a1 a2 kv pr
            induction pr generalizing kv0 l1 l2 a1 a2 with
            | nil =>
              intro _ _ r1 r2
              cases r1
              cases r2
              exact ⟨rfl, rfl⟩
            | @cons en p es kvs k1 k2 k3 ih =>
              intro hv hk r1 r2
              cases kv with
              | @cons p0 _ ps _ z t =>
                obtain ⟨i, hi⟩ := hv _ List.mem_cons_self
                obtain ⟨j, hj⟩ := hk _ List.mem_cons_self
                obtain ⟨z1, z2⟩ := z
                rw [hj] at z1
                rw [← z1] at k1
                obtain ⟨t1, ek⟩ := Value.isInt_shape (show Value.isInt _ en.key = true from k1)
                rw [hi] at z2
                obtain ⟨t2, ev⟩ := z2
                rw [List.map_cons] at r1 r2
                rw [ek] at r1
                rw [k2, ev] at r2
                cases r1 with
                | cons r1 s1 =>
                  cases r1
                  cases r2 with
                  | cons r2 s2 =>
                    cases r2
                    obtain ⟨b1, b2⟩ := ih t (fun p hp => hv p (List.mem_cons_of_mem _ hp)) (fun p hp => hk p (List.mem_cons_of_mem _ hp)) s1 s2
                    rw [b1, b2]
                    exact ⟨rfl, rfl⟩
          obtain ⟨q1, q2⟩ := e1 kv pr hv hk h4' h5'
          rw [q1, q2]
          intro z
          simp only [List.append_nil, List.mem_singleton] at z
          subst z; simp at hsm
      cases h1 with
      | dct ha ho => exact key rfl ha (fun p hp => by cases hp) (fun p hp => by cases hp)
      | dc1 ha ho => exact key rfl ha (fun p hp => by rw [List.mem_singleton] at hp; subst hp; exact ⟨_, rfl⟩) (fun p hp => by rw [List.mem_singleton] at hp; subst hp; exact ⟨_, rfl⟩)
    | e _ _ _ => cases e
    | l h1 =>
      unfold pd at e
      dsimp only at e
      split at e
      · rename_i xs _
        cases q : dataAll xs with
        | none => rw [q] at e; cases e
        | some ds => rw [q] at e; cases e
      · cases e
  have hs : a.hasDict = true → sysModules ∉ as := by
    intro hd
    rcases k0 with k0 | k0 | ⟨i, j, k0⟩
    · rw [k0] at hd; cases hd
    · exact none_of k0 (.inl rfl)
    · exact none_of k0 (.inr ⟨i, j, rfl⟩)
  cases r with
  | none => exact P.repr_of_none (fin s.heap _ _ fun _ _ z => z)
  | bool b =>
    cases b <;> exact P.repr_of_bool (fin s.heap _ _ fun _ _ z => z)
  | int i t => exact P.repr_of_int (by simpa [PyData.showable] using k1) (fin s.heap _ _ fun _ _ z => z)
  | str z t => exact P.repr_of_str (fin s.heap _ _ fun _ _ z => z) k2
  | list q1 q2 q3 q4 => exact repr_of_reads' (.list q1 q2 q3 q4) k1 hs hg (by omega) (fun _ _ z => z) fin k2
  | tuple q1 q2 q3 q4 => exact repr_of_reads' (.tuple q1 q2 q3 q4) k1 hs hg (by omega) (fun _ _ z => z) fin k2
  | dict q1 q2 q3 q4 q5 => exact repr_of_reads' (.dict q1 q2 q3 q4 q5) k1 hs hg (by omega) (fun _ _ z => z) fin k2
end
end G

/-! Layer G, part 3e: isinstance; max and min of two; subscripts; slices; methods. -/
namespace G
open PySem L2 PySem.Spec PyProof.Rows
def six : List String := ["int", "bool", "str", "list", "tuple", "dict"]
section
variable {X : Cx} {K : PySem.W.Frag} {H : Hp} {κ : Loc} {M : Mem}
theorem Rd.lstTy {a : Addr} {xs : List V} (h : Rd H a (.lst xs)) : TyX K H (.ref a) (.type "list") := by
  rcases h with h | ⟨o, h⟩
  · exact .base (.lst h)
  · exact .base (.frz h)
theorem Rd.tupTy {a : Addr} {xs : List V} (h : Rd H a (.tup xs)) : TyX K H (.ref a) (.type "tuple") := by
  rcases h with h | ⟨o, h⟩
  · exact .base (.tup h)
  · exact .fTuple h
theorem kit_six (n : String) (f : String → Bool) (h : six.all (fun t => kitB n t == some (f t)) = true) {t : String} (ht : t ∈ six) : kitB n t = some (f t) := by
  have := List.all_eq_true.mp h t ht
  simpa using this
theorem ty_at (m : RM K H κ M) {x : V} {s : S} (h : RS K H κ x s) (ne : ∃ t b, isTyS M t s = some b) : ∃ n, TyX K H x (.type n) ∧ ∀ t b, t ∈ six → isTyS M t s = some b → kitB n t = some b := by
  have k1 : ∀ (n : String) (f : String → Bool), six.all (fun t => kitB n t == some (f t)) = true → ∀ t b, t ∈ six → some (f t) = some b → kitB n t = some b := fun n f hf t b ht e => by
    rw [kit_six n f hf ht]; exact e
  cases h with
  | d h =>
    cases h with
    | non => exact ⟨_, .base .non, fun t b ht e => k1 "NoneType" (fun t => isTy t .none) (by decide +kernel) t b ht e⟩
    | bl y => exact ⟨_, .base (.bl y), fun t b ht e => k1 "bool" (fun t => isTy t (.bool y)) (by cases y <;> decide +kernel) t b ht e⟩
    | int i =>
      refine ⟨_, .base (.int i), fun t b ht e => k1 "int" (fun t => isTy t (.int 0)) (by decide +kernel) t b ht (e.symm ▸ ?_)⟩
      simp only [six, List.mem_cons, List.not_mem_nil, or_false] at ht
      rcases ht with rfl | rfl | rfl | rfl | rfl | rfl <;> rfl
    | str y =>
      refine ⟨_, .base (.str y), fun t b ht e => k1 "str" (fun t => isTy t (.str ⟨#[]⟩)) (by decide +kernel) t b ht (e.symm ▸ ?_)⟩
      simp only [six, List.mem_cons, List.not_mem_nil, or_false] at ht
      rcases ht with rfl | rfl | rfl | rfl | rfl | rfl <;> rfl
    | lst q z r =>
      refine ⟨_, ?_, fun t b ht e => k1 "list" (fun t => isTy t (.list [])) (by decide +kernel) t b ht (e.symm ▸ ?_)⟩
      · rcases q with ⟨q, _⟩ | ⟨its, n, q, _⟩
        · exact Rd.lstTy q
        · exact .kList q rfl
      simp only [six, List.mem_cons, List.not_mem_nil, or_false] at ht
      rcases ht with rfl | rfl | rfl | rfl | rfl | rfl <;> rfl
    | tup q z r =>
      refine ⟨_, Rd.tupTy q.1, fun t b ht e => k1 "tuple" (fun t => isTy t (.tuple [])) (by decide +kernel) t b ht (e.symm ▸ ?_)⟩
      simp only [six, List.mem_cons, List.not_mem_nil, or_false] at ht
      rcases ht with rfl | rfl | rfl | rfl | rfl | rfl <;> rfl
    | dct q o =>
      exact ⟨_, .base (.dK q), fun t b ht e => k1 "dict" (fun t => isTy t (.dict [])) (by decide +kernel) t b ht e⟩
    | dc1 q o =>
      refine ⟨_, .base (.dK q), fun t b ht e => k1 "dict" (fun t => isTy t (.dict [])) (by decide +kernel) t b ht (e.symm ▸ ?_)⟩
      simp only [six, List.mem_cons, List.not_mem_nil, or_false] at ht
      rcases ht with rfl | rfl | rfl | rfl | rfl | rfl <;> rfl
  | e h o r =>
    obtain ⟨t, b, z⟩ := ne
    cases z
  | @l a k h =>
    cases hM : M[k]? with
    | none =>
      have h1 := (List.getElem?_eq_some_iff.mp h).1
      rw [m.len] at h1
      rw [List.getElem?_eq_getElem h1] at hM
      cases hM
    | some o =>
      cases o with
      | lst xs =>
        obtain ⟨vs, ha, _⟩ := m.ob k a _ h hM
        refine ⟨_, .base (.lst ha), fun t b ht e => k1 "list" (fun t => t == "list") (by decide +kernel) t b ht ?_⟩
        unfold isTyS at e
        dsimp only at e
        rw [hM] at e
        exact e
      | dct kvs =>
        refine ⟨"dict", ?_, fun t b ht e => k1 "dict" (fun t => t == "dict") (by decide +kernel) t b ht ?_⟩
        · obtain ⟨kv, ha, _⟩ := m.ob k a _ h hM
          exact .base (.dK ha)
        · unfold isTyS at e
          dsimp only at e
          rw [hM] at e
          exact e
      | tpl xs =>
        obtain ⟨vs, ha, _⟩ := m.ob k a _ h hM
        refine ⟨_, .base (.tup ha), fun t b ht e => ?_⟩
        unfold isTyS at e
        dsimp only at e
        rw [hM] at e
        cases e
      | fz o kv =>
        have ha := m.ob k a _ h hM
        refine ⟨_, .fDict ha, fun t b ht e => ?_⟩
        unfold isTyS at e
        dsimp only at e
        rw [hM] at e
        cases e
theorem kit_any {n : String} : ∀ {ts : List String} {bs : List Bool}, (List.mapM (fun t => (if t ∈ six then kitB n t else none)) ts) = some bs → PySem.W.kitAny K (.type n) (ts.map Value.type) = some (bs.any id)
  | [], bs, h => by
    simp at h
    subst h
    rfl
  | t :: ts, bs, h => by
    rw [List.mapM_cons] at h
    by_cases ht : t ∈ six
    · rw [if_pos ht] at h
      cases hk : kitB n t with
      | none => rw [hk] at h; cases h
      | some b =>
        rw [hk] at h
        cases hr : List.mapM (fun t => (if t ∈ six then kitB n t else none)) ts with
        | none => rw [hr] at h; cases h
        | some cs =>
          rw [hr] at h
          cases h
          have ih := kit_any hr
          rw [List.map_cons, List.any_cons]
          cases b with
          | true => exact kitAny_cons (kit_ty hk) (fun z => by cases z) fun _ => rfl
          | false => exact kitAny_cons (kit_ty hk) (fun _ => ih) fun z => by cases z
    · rw [if_neg ht] at h
      cases h
theorem clsTys (ts : List String) : Paired ClsV (ts.map V.ty) (ts.map Value.type) := by
  induction ts with
  | nil => exact .nil
  | cons t r ih => exact .cons (.ty t) ih
theorem mapM_six {M : Mem} {n : String} {s : S} (h : ∀ t b, t ∈ six → isTyS M t s = some b → kitB n t = some b) : ∀ {ts : List String} {bs : List Bool}, (∀ t ∈ ts, t ∈ six) → ts.mapM (fun t => isTyS M t s) = some bs → List.mapM (fun t => (if t ∈ six then kitB n t else none)) ts = some bs
  | [], bs, _, e => by simpa using e
  | t :: ts, bs, hs, e => by
    rw [List.mapM_cons] at e ⊢
    rw [if_pos (hs t List.mem_cons_self)]
    cases hk : isTyS M t s with
    | none => rw [hk] at e; cases e
    | some b =>
      rw [hk] at e
      rw [h t b (hs t List.mem_cons_self) hk]
      cases hr : ts.mapM (fun t => isTyS M t s) with
      | none => rw [hr] at e; cases e
      | some cs =>
        rw [hr] at e
        cases e
        rw [mapM_six h (fun t ht => hs t (List.mem_cons_of_mem _ ht)) hr]
        rfl
/-! ### isinstance: one class, a tuple of classes -/
def wIsI (ts : List String) (x : S) (M : Mem) (Q : S → Mem → Prop) : Prop := ∃ bs, ts.mapM (fun t => isTyS M t x) = some bs ∧ Q (B (bs.any id)) M
theorem ok_isi {t : String} (ht : t ∈ six) : CallR X (.builtin "isinstance") (fun vs H Q => ∃ κ M x sx, vs = [x, .ty t] ∧ RM X.K H κ M ∧ RS X.K H κ x sx ∧ wIsI [t] sx M (Post X.K H κ Q)) := by
  intro pins s σ H vs us Q I rv h
  obtain ⟨κ, M, x, sx, rfl, hm, h1, bs, e, h⟩ := h
  rw [List.mapM_cons] at e
  cases hb : isTyS M t sx with
  | none => rw [hb] at e; cases e
  | some b =>
    obtain ⟨n, ty, hk⟩ := ty_at hm h1 ⟨t, b, hb⟩
    rw [hb] at e
    cases e
    have h := h.at (.d (.bl _)) hm
    have e2 : (b :: List.reverse (α := Bool) [] |>.any id) = b := by simp
    have h : Q (.bl b) H := by rw [← e2]; exact h
    exact call_isi pins s σ H _ us Q I rv ⟨x, .ty t, _, .type t, b, rfl, .ty t, ty, kit_ty (hk t b ht hb), h⟩
theorem ok_isiT {ts : List String} (ht : ∀ t ∈ ts, t ∈ six) (hne : ts ≠ []) : CallR X (.builtin "isinstance") (fun vs H Q => ∃ κ M x p sx, vs = [x, .ref p] ∧ H p = some (.tup (ts.map V.ty)) ∧ RM X.K H κ M ∧ RS X.K H κ x sx ∧ wIsI ts sx M (Post X.K H κ Q)) := by
  intro pins s σ H vs us Q I rv h
  obtain ⟨κ, M, x, p, sx, rfl, hp, hm, h1, bs, e, h⟩ := h
  have ne : ∃ t b, isTyS M t sx = some b := by
    cases ts with
    | nil => exact absurd rfl hne
    | cons t ts =>
      rw [List.mapM_cons] at e
      cases hb : isTyS M t sx with
      | none => rw [hb] at e; cases e
      | some b => exact ⟨t, b, hb⟩
  obtain ⟨n, ty, hk⟩ := ty_at hm h1 ne
  have h := h.at (.d (.bl _)) hm
  exact call_isiT pins s σ H _ us Q I rv ⟨x, p, _, _, ts.map Value.type, _, rfl, hp, clsTys ts, ty, kit_any (mapM_six hk ht e), h⟩
end
section
variable {X : Cx}
/-! ### max, min of two ints -/
def rB2 (K : PySem.W.Frag) (f : B2) : List V → Hp → VK → Prop := fun vs H Q => ∃ κ M x y sx sy, vs = [x, y] ∧ RM K H κ M ∧ RS K H κ x sx ∧ RS K H κ y sy ∧ wB2 f sx sy M (Post K H κ Q)
theorem ok_max2 (hc : X.calm = true) : CallR X (.builtin "max") (rB2 X.K .max) := by
  intro pins s σ H vs us Q I rv h
  obtain ⟨κ, M, x, y, sx, sy, rfl, hm, h1, h2, h⟩ := h
  dsimp only [wB2] at h
  split at h
  · cases h1 with | d h1 => cases h1; cases h2 with | d h2 => cases h2; exact call_max2 hc pins s σ H _ us Q I rv ⟨_, _, rfl, h.at (.d (.int _)) hm⟩
  · rename_i e; cases e
  · exact False.elim h
theorem ok_min2 (hc : X.calm = true) : CallR X (.builtin "min") (rB2 X.K .min) := by
  intro pins s σ H vs us Q I rv h
  obtain ⟨κ, M, x, y, sx, sy, rfl, hm, h1, h2, h⟩ := h
  dsimp only [wB2] at h
  split at h
  · rename_i e; cases e
  · cases h1 with | d h1 => cases h1; cases h2 with | d h2 => cases h2; exact call_min2 hc pins s σ H _ us Q I rv ⟨_, _, rfl, h.at (.d (.int _)) hm⟩
  · exact False.elim h

/-! ### subscripts -/
theorem RPs.at {K H κ} {vs : List V} {ds : List PD} {i : Int} {d : PD} (h : RPs K H κ vs ds) (e : atI ds i = some d) : ∃ v, atI vs i = some v ∧ RP K H κ v d := by
  unfold atI at e ⊢
  rw [h.length]
  cases q : ixN ds.length i with
  | none => rw [q] at e; cases e
  | some j =>
    rw [q] at e
    exact h.get' e
theorem RSs.at {K H κ} {vs : List V} {ds : List S} {i : Int} {d : S} (h : RSs K H κ vs ds) (e : atI ds i = some d) : ∃ v, atI vs i = some v ∧ RS K H κ v d := by
  unfold atI at e ⊢
  rw [h.length]
  cases q : ixN ds.length i with
  | none => rw [q] at e; cases e
  | some j =>
    rw [q] at e
    exact Pd.get' h e
/-- d[k] of a dict -/
theorem tail_dict {prog : Program} {w : World} {A : Around} {E : Value → Shared → Prop} {s : Shared} {value slice : Expr} {v u : Value} {Q : Value → Shared → Prop} (hT : s.TypeIs v "dict") (hs : subscripted slice false v u = operate [v, u] (getItem v u)) (h : wpAny (model prog w) A (getItem v u) Q E s) :
    wpAny (model prog w) A (subscriptTail value slice v u) Q E s := by
  unfold subscriptTail
  refine wpAny_bind ?_
  rw [getitemInPython_of_ne hT.not_modules]
  refine wpAny_bind (wpAny_specialOf hT PySem.F.slot_dict_getitem.lookup ?_)
  have fin : wpAny (model prog w) A (subscripted slice false v u) (fun r s3 => wpAny (model prog w) A (letTemporaryGo value v r >>= fun _ => pure r) Q E s3) E s := by
    rw [hs]
    exact wpAny_operating (wpAny_mono h (fun r s3 h3 => wpAny_bind (wpAny_letTemporaryGo (wpAny_pure h3))) fun _ _ x => x)
  first
    | exact wpAny_pure (wpAny_bind fin)
    | exact wpAny_bind (wpAny_pure (wpAny_bind fin))
    | exact wpAny_bind fin
theorem get_dict {pins : List (Addr × Obj)} {σ : L2.St} {H : Hp} {s : Shared} {κ : Loc} {M : Mem} {k : Nat} {kvs : List (Key × S)} {a : Addr} {z : S} {key : Key} {u : Value} {Q : VK} (hu : X.A.units + 100 < cLine) (I : Inv X pins σ H s) (hm : RM X.K H κ M) (h1 : κ.at_[k]? = some a) (hk : M[k]? = some (.dct kvs))
    (ry : RelV (kV key) u) (e : lookK kvs key = some z) (h : Post X.K H κ Q z M) : s.TypeIs (.ref a) "dict" ∧ wpAny (model X.prog X.w) X.A (getItem (.ref a) u) (EP X pins σ Q) X.xe s := by
  obtain ⟨kv, ha, zl, r⟩ := hm.ob _ _ _ h1 hk
  have g := DGet.k (k := key) ha
  refine ⟨dict_typeIs I g, ?_⟩
  rcases RK.look r key with ⟨v1, s1, e1, e2, rs⟩ | ⟨e1, e2⟩
  · rw [e] at e2
    cases e2
    rw [e1] at g
    exact d_getItem (by omega) I g ry fun w' s3 I3 rw' => ⟨v1, H, I3, rw', h.at rs hm⟩
  · rw [e] at e2
    cases e2
theorem ok_ix (hu : X.A.units + 100 < cLine) : IxR X (r2 X.K wIx) := by
  intro value slice pins s σ H x y v u Q I rx ry h hs
  obtain ⟨κ, M, sx, sy, hm, h1, h2, h⟩ := h
  unfold wIx at h
  split at h
  · obtain ⟨d, e, h⟩ := h
    cases h1 with
    | d h1 =>
      cases h1 with
      | lst t z r =>
        cases h2 with
        | d h2 =>
          cases h2
          obtain ⟨w, e2, rw'⟩ := r.at e
          exact ix_list value slice pins s σ H _ _ v u Q I rx ry ⟨_, _, _, _, rfl, rfl, t.sq, e2, h.at (.d rw') hm⟩ hs
  · obtain ⟨d, e, h⟩ := h
    cases h1 with
    | d h1 =>
      cases h1 with
      | tup t z r =>
        cases h2 with
        | d h2 =>
          cases h2
          obtain ⟨w, e2, rw'⟩ := r.at e
          exact ix_tup value slice pins s σ H _ _ v u Q I rx ry ⟨_, _, _, _, rfl, rfl, t.sq, e2, h.at (.d rw') hm⟩ hs
  · obtain ⟨xs, d, hk, e, h⟩ := h
    cases h1 with
    | l h1 =>
      cases h2 with
      | d h2 =>
        cases h2
        obtain ⟨vs, ha, z, r⟩ := hm.ob _ _ _ h1 hk
        obtain ⟨w, e2, rw'⟩ := RSs.at r e
        exact ix_list value slice pins s σ H _ _ v u Q I rx ry ⟨_, _, _, _, rfl, rfl, SqL.of ha, e2, h.at rw' hm⟩ hs
  · obtain ⟨kvs, d, hk, e, h⟩ := h
    cases h1 with
    | l h1 =>
      cases h2 with
      | d h2 =>
        cases h2
        cases rx
        obtain ⟨t, g⟩ := get_dict (key := .inr _) hu I hm h1 hk ry e h
        exact tail_dict t hs g
  · exact h.elim
/-- .. for op= -/
theorem get_list {p : Addr} {xs : List V} {i : Int} {z : V} {pins : List (Addr × Obj)} {σ : L2.St} {H : Hp} {s : Shared} {u : Value} {Q : VK} (I : Inv X pins σ H s) (ru : RelV (.int i) u) (hq : SqL X.K H p xs) (he : atI xs i = some z) (q : Q z H) :
    wpAny (model X.prog X.w) X.A (getItem (.ref p) u) (EP X pins σ Q) X.xe s := by
  obtain ⟨t, rfl⟩ := ru
  obtain ⟨its, r, pl, hz⟩ := I.list hq
  obtain ⟨j, h1, h2, h3, h4, h5⟩ := atI_get he
  obtain ⟨w, ew, rw'⟩ := r.get h2
  have hl := r.length
  have hn := line63
  have fin : EP X pins σ Q w s := ⟨z, H, I, rw', q⟩
  by_cases h0 : 0 ≤ i
  · have hj : i.toNat = j := by
      rw [seqIndex_of h0 h5] at h1
      exact Option.some.inj h1
    exact wpAny_getItem_list pl.isList h0 (by omega) (by rw [hj]; simpa using ew) fin
  · have hj : (i + (its.toArray.size : Int)).toNat = j := by
      rw [seqIndex_neg (by omega) h4] at h1
      rw [List.size_toArray, ← hl]
      exact Option.some.inj h1
    exact wpAny_getItem_list_neg pl.isList (by omega) (by rw [List.size_toArray] <;> omega) (by omega) (by rw [hj]; simpa using ew) fin
theorem ok_get (hu : X.A.units + 100 < cLine) : PGet X (r2 X.K wIx) := by
  intro pins s σ H x y v u Q I rx ry h
  obtain ⟨κ, M, sx, sy, hm, h1, h2, h⟩ := h
  unfold wIx at h
  split at h
  · obtain ⟨d, e, h⟩ := h
    cases h1 with
    | d h1 =>
      cases h1 with
      | lst t z r =>
        cases h2 with
        | d h2 =>
          cases h2
          obtain ⟨w, e2, rw'⟩ := r.at e
          cases rx
          exact get_list I ry t.sq e2 (h.at (.d rw') hm)
  · obtain ⟨d, e, h⟩ := h
    cases h1 with
    | d h1 =>
      cases h1 with
      | tup t z r =>
        cases h2 with
        | d h2 =>
          cases h2
          obtain ⟨w, e2, rw'⟩ := r.at e
          cases rx
          obtain ⟨t', rfl⟩ := ry
          obtain ⟨its, r', pl, hz⟩ := I.tuple t.sq
          obtain ⟨j, g1, g2, g3, g4, g5⟩ := atI_get e2
          obtain ⟨u, ew, ru⟩ := r'.get g2
          have hl := r'.length
          have hn := line63
          exact getItem_tuple (j := j) pl (by omega) (by omega) (by rw [List.size_toArray, ← hl]; exact g1) (by simpa using ew) ⟨_, H, I, ru, h.at (.d rw') hm⟩
  · obtain ⟨xs, d, hk, e, h⟩ := h
    cases h1 with
    | l h1 =>
      cases h2 with
      | d h2 =>
        cases h2
        obtain ⟨vs, ha, z, r⟩ := hm.ob _ _ _ h1 hk
        obtain ⟨w, e2, rw'⟩ := RSs.at r e
        cases rx
        exact get_list I ry (SqL.of ha) e2 (h.at rw' hm)
  · obtain ⟨kvs, d, hk, e, h⟩ := h
    cases h1 with
    | l h1 =>
      cases h2 with
      | d h2 =>
        cases h2
        cases rx
        exact (get_dict (key := .inr _) hu I hm h1 hk ry e h).2
  · exact h.elim

/-! ### slices -/
theorem cutV_eq (xs : List V) (lo hi : Option Int) : cutV xs lo hi = G.cut xs lo hi := rfl
theorem sIx_le (n d : Nat) (o : Option Int) (h : d ≤ n) : HT.sIx n d o ≤ n := by
  cases o with
  | none => exact h
  | some i =>
    unfold HT.sIx
    dsimp only
    split <;> omega
theorem cut_whole {α : Type} (xs : List α) (lo hi : Option Int) (h : HT.sIx xs.length 0 lo = 0 ∧ HT.sIx xs.length xs.length hi = xs.length) : G.cut xs lo hi = xs := by
  unfold G.cut
  rw [h.1, h.2]
  simp
theorem cut_len {α : Type} (xs : List α) (lo hi : Option Int) : (G.cut xs lo hi).length ≤ xs.length := by
  unfold G.cut
  rw [List.length_take, List.length_drop]
  omega
theorem ok_sl : SlR X (fun x lo hi H Q => ∃ κ M sx, RM X.K H κ M ∧ RS X.K H κ x sx ∧ wSl sx lo hi M (Post X.K H κ Q)) := by
  intro pins s σ H x v vl vu lo hi sl Q I rx hs pl pu h
  obtain ⟨κ, M, sx, hm, h1, h⟩ := h
  unfold wSl at h
  split at h
  · cases h1 with
    | d h1 =>
      cases h1 with
      | lst t z r => exact sl_list pins s σ H _ v vl vu lo hi sl Q I rx hs pl pu ⟨_, _, rfl, t.sq, fun p hp => h.new hm hp (rp_lst hm hp (Nat.le_trans (cutV_length _ _ _) z) (r.cut' lo hi))⟩
  · cases h1 with
    | d h1 =>
      cases h1 with
      | tup t z r =>
        refine sl_tupA pins s σ H _ v vl vu lo hi sl Q I rx hs pl pu ⟨_, _, rfl, t.sq, fun w => ?_, fun w p hp => ?_⟩
        · rw [cut_whole _ _ _ (by rw [← r.length]; exact w)] at h
          exact h.at (.d (.tup t z r)) hm
        · exact h.new hm hp (rp_tup hm hp (Nat.le_trans (cutV_length _ _ _) z) (r.cut' lo hi))
  · obtain ⟨xs, hk, h⟩ := h
    cases h1 with
    | l h1 =>
      obtain ⟨vs, ha, z, r⟩ := hm.ob _ _ _ h1 hk
      exact sl_list pins s σ H _ v vl vu lo hi sl Q I rx hs pl pu ⟨_, _, rfl, SqL.of ha, fun p hp => h.new hm hp (rp_lst hm hp (Nat.le_trans (cutV_length _ _ _) z) ((RSs.toP' r).cut' lo hi))⟩
  · exact h.elim
end
end G

/-! Layer G, part 3f: new lists; lists' methods. -/
namespace G
open PySem L2 PySem.Spec PyProof.Rows

/-- what is wanted of a new list of values -/
def PostL (K : PySem.W.Frag) (H : Hp) (κ : Loc) (Q : VK) : List S → Mem → Prop := fun ss M' => ∀ (κ' : Loc) (D : Addr) (vs : List V) (H' : Hp), Grow κ H (κ'.on D) H' → κ'.tmp = κ.tmp → (∀ a ∈ κ.tmp, H' a = H a) → D ∉ κ.tmp → H' D = some (.lst vs) → vs.length ≤ sizeLine → RSs K H' (κ'.on D) vs ss → RM K H' (κ'.on D) M' → Q (.ref D) H'
section
variable {K : PySem.W.Frag} {H H' : Hp} {κ κ' : Loc} {Q : VK} {ss : List S} {M : Mem} {v : V} {p a : Addr} {o : HO} {vs : List V}
theorem PostL.new (h : PostL K H κ Q ss M) (m : RM K H κ M) (n : H p = none) (z : vs.length ≤ sizeLine) (r : RSs K H κ vs ss) : Q (.ref p) (upd H p (.lst vs)) :=
  h κ p vs _ (Grow.on m n) rfl (fun a ha => upd_ne (m.tmNe n a ha)) (fun z => (m.tm p z).1 n) upd_same z (r.grow (Grow.on m n)) (m.on n)
theorem PostL.grow (g : Gr κ H κ' H') (h : PostL K H κ Q ss M) : PostL K H' κ' Q ss M := fun κ1 D vs H1 g1 t st hD e z r m =>
  h κ1 D vs H1 (g.toGrow.trans g1) (t.trans g.tmp) (fun a ha => (st a (by rw [g.tmp]; exact ha)).trans (g.st a ha)) (by rw [← g.tmp]; exact hD) e z r m
theorem Loc.tmp_eq {κ κ' : Loc} (h : κ'.tmp = κ.tmp) : True := trivial
theorem PostL.fr {xs : List PD} (h : Post K H κ Q (.d (.list xs)) M) (e : dataAll ss = some xs) : PostL K H κ Q ss M := fun κ1 D vs H1 g1 t st hD hd z r m =>
  h κ1 (.ref D) H1 ⟨g1.trans Grow.off, t, st⟩ (.d (.lst (.inl ⟨.of hd, ⟨(m.tm D List.mem_cons_self).2, by rw [t]; exact hD⟩⟩) z (RSs.toP (RSs.grow Grow.off r) e))) m.off
theorem PostL.al (h : Post K H κ Q (.l M.length) (M ++ [.lst ss])) : PostL K H κ Q ss M := fun κ1 D vs H1 g1 t st hD hd z r m => by
  refine h (κ1.more D) (.ref D) H1 ⟨g1.trans Grow.offMore, t, st⟩ (.l ?_) (m.offMore (by rw [t]; exact hD) ⟨vs, hd, z, r.grow Grow.offMore⟩)
  have e : κ1.at_.length = M.length := m.len
  rw [← e]
  exact more_last
end

section
variable {X : Cx}
/-- a list, as its object stands -/
theorem obj_at {pins : List (Addr × Obj)} {σ : L2.St} {H : Hp} {s : Shared} {κ : Loc} {M : Mem} (I : Inv X pins σ H s) (m : RM X.K H κ M) {x : V} {sx : S} {xs : List S} (h : RS X.K H κ x sx) (t : isTyS M "list" sx = some true) (e : items M sx = some xs) :
    ∃ a vs its n, x = .ref a ∧ vs.length ≤ sizeLine ∧ RSs X.K H κ vs xs ∧ Vals vs its ∧ s.heap.get? a = some { cls := .type "list", data := .seq its.toArray n } := by
  unfold items at e
  split at e
  · cases e
    cases h with
    | d h =>
      cases h with
      | lst h z r =>
        obtain ⟨its, n, rv, _, eo⟩ := h.obj I
        exact ⟨_, _, its, n, rfl, z, r.toS, rv, eo⟩
  · simp [isTyS, isTy] at t
  · split at e
    · rename_i hk
      cases e
      cases h with
      | l h =>
        obtain ⟨vs, ha, z, r⟩ := m.ob _ _ _ h hk
        obtain ⟨_, its, n, rv, eo⟩ := I.hok _ _ ha
        exact ⟨_, _, its, n, rfl, z, r, rv, eo⟩
    · cases e
  · cases e
theorem ok_cat : OpR X (binaryOp .Add) (fun x y H Q => ∃ κ M sx sy xs ys, RM X.K H κ M ∧ RS X.K H κ x sx ∧ RS X.K H κ y sy ∧ isTyS M "list" sx = some true ∧ isTyS M "list" sy = some true ∧ items M sx = some xs ∧ items M sy = some ys ∧ xs.length + ys.length ≤ sizeLine ∧ PostL X.K H κ Q (xs ++ ys) M) := by
  intro pins s σ H x y v u Q I rx ry h
  obtain ⟨κ, M, sx, sy, xs, ys, m, h1, h2, t1, t2, e1, e2, hz, h⟩ := h
  obtain ⟨a, vs, its, n, rfl, z1, r1, rv1, o1⟩ := obj_at I m h1 t1 e1
  obtain ⟨b, ws, jts, n2, rfl, z2, r2, rv2, o2⟩ := obj_at I m h2 t2 e2
  cases rx
  cases ry
  have l1 := r1.length
  have l2 := r2.length
  have l3 := rv1.length
  have l4 := rv2.length
  refine PySem.P.add_list o1 o2 ?_ (by rw [List.size_toArray, List.size_toArray]; omega)
  have ea : its.toArray ++ jts.toArray = (its ++ jts).toArray := by simp
  rw [ea]
  exact ⟨.ref _, _, I.lnew (t' := s.toks) (rv1.append rv2) (by rw [List.length_append]; omega), rfl, h.new m I.fresh (by rw [List.length_append]; omega) (Pd.append r1 r2)⟩
theorem ok_rep : OpR X (binaryOp .Mult) (fun x y H Q => ∃ κ M sx sy xs j, RM X.K H κ M ∧ RS X.K H κ x sx ∧ RS X.K H κ y sy ∧ isTyS M "list" sx = some true ∧ items M sx = some xs ∧ sy = G.I j ∧ (-(2 ^ 63) ≤ j ∧ j < 2 ^ 63 ∧ xs.length * j.toNat ≤ sizeLine) ∧ PostL X.K H κ Q (List.replicate j.toNat xs).flatten M) := by
  intro pins s σ H x y v u Q I rx ry h
  obtain ⟨κ, M, sx, sy, xs, k, m, h1', h2', t1, e1, rfl, ⟨h1, h2, hz⟩, h⟩ := h
  obtain ⟨l, vs, its, n, rfl, z1, r1, r, e⟩ := obj_at I m h1' t1 e1
  cases h2' with
  | d h2' =>
  cases h2'
  cases rx
  obtain ⟨t, rfl⟩ := ry
  have hl := r.length
  have hl2 := r1.length
  have hlen : its.toArray.size * k.toNat ≤ sizeLine := by rw [List.size_toArray, ← hl, hl2]; exact hz
  have hcap : ¬ its.toArray.size * k.toNat > (2 ^ 63 - 1) / 8 := by
    have : (sizeLine : Nat) ≤ (2 ^ 63 - 1) / 8 := by decide
    omega
  have hfit : ¬ (!Builtin.List.listFitsIndex k) = true := by
    rw [fitsIndex_both h1 h2]
    exact Bool.false_ne_true
  have hlong : ¬ Builtin.List.listTooLong (its.toArray.size * k.toNat) = true := by
    rw [notLongL hlen]
    exact Bool.false_ne_true
  have hnew : List.foldl (fun x1 x2 => x1 ++ x2) #[] (List.replicate (if its.toArray.isEmpty = true then 0 else k.toNat) its.toArray) = (List.replicate k.toNat its).flatten.toArray := by
    have f0 : ∀ m : Nat, List.foldl (fun x1 x2 => x1 ++ x2) #[] (List.replicate m its.toArray) = (List.replicate m its).flatten.toArray := fun m => by
      have := foldl_rep its m []
      rw [List.nil_append] at this
      exact this
    rw [f0]
    cases its with
    | nil => simp
    | cons a r' => rw [if_neg (by simp)]
  refine wpAny_binaryOp_repeat_ref (T := "list") (U := "int") (by decide) ⟨_, e, rfl⟩ (fun s' => typeIs_int s' k t) noFill_list_mul F.fills_int_mul F.slot_int_rmul repeat_list F.slot_int_index.lookup
    (call_meets F.slot_int_rmul (typeIs_int s k t) F.entry_int_rmul (F.args_int_rmul_2 _ _) (int___rmul___int_list k t l its.toArray n)
      ⟨e, rfl, ⟨_, e, rfl⟩, call_meets F.slot_list_mul ⟨_, e, rfl⟩ F.entry_list_mul (F.args_list_mul_2 _ _) (AutoListH.list___mul___list_int_3 l its.toArray n k t hfit hcap hlong) ⟨e, ?_⟩⟩)
  rw [hnew]
  have hlv : (List.replicate k.toNat vs).flatten.length ≤ sizeLine := by rw [flat_lenV, hl2, Nat.mul_comm]; exact hz
  exact ⟨.ref _, _, I.lnew (t' := s.toks) (r.rep k.toNat) hlv, rfl, h.new m I.fresh hlv (Pd.rep r1 _)⟩
theorem ok_slL : SlR X (fun x lo hi H Q => ∃ κ M sx xs, RM X.K H κ M ∧ RS X.K H κ x sx ∧ isTyS M "list" sx = some true ∧ items M sx = some xs ∧ PostL X.K H κ Q (G.cut xs lo hi) M) := by
  intro pins s σ H x v vl vu lo hi sl Q I rx hs pl pu h
  obtain ⟨κ, M, sx, xs, m, h1, t1, e1, h⟩ := h
  obtain ⟨a, vs, its, n, rfl, z1, r1, r, e⟩ := obj_at I m h1 t1 e1
  have hq : SqL X.K H a vs := by
    obtain ⟨a', vs', ea, _, r', hs', _⟩ := items_at m h1 e1
    cases ea
    rcases hs' with hs' | hs'
    · obtain ⟨its', rv', ⟨o, n', e', _, _, d'⟩, _⟩ := I.list hs'
      rw [e] at e'
      cases e'
      injection d' with d1 _
      have : its = its' := by simpa using congrArg Array.toList d1
      subst this
      rw [Vals.inj r rv']
      exact hs'
    · obtain ⟨its', rv', ⟨o, e', c', _⟩, _⟩ := I.tuple hs'
      rw [e] at e'
      cases e'
      have z : Value.type "list" = Value.type "tuple" := c'
      injection z with z
      exact absurd z (by decide)
  exact sl_list pins s σ H _ v vl vu lo hi sl Q I rx hs pl pu ⟨_, _, rfl, hq, fun p hp => h.new m hp (Nat.le_trans (cutV_length _ _ _) z1) (Pd.cut r1 lo hi)⟩
theorem ok_listOf : CallR X (.type "list") (fun vs H Q => ∃ κ M x sx xs, vs = [x] ∧ RM X.K H κ M ∧ RS X.K H κ x sx ∧ items M sx = some xs ∧ PostL X.K H κ Q xs M) := by
  intro pins s σ H vs us Q I rv h
  obtain ⟨κ, M, x, sx, xs, rfl, m, h1, e, h⟩ := h
  obtain ⟨a, vs, rfl, z, r, hs, _⟩ := items_at m h1 e
  exact call_list_of pins s σ H _ us Q I rv ⟨_, _, rfl, hs, fun l hl => h.new m hl z r⟩

/-! ### methods -/
def PostM (K : PySem.W.Frag) (H : Hp) (κ : Loc) (Q : Hp → Prop) : Mem → Prop := fun M' => ∀ κ' H', Gr κ H κ' H' → RM K H' κ' M' → Q H'
theorem PostM.put {K : PySem.W.Frag} {H : Hp} {κ : Loc} {M : Mem} {Q : Hp → Prop} {k : Nat} {a : Addr} {vs : List V} {ss : List S} (h : PostM K H κ Q (M.set k (.lst ss))) (m : RM K H κ M) (e : κ.at_[k]? = some a) (z : vs.length ≤ sizeLine) (r : RSs K H κ vs ss) : Q (upd H a (.lst vs)) :=
  h κ _ (Gr.put m e) (m.put e ⟨vs, upd_same, z, r.grow (Grow.put m e)⟩)
theorem ty_list {K : PySem.W.Frag} {H : Hp} {κ : Loc} {M : Mem} (m : RM K H κ M) {x : V} {s : S} (h : RS K H κ x s) (t : isTyS M "list" s = some true) : tyV K "list" x H := by
  cases h with
  | d h =>
    cases h with
    | lst h z r => exact .inl ⟨rfl, _, h.sq⟩
    | _ => simp [isTyS, isTy] at t
  | e _ _ _ => cases t
  | @l a k h =>
    unfold isTyS at t
    dsimp only at t
    split at t
    · rename_i hk
      obtain ⟨vs, ha, _⟩ := m.ob _ _ _ h hk
      exact .inl ⟨rfl, _, SqL.of ha⟩
    all_goals cases t
theorem ok_append : MtR X "list.append" (fun x vs H Q => ∃ κ M k xs y sy, vs = [y] ∧ RM X.K H κ M ∧ RS X.K H κ x (.l k) ∧ RS X.K H κ y sy ∧ M[k]? = some (.lst xs) ∧ xs.length < sizeLine ∧ PostM X.K H κ (Q .non) (M.set k (.lst (xs ++ [sy])))) := by
  intro pins s σ H x vs v us Q I rx rv h
  obtain ⟨κ, M, k, xs, y, sy, rfl, m, h1, h2, hk, hz, h⟩ := h
  cases h1 with
  | l h1 =>
    obtain ⟨ws, ha, z, r⟩ := m.ob _ _ _ h1 hk
    have hl := r.length
    exact mt_append pins s σ H _ _ v us Q I rx rv ⟨_, ws, y, rfl, rfl, ha, by omega, h.put m h1 (by rw [List.length_append, List.length_singleton]; omega) (Pd.append r (.cons h2 .nil))⟩
theorem ok_extend : MtR X "list.extend" (fun x vs H Q => ∃ κ M k xs y sy ys, vs = [y] ∧ RM X.K H κ M ∧ RS X.K H κ x (.l k) ∧ RS X.K H κ y sy ∧ M[k]? = some (.lst xs) ∧ items M sy = some ys ∧ isTyS M "list" sy = some true ∧ xs.length + ys.length ≤ sizeLine ∧ PostM X.K H κ (Q .non) (M.set k (.lst (xs ++ ys)))) := by
  intro pins s σ H x vs v us Q I rx rv h
  obtain ⟨κ, M, k, xs, y, sy, ys, rfl, m, h1, h2, hk, e2, t2, hz, h⟩ := h
  cases h1 with
  | @l a _ h1 =>
    obtain ⟨ws, ha, z, r⟩ := m.ob _ _ _ h1 hk
    have hl := r.length
    obtain ⟨b, ws2, its2, n2, rfl, z2, r2, rv2, o2⟩ := obj_at I m h2 t2 e2
    have hl2 := r2.length
    cases rx
    obtain ⟨u, rfl, ru⟩ := rv.one
    cases ru
    obtain ⟨z, its, n, r', hl', e⟩ := I.lstM ha
    have hl3 := rv2.length
    have hsz : its.toArray.size + its2.toArray.size ≤ sizeLine := by rw [List.size_toArray, List.size_toArray]; omega
    have hlong : ¬ (!its.toArray.isEmpty && Builtin.List.listTooLong (its.toArray.size + its2.toArray.size)) = true := by
      rw [notLongL hsz, Bool.and_false]
      exact Bool.false_ne_true
    have hlen : (ws ++ ws2).length ≤ sizeLine := by rw [List.length_append]; omega
    refine call_meets F.slot_list_extend ⟨_, e, rfl⟩ F.entry_list_extend (F.args_list_extend_2 _ _)
      (AutoSeq1.list_extend_list_list_0 a its.toArray n b its2.toArray n2 hlong (by rw [List.size_toArray]; omega) (by omega)) ⟨e, o2, ?_⟩
    exact ⟨.non, _, I.lset (its' := its ++ its2) ha e (by simp) (r'.append rv2) hlen, rfl, h.put m h1 hlen (Pd.append r r2)⟩
theorem ok_pop : MtR X "list.pop" (fun x vs H Q => ∃ κ M sx, vs = [] ∧ RM X.K H κ M ∧ RS X.K H κ x sx ∧ wPop sx M (Post X.K H κ Q)) := by
  intro pins s σ H x vs v us Q I rx rv h
  obtain ⟨κ, M, sx, rfl, m, h1, h⟩ := h
  unfold wPop at h
  split at h
  · obtain ⟨xs, y, hk, hy, h⟩ := h
    cases h1 with
    | l h1 =>
      obtain ⟨ws, ha, z, r⟩ := m.ob _ _ _ h1 hk
      obtain ⟨w, hw, rw'⟩ := Pd.get' r hy
      refine mt_pop pins s σ H _ _ v us Q I rx rv ⟨_, ws, w, rfl, rfl, ha, by rw [r.length]; exact hw, ?_⟩
      have g := Gr.put (o := .lst ws.dropLast) m h1
      exact h κ w _ g (rw'.grow g.toGrow) (m.put h1 ⟨_, upd_same, by rw [List.length_dropLast]; omega, RSs.grow g.toGrow (Pd.dropLast r)⟩)
  · exact h.elim
theorem ok_popAt : MtR X "list.pop" (fun x vs H Q => ∃ κ M y sx sy, vs = [y] ∧ RM X.K H κ M ∧ RS X.K H κ x sx ∧ RS X.K H κ y sy ∧ wPopAt sx sy M (Post X.K H κ Q)) := by
  intro pins s σ H x vs v us Q I rx rv h
  obtain ⟨κ, M, y, sx, sy, rfl, m, h1, h2, h⟩ := h
  unfold wPopAt at h
  split at h
  · obtain ⟨xs, j, d, hk, ⟨i1, i2⟩, hj, hd, h⟩ := h
    cases h1 with
    | l h1 =>
      cases h2 with
      | d h2 =>
        cases h2
        obtain ⟨ws, ha, z, r⟩ := m.ob _ _ _ h1 hk
        obtain ⟨w, hw, rw'⟩ := Pd.get' r hd
        refine mt_popAt pins s σ H _ _ v us Q I rx rv ⟨_, ws, _, j, w, rfl, rfl, ha, i1, i2, ?_, hw, ?_⟩
        · rw [r.length]; exact (ixN_seq hj).1
        · have g := Gr.put (o := .lst (ws.eraseIdx j)) m h1
          exact h κ w _ g (rw'.grow g.toGrow) (m.put h1 ⟨_, upd_same, Nat.le_trans (len_erase ws j) z, RSs.grow g.toGrow (Pd.erase j r)⟩)
  · exact h.elim
theorem ok_insert : MtR X "list.insert" (fun x vs H Q => ∃ κ M k xs j y sy, vs = [.int (j : Nat), y] ∧ RM X.K H κ M ∧ RS X.K H κ x (.l k) ∧ RS X.K H κ y sy ∧ M[k]? = some (.lst xs) ∧ j ≤ xs.length ∧ xs.length < sizeLine ∧ PostM X.K H κ (Q .non) (M.set k (.lst (xs.take j ++ sy :: xs.drop j)))) := by
  intro pins s σ H x vs v us Q I rx rv h
  obtain ⟨κ, M, k, xs, j, y, sy, rfl, m, h1, h2, hk, hj, hz, h⟩ := h
  cases h1 with
  | l h1 =>
    obtain ⟨ws, ha, z, r⟩ := m.ob _ _ _ h1 hk
    have hl := r.length
    have hn := line63
    refine mt_insert pins s σ H _ _ v us Q I rx rv ⟨_, ws, _, y, rfl, rfl, ha, by omega, by omega, by omega, ?_⟩
    rw [Int.toNat_natCast, List.append_assoc, List.singleton_append]
    refine h.put m h1 ?_ (Pd.append (Pd.take j r) (.cons h2 (Pd.drop j r)))
    rw [List.length_append, List.length_cons, List.length_take, List.length_drop]
    omega
/-! ### xs[i] = v -/
theorem ok_put (hu : X.A.units + 100 < cLine) : PSet X (fun o i v H Q => ∃ κ M so si sv, RM X.K H κ M ∧ RS X.K H κ o so ∧ RS X.K H κ i si ∧ RS X.K H κ v sv ∧ wPut so si sv M (PostM X.K H κ Q)) := by
  intro pins s σ H o i v ov iv u Q I ro ri rv h
  obtain ⟨κ, M, so, si, sv, m, h1, h2, h3, h⟩ := h
  unfold wPut at h
  split at h
  · obtain ⟨xs, j, hk, hj, h⟩ := h
    cases h1 with
    | l h1 =>
      cases h2 with
      | d h2 =>
        cases h2
        obtain ⟨ws, ha, z, r⟩ := m.ob _ _ _ h1 hk
        exact set_list pins s σ H _ _ v ov iv u Q I ro ri rv ⟨_, ws, _, j, rfl, rfl, ha, by rw [r.length]; exact hj, h.put m h1 (by rw [List.length_set]; exact z) (Pd.set h3 j r)⟩
  · obtain ⟨kvs, hk, hz, h⟩ := h
    cases h1 with
    | l h1 =>
      cases h2 with
      | d h2 =>
        cases h2
        obtain ⟨kv, ha, z, r⟩ := m.ob _ _ _ h1 hk
        cases ro
        have hl : kv.length = kvs.length := Paired.length r
        refine d_setItem (by omega) I (DPut.k (k := .inr _) (v := v) ha (by omega)) ri rv fun s' I' => ⟨_, I', ?_⟩
        refine h κ _ (Gr.put m h1) (m.put h1 ⟨_, upd_same, Nat.le_trans (length_putK _ _ _) (by omega), ?_⟩)
        exact RK.put (Paired.mapP r fun _ _ z => ⟨z.1, z.2.grow (Grow.put m h1)⟩) _ (h3.grow (Grow.put m h1))
  · exact h.elim
end
end G

/-! Layer G, part 3g: a list, a tuple read backwards. -/
namespace HT
open PySem PySem.Spec PyProof.Rows
section
variable {prog : Program} {w : World} {A : Around} {E : Value → Shared → Prop} {s : Shared}
theorem sliceApplied_back {sl : Addr} {vs : Value} {n : Nat} {Q : Int × Int × Nat → Shared → Prop} (hs : s.heap.IsSliceOf sl .none .none vs) (ps : IsPart vs (some (-1)))
    (h : Q ((n : Int) - 1, -1, n) s) : wpAny (model prog w) A (Builtin.Slice.sliceApplied (.ref sl) (pure (n : Int))) Q E s := by
  obtain ⟨os, hos, hcs, hds⟩ := id hs
  unfold Builtin.Slice.sliceApplied Builtin.Slice.sliceFields
  refine wpAny_bind (wpAny_bind (wpAny_field hos hds (x := .none) rfl (wpAny_bind (wpAny_field hos hds (x := .none) rfl (wpAny_bind (wpAny_field hos hds (x := vs) rfl (wpAny_pure ?_)))))))
  refine wpAny_bind (slicePart_ ps ?_)
  show wpAny _ _ (if ((-1 : Int) == 0) = true then _ else _) _ _ s
  rw [if_neg (by decide)]
  refine wpAny_bind (slicePart_ .none (wpAny_bind (slicePart_ .none (wpAny_bind (wpAny_pure ?_)))))
  show wpAny _ _ (match Builtin.Slice.sliceAdjust none none (-1) (n : Int) with | (lo, hi) => pure (lo, (-1 : Int), Builtin.Slice.slicePlaces lo hi (-1))) _ _ s
  have e : Builtin.Slice.sliceAdjust none none (-1) (n : Int) = ((n : Int) - 1, -1) := by simp [Builtin.Slice.sliceAdjust]
  rw [e]
  have e2 : Builtin.Slice.slicePlaces ((n : Int) - 1) (-1) (-1) = n := by
    unfold Builtin.Slice.slicePlaces
    rw [if_neg (by decide)]
    by_cases c : (n : Int) - 1 > -1
    · rw [if_pos c]
      have : (-(-1) : Int) = 1 := by decide
      rw [this, Int.ediv_one]
      omega
    · rw [if_neg c]
      omega
  show wpAny _ _ (pure ((n : Int) - 1, (-1 : Int), Builtin.Slice.slicePlaces ((n : Int) - 1) (-1) (-1))) _ _ s
  rw [e2]
  exact wpAny_pure h
theorem pick_back (xs : List Value) : ((List.range xs.length).filterMap fun (k : Nat) => xs.toArray[((xs.length : Int) - 1 + (k : Int) * (-1)).toNat]?).toArray = xs.reverse.toArray := by
  congr 1
  have := PySem.W.krv_pick xs.toArray
  apply List.ext_getElem?
  intro i
  have key : ∀ (l : List Nat), (∀ k ∈ l, k < xs.length) → (l.filterMap fun (k : Nat) => xs.toArray[((xs.length : Int) - 1 + (k : Int) * (-1)).toNat]?) = l.map fun k => xs.getD (xs.length - 1 - k) .none := by
    intro l
    induction l with
    | nil => intro _; rfl
    | cons k l ih =>
      intro hl
      have hk := hl k List.mem_cons_self
      have e : ((xs.length : Int) - 1 + (k : Int) * (-1)).toNat = xs.length - 1 - k := by omega
      have h1 : xs.length - 1 - k < xs.length := by omega
      rw [List.map_cons, ← ih fun j hj => hl j (List.mem_cons_of_mem _ hj)]
      have : xs.toArray[((xs.length : Int) - 1 + (k : Int) * (-1)).toNat]? = some (xs.getD (xs.length - 1 - k) .none) := by
        rw [e]
        simp [List.getD_eq_getElem?_getD, h1]
      rw [List.filterMap_cons, this]
  rw [key _ fun k hk => List.mem_range.mp hk, List.getElem?_map]
  by_cases hi : i < xs.length
  · rw [List.getElem?_range hi, List.getElem?_reverse hi]
    have h1 : xs.length - 1 - i < xs.length := by omega
    simp [List.getD_eq_getElem?_getD, h1]
  · rw [List.getElem?_eq_none (by simpa using hi), List.getElem?_eq_none (by simpa using hi)]
    rfl
theorem getItem_tuple_back {t sl : Addr} {items : List Value} {vs : Value} {Q : Value → Shared → Prop} (ht : IsTup s.heap t items.toArray) (hs : s.heap.IsSliceOf sl .none .none vs) (ps : IsPart vs (some (-1)))
    (h : Q (.ref s.heap.objs.size) { s with heap := s.heap.push { cls := .type "tuple", data := .seq items.reverse.toArray } })
    (hsz : items.length ≤ sizeLine) : wpAny (model prog w) A (getItem (.ref t) (.ref sl)) Q E s := by
  have htake : sizeOk (.seq items.reverse.toArray) := by
    show items.reverse.toArray.size ≤ sizeLine
    simpa using hsz
  obtain ⟨os, hos, hcs, hds⟩ := id hs
  have hTs : s.TypeIs (.ref sl) "slice" := ⟨os, hos, hcs⟩
  unfold getItem
  try with_reducible refine wpAny_holding ?_
  first | refine wpAny_bind (wpAny_pure ?_) | skip
  refine wpAny_bind (wpAny_sequenceKey ht.typeIs (by decide) ?_)
  refine wpAny_bind (wpAny_callSpecial?_slot (name := Str.ofString "__getitem__") ht.typeIs PyProof.Rows.slot_tuple_getitem
    (wpAny_call_entry PyProof.Rows.slot_tuple_getitem ht.typeIs entry_tuple_getitem ?_ (args_tuple_getitem _ _)))
  show wpAny _ _ (Builtin.Tuple.tupleItemsOf (.ref t) >>= _) _ _ s
  refine wpAny_bind (tupleItemsOf_ ht ?_)
  refine wpAny_bind (wpAny_typeOf hTs ?_)
  rw [if_pos (by decide)]
  refine wpAny_bind (sliceApplied_back hs ps ?_)
  have hno : ¬ ((((items.toArray.size : Int) - 1) == 0 && (-1 : Int) == 1 && items.toArray.size == items.toArray.size) = true) := by
    intro q
    rw [Bool.and_eq_true, Bool.and_eq_true] at q
    exact absurd q.1.2 (by decide)
  show wpAny _ _ (if (((items.toArray.size : Int) - 1) == 0 && (-1 : Int) == 1 && items.toArray.size == items.toArray.size) = true then _ else _) _ _ s
  rw [if_neg hno]
  have e := pick_back items
  rw [List.size_toArray, e]
  first
    | exact wpAny_bind (m := Builtin.Tuple.tupleExact _) (wpAny_newObj_type (wpAny_pure ⟨_, rfl, wpAny_pure h⟩) htake)
    | exact wpAny_bind (m := Builtin.Tuple.tupleExact _) (wpAny_newObj_type (wpAny_bind (wpAny_pure (wpAny_pure ⟨_, rfl, wpAny_pure h⟩))) htake)
    | exact wpAny_bind (wpAny_bind (m := Builtin.Tuple.tupleExact _) (wpAny_newObj_type (wpAny_pure (wpAny_pure ⟨_, rfl, wpAny_pure h⟩)) htake))
    | exact wpAny_bind (wpAny_bind (m := Builtin.Tuple.tupleExact _) (wpAny_newObj_type (wpAny_pure ⟨_, rfl, wpAny_pure h⟩) htake))
end
end HT
namespace G
open PySem L2 PySem.Spec PyProof.Rows
/-- x[::-1] -/
def tRevA (K : PySem.W.Frag) (te : TE) : TE := fun σ H Q => te σ H fun x H1 => ∃ a xs, x = .ref a ∧ ((SqL K H1 a xs ∧ ∀ p, H1 p = none → Q (.ref p) (upd H1 p (.lst xs.reverse))) ∨ (SqT K H1 a xs ∧ ∀ p, H1 p = none → Q (.ref p) (upd H1 p (.tup xs.reverse))))
theorem pe_revA {X : Cx} {te : TE} {e : Expr} {k : Nat} {p1 p2 p3 pos : Pos} (he : PE X e te) : PE X (.Subscript e (.Slice none none (some (.UnaryOp .USub (.Constant (.int 1) k p1) p2)) p3) pos) (tRevA X.K te) := by
  refine ⟨fun pins s σ H Q I h => ?_⟩
  refine Subscript_ (thn (he.run pins s σ H _ I h) fun v s1 ⟨x, H1, I1, r1, q1⟩ => ?_)
  obtain ⟨a, xs, ex, hx⟩ := q1
  subst ex
  cases r1
  have hst : PO X (some (.UnaryOp .USub (.Constant (.int 1) k p1) p2)) (tPart (tUn (rU fun i => .int (-i)) (tC (.int 1)))) := po_some (pe_un un_neg pe_int)
  have hno : ∀ {s : Shared} {Q : Value → Shared → Prop}, Q .none s → wpAny (model X.prog X.w) X.A (evalPart none X.env) Q X.xe s := fun h => by
    rw [evalPart_none]
    exact wpAny_pure h
  refine wpAny_Slice (hno (hno ?_))
  refine thn (hst.run pins s1 σ H1 (fun o H4 => o = some (-1) ∧ H4 = H1) I1 ⟨1, rfl, -1, rfl, rfl, rfl⟩) fun vs s4 ⟨o, H4, I4, ps, eo, e4⟩ => ?_
  subst eo e4
  have I5 : Inv X pins σ H4 { s4 with heap := s4.heap.push { cls := .type "slice", data := .fields #[.none, .none, vs] } } := I4.kept (t' := s4.toks) fun b ob q => Heap.get?_push_of_some _ q
  show wpAny (model X.prog X.w) X.A (subscriptTail e (.Slice none none (some (.UnaryOp .USub (.Constant (.int 1) k p1) p2)) p3) (.ref a) (.ref s4.heap.objs.size)) (EP X pins σ Q) X.xe { s4 with heap := s4.heap.push { cls := .type "slice", data := .fields #[.none, .none, vs] } }
  rcases hx with ⟨hx, q⟩ | ⟨hx, q⟩
  · obtain ⟨its, r, ht, hz⟩ := I5.list hx
    have hlen := r.length
    refine tail_any (ops := [.ref a, .ref s4.heap.objs.size]) ht.isList.typeIs (PySem.slot_list_getitem.lookup) ?_ (by with_unfolding_all rfl)
    refine wpAny_getItem_list_slice ht.isList (Heap.IsSliceOf.new _ .none .none vs) .none .none ps (by decide) ?_ (by rw [List.size_toArray]; omega)
    rw [PySem.W.krv_pick]
    refine ⟨.ref _, _, I5.laid (t' := s4.toks) (o := .lst xs.reverse) (fun b ob q => Heap.get?_push_of_some _ q) (Nat.le_refl _) ?_, rfl, q _ (I5.hok.fresh (Nat.le_refl _))⟩
    exact ⟨by rw [List.length_reverse]; exact hz, _, 0, r.reverse, Heap.get?_push_size _ rfl⟩
  · obtain ⟨its, r, ht, hz⟩ := I5.tuple hx
    have hlen := r.length
    refine tail_any (ops := [.ref a, .ref s4.heap.objs.size]) ht.typeIs (PyProof.Rows.slot_tuple_getitem.lookup) ?_ (by with_unfolding_all rfl)
    refine HT.getItem_tuple_back ht (Heap.IsSliceOf.new _ .none .none vs) ps ?_ (by omega)
    refine ⟨.ref _, _, I5.laid (t' := s4.toks) (o := .tup xs.reverse) (fun b ob q => Heap.get?_push_of_some _ q) (Nat.le_refl _) ?_, rfl, q _ (I5.hok.fresh (Nat.le_refl _))⟩
    exact ⟨by rw [List.length_reverse]; exact hz, _, r.reverse, ⟨_, Heap.get?_push_size _ rfl, rfl, _, rfl⟩⟩
end G

/-! Layer G, part 4: the judgements; expressions. -/
namespace G
open PySem L2 PySem.Spec PyProof.Rows

/-- an exception as it lies in the heap -/
def RX (mg : Str → Option Value) (K : PySem.W.Frag) (H : Hp) (κ : Loc) (cls : Value) (d : Option Addr) (x : Xc) : Prop :=
  ∃ C dd v, mg x.cls = some (.ref C) ∧ cls = .ref C ∧ d = some dd ∧ H dd = some (.xd [(x.fld, v)]) ∧ κ.out dd ∧ RS K H κ v x.val
def PX (mg : Str → Option Value) (K : PySem.W.Frag) (H : Hp) (κ : Loc) (E : XK) : Xc → Mem → Prop := fun x M' => ∀ κ' cls d H', Gr κ H κ' H' → RX mg K H' κ' cls d x → RM K H' κ' M' → E cls d H'
theorem PX.grow {mg K H κ H' κ' E x M} (g : Gr κ H κ' H') (h : PX mg K H κ E x M) : PX mg K H' κ' E x M := fun κ1 c d H1 g1 r m => h κ1 c d H1 (g.trans g1) r m
/-- a function's promise by its spec -/
def spOf (mg : Str → Option Value) (K : PySem.W.Frag) (n : Nat) (φ : FSpec) : Sp := fun vs H Q E => ∃ κ M ss, vs.length = n ∧ RM K H κ M ∧ RSs K H κ vs ss ∧ φ ss M (Post K H κ Q) (PX mg K H κ E)
/-- as FnOk, where nothing is printed around -/
structure FnG (P : Program) (w : World) (K : PySem.W.Frag) (mg : Str → Option Value) (base : Heap) (k : Nat) (f : Addr) (fd : FuncData) (ps : List Str) (sp : Sp) : Prop where
  len : ∀ vs H Q E, sp vs H Q E → vs.length = ps.length
  run : ∀ (A : Around) (outer : List PySem.Env) (s : Shared) (H : Hp) (args : Args) (us : List Value) (vs : List V) (Q : VK) (E : XK), Room k A → A.guards = some [] → Env0 P w K mg base A outer s H → BindsTo s fd args (ps.zip us) → Vals vs us → sp vs H Q E →
    codeAny (model P w) A (.call (.ref f) args) (CR (L2N.CX P w) outer P w H s Q E) s
theorem FnG.mono {P w K mg base j k f fd ps sp} (F : FnG P w K mg base j f fd ps sp) (h : j ≤ k) : FnG P w K mg base k f fd ps sp :=
  ⟨F.len, fun A outer s H args us vs Q E hr => F.run A outer s H args us vs Q E (hr.mono h)⟩
/-- a call's values in the parameters' order: n of them by place, the others by name -/
def reord {α : Type} (ps : List Str) (n : Nat) (ks : List Str) (us ws : List α) : List α := us ++ (ps.drop n).filterMap fun p => (ks.zip ws).lookup p
def KB (fd : FuncData) (ps : List Str) (n : Nat) (ks : List Str) : Prop := ∀ (s : Shared) (us ws : List Value), us.length = n → ws.length = ks.length → BindsTo s fd ⟨us, ks.zip ws⟩ (ps.zip (reord ps n ks us ws))
/-- each of the other parameters has a name, all names are told -/
def kwsOk (ps : List Str) (n : Nat) (ks : List Str) : Bool := decide (n ≤ ps.length) && (ps.drop n).all (fun p => ks.contains p)
def CallOk (X : Cx) (kws : List (Str × Nat × List Str)) (f : Str) (ps : List Str) (φ : FSpec) : Prop :=
  ∃ (k : Nat) (a : Addr) (fd : FuncData), FnG X.prog X.w X.K X.mg X.base k a fd ps (spOf X.mg X.K ps.length φ) ∧ Room k X.A ∧ X.mg f = some (.ref a) ∧ PySem.W.keepIn X.K (.ref a) = true ∧ Binds X.K fd ps [] ∧ (f == ("__debug__" : Str)) = false ∧
    ∀ q ∈ kws, q.1 = f → KB fd ps q.2.1 q.2.2
/-- the built-in names that may be called -/
def bnames : List Str := ["len", "tuple", "list", "int", "bool", "str", "repr", "abs", "sum", "all", "any", "max", "min", "isinstance", "range", "enumerate", "zip", "reversed", "sorted", "dict", "set"]
/-- what the text's check goes by: the slots' names, the scope, the functions and the classes that are known, whether a suite runs, its name's slot -/
structure CT where
  N : List Str
  sc : Scope
  fs : List (Str × List Str)
  ks : List (Str × Nat × List Str)
  cs : List Str
  hs : List Str
  cm : Bool
/-- the class that a name tells -/
def HName (mg : Str → Option Value) (c : Str) (cv : Value) : Prop := (c == ("__debug__" : Str)) = false ∧ ((mg c = some cv ∧ ∃ C, cv = .ref C) ∨ (mg c = none ∧ bootBuiltins c = some cv ∧ c ≠ "__name__" ∧ ∃ n, cv = .type n))
/-- what isinstance and a clause say of an error of the class at C -/
structure XOk (K : PySem.W.Frag) (mg : Str → Option Value) (C : Addr) (l : List Str) (hs : List Str) : Prop where
  cl : (PySem.W.clsIn K C).isSome = true
  ga : PySem.W.findIn K (.ref C) "__getattribute__" = some (some (.builtin "BaseException.__getattribute__"))
  gg : PySem.W.findIn K (.ref C) "__getattr__" = some none
  exC : PySem.W.subIn K (.ref C) (.type "BaseException") = some true
  hdC : PySem.W.hasDictIn K C = true
  ca : PySem.W.findIn K (.ref C) "__class__" = some (some (.builtin "object.__class__"))
  sp : PySem.W.specialIn K (.builtin "object.__class__") "__get__" = some (some (.builtin "getset_descriptor.__get__"))
  tk : PySem.W.takesIn K (.builtin "object.__class__") = some true
  mo : PySem.W.mroIn K C (.type "object") = some true
  nv : PySem.W.findIn K (.ref C) "value" = some none
  nw : PySem.W.findIn K (.ref C) "what" = some none
  hs : ∀ c ∈ hs, ∃ cv, HName mg c cv ∧ PySem.W.exmOne K (.ref C) cv = some (l.contains c) ∧ PySem.W.kitOne K (.ref C) cv = some (l.contains c)
def nostar : Expr → Bool
  | .Starred .. => false
  | _ => true
/-- __init__'s body -/
inductive IniBody (par fld : Str) : List Stmt → Prop
  | mk (p0 p1 p2 p3 p4 p5 p6 p7 p8 p9 : Pos) (j : Nat) (msg : Str) (hl : (p2.endLine == p4.line) = true) : IniBody par fld
      [.Expr (.Call (.Attribute (.Call (.Name "super" p0) [] [] p1) "__init__" p2) [.Constant (.str msg) j p3] [] p4) p5, .Assign [.Attribute (.Name "self" p6) fld p7] (.Name par p8) p9]
/-- what is known of the class -/
structure ExC (prog : Program) (K : PySem.W.Frag) (mg : Str → Option Value) (C fI cc cda : Addr) (par fld : Str) : Prop where
  cls : ∃ nm q N bs bm sn sub ab col dd k0 k1 k2 k3 k5, K.lookup C = some (excClassObj nm q C N bs bm true sn sub ab col dd k0 k1 k2 k3 k5 "ValueError.__new__") ∧ PySem.HandSPX.refsVE bm = true
  sa : PySem.W.findIn K (.ref C) "__setattr__" = some (some (.builtin "object.__setattr__"))
  exC : PySem.W.subIn K (.ref C) (.type "BaseException") = some true
  veC : PySem.W.subIn K (.ref C) (.type "ValueError") = some true
  tyC : PySem.W.typeIn K (.ref C) = some (.type "type")
  kC : PySem.W.keepIn K (.ref C) = true
  ini : PySem.W.findIn K (.ref C) "__init__" = some (some (.ref fI))
  tyI : PySem.W.typeIn K (.ref fI) = some (.type "function")
  fn : ∃ oc od qual params body scope kV doc pm an ct osl ccl cdd vs ccs file tf, K.lookup fI = some ⟨oc, od, .func (PySem.W.ksFn "__init__" qual params body scope .none kV doc pm an (.ref cda) ct cc), osl⟩ ∧ PySem.W.codeIn K (.ref cda) qual = true ∧
    IniBody par fld body ∧ K.lookup cda = some ⟨ccl, cdd, .fields vs, ccs⟩ ∧ vs[2]? = some (.str file tf) ∧ ((prog.main.file : Str) == file) = true ∧
    (∀ us : List Value, us.length = 2 → bindArgs (PySem.W.ksFn "__init__" qual params body scope .none kV doc pm an (.ref cda) ct cc) ⟨us, []⟩ = pure ((["self", par] : List Str).zip us)) ∧
    (params.posonlyargs ++ params.args).head?.map (·.arg) = some "self" ∧ scope.kind = .function ∧ scope.isCoroutine = false ∧ scope.isGenerator = false ∧ (∀ x ∈ scope.names, x.2 ≠ .cell) ∧
    scope.names.lookup ("super" : Str) = some .globalImplicit ∧ scope.names.lookup ("__class__" : Str) = some .free ∧ scope.names.lookup ("self" : Str) = some .local ∧ scope.names.lookup par = some .local
  cell : ∃ cl cld csl, K.lookup cc = some ⟨cl, cld, .cell (some (.ref C)), csl⟩
  mro : PySem.W.mroIn K C (.ref C) = some true
  sup : PySem.W.ks_superIn K C C "__init__" = some (some (.builtin "ValueError.__init__"))
  nosup : mg "super" = none
  notop : (prog.main.scope.names.lookup ("super" : Str)).isSome = false
  cst : PySem.W.nsIn K cStatics "thirdparty.any" = some none
  nof : PySem.W.findIn K (.ref C) fld = some none
  parD : (par == ("__debug__" : Str)) = false ∧ ("self" : Str) ≠ par
  sw : True

structure GOk (X : Cx) (Γ : Env) (W : WX) (T : CT) : Prop where
  eN : X.N = T.N
  eS : X.env.scope = T.sc
  nd : X.N.Nodup
  calm : T.cm = true → X.calm = true
  hu : X.A.units + 100 < cLine
  gu : X.A.guards = some []
  bt : ∀ x ∈ bnames, X.mg x = none
  fk : ∀ f ∈ T.fs, (∃ φ, Γ.Φ f.1 = some φ) ∧ Γ.ps f.1 = f.2
  fn : T.cm = true → ∀ f φ, Γ.Φ f = some φ → CallOk X T.ks f (Γ.ps f) φ
  tk : L2N.Takes X W
  mo : Γ.Mo
  dp : X.A.depth + 10 < recursionLimit
  cl : ∀ c ∈ T.cs, ∃ C fI cc cda par, X.mg c = some (.ref C) ∧ (c == ("__debug__" : Str)) = false ∧ ExC X.prog X.K X.mg C fI cc cda par (if c = "Undefined" then "what" else "value")
  xo : ∀ c l C, Γ.mro c = some l → X.mg c = some (.ref C) → XOk X.K X.mg C l T.hs
  cu : ∀ a dd c f v, Γ.cur = some (.e a dd c f v) → ∃ (X0 : Cx) (oe : Obj) (pn : List (Addr × Obj)) (C : Addr), X = X0.suite a ((a, oe) :: pn) ∧ Zc (.ref C) (some dd) oe ∧ (∃ vs, oe.data = .fields vs) ∧ X.mg c = some (.ref C) ∧ ∃ l, Γ.mro c = some l
  xm : ∀ c l, Γ.mro c = some l → ∃ C, X.mg c = some (.ref C)
  hn : ∀ c ∈ T.hs, ∃ cv, HName X.mg c cv
  cn : T.cm = true → Γ.cur = none
  ht : T.cm = false → T.hs ≠ [] → L2H.HotC X

abbrev XW (W : WX) (σ : L2.St) : XK := fun c d H' => W c d σ H'
def PostB (K : PySem.W.Frag) (H : Hp) (κ : Loc) {α : Type} (Q : α → Hp → Prop) : α → Mem → Prop := fun b M' => ∀ κ' H', Gr κ H κ' H' → RM K H' κ' M' → Q b H'
def PostA (K : PySem.W.Frag) (H : Hp) (κ : Loc) (Q : List V → Hp → Prop) : List S → Mem → Prop := fun ss M' => ∀ κ' vs H', Gr κ H κ' H' → RSs K H' κ' vs ss → RM K H' κ' M' → Q vs H'
section
variable (X : Cx) (Γ : Env) (W : WX)
def gE (e : E) : TE := fun σ H Q => ∃ κ ρ M, RSt X.K H κ ρ σ ∧ RM X.K H κ M ∧ wE Γ e ρ M (Post X.K H κ Q) (PX X.mg X.K H κ (XW W σ))
def gT (e : E) : TT := fun σ H Q => ∃ κ ρ M, RSt X.K H κ ρ σ ∧ RM X.K H κ M ∧ wT Γ e ρ M (PostB X.K H κ Q) (PX X.mg X.K H κ (XW W σ))
def gA (es : Es) : TA := fun σ H Q => ∃ κ ρ M, RSt X.K H κ ρ σ ∧ RM X.K H κ M ∧ wEs Γ es ρ M (PostA X.K H κ Q) (PX X.mg X.K H κ (XW W σ))
def gO (o : Oe) : TO := fun σ H Q => ∃ κ ρ M, RSt X.K H κ ρ σ ∧ RM X.K H κ M ∧ wO Γ o ρ M (PostB X.K H κ Q) (PX X.mg X.K H κ (XW W σ))
def gC (o : Oe) : TT := fun σ H Q => ∃ κ ρ M, RSt X.K H κ ρ σ ∧ RM X.K H κ M ∧ wC Γ o ρ M (PostB X.K H κ Q) (PX X.mg X.K H κ (XW W σ))
def gF (f : F) : TE := fun σ H Q => ∃ κ ρ M, RSt X.K H κ ρ σ ∧ RM X.K H κ M ∧ wF Γ f ρ M (PostL X.K H κ Q) (PX X.mg X.K H κ (XW W σ))
end
theorem _root_.L2.PE.mono {X : Cx} {e : Expr} {t t' : TE} (h : PE X e t) (m : ∀ σ H Q, t' σ H Q → t σ H Q) : PE X e t' := ⟨fun pins s σ H Q I q => h.run pins s σ H Q I (m _ _ _ q)⟩
theorem _root_.L2.PT.mono {X : Cx} {e : Expr} {t t' : TT} (h : PT X e t) (m : ∀ σ H Q, t' σ H Q → t σ H Q) : PT X e t' := ⟨fun pins s σ H Q I q => h.run pins s σ H Q I (m _ _ _ q)⟩
theorem _root_.L2.PW.mono {X : Cx} {e : Expr} {t t' : TT} (h : PW X e t) (m : ∀ σ H Q, t' σ H Q → t σ H Q) : PW X e t' := ⟨fun wh pins s σ H Q I q => h.run wh pins s σ H Q I (m _ _ _ q)⟩
theorem _root_.L2.PA.mono {X : Cx} {e : List Expr} {t t' : TA} (h : PA X e t) (m : ∀ σ H Q, t' σ H Q → t σ H Q) : PA X e t' := ⟨fun p pins s σ H Q I q => h.run p pins s σ H Q I (m _ _ _ q)⟩
theorem _root_.L2.PO.mono {X : Cx} {e : Option Expr} {t t' : TO} (h : PO X e t) (m : ∀ σ H Q, t' σ H Q → t σ H Q) : PO X e t' := ⟨fun pins s σ H Q I q => h.run pins s σ H Q I (m _ _ _ q)⟩

section
variable {X : Cx} {Γ : Env} {W : WX} {κ κ0 : Loc} {H H0 : Hp} {ρ : Sto} {σ : L2.St} {M : Mem}
theorem gE.go {e : E} {P : S → Mem → Prop} {C : VK} (mo : Γ.Mo) (g : Gr κ0 H0 κ H) (rs : RSt X.K H κ ρ σ) (rm : RM X.K H κ M) (h : wE Γ e ρ M P (PX X.mg X.K H0 κ0 (XW W σ)))
    (c : ∀ z M1 κ1 x H1, P z M1 → Gr κ H κ1 H1 → RS X.K H1 κ1 x z → RM X.K H1 κ1 M1 → C x H1) : gE X Γ W e σ H C :=
  ⟨κ, ρ, M, rs, rm, mE mo e ρ _ _ _ _ _ (fun z M1 p κ1 x H1 g r m => c z M1 κ1 x H1 p g r m) (fun _ _ q => q.grow g) h⟩
theorem gT.go {e : E} {P : Bool → Mem → Prop} {C : Bool → Hp → Prop} (mo : Γ.Mo) (g : Gr κ0 H0 κ H) (rs : RSt X.K H κ ρ σ) (rm : RM X.K H κ M) (h : wT Γ e ρ M P (PX X.mg X.K H0 κ0 (XW W σ)))
    (c : ∀ z M1 κ1 H1, P z M1 → Gr κ H κ1 H1 → RM X.K H1 κ1 M1 → C z H1) : gT X Γ W e σ H C :=
  ⟨κ, ρ, M, rs, rm, mT mo e ρ _ _ _ _ _ (fun z M1 p κ1 H1 g m => c z M1 κ1 H1 p g m) (fun _ _ q => q.grow g) h⟩
theorem gA.go {e : Es} {P : List S → Mem → Prop} {C : List V → Hp → Prop} (mo : Γ.Mo) (g : Gr κ0 H0 κ H) (rs : RSt X.K H κ ρ σ) (rm : RM X.K H κ M) (h : wEs Γ e ρ M P (PX X.mg X.K H0 κ0 (XW W σ)))
    (c : ∀ z M1 κ1 x H1, P z M1 → Gr κ H κ1 H1 → RSs X.K H1 κ1 x z → RM X.K H1 κ1 M1 → C x H1) : gA X Γ W e σ H C :=
  ⟨κ, ρ, M, rs, rm, mEs mo e ρ _ _ _ _ _ (fun z M1 p κ1 x H1 g r m => c z M1 κ1 x H1 p g r m) (fun _ _ q => q.grow g) h⟩
theorem gO.go {e : Oe} {P : Option Int → Mem → Prop} {C : Option Int → Hp → Prop} (mo : Γ.Mo) (g : Gr κ0 H0 κ H) (rs : RSt X.K H κ ρ σ) (rm : RM X.K H κ M) (h : wO Γ e ρ M P (PX X.mg X.K H0 κ0 (XW W σ)))
    (c : ∀ z M1 κ1 H1, P z M1 → Gr κ H κ1 H1 → RM X.K H1 κ1 M1 → C z H1) : gO X Γ W e σ H C :=
  ⟨κ, ρ, M, rs, rm, mO mo e ρ _ _ _ _ _ (fun z M1 p κ1 H1 g m => c z M1 κ1 H1 p g m) (fun _ _ q => q.grow g) h⟩

variable {T : CT} {a b c : E} {a' b' c' : Expr} {pos p2 p3 : Pos}
theorem j_var {i : Nat} {x : Str} (hi : X.N[i]? = some x) (hv : Vis X.env.scope x) (hd : (x == ("__debug__" : Str)) = false) (hc : (x == ("__classdict__" : Str)) = false) : PE X (.Name x pos) (gE X Γ W (.var i)) :=
  (pe_var hi hv hd hc).mono fun σ H Q ⟨κ, ρ, M, rs, rm, h⟩ => by
    simp only [wE] at h
    obtain ⟨s, e, h⟩ := h
    obtain ⟨v, e2, r⟩ := rs.here _ _ e
    exact ⟨v, e2, h.at r rm⟩
theorem j_cst_int {i : Int} {j : Nat} : PE X (.Constant (.int i) j pos) (gE X Γ W (.cst (.int i))) := pe_int.mono fun σ H Q ⟨κ, ρ, M, rs, rm, h⟩ => by
  simp only [wE] at h
  exact h.at (.d (.int i)) rm
theorem j_cst_bool {i : Bool} {j : Nat} : PE X (.Constant (.bool i) j pos) (gE X Γ W (.cst (.bool i))) := pe_bl.mono fun σ H Q ⟨κ, ρ, M, rs, rm, h⟩ => by
  simp only [wE] at h
  exact h.at (.d (.bl i)) rm
theorem j_cst_none {j : Nat} : PE X (.Constant .none j pos) (gE X Γ W (.cst .none)) := pe_non.mono fun σ H Q ⟨κ, ρ, M, rs, rm, h⟩ => by
  simp only [wE] at h
  exact h.at (.d .non) rm
theorem j_cst_str {i : Str} {j : Nat} : PE X (.Constant (.str i) j pos) (gE X Γ W (.cst (.str i))) := pe_str.mono fun σ H Q ⟨κ, ρ, M, rs, rm, h⟩ => by
  simp only [wE] at h
  exact h.at (.d (.str i)) rm
theorem j_cst_dc1 {i j : Int} {n m : Nat} {q1 q2 : Pos} : PE X (.Dict [some (.Constant (.int i) n q1)] [.Constant (.int j) m q2] pos) (gE X Γ W (.cst (.dict [(.int i, .int j)]))) :=
  (pe_disp (pps_cons pe_int pe_int pps_nil) rfl rfl (by simp) (by simp)).mono fun σ H Q ⟨κ, ρ, M, rs, rm, h⟩ p hp => by
  simp only [wE] at h
  refine ⟨upd_same, [(.inl i, .int j)], rfl, by simp, ?_⟩
  have m1 : RM X.K (upd H p (.dK [])) κ M := rm.new hp
  have e : upd (upd H p (.dK [])) p (.dK (mergeK [] [(.inl i, .int j)])) = upd H p (.dK [(.inl i, .int j)]) := by
    funext b
    unfold upd
    split <;> rfl
  rw [e]
  exact h.new rm hp (.d (.dc1 upd_same ⟨fun z => rm.has z hp, fun z => (rm.tm p z).1 hp⟩))
theorem j_cst_dict : PE X (.Dict [] [] pos) (gE X Γ W (.cst (.dict []))) := pe_dnewK.mono fun σ H Q ⟨κ, ρ, M, rs, rm, h⟩ p hp => by
  simp only [wE] at h
  exact h.new rm hp (.d (.dct upd_same ⟨fun z => rm.has z hp, fun z => (rm.tm p z).1 hp⟩))
theorem j_neg (G : GOk X Γ W T) (ha : PE X a' (gE X Γ W a)) : PE X (.UnaryOp .USub a' pos) (gE X Γ W (.neg a)) := (pe_un un_neg ha).mono fun σ H Q ⟨κ, ρ, M, rs, rm, h⟩ => by
  simp only [wE] at h
  refine gE.go G.mo .refl rs rm h fun x M1 κ1 v H1 ⟨i, e, h⟩ g r m => ?_
  unfold int? at e
  split at e
  · cases e
    cases r with
    | d r => cases r; exact ⟨_, rfl, h _ _ _ g (.d (.int _)) m⟩
  · cases e
theorem j_bin (G : GOk X Γ W T) (o : Operator) (ha : PE X a' (gE X Γ W a)) (hb : PE X b' (gE X Γ W b)) : PE X (.BinOp a' o b' pos) (gE X Γ W (.bin o a b)) := (pe_op (ok_bin o) ha hb).mono fun σ H Q ⟨κ, ρ, M, rs, rm, h⟩ => by
  simp only [wE] at h
  refine gE.go G.mo .refl rs rm h fun x M1 κ1 vx H1 p1 g1 r1 m1 => ?_
  refine gE.go G.mo g1 (rs.grow g1.toGrow) m1 p1 fun y M2 κ2 vy H2 p2 g2 r2 m2 => ?_
  exact ⟨κ2, M2, x, y, m2, r1.grow g2.toGrow, r2, wBin_mo (fun z M3 q => q.grow (g1.trans g2)) p2⟩
theorem j_cmp (G : GOk X Γ W T) (o : CmpOp) (ha : PE X a' (gE X Γ W a)) (hb : PE X b' (gE X Γ W b)) (hm : behindInMarks o b' = false) : PE X (.Compare a' [o] [b'] pos) (gE X Γ W (.cmp o a b)) := (pe_cmpR (ok_cmp G.hu o) ha hb hm).mono fun σ H Q ⟨κ, ρ, M, rs, rm, h⟩ => by
  simp only [wE] at h
  refine gE.go G.mo .refl rs rm h fun x M1 κ1 vx H1 p1 g1 r1 m1 => ?_
  refine gE.go G.mo g1 (rs.grow g1.toGrow) m1 p1 fun y M2 κ2 vy H2 p2 g2 r2 m2 => ?_
  exact ⟨κ2, M2, x, y, m2, r1.grow g2.toGrow, r2, wCmp_mo (fun z M3 q => q.grow (g1.trans g2)) p2⟩
/-- a comparison tells a bool -/
theorem wOrd_B {f g x y} {M : Mem} {P : S → Mem → Prop} (h : wOrd f g x y M P) : wOrd f g x y M fun z M1 => (∃ b, z = B b) ∧ P z M1 := by
  unfold wOrd at h ⊢
  split at h
  · exact ⟨⟨_, rfl⟩, h⟩
  · exact ⟨h.1, ⟨_, rfl⟩, h.2⟩
  · exact h
theorem wIn_B {f x y} {M : Mem} {P : S → Mem → Prop} (h : wIn x y f M P) : wIn x y f M fun z M1 => (∃ b, z = B b) ∧ P z M1 := by
  unfold wIn at h ⊢
  split at h
  · exact ⟨h.1, ⟨_, rfl⟩, h.2⟩
  · exact ⟨h.1, ⟨_, rfl⟩, h.2⟩
  · exact h
theorem wEqD_B {x y : PD} {M : Mem} {P : S → Mem → Prop} (h : wEqD x y M P) : wEqD x y M fun z M1 => (∃ b, z = B b) ∧ P z M1 := by
  unfold wEqD at h ⊢
  split at h
  · exact ⟨⟨_, rfl⟩, h⟩
  · exact ⟨h.1, h.2.1, ⟨_, rfl⟩, h.2.2⟩
theorem wCmp_B {o : CmpOp} {x y : S} {M : Mem} {P : S → Mem → Prop} (h : wCmp o x y M P) : wCmp o x y M fun z M1 => (∃ b, z = B b) ∧ P z M1 := by
  cases o <;> unfold wCmp at h ⊢ <;> dsimp only at h ⊢
  case Lt => exact wOrd_B h
  case LtE => exact wOrd_B h
  case Gt => exact wOrd_B h
  case GtE => exact wOrd_B h
  all_goals
    split at h <;> first
      | exact ⟨⟨_, rfl⟩, h⟩
      | exact wIn_B h
      | exact ⟨h.1, h.2.1, ⟨_, rfl⟩, h.2.2⟩
      | exact wEqD_B h
      | exact dAt_mo (fun _ _ _ h => ⟨⟨_, rfl⟩, h⟩) h
      | exact h
theorem tt_cmp (G : GOk X Γ W T) (o : CmpOp) (ha : PE X a' (gE X Γ W a)) (hb : PE X b' (gE X Γ W b)) (hm : behindInMarks o b' = false) : PT X (.Compare a' [o] [b'] pos) (gT X Γ W (.cmp o a b)) := (pt_cmpR (ok_cmp G.hu o) ha hb hm).mono fun σ H Q ⟨κ, ρ, M, rs, rm, h⟩ => by
  simp only [wT, wE] at h
  refine gE.go G.mo .refl rs rm h fun x M1 κ1 vx H1 p1 g1 r1 m1 => ?_
  refine gE.go G.mo g1 (rs.grow g1.toGrow) m1 p1 fun y M2 κ2 vy H2 p2 g2 r2 m2 => ?_
  refine ⟨κ2, M2, x, y, m2, r1.grow g2.toGrow, r2, wCmp_mo (fun z M3 ⟨⟨k0, ez⟩, k, e, q⟩ κ3 v3 H3 g3 r3 m3 => ?_) (wCmp_B p2)⟩
  subst ez
  cases e
  cases r3 with
  | d r3 => cases r3; exact ⟨_, rfl, q κ3 H3 ((g1.trans g2).trans g3) m3⟩
theorem j_chain (G : GOk X Γ W T) (o p : CmpOp) (ha : PE X a' (gE X Γ W a)) (hb : PE X b' (gE X Γ W b)) (hc : PE X c' (gE X Γ W c)) (hm : lastMarks [o, p] [b', c'] = false) : PE X (.Compare a' [o, p] [b', c'] pos) (gE X Γ W (.chain o p a b c)) :=
  (pe_chain (ok_cmp G.hu o) (ok_cmp G.hu p) ha hb hc hm).mono fun σ H Q ⟨κ, ρ, M, rs, rm, h⟩ => by
  simp only [wE] at h
  refine gE.go G.mo .refl rs rm h fun x M1 κ1 vx H1 p1 g1 r1 m1 => ?_
  refine gE.go G.mo g1 (rs.grow g1.toGrow) m1 p1 fun y M2 κ2 vy H2 p2 g2 r2 m2 => ?_
  have g12 := g1.trans g2
  refine ⟨κ2, M2, x, y, m2, r1.grow g2.toGrow, r2, wCmp_mo (fun z M3 ⟨k, e, q⟩ κ3 v3 H3 g3 r3 m3 => ?_) p2⟩
  subst e
  cases r3 with
  | d r3 =>
    cases r3
    refine ⟨k, rfl, ?_⟩
    have g13 := g12.trans g3
    cases k with
    | false => exact q κ3 _ H3 g13 (.d (.bl false)) m3
    | true =>
      refine gE.go G.mo g13 (rs.grow g13.toGrow) m3 q fun w M4 κ4 v4 H4 p4 g4 r4 m4 => ?_
      exact ⟨κ4, M4, y, w, m4, r2.grow (g3.trans g4).toGrow, r4, wCmp_mo (fun z M5 q => q.grow (g13.trans g4)) p4⟩
theorem tt_chain (G : GOk X Γ W T) (o p : CmpOp) (ha : PE X a' (gE X Γ W a)) (hb : PE X b' (gE X Γ W b)) (hc : PE X c' (gE X Γ W c)) (hm : lastMarks [o, p] [b', c'] = false) : PT X (.Compare a' [o, p] [b', c'] pos) (gT X Γ W (.chain o p a b c)) :=
  (pt_chain (ok_cmp G.hu o) (ok_cmp G.hu p) ha hb hc hm).mono fun σ H Q ⟨κ, ρ, M, rs, rm, h⟩ => by
  simp only [wT, wE] at h
  refine gE.go G.mo .refl rs rm h fun x M1 κ1 vx H1 p1 g1 r1 m1 => ?_
  refine gE.go G.mo g1 (rs.grow g1.toGrow) m1 p1 fun y M2 κ2 vy H2 p2 g2 r2 m2 => ?_
  have g12 := g1.trans g2
  refine ⟨κ2, M2, x, y, m2, r1.grow g2.toGrow, r2, wCmp_mo (fun z M3 ⟨k, e, q⟩ κ3 v3 H3 g3 r3 m3 => ?_) p2⟩
  subst e
  cases r3 with
  | d r3 =>
    cases r3
    refine ⟨k, rfl, ?_⟩
    have g13 := g12.trans g3
    cases k with
    | false =>
      obtain ⟨k', e', q⟩ := q
      cases e'
      exact ⟨_, rfl, q κ3 H3 g13 m3⟩
    | true =>
      refine gE.go G.mo g13 (rs.grow g13.toGrow) m3 q fun w M4 κ4 v4 H4 p4 g4 r4 m4 => ?_
      refine ⟨κ4, M4, y, w, m4, r2.grow (g3.trans g4).toGrow, r4, wCmp_mo (fun z M5 ⟨⟨k0, ez⟩, k, e, q⟩ κ5 v5 H5 g5 r5 m5 => ?_) (wCmp_B p4)⟩
      subst ez
      cases e
      cases r5 with
      | d r5 => cases r5; exact ⟨_, rfl, q κ5 H5 ((g13.trans g4).trans g5) m5⟩
/-! ### truth -/
theorem tt_val (G : GOk X Γ W T) (ha : PE X a' (gE X Γ W a)) (he : ∀ whole, isTrue a' X.env whole = (do let v ← whole; standAt a'.pos; holding [v] (truthy v)))
    (hw : ∀ ρ M Q E, wT Γ a ρ M Q E = wE Γ a ρ M (fun x M1 => ∃ k, truth M1 x = some k ∧ Q k M1) E) : PT X a' (gT X Γ W a) := (pt_truth ha he).mono fun σ H Q ⟨κ, ρ, M, rs, rm, h⟩ => by
  rw [hw] at h
  refine gE.go G.mo .refl rs rm h fun x M1 κ1 vx H1 ⟨k, e, q⟩ g1 r1 m1 => ?_
  exact ⟨k, tru_at m1 r1 e, q κ1 H1 g1 m1⟩
theorem j_not (G : GOk X Γ W T) (ha : PE X a' (gE X Γ W a)) : PE X (.UnaryOp .Not a' pos) (gE X Γ W (.not a)) := (pe_notT ha).mono fun σ H Q ⟨κ, ρ, M, rs, rm, h⟩ => by
  simp only [wE] at h
  refine gE.go G.mo .refl rs rm h fun x M1 κ1 vx H1 ⟨k, e, q⟩ g1 r1 m1 => ?_
  exact ⟨k, tru_at m1 r1 e, q κ1 _ H1 g1 (.d (.bl _)) m1⟩
theorem tt_not (G : GOk X Γ W T) (ha : PT X a' (gT X Γ W a)) : PT X (.UnaryOp .Not a' pos) (gT X Γ W (.not a)) := (pt_not ha).mono fun σ H Q ⟨κ, ρ, M, rs, rm, h⟩ => by
  simp only [wT] at h
  exact gT.go G.mo .refl rs rm h fun k M1 κ1 H1 q g1 m1 => q κ1 H1 g1 m1
theorem j_and {rest : List Expr} (G : GOk X Γ W T) (ha : PE X a' (gE X Γ W a)) (hb : PE X (.BoolOp .And (b' :: rest) pos) (gE X Γ W b)) : PE X (.BoolOp .And (a' :: b' :: rest) pos) (gE X Γ W (.and a b)) := (pe_andT ha hb).mono fun σ H Q ⟨κ, ρ, M, rs, rm, h⟩ => by
  simp only [wE] at h
  refine gE.go G.mo .refl rs rm h fun x M1 κ1 vx H1 ⟨k, e, q⟩ g1 r1 m1 => ⟨k, tru_at m1 r1 e, ?_⟩
  cases k with
  | true => exact gE.go G.mo g1 (rs.grow g1.toGrow) m1 q fun y M2 κ2 vy H2 p2 g2 r2 m2 => p2 κ2 vy H2 (g1.trans g2) r2 m2
  | false => exact q κ1 vx H1 g1 r1 m1
theorem j_or {rest : List Expr} (G : GOk X Γ W T) (ha : PE X a' (gE X Γ W a)) (hb : PE X (.BoolOp .Or (b' :: rest) pos) (gE X Γ W b)) : PE X (.BoolOp .Or (a' :: b' :: rest) pos) (gE X Γ W (.or a b)) := (pe_orT ha hb).mono fun σ H Q ⟨κ, ρ, M, rs, rm, h⟩ => by
  simp only [wE] at h
  refine gE.go G.mo .refl rs rm h fun x M1 κ1 vx H1 ⟨k, e, q⟩ g1 r1 m1 => ⟨k, tru_at m1 r1 e, ?_⟩
  cases k with
  | false => exact gE.go G.mo g1 (rs.grow g1.toGrow) m1 q fun y M2 κ2 vy H2 p2 g2 r2 m2 => p2 κ2 vy H2 (g1.trans g2) r2 m2
  | true => exact q κ1 vx H1 g1 r1 m1
theorem w_and {rest : List Expr} (G : GOk X Γ W T) (ha : PT X a' (gT X Γ W a)) (hb : PW X (.BoolOp .And (b' :: rest) pos) (gT X Γ W b)) : PW X (.BoolOp .And (a' :: b' :: rest) pos) (gT X Γ W (.and a b)) := (pw_and ha hb).mono fun σ H Q ⟨κ, ρ, M, rs, rm, h⟩ => by
  simp only [wT] at h
  refine gT.go G.mo .refl rs rm h fun k M1 κ1 H1 q g1 m1 => ?_
  cases k with
  | true => exact gT.go G.mo g1 (rs.grow g1.toGrow) m1 q fun y M2 κ2 H2 p2 g2 m2 => p2 κ2 H2 (g1.trans g2) m2
  | false => exact q κ1 H1 g1 m1
theorem w_or {rest : List Expr} (G : GOk X Γ W T) (ha : PT X a' (gT X Γ W a)) (hb : PW X (.BoolOp .Or (b' :: rest) pos) (gT X Γ W b)) : PW X (.BoolOp .Or (a' :: b' :: rest) pos) (gT X Γ W (.or a b)) := (pw_or ha hb).mono fun σ H Q ⟨κ, ρ, M, rs, rm, h⟩ => by
  simp only [wT] at h
  refine gT.go G.mo .refl rs rm h fun k M1 κ1 H1 q g1 m1 => ?_
  cases k with
  | false => exact gT.go G.mo g1 (rs.grow g1.toGrow) m1 q fun y M2 κ2 H2 p2 g2 m2 => p2 κ2 H2 (g1.trans g2) m2
  | true => exact q κ1 H1 g1 m1
theorem j_ite (G : GOk X Γ W T) (hc : PT X c' (gT X Γ W c)) (ha : PE X a' (gE X Γ W a)) (hb : PE X b' (gE X Γ W b)) : PE X (.IfExp c' a' b' pos) (gE X Γ W (.ite c a b)) := (pe_ifExp hc ha hb).mono fun σ H Q ⟨κ, ρ, M, rs, rm, h⟩ => by
  simp only [wE] at h
  refine gT.go G.mo .refl rs rm h fun k M1 κ1 H1 q g1 m1 => ?_
  cases k with
  | true => exact gE.go G.mo g1 (rs.grow g1.toGrow) m1 q fun y M2 κ2 vy H2 p2 g2 r2 m2 => p2 κ2 vy H2 (g1.trans g2) r2 m2
  | false => exact gE.go G.mo g1 (rs.grow g1.toGrow) m1 q fun y M2 κ2 vy H2 p2 g2 r2 m2 => p2 κ2 vy H2 (g1.trans g2) r2 m2
/-! ### lists of expressions -/
theorem ja_nil : PA X [] (gA X Γ W .nil) := pa_nil.mono fun σ H Q ⟨κ, ρ, M, rs, rm, h⟩ => by
  simp only [wEs] at h
  exact h κ _ H .refl .nil rm
theorem ja_cons {es : Es} {es' : List Expr} (G : GOk X Γ W T) (ha : PE X a' (gE X Γ W a)) (hr : PA X es' (gA X Γ W es)) (hs : starEach (a' :: es') X.env = (false, eval a' X.env) :: starEach es' X.env) : PA X (a' :: es') (gA X Γ W (.cons a es)) := (pa_cons ha hr hs).mono fun σ H Q ⟨κ, ρ, M, rs, rm, h⟩ => by
  simp only [wEs] at h
  refine gE.go G.mo .refl rs rm h fun x M1 κ1 vx H1 q g1 r1 m1 => ?_
  refine gA.go G.mo g1 (rs.grow g1.toGrow) m1 q fun y M2 κ2 vy H2 p2 g2 r2 m2 => ?_
  exact p2 κ2 _ H2 (g1.trans g2) (.cons (r1.grow g2.toGrow) r2) m2
theorem j_tup {es : Es} {es' : List Expr} {k : Nat} (G : GOk X Γ W T) (h : PA X es' (gA X Γ W es)) : PE X (.Tuple es' k pos) (gE X Γ W (.tup es)) := (pe_tup h).mono fun σ H Q ⟨κ, ρ, M, rs, rm, h⟩ => by
  simp only [wE] at h
  refine gA.go G.mo .refl rs rm h fun ss M1 κ1 vs H1 ⟨xs, e, z, q⟩ g1 r1 m1 => ?_
  have rp := RSs.toP r1 e
  have hz : vs.length ≤ sizeLine := by rw [rp.length]; exact z
  exact ⟨hz, fun p hp => q κ1 _ _ (g1.trans (Gr.new m1 hp)) (rp_tup m1 hp hz rp) (m1.new hp)⟩
/-- a tuple that holds what may change -/
theorem j_mtup {es : Es} {es' : List Expr} {k : Nat} (G : GOk X Γ W T) (h : PA X es' (gA X Γ W es)) : PE X (.Tuple es' k pos) (gE X Γ W (.mtup es)) := (pe_tup h).mono fun σ H Q ⟨κ, ρ, M, rs, rm, h⟩ => by
  simp only [wE] at h
  refine gA.go G.mo .refl rs rm h fun ss M1 κ1 vs H1 ⟨z, q⟩ g1 r1 m1 => ?_
  have hz : vs.length ≤ sizeLine := by rw [r1.length]; exact z
  refine ⟨hz, fun p hp => ?_⟩
  have gm := Grow.more m1 hp (o := .tup vs)
  refine q (κ1.more p) _ _ (g1.trans ?_) (.l ?_) (m1.more hp ⟨vs, upd_same, hz, RSs.grow gm r1⟩)
  · exact Gr.more m1 hp
  · show (κ1.at_ ++ [p])[M1.length]? = some p
    rw [← m1.len, List.getElem?_append_right (Nat.le_refl _)]
    simp
theorem j_rev {k : Nat} {p1 p2 p3 : Pos} (G : GOk X Γ W T) (h : PE X a' (gE X Γ W a)) : PE X (.Subscript a' (.Slice none none (some (.UnaryOp .USub (.Constant (.int 1) k p1) p2)) p3) pos) (gE X Γ W (.rev a)) := (pe_revA h).mono fun σ H Q ⟨κ, ρ, M, rs, rm, h⟩ => by
  simp only [wE] at h
  refine gE.go G.mo .refl rs rm h fun x M1 κ1 v H1 q g1 r1 m1 => ?_
  unfold wRev at q
  split at q
  · cases r1 with
    | d r1 =>
      cases r1 with
      | lst t z r => exact ⟨_, _, rfl, .inl ⟨t.sq, fun p hp => q κ1 _ _ (g1.trans (Gr.new m1 hp)) (rp_lst m1 hp (by rw [List.length_reverse]; exact z) r.reverse) (m1.new hp)⟩⟩
  · cases r1 with
    | d r1 =>
      cases r1 with
      | tup t z r => exact ⟨_, _, rfl, .inr ⟨t.sq, fun p hp => q κ1 _ _ (g1.trans (Gr.new m1 hp)) (rp_tup m1 hp (by rw [List.length_reverse]; exact z) r.reverse) (m1.new hp)⟩⟩
  · obtain ⟨xs, hk, q⟩ := q
    cases r1 with
    | l h1 =>
      obtain ⟨ws, ha, z, r⟩ := m1.ob _ _ _ h1 hk
      exact ⟨_, _, rfl, .inl ⟨SqL.of ha, fun p hp => q κ1 _ _ (g1.trans (Gr.new m1 hp)) (rp_lst m1 hp (by rw [List.length_reverse]; exact z) (RSs.toP' r).reverse) (m1.new hp)⟩⟩
  · exact q.elim
/-! ### new lists -/
theorem j_fr {f : F} {e' : Expr} (G : GOk X Γ W T) (h : PE X e' (gF X Γ W f)) : PE X e' (gE X Γ W (.fr f)) := h.mono fun σ H Q ⟨κ, ρ, M, rs, rm, h⟩ => by
  simp only [wE] at h
  exact ⟨κ, ρ, M, rs, rm, mF G.mo f ρ _ _ _ _ _ (fun ss M1 ⟨xs, e, q⟩ => PostL.fr q e) (fun _ _ q => q) h⟩
theorem j_al {f : F} {e' : Expr} (G : GOk X Γ W T) (h : PE X e' (gF X Γ W f)) : PE X e' (gE X Γ W (.al f)) := h.mono fun σ H Q ⟨κ, ρ, M, rs, rm, h⟩ => by
  simp only [wE] at h
  exact ⟨κ, ρ, M, rs, rm, mF G.mo f ρ _ _ _ _ _ (fun ss M1 q => PostL.al q) (fun _ _ q => q) h⟩
theorem jf_disp {es : Es} {es' : List Expr} (G : GOk X Γ W T) (h : PA X es' (gA X Γ W es)) : PE X (.List es' pos) (gF X Γ W (.disp es)) := (pe_lst h).mono fun σ H Q ⟨κ, ρ, M, rs, rm, h⟩ => by
  simp only [wF, wDisp] at h
  refine gA.go G.mo .refl rs rm h fun ss M1 κ1 vs H1 ⟨z, q⟩ g1 r1 m1 => ?_
  have hz : vs.length ≤ sizeLine := by rw [r1.length]; exact z
  exact ⟨hz, fun p hp => (q.grow g1).new m1 hp hz r1⟩
theorem jf_cat (G : GOk X Γ W T) (ha : PE X a' (gE X Γ W a)) (hb : PE X b' (gE X Γ W b)) : PE X (.BinOp a' .Add b' pos) (gF X Γ W (.cat a b)) := (pe_op ok_cat ha hb).mono fun σ H Q ⟨κ, ρ, M, rs, rm, h⟩ => by
  simp only [wF] at h
  refine gE.go G.mo .refl rs rm h fun x M1 κ1 vx H1 p1 g1 r1 m1 => ?_
  refine gE.go G.mo g1 (rs.grow g1.toGrow) m1 p1 fun y M2 κ2 vy H2 ⟨xs, ys, t1, t2, e1, e2, z, q⟩ g2 r2 m2 => ?_
  exact ⟨κ2, M2, x, y, xs, ys, m2, r1.grow g2.toGrow, r2, t1, t2, e1, e2, z, q.grow (g1.trans g2)⟩
theorem jf_rep (G : GOk X Γ W T) (ha : PE X a' (gE X Γ W a)) (hb : PE X b' (gE X Γ W b)) : PE X (.BinOp a' .Mult b' pos) (gF X Γ W (.rep a b)) := (pe_op ok_rep ha hb).mono fun σ H Q ⟨κ, ρ, M, rs, rm, h⟩ => by
  simp only [wF] at h
  refine gE.go G.mo .refl rs rm h fun x M1 κ1 vx H1 p1 g1 r1 m1 => ?_
  refine gE.go G.mo g1 (rs.grow g1.toGrow) m1 p1 fun y M2 κ2 vy H2 ⟨xs, j, t1, e1, ey, z, q⟩ g2 r2 m2 => ?_
  exact ⟨κ2, M2, x, y, xs, j, m2, r1.grow g2.toGrow, r2, t1, e1, ey, z, q.grow (g1.trans g2)⟩
/-! ### parts of a slice -/
theorem jo_none : PO X none (gO X Γ W .none) := po_none.mono fun σ H Q ⟨κ, ρ, M, rs, rm, h⟩ => by
  simp only [wO] at h
  exact h κ H .refl rm
theorem jo_some (G : GOk X Γ W T) (ha : PE X a' (gE X Γ W a)) : PO X (some a') (gO X Γ W (.some a)) := (po_some ha).mono fun σ H Q ⟨κ, ρ, M, rs, rm, h⟩ => by
  simp only [wO] at h
  refine gE.go G.mo .refl rs rm h fun x M1 κ1 v H1 ⟨i, e, h⟩ g r m => ?_
  unfold int? at e
  split at e
  · cases e
    cases r with
    | d r => cases r; exact ⟨_, rfl, h _ _ g m⟩
  · cases e
theorem jf_slice {lo hi : Oe} {lo' hi' : Option Expr} (G : GOk X Γ W T) (ha : PE X a' (gE X Γ W a)) (hl : PO X lo' (gO X Γ W lo)) (hh : PO X hi' (gO X Γ W hi)) : PE X (.Subscript a' (.Slice lo' hi' none p2) pos) (gF X Γ W (.slice a lo hi)) := (pe_slice ok_slL ha hl hh).mono fun σ H Q ⟨κ, ρ, M, rs, rm, h⟩ => by
  simp only [wF] at h
  refine gE.go G.mo .refl rs rm h fun x M1 κ1 vx H1 p1 g1 r1 m1 => ?_
  refine gO.go G.mo g1 (rs.grow g1.toGrow) m1 p1 fun l M2 κ2 H2 p2 g2 m2 => ?_
  have g12 := g1.trans g2
  refine gO.go G.mo g12 (rs.grow g12.toGrow) m2 p2 fun u M3 κ3 H3 ⟨xs, t, e, q⟩ g3 m3 => ?_
  exact ⟨κ3, M3, x, xs, m3, r1.grow (g2.trans g3).toGrow, t, e, q.grow (g12.trans g3)⟩
theorem j_sl {lo hi : Oe} {lo' hi' : Option Expr} (G : GOk X Γ W T) (ha : PE X a' (gE X Γ W a)) (hl : PO X lo' (gO X Γ W lo)) (hh : PO X hi' (gO X Γ W hi)) : PE X (.Subscript a' (.Slice lo' hi' none p2) pos) (gE X Γ W (.sl a lo hi)) := (pe_slice ok_sl ha hl hh).mono fun σ H Q ⟨κ, ρ, M, rs, rm, h⟩ => by
  simp only [wE] at h
  refine gE.go G.mo .refl rs rm h fun x M1 κ1 vx H1 p1 g1 r1 m1 => ?_
  refine gO.go G.mo g1 (rs.grow g1.toGrow) m1 p1 fun l M2 κ2 H2 p2 g2 m2 => ?_
  have g12 := g1.trans g2
  refine gO.go G.mo g12 (rs.grow g12.toGrow) m2 p2 fun u M3 κ3 H3 q g3 m3 => ?_
  exact ⟨κ3, M3, x, m3, r1.grow (g2.trans g3).toGrow, wSl_mo (fun z M4 q => q.grow (g12.trans g3)) q⟩
theorem j_ix (G : GOk X Γ W T) (ha : PE X a' (gE X Γ W a)) (hb : PE X b' (gE X Γ W b)) (hs : PlainIx b') : PE X (.Subscript a' b' pos) (gE X Γ W (.ix a b)) := (pe_ix (ok_ix G.hu) ha hb hs).mono fun σ H Q ⟨κ, ρ, M, rs, rm, h⟩ => by
  simp only [wE] at h
  refine gE.go G.mo .refl rs rm h fun x M1 κ1 vx H1 p1 g1 r1 m1 => ?_
  refine gE.go G.mo g1 (rs.grow g1.toGrow) m1 p1 fun y M2 κ2 vy H2 p2 g2 r2 m2 => ?_
  exact ⟨κ2, M2, x, y, m2, r1.grow g2.toGrow, r2, wIx_mo (fun z M3 q => q.grow (g1.trans g2)) p2⟩
end
end G

/-! Layer G, part 4b: calls of built-ins, methods, functions. -/
namespace G
open PySem L2 PySem.Spec PyProof.Rows

/-! ### shapes of the text -/
theorem star_cons {e : Expr} {es : List Expr} {env : PySem.Env} (h : nostar e = true) : starEach (e :: es) env = (false, eval e env) :: starEach es env := by
  cases e <;> first | rfl | cases h
theorem star_any {env : PySem.Env} {pos : Pos} : ∀ {es : List Expr}, es.all nostar = true → (backTo pos (starEach es env)).any (·.1) = false
  | [], _ => rfl
  | e :: es, h => by
    rw [List.all_cons, Bool.and_eq_true] at h
    rw [star_cons h.1]
    show (false || (backTo pos (starEach es env)).any (·.1)) = false
    rw [star_any h.2] <;> rfl
theorem star_all {env : PySem.Env} {pos : Pos} : ∀ {es : List Expr}, es.all nostar = true → (backTo pos (starEach es env)).all (fun x => !x.1) = true
  | [], _ => rfl
  | e :: es, h => by
    rw [List.all_cons, Bool.and_eq_true] at h
    rw [star_cons h.1]
    show (true && (backTo pos (starEach es env)).all (fun x => !x.1)) = true
    rw [star_all h.2] <;> rfl
/-- o of o.m(..): not super() -/
def abOk : Expr → Bool
  | .Call (.Name _ _) [] [] _ => false
  | _ => true
theorem ab_of {o : Expr} {m : Str} {env : PySem.Env} (h : abOk o = true) : attributeBase o m env (eval o env) = eval o env := by
  unfold attributeBase
  split
  · cases h
  · rfl
def notSlice : Expr → Bool
  | .Slice .. => false
  | _ => true
theorem plainIx_of {b : Expr} (h : notSlice b = true) : PlainIx b := by
  intro o i
  cases b <;> first | rfl | cases h
def notComp : Expr → Bool
  | .ListComp .. => false
  | .SetComp .. => false
  | .DictComp .. => false
  | _ => true
theorem sw_of {e : Expr} {t : Option Expr} {l : Nat} {env : PySem.Env} (h : notComp e = true) : swapsWith e t l env = pure false := by
  cases e <;> first | rfl | cases h
def notSet : Expr → Bool
  | .Set .. => false
  | _ => true
theorem fs_of {e : Expr} {env : PySem.Env} (h : notSet e = true) : ∀ x, foldedSetIterable e env x = pure x := by
  intro x
  cases e <;> first | rfl | cases h
/-- what is tested by its value -/
def plainT : Expr → Bool
  | .BoolOp .. => false
  | .Compare .. => false
  | .UnaryOp .Not _ _ => false
  | .IfExp .. => false
  | .NamedExpr .. => false
  | _ => true
theorem plain_of {e : Expr} {env : PySem.Env} (h : plainT e = true) : ∀ whole, isTrue e env whole = (do let v ← whole; standAt e.pos; holding [v] (truthy v)) := by
  intro whole
  cases e <;> first
    | rfl
    | cases h
    | (rename_i op _ _; cases op <;> first | rfl | cases h)

section
variable {X : Cx} {Γ : Env} {W : WX} {κ κ0 : Loc} {H H0 : Hp} {ρ : Sto} {σ : L2.St} {M : Mem} {T : CT} {a b c : E} {a' b' c' : Expr} {pos p p2 p3 : Pos}
/-! ### built-in functions -/
theorem b1_core {f : B1} {e' : Expr} (G : GOk X Γ W T) (h : PE X e' (tCB (r1 X.K (wB1 f)) (tCons (gE X Γ W a) tNil))) : PE X e' (gE X Γ W (.b1 f a)) := h.mono fun σ H Q ⟨κ, ρ, M, rs, rm, h⟩ => by
  simp only [wE] at h
  refine gE.go G.mo .refl rs rm h fun x M1 κ1 vx H1 p1 g1 r1 m1 => ?_
  exact ⟨κ1, M1, vx, x, rfl, m1, r1, wB1_mo (fun z M2 q => q.grow g1) p1⟩
def b1N : B1 → Option Str
  | .len => some "len"
  | .tuple => some "tuple"
  | .list => some "list"
  | .int => some "int"
  | .bool => some "bool"
  | .str => some "str"
  | .repr => some "repr"
  | .abs => some "abs"
  | .sum => some "sum"
  | .all => some "all"
  | .any => some "any"
  | .max => some "max"
  | .min => some "min"
  | .sorted => some "sorted"
  | .sortedP => some "sorted"
  | _ => none
def b1C : B1 → Bool
  | .sum => true
  | .all => true
  | .any => true
  | .max => true
  | .min => true
  | _ => false
theorem j_b1 (G : GOk X Γ W T) (f : B1) {n : Str} (hn : b1N f = some n) (hc : b1C f = true → T.cm = true) (hg : Gl X n) (ha : PE X a' (gE X Γ W a)) (ns : nostar a' = true) : PE X (.Call (.Name n p) [a'] [] pos) (gE X Γ W (.b1 f a)) := by
  have pa := pa_cons ha pa_nil (star_cons ns)
  cases f <;> first | cases hn | skip
  case len => exact b1_core G (pe_callB ok_len hg (G.bt _ (by decide)) boot_len pa (he := star_cons ns))
  case tuple => exact b1_core G (pe_callTy ok_tuple hg (G.bt _ (by decide)) PyProof.Rows.boot_tuple pa (he := star_cons ns))
  case list => exact b1_core G (pe_callTy ok_list hg (G.bt _ (by decide)) PyProof.Rows.boot_list pa (he := star_cons ns))
  case int => exact b1_core G (pe_callTy ok_int hg (G.bt _ (by decide)) PyProof.Rows.boot_int pa (he := star_cons ns))
  case bool => exact b1_core G (pe_callTy ok_bool hg (G.bt _ (by decide)) PyProof.Rows.boot_bool pa (he := star_cons ns))
  case str => exact b1_core G (pe_callTy ok_str hg (G.bt _ (by decide)) PyProof.Rows.boot_str pa (he := star_cons ns))
  case repr => exact b1_core G (pe_callB (ok_repr G.hu G.gu) hg (G.bt _ (by decide)) PyProof.Rows.boot_repr pa (he := star_cons ns))
  case abs => exact b1_core G (pe_callB ok_abs hg (G.bt _ (by decide)) PyProof.Rows.boot_abs pa (he := star_cons ns))
  case sum => exact b1_core G (pe_callB (ok_sum (G.calm (hc rfl))) hg (G.bt _ (by decide)) PyProof.Rows.boot_sum pa (he := star_cons ns))
  case all => exact b1_core G (pe_callB (ok_all (G.calm (hc rfl))) hg (G.bt _ (by decide)) PyProof.Rows.boot_all pa (he := star_cons ns))
  case any => exact b1_core G (pe_callB (ok_any (G.calm (hc rfl))) hg (G.bt _ (by decide)) PyProof.Rows.boot_any pa (he := star_cons ns))
  case max => exact b1_core G (pe_callB (ok_max (G.calm (hc rfl)) G.hu) hg (G.bt _ (by decide)) PyProof.Rows.boot_max pa (he := star_cons ns))
  case min => exact b1_core G (pe_callB (ok_min (G.calm (hc rfl)) G.hu) hg (G.bt _ (by decide)) PyProof.Rows.boot_min pa (he := star_cons ns))
  case sorted => exact b1_core G (pe_callB ok_sorted hg (G.bt _ (by decide)) PyProof.Rows.boot_sorted pa (he := star_cons ns))
  case sortedP => exact b1_core G (pe_callB ok_sortedP hg (G.bt _ (by decide)) PyProof.Rows.boot_sorted pa (he := star_cons ns))
theorem j_sortedR {j : Nat} {p2 q : Pos} (G : GOk X Γ W T) (hg : Gl X "sorted") (ha : PE X a' (gE X Γ W a)) (ns : nostar a' = true) : PE X (.Call (.Name "sorted" p) [a'] [⟨some (Str.ofString "reverse"), .Constant (.bool true) j p2, q⟩] pos) (gE X Γ W (.b1 .sortedR a)) := by
  have pa := pa_cons ha pa_nil (star_cons ns)
  have h := pe_callBK (pos := pos) (p := p) ok_sortedR hg (G.bt _ (by decide)) PyProof.Rows.boot_sorted pa (pk_cons (nm := some (Str.ofString "reverse")) (kpos := q) (pe_bl (X := X) (b := true) (j := j) (pos := p2)) pk_nil) (he := by rw [star_cons ns]; rfl) (hpl := star_any (by simp [ns]))
  refine h.mono fun σ H Q ⟨κ, ρ, M, rs, rm, h⟩ => ?_
  simp only [wE] at h
  refine gE.go G.mo .refl rs rm h fun x M1 κ1 vx H1 p1 g1 r1 m1 => ?_
  exact ⟨rfl, κ1, M1, vx, x, rfl, m1, r1, wB1_mo (fun z M2 q => q.grow g1) p1⟩
/-- tuple(reversed(x)), x a list -/
theorem j_tupR {p2 q : Pos} (G : GOk X Γ W T) (hc : T.cm = true) (hg : Gl X "tuple") (hg2 : Gl X "reversed") (ha : PE X a' (gE X Γ W a)) (ns : nostar a' = true) : PE X (.Call (.Name "tuple" p) [.Call (.Name "reversed" p2) [a'] [] q] [] pos) (gE X Γ W (.b1 .tupR a)) := (RT.pe_tupRev (G.calm hc) hg (G.bt _ (by decide)) hg2 (G.bt _ (by decide)) ha (star_cons ns)).mono fun σ H Q ⟨κ, ρ, M, rs, rm, h⟩ => by
  simp only [wE] at h
  refine gE.go G.mo .refl rs rm h fun x M1 κ1 v H1 q g1 r1 m1 => ?_
  dsimp only [wB1] at q
  split at q
  · cases r1 with
    | d r1 =>
      cases r1 with
      | lst t z r => exact ⟨_, _, rfl, t.sq, fun p hp => q κ1 _ _ (g1.trans (Gr.new m1 hp)) (rp_tup m1 hp (by rw [List.length_reverse]; exact z) r.reverse) (m1.new hp)⟩
  · obtain ⟨xs, hk, q⟩ := q
    cases r1 with
    | l h1 =>
      obtain ⟨ws, ha, z, r⟩ := m1.ob _ _ _ h1 hk
      exact ⟨_, _, rfl, SqL.of ha, fun p hp => q κ1 _ _ (g1.trans (Gr.new m1 hp)) (rp_tup m1 hp (by rw [List.length_reverse]; exact z) (RSs.toP' r).reverse) (m1.new hp)⟩
  · exact q.elim
/-- len(set(x)), ints, none twice -/
theorem keys_len {ns ks : List Int} (h1 : ns.Nodup) (h2 : ks.Nodup) (h : ∀ k, decide (k ∈ ns) = true ↔ k ∈ ks) : ks.length = ns.length := by
  refine (List.Perm.length_eq ?_)
  refine (List.perm_ext_iff_of_nodup h2 h1).mpr fun k => ?_
  rw [← h k, decide_eq_true_eq]
theorem pe_lenset {p2 q : Pos} (G : GOk X Γ W T) (hc : T.cm = true) (hg : Gl X "len") (hg2 : Gl X "set") (ha : PE X a' (gE X Γ W a)) (ns : nostar a' = true) : PE X (.Call (.Name "len" p) [.Call (.Name "set" p2) [a'] [] q] [] pos) (tCB (r1 X.K (wB1 .set)) (tCons (gE X Γ W a) tNil)) := by
  refine ⟨fun pins s σ H Q I h => ?_⟩
  refine Call_ (ld_blt I hg (G.bt _ (by decide)) boot_len ?_)
  refine PyProof.Rows.callWith_builtin1 (PyProof.Rows.args_cons ?_ rfl) rfl rfl
  refine Call_ (ld_blt I hg2 (G.bt _ (by decide)) PyProof.Rows.boot_set ?_)
  refine PyProof.Rows.callWith_type1 (PyProof.Rows.args_cons (thn (ha.run pins s σ H _ I h) fun v s1 ⟨x, H1, I1, r1, q1⟩ => PyProof.Rows.args_nil ?_) (star_cons ns)) (star_cons ns) rfl
  obtain ⟨κ, M, x', sx, e, hm, h1, q1⟩ := q1
  cases e
  have main : ∃ (l : Addr) (ns : List Int), x = .ref l ∧ (SqL X.K H1 l (ns.map V.int) ∨ SqT X.K H1 l (ns.map V.int)) ∧ ns.Nodup ∧ ns.length ≤ 4000 ∧ Q (.int (ns.length : Nat)) H1 := by
    dsimp only [wB1] at q1
    split at q1
    · obtain ⟨ns, rfl, ⟨n1, n2⟩, q1⟩ := q1
      cases h1 with
      | d h1 =>
        cases h1 with
        | lst t z r =>
          cases rp_ints_eq r
          exact ⟨_, ns, rfl, .inl t.sq, n1, n2, q1.at (.d (.int _)) hm⟩
    · obtain ⟨ns, rfl, ⟨n1, n2⟩, q1⟩ := q1
      cases h1 with
      | d h1 =>
        cases h1 with
        | tup t z r =>
          cases rp_ints_eq r
          exact ⟨_, ns, rfl, .inr t.sq, n1, n2, q1.at (.d (.int _)) hm⟩
    · obtain ⟨ns, hk, ⟨n1, n2⟩, q1⟩ := q1
      cases h1 with
      | l h1 =>
        obtain ⟨ws, ha, z, r⟩ := hm.ob _ _ _ h1 hk
        cases rp_ints_eq (RSs.toP' r)
        exact ⟨_, ns, rfl, .inl (SqL.of ha), n1, n2, q1.at (.d (.int _)) hm⟩
    · exact q1.elim
  obtain ⟨l, ns, rfl, hq, hnd, hl, q1⟩ := main
  cases r1
  rcases hq with hq | hq
  · obtain ⟨its, r, pl, hz⟩ := I1.list hq
    have hlen : its.toArray.size = ns.length := by rw [List.size_toArray, ← r.length, List.length_map]
    refine call_set_list (I1.ok.hd (G.calm hc)) pl.isList (by simpa using RZ.intsAre_vals r) (by rw [hlen]; unfold scanBound; omega) fun h' tk hS hk => ?_
    refine PyProof.Rows.args_nil ?_
    rw [hlen, RZ.firstMet_nodup hnd ns.length (Nat.le_refl _), List.take_length] at hS
    obtain ⟨o, es, ep, t, ho, hex, hd, _, _, _, hf, hn⟩ := hS
    have I2 : Inv X pins σ H1 { s1 with heap := h', toks := tk } := I1.kept fun b o e => hk b o (Heap.lt_size e) e
    exact call_len_set ho hex hd hf (by rw [hn] <;> omega) ⟨.int ns.length, H1, I2.tok _, ⟨_, by rw [hn]⟩, q1⟩
  · obtain ⟨its, r, pl, hz⟩ := I1.tuple hq
    refine call_set_tupI ns (I1.ok.hd (G.calm hc)) pl (by simpa using RZ.intsAre_vals r) (by unfold scanBound; omega) fun h' tk c hS hcn hk => ?_
    refine PyProof.Rows.args_nil ?_
    obtain ⟨o, es, ep, t, ho, hex, hd, g, nd, hm2, hb, hf, hn, hr, hl2⟩ := hS
    have I2 : Inv X pins σ H1 { s1 with heap := h', toks := tk } := I1.kept fun b o e => hk b o e
    have hn2 : es.size = ns.length := by
      have := keys_len hnd nd hm2
      rwa [List.length_map, Array.length_toList] at this
    exact call_len_set ho hex hd hf (by rw [hn2] <;> omega) ⟨.int ns.length, H1, I2.tok _, ⟨_, by rw [hn2]⟩, q1⟩
theorem j_lenset {p2 q : Pos} (G : GOk X Γ W T) (hc : T.cm = true) (hg : Gl X "len") (hg2 : Gl X "set") (ha : PE X a' (gE X Γ W a)) (ns : nostar a' = true) : PE X (.Call (.Name "len" p) [.Call (.Name "set" p2) [a'] [] q] [] pos) (gE X Γ W (.b1 .set a)) :=
  b1_core G (pe_lenset G hc hg hg2 ha ns)
theorem met_dedup {f : Nat → Int} : ∀ n, (firstMet f n).Nodup
  | 0 => by
    rw [firstMet_zero]
    exact List.nodup_nil
  | n + 1 => by
    rw [firstMet_succ]
    unfold step_dedup
    split
    · exact met_dedup n
    · rename_i c
      refine List.nodup_append.mpr ⟨met_dedup n, by simp, fun a ha b hb e => c ?_⟩
      rw [List.mem_singleton] at hb
      rw [List.any_eq_true]
      exact ⟨a, ha, by simp [e, hb]⟩
theorem met_mem {ns : List Int} {z : Int} : z ∈ firstMet (fun i => ns.getD i 0) ns.length ↔ z ∈ ns := by
  have e := firstMet_any (fun i => ns.getD i 0) ns.length z
  have e2 : (List.range ns.length).map (fun i => ns.getD i 0) = ns := by
    apply List.ext_getElem
    · simp
    · intro i h1 h2
      simp at h1
      simp [h1]
  rw [e2] at e
  have g : ∀ l : List Int, l.any (· == z) = true ↔ z ∈ l := fun l => by simp
  rw [← g, ← g, e]
theorem pe_lensetL {p2 q : Pos} (G : GOk X Γ W T) (hc : T.cm = true) (hg : Gl X "len") (hg2 : Gl X "set") (ha : PE X a' (gE X Γ W a)) (ns : nostar a' = true) : PE X (.Call (.Name "len" p) [.Call (.Name "set" p2) [a'] [] q] [] pos) (tCB (r1 X.K (wB1 .setL)) (tCons (gE X Γ W a) tNil)) := by
  refine ⟨fun pins s σ H Q I h => ?_⟩
  refine Call_ (ld_blt I hg (G.bt _ (by decide)) boot_len ?_)
  refine PyProof.Rows.callWith_builtin1 (PyProof.Rows.args_cons ?_ rfl) rfl rfl
  refine Call_ (ld_blt I hg2 (G.bt _ (by decide)) PyProof.Rows.boot_set ?_)
  refine PyProof.Rows.callWith_type1 (PyProof.Rows.args_cons (thn (ha.run pins s σ H _ I h) fun v s1 ⟨x, H1, I1, r1, q1⟩ => PyProof.Rows.args_nil ?_) (star_cons ns)) (star_cons ns) rfl
  obtain ⟨κ, M, x', sx, e, hm, h1, q1⟩ := q1
  cases e
  dsimp only [wB1] at q1
  split at q1
  · obtain ⟨ns, rfl, n2, q1⟩ := q1
    cases h1 with
    | d h1 =>
      cases h1 with
      | lst t z r =>
        cases rp_ints_eq r
        cases r1
        obtain ⟨its, r, pl, hz⟩ := I1.list t.sq
        have hlen : its.toArray.size = ns.length := by rw [List.size_toArray, ← r.length, List.length_map]
        refine call_set_list (I1.ok.hd (G.calm hc)) pl.isList (by simpa using RZ.intsAre_vals r) (by rw [hlen]; unfold scanBound; omega) fun h' tk hS hk => ?_
        refine PyProof.Rows.args_nil ?_
        rw [hlen] at hS
        have le := firstMet_length_le (fun i => ns.getD i 0) ns.length
        have q2 := q1 _ (met_dedup ns.length) fun z => met_mem
        generalize firstMet (fun i => ns.getD i 0) ns.length = ks at hS le q2
        obtain ⟨o, es, ep, t, ho, hex, hd, _, _, _, hf, hn⟩ := hS
        have I2 : Inv X pins σ H1 { s1 with heap := h', toks := tk } := I1.kept fun b o e => hk b o (Heap.lt_size e) e
        exact call_len_set ho hex hd hf (by rw [hn] <;> omega) ⟨.int ks.length, H1, I2.tok _, ⟨_, by rw [hn]⟩, q2.at (.d (.int _)) hm⟩
  · exact q1.elim
theorem j_lensetL {p2 q : Pos} (G : GOk X Γ W T) (hc : T.cm = true) (hg : Gl X "len") (hg2 : Gl X "set") (ha : PE X a' (gE X Γ W a)) (ns : nostar a' = true) : PE X (.Call (.Name "len" p) [.Call (.Name "set" p2) [a'] [] q] [] pos) (gE X Γ W (.b1 .setL a)) :=
  b1_core G (pe_lensetL G hc hg hg2 ha ns)
theorem b2_core {f : B2} {e' : Expr} (G : GOk X Γ W T) (h : PE X e' (tCB (rB2 X.K f) (tCons (gE X Γ W a) (tCons (gE X Γ W b) tNil)))) : PE X e' (gE X Γ W (.b2 f a b)) := h.mono fun σ H Q ⟨κ, ρ, M, rs, rm, h⟩ => by
  simp only [wE] at h
  refine gE.go G.mo .refl rs rm h fun x M1 κ1 vx H1 p1 g1 r1 m1 => ?_
  refine gE.go G.mo g1 (rs.grow g1.toGrow) m1 p1 fun y M2 κ2 vy H2 p2 g2 r2 m2 => ?_
  exact ⟨κ2, M2, vx, vy, x, y, rfl, m2, r1.grow g2.toGrow, r2, wB2_mo (fun z M3 q => q.grow (g1.trans g2)) p2⟩
theorem j_b2 (G : GOk X Γ W T) (hc : T.cm = true) (f : B2) {n : Str} (hn : (f = .max ∧ n = "max") ∨ (f = .min ∧ n = "min")) (hg : Gl X n) (ha : PE X a' (gE X Γ W a)) (hb : PE X b' (gE X Γ W b)) (na : nostar a' = true) (nb : nostar b' = true) :
    PE X (.Call (.Name n p) [a', b'] [] pos) (gE X Γ W (.b2 f a b)) := by
  have pa := pa_cons ha (pa_cons hb pa_nil (star_cons nb)) (star_cons na)
  have hpl : (backTo pos (starEach [b'] X.env)).any (·.1) = false := star_any (by simp [nb])
  rcases hn with ⟨rfl, rfl⟩ | ⟨rfl, rfl⟩
  · exact b2_core G (pe_callB (ok_max2 (G.calm hc)) hg (G.bt _ (by decide)) PyProof.Rows.boot_max pa (he := star_cons na) (hpl := hpl))
  · exact b2_core G (pe_callB (ok_min2 (G.calm hc)) hg (G.bt _ (by decide)) PyProof.Rows.boot_min pa (he := star_cons na) (hpl := hpl))
/-! ### isinstance -/
theorem six_boot {t : String} (h : t ∈ six) : (Str.ofString t) ∈ bnames ∨ t = "dict" := by
  simp only [six, List.mem_cons, List.not_mem_nil, or_false] at h
  rcases h with rfl | rfl | rfl | rfl | rfl | rfl <;> first | exact .inl (by decide) | exact .inr rfl
theorem pe_six (G : GOk X Γ W T) {t : String} (h : t ∈ six) (hg : Gl X (Str.ofString t)) : PE X (.Name (Str.ofString t) p) (tC (.ty t)) := by
  simp only [six, List.mem_cons, List.not_mem_nil, or_false] at h
  rcases h with rfl | rfl | rfl | rfl | rfl | rfl
  · exact pe_bltn hg (G.bt _ (by decide)) PyProof.Rows.boot_int rfl
  · exact pe_bltn hg (G.bt _ (by decide)) PyProof.Rows.boot_bool rfl
  · exact pe_bltn hg (G.bt _ (by decide)) PyProof.Rows.boot_str rfl
  · exact pe_bltn hg (G.bt _ (by decide)) PyProof.Rows.boot_list rfl
  · exact pe_bltn hg (G.bt _ (by decide)) PyProof.Rows.boot_tuple rfl
  · exact pe_bltn hg (G.bt _ (by decide)) PyProof.Rows.boot_dict rfl
theorem j_isi (G : GOk X Γ W T) {t : String} (h6 : t ∈ six) (hg : Gl X "isinstance") (ht : Gl X (Str.ofString t)) (ha : PE X a' (gE X Γ W a)) (na : nostar a' = true) : PE X (.Call (.Name "isinstance" p) [a', .Name (Str.ofString t) p2] [] pos) (gE X Γ W (.isI a [t])) := by
  have pa := pa_cons ha (pa_cons (pe_six (p := p2) G h6 ht) pa_nil (star_cons rfl)) (star_cons na)
  refine (pe_callB (ok_isi h6) hg (G.bt _ (by decide)) PyProof.Rows.boot_isinstance pa (he := star_cons na) (hpl := star_any rfl)).mono fun σ H Q ⟨κ, ρ, M, rs, rm, h⟩ => ?_
  simp only [wE] at h
  refine gE.go G.mo .refl rs rm h fun x M1 κ1 vx H1 ⟨bs, e, q⟩ g1 r1 m1 => ?_
  exact ⟨κ1, M1, vx, x, rfl, m1, r1, bs, e, q.grow g1⟩
/-- the classes' names -/
def tyNames : List Expr → List String → Bool
  | [], [] => true
  | .Name n _ :: es, t :: ts => decide (n = Str.ofString t) && (decide (t ∈ six) && tyNames es ts)
  | _, _ => false
theorem pa_tys (G : GOk X Γ W T) : ∀ {es : List Expr} {ts : List String}, (∀ t ∈ ts, Gl X (Str.ofString t)) → tyNames es ts = true → PA X es (fun σ H Q => Q (ts.map V.ty) H)
  | [], [], _, _ => pa_nil
  | [], _ :: _, hgl, h => by simp [tyNames] at h
  | .Name n q :: es, t :: ts, hgl, h => by
    simp only [tyNames, Bool.and_eq_true, decide_eq_true_eq] at h
    obtain ⟨rfl, h6, h⟩ := h
    exact (pa_cons (pe_six G h6 (hgl t List.mem_cons_self)) (pa_tys G (fun t ht => hgl t (List.mem_cons_of_mem _ ht)) h) (star_cons rfl)).mono fun σ H Q q => q
  | .Name _ _ :: _, [], hgl, h => by simp [tyNames] at h
  | .BoolOp .. :: _, _, hgl, h => by simp [tyNames] at h
  | .NamedExpr .. :: _, _, hgl, h => by simp [tyNames] at h
  | .BinOp .. :: _, _, hgl, h => by simp [tyNames] at h
  | .UnaryOp .. :: _, _, hgl, h => by simp [tyNames] at h
  | .Lambda .. :: _, _, hgl, h => by simp [tyNames] at h
  | .IfExp .. :: _, _, hgl, h => by simp [tyNames] at h
  | .Dict .. :: _, _, hgl, h => by simp [tyNames] at h
  | .Set .. :: _, _, hgl, h => by simp [tyNames] at h
  | .ListComp .. :: _, _, hgl, h => by simp [tyNames] at h
  | .SetComp .. :: _, _, hgl, h => by simp [tyNames] at h
  | .DictComp .. :: _, _, hgl, h => by simp [tyNames] at h
  | .GeneratorExp .. :: _, _, hgl, h => by simp [tyNames] at h
  | .Await .. :: _, _, hgl, h => by simp [tyNames] at h
  | .Yield .. :: _, _, hgl, h => by simp [tyNames] at h
  | .YieldFrom .. :: _, _, hgl, h => by simp [tyNames] at h
  | .Compare .. :: _, _, hgl, h => by simp [tyNames] at h
  | .Call .. :: _, _, hgl, h => by simp [tyNames] at h
  | .FormattedValue .. :: _, _, hgl, h => by simp [tyNames] at h
  | .JoinedStr .. :: _, _, hgl, h => by simp [tyNames] at h
  | .Constant .. :: _, _, hgl, h => by simp [tyNames] at h
  | .Attribute .. :: _, _, hgl, h => by simp [tyNames] at h
  | .Subscript .. :: _, _, hgl, h => by simp [tyNames] at h
  | .Starred .. :: _, _, hgl, h => by simp [tyNames] at h
  | .List .. :: _, _, hgl, h => by simp [tyNames] at h
  | .Tuple .. :: _, _, hgl, h => by simp [tyNames] at h
  | .Slice .. :: _, _, hgl, h => by simp [tyNames] at h
theorem tyNames_six : ∀ {es : List Expr} {ts : List String}, tyNames es ts = true → (∀ t ∈ ts, t ∈ six) ∧ es.length = ts.length
  | [], [], _ => ⟨by simp, rfl⟩
  | [], _ :: _, h => by simp [tyNames] at h
  | e :: es, [], h => by cases e <;> simp [tyNames] at h
  | e :: es, t :: ts, h => by
    cases e <;> simp only [tyNames, Bool.false_eq_true] at h
    simp only [Bool.and_eq_true, decide_eq_true_eq] at h
    obtain ⟨_, h6, h⟩ := h
    obtain ⟨i1, i2⟩ := tyNames_six h
    refine ⟨fun x hx => ?_, by rw [List.length_cons, List.length_cons, i2]⟩
    rcases List.mem_cons.mp hx with rfl | hx
    · exact h6
    · exact i1 x hx
theorem j_isiT (G : GOk X Γ W T) {es : List Expr} {ts : List String} {k : Nat} (hn : tyNames es ts = true) (hz : ts.length < 1000) (hne : ts ≠ []) (hgl : ∀ t ∈ ts, Gl X (Str.ofString t)) (hg : Gl X "isinstance") (ha : PE X a' (gE X Γ W a)) (na : nostar a' = true) :
    PE X (.Call (.Name "isinstance" p) [a', .Tuple es k p2] [] pos) (gE X Γ W (.isI a ts)) := by
  have pa := pa_cons ha (pa_cons (pe_tup (x1 := k) (pos := p2) (pa_tys G hgl hn)) pa_nil (star_cons rfl)) (star_cons na)
  refine (pe_callB (ok_isiT (tyNames_six hn).1 hne) hg (G.bt _ (by decide)) PyProof.Rows.boot_isinstance pa (he := star_cons na) (hpl := star_any rfl)).mono fun σ H Q ⟨κ, ρ, M, rs, rm, h⟩ => ?_
  simp only [wE] at h
  refine gE.go G.mo .refl rs rm h fun x M1 κ1 vx H1 ⟨bs, e, q⟩ g1 r1 m1 => ?_
  refine ⟨by rw [List.length_map, sizeLine_eq]; omega, fun q' hq => ?_⟩
  exact ⟨κ1, M1, vx, q', x, rfl, upd_same, m1.new hq, r1.grow (Grow.new m1 hq), bs, e, q.grow (g1.trans (Gr.new m1 hq))⟩
/-! ### list(x) that may change; x[::-1] -/
theorem jf_listOf (G : GOk X Γ W T) (hg : Gl X "list") (ha : PE X a' (gE X Γ W a)) (na : nostar a' = true) : PE X (.Call (.Name "list" p) [a'] [] pos) (gF X Γ W (.listOf a)) := by
  refine (pe_callTy ok_listOf hg (G.bt _ (by decide)) PyProof.Rows.boot_list (pa_cons ha pa_nil (star_cons na)) (he := star_cons na)).mono fun σ H Q ⟨κ, ρ, M, rs, rm, h⟩ => ?_
  simp only [wF] at h
  refine gE.go G.mo .refl rs rm h fun x M1 κ1 vx H1 ⟨xs, e, q⟩ g1 r1 m1 => ?_
  exact ⟨κ1, M1, vx, x, xs, rfl, m1, r1, e, q.grow g1⟩
/-! ### methods -/
theorem j_pop (G : GOk X Γ W T) (ha : PE X a' (gE X Γ W a)) (hb : abOk a' = true) (hl : (p.endLine == pos.line) = true) : PE X (.Call (.Attribute a' "pop" p) [] [] pos) (gE X Γ W (.pop a)) := by
  refine (pe_bm0 F.plainAttrs_list F.slot_list_pop F.type_list_pop ok_pop ha (ab_of hb) hl).mono fun σ H Q ⟨κ, ρ, M, rs, rm, h⟩ => ?_
  simp only [wE] at h
  refine gE.go G.mo .refl rs rm h fun x M1 κ1 vx H1 q g1 r1 m1 => ⟨?_, κ1, M1, x, rfl, m1, r1, wPop_mo (fun z M2 q => q.grow g1) q⟩
  unfold wPop at q
  split at q
  · obtain ⟨xs, v, hk, _⟩ := q
    exact ty_list m1 r1 (by simp [isTyS, hk])
  · exact q.elim
theorem kw_few {a : Expr} {es : List Expr} {cpos : Pos} {env : PySem.Env} (h : (a :: es).all nostar = true) (hz : (a :: es).length < 30) : ((backTo cpos (starEach (a :: es) env)).all (fun x => !x.1) && (backToKw cpos (keywordEach [] env)).all (fun x => x.1.isSome)
      && decide ((a :: es).length + ([] : List Keyword).length + (if ([] : List Keyword).isEmpty then 0 else 1) < 30)) = true := by
  rw [star_all h]
  simp only [Bool.true_and]
  rw [show (backToKw cpos (keywordEach [] env)) = [] from rfl]
  simpa using hz
theorem j_popAt (G : GOk X Γ W T) (ha : PE X a' (gE X Γ W a)) (hb : PE X b' (gE X Γ W b)) (hab : abOk a' = true) (hl : (p.endLine == pos.line) = true) (nb : nostar b' = true) : PE X (.Call (.Attribute a' "pop" p) [b'] [] pos) (gE X Γ W (.popAt a b)) := by
  refine (pe_bm F.plainAttrs_list F.slot_list_pop F.type_list_pop ok_popAt ha (pa_cons hb pa_nil (star_cons nb)) (ab_of hab) (kw_few (by simp [nb]) (by simp)) hl (star_cons nb) (star_any rfl)).mono fun σ H Q ⟨κ, ρ, M, rs, rm, h⟩ => ?_
  simp only [wE] at h
  refine gE.go G.mo .refl rs rm h fun x M1 κ1 vx H1 ⟨t, q⟩ g1 r1 m1 => ⟨ty_list m1 r1 t, ?_⟩
  refine gE.go G.mo g1 (rs.grow g1.toGrow) m1 q fun y M2 κ2 vy H2 p2 g2 r2 m2 => ?_
  exact ⟨κ2, M2, vy, x, y, rfl, m2, r1.grow g2.toGrow, r2, wPopAt_mo (fun z M3 q => q.grow (g1.trans g2)) p2⟩
/-! ### calls of functions -/
theorem run_fnG {k : Nat} {f : Addr} {fd : FuncData} {ps : List Str} {sp : Sp} {pins : List (Addr × Obj)} {s : Shared} {Q : VK} {us : List Value} {vs : List V} (F : FnG X.prog X.w X.K X.mg X.base k f fd ps sp) (hr : Room k X.A) (gu : X.A.guards = some []) (hb : Binds X.K fd ps []) (tk : L2N.Takes X W)
    (I : Inv X pins σ H s) (r : Vals vs us) (h : sp vs H Q (XW W σ)) : wpAny (model X.prog X.w) X.A (call (.ref f) us) (EP X pins σ Q) X.xe s := by
  have hl : us.length = ps.length := by rw [← r.length]; exact F.len _ _ _ _ h
  have b := hb s us I.kIn (by rw [List.append_nil]; exact hl)
  rw [List.append_nil] at b
  refine wpAny_call (codeAny_mono (F.run X.A X.stack s H ⟨us, []⟩ us vs Q (XW W σ) hr gu I.env0 b r h) fun r s' hq => ?_)
  cases r with
  | error e => exact L2N.passAt tk σ pins H s e s' I hq
  | ok fl =>
    cases fl with
    | ret u => exact I.after hq
    | next => exact False.elim hq
    | brk => exact False.elim hq
    | cont => exact False.elim hq
def Es.len : Es → Nat
  | .nil => 0
  | .cons _ es => es.len + 1
theorem wEs_len (mo : Γ.Mo) : ∀ (es : Es) (ρ : Sto) (M : Mem) (Q : List S → Mem → Prop) (E : Xc → Mem → Prop), wEs Γ es ρ M Q E → wEs Γ es ρ M (fun vs M1 => vs.length = es.len ∧ Q vs M1) E
  | .nil, ρ, M, Q, E, h => by
    simp only [wEs] at h ⊢
    exact ⟨rfl, h⟩
  | .cons e es, ρ, M, Q, E, h => by
    simp only [wEs] at h ⊢
    refine mE mo e ρ _ _ _ _ _ (fun v M1 q => ?_) (fun _ _ q => q) h
    exact mEs mo es ρ _ _ _ _ _ (fun vs M2 ⟨l, q⟩ => ⟨by rw [List.length_cons, l]; rfl, q⟩) (fun _ _ q => q) (wEs_len mo es ρ M1 _ E q)
theorem j_call {f : Str} {ps : List Str} {es : Es} {e : Expr} {es' : List Expr} (G : GOk X Γ W T) (hc : T.cm = true) (hf : (f, ps) ∈ T.fs) (hl : es.len = ps.length) (hg : Gl X f) (ha : PA X (e :: es') (gA X Γ W es)) (ns : (e :: es').all nostar = true) :
    PE X (.Call (.Name f p) (e :: es') [] pos) (gE X Γ W (.call f es)) := by
  obtain ⟨⟨φ, hφ⟩, hps⟩ := G.fk _ hf
  obtain ⟨k, a, fd, F, hr, hm, hk, hb, hd, _⟩ := G.fn hc f φ hφ
  refine ⟨fun pins s σ H Q I ⟨κ, ρ, M, rs, rm, h⟩ => ?_⟩
  simp only [wE] at h
  have h2 : gA X Γ W es σ H (fun vs H1 => spOf X.mg X.K (Γ.ps f).length φ vs H1 Q (XW W σ)) := by
    refine gA.go G.mo .refl rs rm (wEs_len G.mo _ _ _ _ _ h) fun ss M1 κ1 vs H1 ⟨hl', φ', e, q⟩ g1 r1 m1 => ?_
    rw [hφ] at e
    cases e
    exact ⟨κ1, M1, ss, by rw [r1.length, hl', hl, hps], m1, r1, G.mo.mo f φ hφ ss M1 _ _ _ _ (fun z M2 q => q.grow g1) (fun x M2 q => q.grow g1) q⟩
  refine wpAny_Call_Name_kw (ld_glob I hg hm ?_ hd)
  have n2 := ns
  rw [List.all_cons, Bool.and_eq_true] at n2
  exact PySem.W.callWith_K (h₀ := X.base) I.ok.mod.kin hk (thn (ha.run pos pins s σ H _ I h2) fun us s1 ⟨vs, H1, I1, r, q⟩ => ⟨I1.kIn, run_fnG F hr G.gu hb G.tk I1 r q⟩) (star_cons n2.1) (star_any n2.2)
/-! ### keywords -/
theorem lookup_vals : ∀ {ks : List Str} {zs : List V} {ws : List Value} {x : Str}, Vals zs ws → (∀ v, (ks.zip zs).lookup x = some v → ∃ u, (ks.zip ws).lookup x = some u ∧ RelV v u) ∧ ((ks.zip zs).lookup x = none → (ks.zip ws).lookup x = none)
  | [], _, _, _, _ => by simp
  | _ :: _, _, _, _, .nil => by simp
  | k :: ks, _, _, x, .cons (a := v) (b := u) r t => by
    rw [List.zip_cons_cons, List.zip_cons_cons, List.lookup_cons, List.lookup_cons]
    cases h : x == k with
    | true => exact ⟨fun w e => ⟨u, rfl, by cases e; exact r⟩, fun e => by cases e⟩
    | false => exact lookup_vals t
theorem reord_vals {ps : List Str} {n : Nat} {ks : List Str} {vs zs : List V} {us ws : List Value} (r : Vals vs us) (q : Vals zs ws) : Vals (reord ps n ks vs zs) (reord ps n ks us ws) := by
  unfold reord
  refine r.append ?_
  generalize ps.drop n = l
  induction l with
  | nil => exact .nil
  | cons x l ih =>
    rw [List.filterMap_cons, List.filterMap_cons]
    cases e : (ks.zip zs).lookup x with
    | none =>
      rw [(lookup_vals q).2 e]
      exact ih
    | some v =>
      obtain ⟨u, e2, r2⟩ := (lookup_vals q).1 v e
      rw [e2]
      exact .cons r2 ih
theorem lookup_RSs {K : PySem.W.Frag} {H : Hp} {κ : Loc} : ∀ {ks : List Str} {zs : List V} {ws : List S} {x : Str}, RSs K H κ zs ws → (∀ v, (ks.zip zs).lookup x = some v → ∃ u, (ks.zip ws).lookup x = some u ∧ RS K H κ v u) ∧ ((ks.zip zs).lookup x = none → (ks.zip ws).lookup x = none)
  | [], _, _, _, _ => by simp
  | _ :: _, _, _, _, .nil => by simp
  | k :: ks, _, _, x, .cons (a := v) (b := u) r t => by
    rw [List.zip_cons_cons, List.zip_cons_cons, List.lookup_cons, List.lookup_cons]
    cases h : x == k with
    | true => exact ⟨fun w e => ⟨u, rfl, by cases e; exact r⟩, fun e => by cases e⟩
    | false => exact lookup_RSs t
theorem reord_RSs {K : PySem.W.Frag} {H : Hp} {κ : Loc} {ps : List Str} {n : Nat} {ks : List Str} {vs zs : List V} {us ws : List S} (r : RSs K H κ vs us) (q : RSs K H κ zs ws) : RSs K H κ (reord ps n ks vs zs) (reord ps n ks us ws) := by
  unfold reord
  refine Pd.append r ?_
  generalize ps.drop n = l
  induction l with
  | nil => exact .nil
  | cons x l ih =>
    rw [List.filterMap_cons, List.filterMap_cons]
    cases e : (ks.zip zs).lookup x with
    | none =>
      rw [(lookup_RSs q).2 e]
      exact ih
    | some v =>
      obtain ⟨u, e2, r2⟩ := (lookup_RSs q).1 v e
      rw [e2]
      exact .cons r2 ih
theorem lookup_some {α : Type} : ∀ {ks : List Str} {ws : List α} {x : Str}, ws.length = ks.length → ks.contains x = true → ∃ u, (ks.zip ws).lookup x = some u
  | [], _, _, _, h => by simp at h
  | k :: ks, [], _, hl, _ => by simp at hl
  | k :: ks, w :: ws, x, hl, h => by
    rw [List.zip_cons_cons, List.lookup_cons]
    cases e : x == k with
    | true => exact ⟨w, rfl⟩
    | false =>
      refine lookup_some (by simpa using hl) ?_
      rw [List.contains_cons, e, Bool.false_or] at h
      exact h
theorem reord_len {α : Type} {ps : List Str} {n : Nat} {ks : List Str} {us ws : List α} (h : kwsOk ps n ks = true) (hu : us.length = n) (hw : ws.length = ks.length) : (reord ps n ks us ws).length = ps.length := by
  unfold kwsOk at h
  rw [Bool.and_eq_true, decide_eq_true_eq] at h
  obtain ⟨h1, h2⟩ := h
  unfold reord
  rw [List.length_append, hu]
  have : ∀ l : List Str, l.all (fun p => ks.contains p) = true → (l.filterMap fun p => (ks.zip ws).lookup p).length = l.length := by
    intro l
    induction l with
    | nil => intro _; rfl
    | cons x l ih =>
      intro h
      rw [List.all_cons, Bool.and_eq_true] at h
      obtain ⟨u, e⟩ := lookup_some hw h.1
      rw [List.filterMap_cons, e]
      simp only [List.length_cons, ih h.2]
  rw [this _ h2, List.length_drop]
  omega
/-- the keywords' values, from the left -/
def kwNames : List Keyword → List (Option Str)
  | [] => []
  | ⟨n, _, _⟩ :: r => n :: kwNames r
theorem pk_kw {env : PySem.Env} {pos : Pos} : ∀ {kws : List Keyword} {ks : List Str}, kwNames kws = ks.map some → (backToKw pos (keywordEach kws env)).all (·.1.isSome) = true ∧ (backToKw pos (keywordEach kws env)).filterMap (·.1) = ks ∧ (backToKw pos (keywordEach kws env)).any (·.1.isNone) = false
  | [], [], _ => ⟨rfl, rfl, rfl⟩
  | [], _ :: _, h => by simp [kwNames] at h
  | ⟨n, e, q⟩ :: kws, [], h => by simp [kwNames] at h
  | ⟨n, e, q⟩ :: kws, k :: ks, h => by
    simp only [kwNames, List.map_cons, List.cons.injEq] at h
    obtain ⟨rfl, h⟩ := h
    obtain ⟨h1, h2, h3⟩ := pk_kw (env := env) (pos := pos) h
    refine ⟨?_, ?_, ?_⟩
    · show (true && (backToKw pos (keywordEach kws env)).all (·.1.isSome)) = true
      rw [h1] <;> rfl
    · show List.filterMap (·.1) ((some k, (do let v ← eval e env; standAt pos; pure v)) :: backToKw pos (keywordEach kws env)) = k :: ks
      rw [List.filterMap_cons]
      simp only [h2]
    · show (false || (backToKw pos (keywordEach kws env)).any (·.1.isNone)) = false
      rw [h3] <;> rfl
theorem _root_.L2.PK.mono {X : Cx} {e : List Keyword} {t t' : TA} (h : PK X e t) (m : ∀ σ H Q, t' σ H Q → t σ H Q) : PK X e t' := ⟨fun p pins s σ H Q I q => h.run p pins s σ H Q I (m _ _ _ q)⟩
theorem jk_nil : PK X [] (gA X Γ W .nil) := pk_nil.mono fun σ H Q ⟨κ, ρ, M, rs, rm, h⟩ => by
  simp only [wEs] at h
  exact h κ _ H .refl .nil rm
theorem jk_cons {n : Option Str} {es : Es} {kws : List Keyword} (G : GOk X Γ W T) (ha : PE X a' (gE X Γ W a)) (hr : PK X kws (gA X Γ W es)) : PK X (⟨n, a', p⟩ :: kws) (gA X Γ W (.cons a es)) := (pk_cons ha hr).mono fun σ H Q ⟨κ, ρ, M, rs, rm, h⟩ => by
  simp only [wEs] at h
  refine gE.go G.mo .refl rs rm h fun x M1 κ1 vx H1 q g1 r1 m1 => ?_
  refine gA.go G.mo g1 (rs.grow g1.toGrow) m1 q fun y M2 κ2 vy H2 p2 g2 r2 m2 => ?_
  exact p2 κ2 _ H2 (g1.trans g2) (.cons (r1.grow g2.toGrow) r2) m2
theorem run_fnKG {k : Nat} {f : Addr} {fd : FuncData} {ps : List Str} {n : Nat} {ks : List Str} {sp : Sp} {pins : List (Addr × Obj)} {s : Shared} {Q : VK} {us ws : List Value} {vs zs : List V} (F : FnG X.prog X.w X.K X.mg X.base k f fd ps sp) (hr : Room k X.A) (gu : X.A.guards = some []) (hb : KB fd ps n ks) (tk : L2N.Takes X W)
    (I : Inv X pins σ H s) (r : Vals vs us) (q : Vals zs ws) (hu : us.length = n) (hw : ws.length = ks.length) (h : sp (reord ps n ks vs zs) H Q (XW W σ)) : wpAny (model X.prog X.w) X.A (call (.ref f) us (ks.zip ws)) (EP X pins σ Q) X.xe s := by
  refine wpAny_call (codeAny_mono (F.run X.A X.stack s H ⟨us, ks.zip ws⟩ _ _ Q (XW W σ) hr gu I.env0 (hb s us ws hu hw) (reord_vals r q) h) fun r s' hq => ?_)
  cases r with
  | error e => exact L2N.passAt tk σ pins H s e s' I hq
  | ok fl =>
    cases fl with
    | ret u => exact I.after hq
    | next => exact False.elim hq
    | brk => exact False.elim hq
    | cont => exact False.elim hq
theorem j_callK {f : Str} {ps ks : List Str} {es kes : Es} {es' : List Expr} {kws : List Keyword} (G : GOk X Γ W T) (hc : T.cm = true) (hf : (f, ps) ∈ T.fs) (hk : (f, es.len, ks) ∈ T.ks) (hok : kwsOk ps es.len ks = true) (hkl : kes.len = ks.length) (hn : kwNames kws = ks.map some) (hg : Gl X f)
    (ha : PA X es' (gA X Γ W es)) (hkw : PK X kws (gA X Γ W kes)) (ns : es'.all nostar = true) (hnil : es' = [] → es = .nil) : PE X (.Call (.Name f p) es' kws pos) (gE X Γ W (.callK f es ks kes)) := by
  obtain ⟨⟨φ, hφ⟩, hps⟩ := G.fk _ hf
  simp only at hps
  obtain ⟨k, a, fd, F, hr, hm, hkp, hb, hd, hkb⟩ := G.fn hc f φ hφ
  have hkb := hkb _ hk rfl
  rw [hps] at F hb hkb
  refine ⟨fun pins s σ H Q I ⟨κ, ρ, M, rs, rm, h⟩ => ?_⟩
  simp only [wE, hps] at h
  have h2 : gA X Γ W es σ H (fun vs H1 => vs.length = es.len ∧ gA X Γ W kes σ H1 (fun zs H2 => zs.length = ks.length ∧ spOf X.mg X.K ps.length φ (reord ps es.len ks vs zs) H2 Q (XW W σ))) := by
    refine gA.go G.mo .refl rs rm (wEs_len G.mo _ _ _ _ _ h) fun ss M1 κ1 vs H1 ⟨hl', q⟩ g1 r1 m1 => ⟨by rw [r1.length, hl'], ?_⟩
    refine gA.go G.mo g1 (rs.grow g1.toGrow) m1 (wEs_len G.mo _ _ _ _ _ q) fun tt M2 κ2 zs H2 ⟨hl2, φ', e, q⟩ g2 r2 m2 => ?_
    rw [hφ] at e
    cases e
    have r1' := r1.grow g2.toGrow
    have l2 : zs.length = ks.length := by rw [r2.length, hl2, hkl]
    refine ⟨l2, κ2, M2, _, reord_len hok (by rw [r1.length, hl']) l2, m2, reord_RSs r1' r2, ?_⟩
    unfold reord
    rw [← hl']
    exact G.mo.mo f φ hφ _ M2 _ _ _ _ (fun z M2 q => q.grow (g1.trans g2)) (fun x M2 q => q.grow (g1.trans g2)) q
  refine wpAny_Call_Name_kw (ld_glob I hg hm ?_ hd)
  obtain ⟨k1, k2, k3⟩ := pk_kw (env := X.env) (pos := pos) hn
  have fin : ∀ {s1 : Shared} {us : List Value} {vs : List V} {H1 : Hp}, Inv X pins σ H1 s1 → Vals vs us → vs.length = es.len → gA X Γ W kes σ H1 (fun zs H2 => zs.length = ks.length ∧ spOf X.mg X.K ps.length φ (reord ps es.len ks vs zs) H2 Q (XW W σ)) →
      wpAny (model X.prog X.w) X.A (evalAll ((backToKw pos (keywordEach kws X.env)).map (·.2))) (fun ws s₂ => X.K.In s₂.heap ∧ wpAny (model X.prog X.w) X.A (call (.ref a) us (((backToKw pos (keywordEach kws X.env)).filterMap (·.1)).zip ws)) (EP X pins σ Q) X.xe s₂) X.xe s1 := fun {s1 us vs H1} I1 r hl q => by
    refine thn (hkw.run pos pins s1 σ H1 _ I1 q) fun ws s2 ⟨zs, H2, I2, rz, hl2, q2⟩ => ⟨I2.kIn, ?_⟩
    rw [k2]
    exact run_fnKG F hr G.gu hkb G.tk I2 r rz (by rw [← r.length]; exact hl) (by rw [← rz.length]; exact hl2) q2
  cases es' with
  | nil =>
    obtain rfl := hnil rfl
    obtain ⟨κ', ρ', M', rs', rm', h'⟩ := h2
    simp only [wEs] at h'
    obtain ⟨h3, h4⟩ := h' κ' [] H .refl .nil rm'
    exact PySem.W.callWith_KW0 (h₀ := X.base) I.ok.mod.kin hkp k1 (fin (us := []) I .nil h3 h4) (by rw [k3] <;> rfl)
  | cons e es' =>
    have n2 := ns
    rw [List.all_cons, Bool.and_eq_true] at n2
    refine PySem.W.callWith_KW (h₀ := X.base) I.ok.mod.kin hkp k1 (thn (ha.run pos pins s σ H _ I h2) fun us s1 ⟨vs, H1, I1, r, hl, q⟩ => fin I1 r hl q) (by rw [star_any ns, k3] <;> rfl) (star_cons n2.1)
end
end G

/-! Layer G, part 4c: what is walked; targets. -/
namespace G
open PySem L2 PySem.Spec PyProof.Rows

def RI (K : PySem.W.Frag) (H : Hp) (κ : Loc) (v : V) : Itm → Prop
  | .one s => RS K H κ v s
  | .many ss => ∃ a vs, v = .ref a ∧ ST H κ a vs ∧ vs.length ≤ sizeLine ∧ RSs K H κ vs ss
theorem RI.grow {K H κ H' κ' v it} (g : Grow κ H κ' H') (h : RI K H κ v it) : RI K H' κ' v it := by
  cases it with
  | one s => exact RS.grow g h
  | many ss =>
    obtain ⟨a, vs, e, t, z, r⟩ := h
    exact ⟨a, vs, e, t.grow g, z, r.grow g⟩
/-- an iterator that yields these items as long as ok holds -/
structure ItOk (K : PySem.W.Frag) (H1 : Hp) (κ1 : Loc) (J : L2.It) (xs : List Itm) (ok : Mem → Prop) : Prop where
  go : ∀ κ H M i, Grow κ1 H1 κ H → RM K H κ M → ok M → i < xs.length → J.go i H
  yld : ∀ κ H M i it v H', Grow κ1 H1 κ H → RM K H κ M → ok M → xs[i]? = some it → J.yld i H v H' → Gr κ H κ H' ∧ RM K H' κ M ∧ RI K H' κ v it
  stop : ∀ κ H M, Grow κ1 H1 κ H → RM K H κ M → ok M → J.stop xs.length H
def PostI (K : PySem.W.Frag) (H : Hp) (κ : Loc) (R : L2.It → Hp → Prop) : List Itm × (Mem → Prop) → Mem → Prop := fun r M' => ∀ κ' H' J, Gr κ H κ' H' → RM K H' κ' M' → ItOk K H' κ' J r.1 r.2 → R J H'
def gI (X : Cx) (Γ : Env) (W : WX) (it : It) : TI := fun σ H R => ∃ κ ρ M, RSt X.K H κ ρ σ ∧ RM X.K H κ M ∧ wI Γ it ρ M (PostI X.K H κ R) (PX X.mg X.K H κ (XW W σ))

section
variable {K : PySem.W.Frag} {H H' : Hp} {κ κ' : Loc} {M : Mem}
def LStay (K : PySem.W.Frag) (H : Hp) (κ : Loc) (a : Addr) (xs : List S) (ok : Mem → Prop) : Prop := ∀ κ' H' M', Grow κ H κ' H' → RM K H' κ' M' → ok M' → ∃ vs, SqL K H' a vs ∧ RSs K H' κ' vs xs
def TStay (K : PySem.W.Frag) (H : Hp) (κ : Loc) (a : Addr) (xs : List S) (ok : Mem → Prop) : Prop := ∀ κ' H' M', Grow κ H κ' H' → RM K H' κ' M' → ok M' → ∃ vs, SqT K H' a vs ∧ RSs K H' κ' vs xs
/-- a list or tuple that stands, or a list that may change -/
theorem stays {x : V} {sx : S} {xs : List S} (m : RM K H κ M) (h : RS K H κ x sx) (e : items M sx = some xs) : ∃ a, x = .ref a ∧
    ((LStay K H κ a xs (okOf sx xs) ∧ (∃ vs, SqL K H a vs ∧ RSs K H κ vs xs) ∧ isTyS M "list" sx = some true) ∨ (TStay K H κ a xs (okOf sx xs) ∧ (∃ vs, SqT K H a vs ∧ RSs K H κ vs xs) ∧ isTyS M "tuple" sx = some true ∧ isTyS M "list" sx = some false)) := by
  unfold items at e
  split at e
  · cases e
    cases h with
    | d h =>
      cases h with
      | lst h z r => exact ⟨_, rfl, .inl ⟨fun κ' H' M' g m' o => ⟨_, (h.grow g).sq, (r.grow g).toS⟩, ⟨_, h.sq, r.toS⟩, rfl⟩⟩
  · cases e
    cases h with
    | d h =>
      cases h with
      | tup h z r => exact ⟨_, rfl, .inr ⟨fun κ' H' M' g m' o => ⟨_, (h.grow g).sq, (r.grow g).toS⟩, ⟨_, h.sq, r.toS⟩, rfl, rfl⟩⟩
  · split at e
    · rename_i k _ xs' hk
      cases e
      cases h with
      | @l a _ h =>
        obtain ⟨vs, ha, z, r⟩ := m.ob _ _ _ h hk
        refine ⟨_, rfl, .inl ⟨fun κ' H' M' g m' o => ?_, ⟨_, SqL.of ha, r⟩, by simp [isTyS, hk]⟩⟩
        obtain ⟨l, el⟩ := g.pre
        have h' : κ'.at_[k]? = some a := by rw [el, List.getElem?_append_left (List.getElem?_eq_some_iff.mp h).1]; exact h
        obtain ⟨vs', ha', z', r'⟩ := m'.ob k a _ h' o
        exact ⟨vs', SqL.of ha', r'⟩
    · cases e
  · cases e
theorem one_get {xs : List S} {i : Nat} {it : Itm} (h : (xs.map Itm.one)[i]? = some it) : ∃ s, xs[i]? = some s ∧ it = .one s := by
  rw [List.getElem?_map] at h
  cases e : xs[i]? with
  | none => rw [e] at h; cases h
  | some s => rw [e] at h; cases h; exact ⟨s, rfl, rfl⟩
theorem it_list {a : Addr} {xs : List S} {ok : Mem → Prop} (h : LStay K H κ a xs ok) : ItOk K H κ (Itl K a) (xs.map .one) ok where
  go κ' H' M' i g m o hi := by
    obtain ⟨vs, q, r⟩ := h κ' H' M' g m o
    have hi2 : i < vs.length := by rw [r.length]; simpa using hi
    exact ⟨vs, vs[i], q, List.getElem?_eq_getElem hi2⟩
  yld κ' H' M' i it v H2 g m o hi y := by
    obtain ⟨vs, q, r⟩ := h κ' H' M' g m o
    obtain ⟨rfl, y⟩ := y
    obtain ⟨s, e, rfl⟩ := one_get hi
    obtain ⟨w, ew, rw'⟩ := Pd.get' r e
    have := y vs q
    rw [ew] at this
    cases this
    exact ⟨.refl, m, rw'⟩
  stop κ' H' M' g m o := by
    obtain ⟨vs, q, r⟩ := h κ' H' M' g m o
    exact ⟨vs, q, by rw [r.length, List.length_map]; exact Nat.le_refl _⟩
theorem it_tup {a : Addr} {xs : List S} {ok : Mem → Prop} (h : TStay K H κ a xs ok) : ItOk K H κ (Itt K a) (xs.map .one) ok where
  go κ' H' M' i g m o hi := by
    obtain ⟨vs, q, r⟩ := h κ' H' M' g m o
    have hi2 : i < vs.length := by rw [r.length]; simpa using hi
    exact ⟨vs, vs[i], q, List.getElem?_eq_getElem hi2⟩
  yld κ' H' M' i it v H2 g m o hi y := by
    obtain ⟨vs, q, r⟩ := h κ' H' M' g m o
    obtain ⟨rfl, y⟩ := y
    obtain ⟨s, e, rfl⟩ := one_get hi
    obtain ⟨w, ew, rw'⟩ := Pd.get' r e
    have := y vs q
    rw [ew] at this
    cases this
    exact ⟨.refl, m, rw'⟩
  stop κ' H' M' g m o := by
    obtain ⟨vs, q, r⟩ := h κ' H' M' g m o
    exact ⟨vs, q, by rw [r.length, List.length_map]; exact Nat.le_refl _⟩
theorem rev_get {xs : List S} {vs : List V} {i : Nat} {s : S} (r : RSs K H κ vs xs) (h : xs.reverse[i]? = some s) : ∃ v, vs[xs.length - 1 - i]? = some v ∧ RS K H κ v s := by
  have hi := (List.getElem?_eq_some_iff.mp h).1
  rw [List.length_reverse] at hi
  rw [List.getElem?_reverse hi] at h
  exact Pd.get' r h
theorem it_rev {a : Addr} {xs : List S} {ok : Mem → Prop} (h : LStay K H κ a xs ok) : ItOk K H κ (Itv K a xs.length) (xs.reverse.map .one) ok where
  go κ' H' M' i g m o hi := by
    obtain ⟨vs, q, r⟩ := h κ' H' M' g m o
    have hi1 : i < xs.length := by simpa using hi
    have hi2 : xs.length - 1 - i < vs.length := by rw [r.length]; omega
    exact ⟨hi1, vs, vs[xs.length - 1 - i], q, List.getElem?_eq_getElem hi2⟩
  yld κ' H' M' i it v H2 g m o hi y := by
    obtain ⟨vs, q, r⟩ := h κ' H' M' g m o
    obtain ⟨rfl, y⟩ := y
    obtain ⟨s, e, rfl⟩ := one_get hi
    obtain ⟨w, ew, rw'⟩ := rev_get r e
    have := y vs q
    rw [ew] at this
    cases this
    exact ⟨.refl, m, rw'⟩
  stop κ' H' M' g m o := by
    show xs.length ≤ _
    simp
theorem it_revT {a : Addr} {xs : List S} {ok : Mem → Prop} (h : TStay K H κ a xs ok) : ItOk K H κ (RT.ItvT K a xs.length) (xs.reverse.map .one) ok where
  go κ' H' M' i g m o hi := by
    obtain ⟨vs, q, r⟩ := h κ' H' M' g m o
    have hi1 : i < xs.length := by simpa using hi
    have hi2 : xs.length - 1 - i < vs.length := by rw [r.length]; omega
    exact ⟨hi1, vs, vs[xs.length - 1 - i], q, List.getElem?_eq_getElem hi2⟩
  yld κ' H' M' i it v H2 g m o hi y := by
    obtain ⟨vs, q, r⟩ := h κ' H' M' g m o
    obtain ⟨rfl, y⟩ := y
    obtain ⟨s, e, rfl⟩ := one_get hi
    obtain ⟨w, ew, rw'⟩ := rev_get r e
    have := y vs q
    rw [ew] at this
    cases this
    exact ⟨.refl, m, rw'⟩
  stop κ' H' M' g m o := by
    show xs.length ≤ _
    simp
theorem it_rng (lo c : Int) (n : Nat) : ItOk K H κ (Itc lo c n) (rng3Items lo c n) (fun _ => True) where
  go κ' H' M' i g m o hi := by
    show i < n
    simpa [rng3Items] using hi
  yld κ' H' M' i it v H2 g m o hi y := by
    obtain ⟨rfl, rfl⟩ := y
    unfold rng3Items at hi
    rw [List.getElem?_map] at hi
    cases e : (List.range n)[i]? with
    | none => rw [e] at hi; cases hi
    | some j =>
      rw [e] at hi
      cases hi
      have : j = i := by
        rw [List.getElem?_range (by simpa using (List.getElem?_eq_some_iff.mp e).1)] at e
        exact (Option.some.inj e).symm
      subst this
      exact ⟨.refl, m, .d (.int _)⟩
  stop κ' H' M' g m o := by
    show n ≤ _
    simp [rng3Items]
theorem it_rng1 (lo : Int) (n : Nat) : ItOk K H κ (Itr lo n) ((List.range n).map fun i => .one (G.I (lo + (i : Nat)))) (fun _ => True) where
  go κ' H' M' i g m o hi := by
    show i < n
    simpa using hi
  yld κ' H' M' i it v H2 g m o hi y := by
    obtain ⟨rfl, rfl⟩ := y
    rw [List.getElem?_map] at hi
    cases e : (List.range n)[i]? with
    | none => rw [e] at hi; cases hi
    | some j =>
      rw [e] at hi
      cases hi
      have : j = i := by
        rw [List.getElem?_range (by simpa using (List.getElem?_eq_some_iff.mp e).1)] at e
        exact (Option.some.inj e).symm
      subst this
      exact ⟨.refl, m, .d (.int _)⟩
  stop κ' H' M' g m o := by
    show n ≤ _
    simp
/-- a new pair -/
theorem ri_pair {T : Addr} {x y : V} {sx sy : S} (m : RM K H κ M) (n : H T = none) (r1 : RS K H κ x sx) (r2 : RS K H κ y sy) : Gr κ H κ (upd H T (.tup [x, y])) ∧ RM K (upd H T (.tup [x, y])) κ M ∧ RI K (upd H T (.tup [x, y])) κ (.ref T) (.many [sx, sy]) := by
  have g := Grow.new (o := .tup [x, y]) m n
  exact ⟨Gr.new m n, m.new n, T, _, rfl, ⟨.of upd_same, m.out n⟩, by show 2 ≤ sizeLine; decide, .cons (r1.grow g) (.cons (r2.grow g) .nil)⟩
theorem enum_get {xs : List S} {i : Nat} {it : Itm} (h : (enumItems xs)[i]? = some it) : ∃ s, xs[i]? = some s ∧ it = .many [G.I (i : Nat), s] := by
  unfold enumItems at h
  rw [List.getElem?_map, List.getElem?_zipIdx] at h
  cases e : xs[i]? with
  | none => rw [e] at h; cases h
  | some s =>
    rw [e] at h
    cases h
    exact ⟨s, rfl, by simp⟩
theorem it_enum {a : Addr} {xs : List S} {ok : Mem → Prop} (h : LStay K H κ a xs ok) : ItOk K H κ (Ite K a) (enumItems xs) ok where
  go κ' H' M' i g m o hi := by
    obtain ⟨vs, q, r⟩ := h κ' H' M' g m o
    have hi2 : i < vs.length := by rw [r.length]; simpa [enumItems] using hi
    exact ⟨vs, vs[i], q, List.getElem?_eq_getElem hi2⟩
  yld κ' H' M' i it v H2 g m o hi y := by
    obtain ⟨vs, q, r⟩ := h κ' H' M' g m o
    obtain ⟨T, x, rfl, hn, rfl, y⟩ := y
    obtain ⟨s, e, rfl⟩ := enum_get hi
    obtain ⟨w, ew, rw'⟩ := Pd.get' r e
    have := y vs q
    rw [ew] at this
    cases this
    exact ri_pair m hn (.d (.int _)) rw'
  stop κ' H' M' g m o := by
    obtain ⟨vs, q, r⟩ := h κ' H' M' g m o
    exact ⟨vs, q, by rw [r.length]; simp [enumItems]⟩
theorem zip_get {xs ys : List S} {i : Nat} {it : Itm} (h : (zipItems xs ys)[i]? = some it) : ∃ s t, xs[i]? = some s ∧ ys[i]? = some t ∧ it = .many [s, t] := by
  unfold zipItems at h
  rw [List.getElem?_map] at h
  cases e : (xs.zip ys)[i]? with
  | none => rw [e] at h; cases h
  | some p =>
    rw [e] at h
    cases h
    obtain ⟨h1, h2⟩ := List.getElem?_zip_eq_some.mp e
    exact ⟨p.1, p.2, h1, h2, rfl⟩
theorem it_zip {a b : Addr} {xs ys : List S} {ok ok' : Mem → Prop} (h : LStay K H κ a xs ok) (h' : LStay K H κ b ys ok') : ItOk K H κ (Itz K a b) (zipItems xs ys) (fun M => ok M ∧ ok' M) where
  go κ' H' M' i g m o hi := by
    obtain ⟨vs, q, r⟩ := h κ' H' M' g m o.1
    obtain ⟨ws, q', r'⟩ := h' κ' H' M' g m o.2
    have hi0 : i < xs.length ∧ i < ys.length := by simpa [zipItems, Nat.lt_min] using hi
    have hi2 : i < vs.length := by rw [r.length]; exact hi0.1
    have hi3 : i < ws.length := by rw [r'.length]; exact hi0.2
    exact ⟨vs, ws, vs[i], ws[i], q, q', List.getElem?_eq_getElem hi2, List.getElem?_eq_getElem hi3⟩
  yld κ' H' M' i it v H2 g m o hi y := by
    obtain ⟨vs, q, r⟩ := h κ' H' M' g m o.1
    obtain ⟨ws, q', r'⟩ := h' κ' H' M' g m o.2
    obtain ⟨T, x, y, rfl, hn, rfl, y1, y2⟩ := y
    obtain ⟨s, t, e, e', rfl⟩ := zip_get hi
    obtain ⟨w, ew, rw1⟩ := Pd.get' r e
    obtain ⟨w', ew', rw2⟩ := Pd.get' r' e'
    have z1 := y1 vs q
    have z2 := y2 ws q'
    rw [ew] at z1
    rw [ew'] at z2
    cases z1
    cases z2
    exact ri_pair m hn rw1 rw2
  stop κ' H' M' g m o := by
    obtain ⟨vs, q, r⟩ := h κ' H' M' g m o.1
    obtain ⟨ws, q', r'⟩ := h' κ' H' M' g m o.2
    refine ⟨vs, ws, q, q', ?_⟩
    rw [r.length, r'.length]
    simp only [zipItems, List.length_map, List.length_zip]
    omega
theorem it_zipT {a b : Addr} {xs ys : List S} {ok ok' : Mem → Prop} (h : TStay K H κ a xs ok) (h' : TStay K H κ b ys ok') : ItOk K H κ (RZ.ItzT K a b) (zipItems xs ys) (fun M => ok M ∧ ok' M) where
  go κ' H' M' i g m o hi := by
    obtain ⟨vs, q, r⟩ := h κ' H' M' g m o.1
    obtain ⟨ws, q', r'⟩ := h' κ' H' M' g m o.2
    have hi0 : i < xs.length ∧ i < ys.length := by simpa [zipItems, Nat.lt_min] using hi
    have hi2 : i < vs.length := by rw [r.length]; exact hi0.1
    have hi3 : i < ws.length := by rw [r'.length]; exact hi0.2
    exact ⟨vs, ws, vs[i], ws[i], q, q', List.getElem?_eq_getElem hi2, List.getElem?_eq_getElem hi3⟩
  yld κ' H' M' i it v H2 g m o hi y := by
    obtain ⟨vs, q, r⟩ := h κ' H' M' g m o.1
    obtain ⟨ws, q', r'⟩ := h' κ' H' M' g m o.2
    obtain ⟨T, x, y, rfl, hn, rfl, y1, y2⟩ := y
    obtain ⟨s, t, e, e', rfl⟩ := zip_get hi
    obtain ⟨w, ew, rw1⟩ := Pd.get' r e
    obtain ⟨w', ew', rw2⟩ := Pd.get' r' e'
    have z1 := y1 vs q
    have z2 := y2 ws q'
    rw [ew] at z1
    rw [ew'] at z2
    cases z1
    cases z2
    exact ri_pair m hn rw1 rw2
  stop κ' H' M' g m o := by
    obtain ⟨vs, q, r⟩ := h κ' H' M' g m o.1
    obtain ⟨ws, q', r'⟩ := h' κ' H' M' g m o.2
    refine ⟨vs, ws, q, q', ?_⟩
    rw [r.length, r'.length]
    simp only [zipItems, List.length_map, List.length_zip]
    omega
end

section
variable {X : Cx} {Γ : Env} {W : WX} {T : CT} {a b : E} {a' b' tg : Expr} {pos p p2 : Pos}
theorem _root_.L2.PI.mono {X : Cx} {tg e : Expr} {t t' : TI} (h : PI X tg e t) (m : ∀ σ H Q, t' σ H Q → t σ H Q) : PI X tg e t' := ⟨fun pins s σ H Q I q => h.run pins s σ H Q I (m _ _ _ q)⟩
/-- a list or a tuple, whichever it is -/
theorem pi_or {e : Expr} {te : TE} (h : PE X e te) : PI X tg e (fun σ H R => te σ H fun x H1 => ∃ a, x = .ref a ∧ (((∃ xs, SqL X.K H1 a xs) ∧ R (Itl X.K a) H1) ∨ ((∃ xs, SqT X.K H1 a xs) ∧ R (Itt X.K a) H1))) := by
  refine ⟨fun pins s σ H R I q => ?_⟩
  refine thn (h.run pins s σ H _ I q) fun v s1 ⟨x, H1, I1, r1, a, ex, q1⟩ => ?_
  subst ex
  cases r1
  rcases q1 with ⟨⟨xs, hq⟩, q1⟩ | ⟨⟨xs, hq⟩, q1⟩
  · obtain ⟨its, rv, pl, hz⟩ := I1.list hq
    refine wpAny_pyIter_list pl.isList ?_
    exact pi_one (tn := fun i h => h.IsListIter s1.heap.objs.size a i) (tk := s1.toks) I1 _ (turn_list a _) ⟨_, Heap.get?_push_size _ rfl, rfl, rfl⟩ q1
  · obtain ⟨its, rv, pl, hz⟩ := I1.tuple hq
    refine wpAny_pyIter_tuple (show s1.heap.IsTuple a its.toArray from pl) ?_
    exact pi_one (tn := fun i h => h.IsTupleIter s1.heap.objs.size a i) (tk := s1.toks) I1 _ (turn_tuple a _) ⟨_, Heap.get?_push_size _ rfl, rfl, rfl⟩ q1
theorem ji_of (G : GOk X Γ W T) (ha : PE X a' (gE X Γ W a)) : PI X tg a' (gI X Γ W (.of a)) := (pi_or ha).mono fun σ H R ⟨κ, ρ, M, rs, rm, h⟩ => by
  simp only [wI] at h
  refine gE.go G.mo .refl rs rm h fun x M1 κ1 vx H1 ⟨xs, e, q⟩ g1 r1 m1 => ?_
  obtain ⟨a, rfl, hs⟩ := stays m1 r1 e
  refine ⟨a, rfl, ?_⟩
  rcases hs with ⟨st, ⟨vs, hq, _⟩, _⟩ | ⟨st, ⟨vs, hq, _⟩, _⟩
  · exact .inl ⟨⟨vs, hq⟩, q κ1 H1 _ g1 m1 (it_list st)⟩
  · exact .inr ⟨⟨vs, hq⟩, q κ1 H1 _ g1 m1 (it_tup st)⟩
/-- the keys of a dict that may change and does not from now on -/
theorem pi_keysL {e : Expr} {te : TE} (h : PE X e te) : PI X tg e (fun σ H R => te σ H fun x H1 => ∃ d kvs, x = .ref d ∧ H1 d = some (.dK kvs) ∧ ∀ o, R (Itk d o kvs) (upd H1 d (.frz o (.dK kvs)))) := by
  refine ⟨fun pins s σ H R I q => ?_⟩
  refine thn (h.run pins s σ H _ I q) fun u s1 ⟨x, H1, I1, rx, d, kvs, ex, hd, q⟩ => ?_
  subst ex
  obtain rfl : u = Value.ref d := rx
  obtain ⟨o, I2⟩ := I1.lock hd trivial
  obtain ⟨hs, hgd, hx, es, ep, vs, hdt, hsz, kv, hm⟩ := I2.frzK upd_same
  refine iter_keys hs hgd hx hdt (pi_one (tk := s1.toks) I2 _ (turn_keys _ hdt) ⟨_, Heap.get?_push_size _ rfl, rfl, ?_⟩ (q o))
  rw [hsz] <;> rfl
theorem it_keys {K : PySem.W.Frag} {H : Hp} {κ : Loc} {a : Addr} {k : Nat} {o : Obj} {kv : List (Key × V)} {kvs : List (Key × S)} (h : κ.at_[k]? = some a) (r : Paired (fun p q => p.1 = q.1 ∧ RS K H κ p.2 q.2) kv kvs) {H2 : Hp} :
    ItOk K H2 κ (Itk a o kv) (kvs.map fun p => .one (.d (keyPD p.1))) (fun M => M[k]? = some (.fz o kv)) := by
  have at_ : ∀ {κ' H' M'}, Grow κ H2 κ' H' → RM K H' κ' M' → M'[k]? = some (.fz o kv) → H' a = some (.frz o (.dK kv)) := fun {κ' H' M'} g m ok => by
    obtain ⟨l, el⟩ := g.pre
    exact m.ob k a _ (by rw [el, List.getElem?_append_left (List.getElem?_eq_some_iff.mp h).1]; exact h) ok
  have ln : kv.length = kvs.length := Paired.length r
  refine ⟨fun κ' H' M' i g m ok hi => ⟨at_ g m ok, by simpa [ln] using hi⟩, fun κ' H' M' i it v H3 g m ok hi y => ?_, fun κ' H' M' g m ok => ⟨at_ g m ok, by simp [ln]⟩⟩
  obtain ⟨rfl, k', v', e, rfl⟩ := y
  refine ⟨.refl, m, ?_⟩
  rw [List.getElem?_map] at hi
  cases hq : kvs[i]? with
  | none => rw [hq] at hi; cases hi
  | some p =>
    rw [hq] at hi
    cases hi
    obtain ⟨z, ez, e1, _⟩ := Pd.get' r hq
    rw [e] at ez
    cases ez
    show RS K _ κ' (kV k') (.d (keyPD p.1))
    rw [← e1]
    cases k' with
    | inl i => exact .d (.int i)
    | inr x => exact .d (.str x)
theorem ji_keys (G : GOk X Γ W T) (ha : PE X a' (gE X Γ W a)) : PI X tg a' (gI X Γ W (.keys a)) := (pi_keysL ha).mono fun σ H R ⟨κ, ρ, M, rs, rm, h⟩ => by
  simp only [wI] at h
  refine gE.go G.mo .refl rs rm h fun x M1 κ1 vx H1 q g1 r1 m1 => ?_
  cases x with
  | l k =>
    obtain ⟨kvs, hk, q⟩ := q
    cases r1 with
    | @l d _ hd =>
      obtain ⟨kv, e1, e2, e3⟩ := m1.ob k d _ hd hk
      refine ⟨d, kv, rfl, e1, fun o => ?_⟩
      refine q o kv κ1 _ (Itk d o kv) (g1.trans (Gr.put m1 hd)) (RM.put m1 hd upd_same) (it_keys hd e3)
  | _ => exact q.elim
theorem ji_rev (G : GOk X Γ W T) (hg : Gl X "reversed") (ha : PE X a' (gE X Γ W a)) (na : nostar a' = true) : PI X tg (.Call (.Name "reversed" p) [a'] [] pos) (gI X Γ W (.rev a)) := (RT.pi_revA hg (G.bt _ (by decide)) ha (star_cons na)).mono fun σ H R ⟨κ, ρ, M, rs, rm, h⟩ => by
  simp only [wI] at h
  refine gE.go G.mo .refl rs rm h fun x M1 κ1 vx H1 ⟨xs, e, q⟩ g1 r1 m1 => ?_
  obtain ⟨a, rfl, hs⟩ := stays m1 r1 e
  rcases hs with ⟨st, ⟨vs, hq, rv⟩, _⟩ | ⟨st, ⟨vs, hq, rv⟩, _⟩
  · refine ⟨a, vs, rfl, .inl ⟨hq, ?_⟩⟩
    rw [rv.length]
    exact q κ1 H1 _ g1 m1 (it_rev st)
  · refine ⟨a, vs, rfl, .inr ⟨hq, ?_⟩⟩
    rw [rv.length]
    exact q κ1 H1 _ g1 m1 (it_revT st)
theorem ji_zip (G : GOk X Γ W T) {es : List Expr} {k : Nat} (hg : Gl X "zip") (ha : PE X a' (gE X Γ W a)) (hb : PE X b' (gE X Γ W b)) (na : nostar a' = true) (nb : nostar b' = true) : PI X (.Tuple es k p2) (.Call (.Name "zip" p) [a', b'] [] pos) (gI X Γ W (.zip a b)) :=
  (RZ.pi_zipA hg (G.bt _ (by decide)) (pa_cons ha (pa_cons hb pa_nil (star_cons nb)) (star_cons na)) (star_cons na) (star_any (by simp [nb]))).mono fun σ H R ⟨κ, ρ, M, rs, rm, h⟩ => by
  simp only [wI] at h
  refine gE.go G.mo .refl rs rm h fun x M1 κ1 vx H1 p1 g1 r1 m1 => ?_
  refine gE.go G.mo g1 (rs.grow g1.toGrow) m1 p1 fun y M2 κ2 vy H2 ⟨xs, ys, ⟨t, t1, t2, ht⟩, e1, e2, q⟩ g2 r2 m2 => ?_
  obtain ⟨a, rfl, hs⟩ := stays m2 (r1.grow g2.toGrow) e1
  obtain ⟨b, rfl, hs'⟩ := stays m2 r2 e2
  have nn : ∀ {s : S}, isTyS M2 "list" s = some true → isTyS M2 "tuple" s = some true → False := fun {s} h1 h2 => by
    cases s with
    | d x => cases x <;> simp [isTyS, isTy] at h1 h2
    | e _ _ _ _ _ => cases h1
    | l k =>
      unfold isTyS at h2
      dsimp only at h2
      cases hM : M2[k]? with
      | none => rw [hM] at h2; cases h2
      | some o => rw [hM] at h2; cases o <;> simp at h2
  rcases hs with ⟨st, ⟨vs, hq, rv⟩, u⟩ | ⟨st, ⟨vs, hq, rv⟩, u, u0⟩
  · rcases hs' with ⟨st', ⟨ws, hq', rv'⟩, u'⟩ | ⟨st', ⟨ws, hq', rv'⟩, u', u0'⟩
    · exact ⟨a, b, vs, ws, rfl, .inl ⟨hq, hq', q κ2 H2 _ (g1.trans g2) m2 (it_zip st st')⟩⟩
    · rcases ht with rfl | rfl
      · exact (nn t2 u').elim
      · exact (nn u t1).elim
  · rcases hs' with ⟨st', ⟨ws, hq', rv'⟩, u'⟩ | ⟨st', ⟨ws, hq', rv'⟩, u', u0'⟩
    · rcases ht with rfl | rfl
      · exact (nn t1 u).elim
      · exact (nn u' t2).elim
    · exact ⟨a, b, vs, ws, rfl, .inr ⟨hq, hq', q κ2 H2 _ (g1.trans g2) m2 (it_zipT st st')⟩⟩
theorem rngC {i j c : Int} (h : rngOk i j) (h0 : c ≠ 0) (h1 : c.natAbs < 2 ^ 30) : RgC i j c (rngLen i j c) := by
  obtain ⟨b1, b2, b3, b4⟩ := h
  have pos : ∀ (x y d : Int), 0 < d → ((y - x + d - 1) / d) = (y - x - 1) / d + 1 := fun x y d hd => by
    have := Int.add_mul_ediv_right (y - x - 1) 1 (show d ≠ 0 by omega)
    rw [← this]
    congr 1
    omega
  have nn : ∀ (x y d : Int), 0 < d → x < y → 0 ≤ (y - x - 1) / d ∧ (y - x - 1) / d ≤ y - x - 1 := fun x y d hd hxy =>
    ⟨Int.ediv_nonneg (by omega) (by omega), Int.ediv_le_self _ (by omega)⟩
  have np : ∀ (x y d : Int), 0 < d → y ≤ x → (y - x - 1) / d < 0 := fun x y d hd hxy => Int.ediv_neg_of_neg_of_pos (by omega) hd
  have sz : Builtin.Range.rangeSize i j c = rngLen i j c ∧ Builtin.Range.rangeSize i j c ≤ 2 ^ 63 - 1 := by
    unfold Builtin.Range.rangeSize rngLen
    by_cases hc : 0 < c
    · rw [if_pos hc, if_pos hc, pos i j c hc]
      by_cases hij : i < j
      · rw [if_pos hij]
        have := nn i j c hc hij
        omega
      · rw [if_neg hij]
        have := np i j c hc (by omega)
        omega
    · have hc2 : c < 0 := by omega
      rw [if_neg hc, if_neg hc, if_pos hc2]
      rw [show (i - j + -c - 1) = (i - j + (-c) - 1) from rfl, pos j i (-c) (by omega)]
      by_cases hij : i > j
      · rw [if_pos hij]
        have := nn j i (-c) (by omega) hij
        omega
      · rw [if_neg hij]
        have := np j i (-c) (by omega) (by omega)
        omega
  refine ⟨h0, by omega, ?_, sz.1⟩
  have sz0 : 0 ≤ Builtin.Range.rangeSize i j c := by rw [sz.1]; omega
  have e1 : Builtin.Range.rangeFitsLong i = true := by unfold Builtin.Range.rangeFitsLong; simp only [Bool.and_eq_true, decide_eq_true_eq]; omega
  have e2 : Builtin.Range.rangeFitsLong j = true := by unfold Builtin.Range.rangeFitsLong; simp only [Bool.and_eq_true, decide_eq_true_eq]; omega
  have e3 : Builtin.Range.rangeFitsLong c = true := by unfold Builtin.Range.rangeFitsLong; simp only [Bool.and_eq_true, decide_eq_true_eq]; omega
  have e4 : Builtin.Range.rangeFitsLong (Builtin.Range.rangeSize i j c) = true := by
    have := sz.2
    unfold Builtin.Range.rangeFitsLong
    simp only [Bool.and_eq_true, decide_eq_true_eq]
    omega
  have e5 : (if c > 0 then Builtin.Range.rangeFitsLong (j + (c - 1)) else Builtin.Range.rangeFitsLong (j + (c + 1))) = true := by
    split <;> (unfold Builtin.Range.rangeFitsLong; simp only [Bool.and_eq_true, decide_eq_true_eq]; omega)
  unfold Builtin.Range.small
  rw [e1, e2, e3, e4, e5, Bool.or_true] <;> rfl
theorem ji_rng (G : GOk X Γ W T) {es : Es} {es' : List Expr} (hg : Gl X "range") (ha : PA X es' (gA X Γ W es)) (ns : es'.all nostar = true) (hl : es'.length = es.len) (hz : 1 ≤ es'.length ∧ es'.length ≤ 3) : PI X tg (.Call (.Name "range" p) es' [] pos) (gI X Γ W (.rng es)) := by
  have key : ∀ σ H R, gI X Γ W (.rng es) σ H R → gA X Γ W es σ H fun vs H1 => vs.length = es.len ∧ ((∃ j : Int, vs = [.int j] ∧ -(2 ^ 62) ≤ j ∧ j < 2 ^ 62 ∧ R (Itr 0 j.toNat) H1) ∨
      (∃ i j : Int, vs = [.int i, .int j] ∧ (-(2 ^ 62) ≤ i ∧ i < 2 ^ 62 ∧ -(2 ^ 62) ≤ j ∧ j < 2 ^ 62) ∧ R (Itr i (j - i).toNat) H1) ∨ (∃ (i j c : Int) (n : Nat), vs = [.int i, .int j, .int c] ∧ RgC i j c n ∧ R (Itc i c n) H1)) := fun σ H R ⟨κ, ρ, M, rs, rm, h⟩ => by
    simp only [wI] at h
    refine gA.go G.mo .refl rs rm (wEs_len G.mo _ _ _ _ _ h) fun ss M1 κ1 vs H1 ⟨hl', q⟩ g1 r1 m1 => ⟨by rw [r1.length, hl'], ?_⟩
    unfold wRng at q
    split at q
    · cases r1 with | cons r1 t => cases t; cases r1 with | d r1 => cases r1; exact .inl ⟨_, rfl, q.1.2.2.1, q.1.2.2.2, q.2 κ1 H1 _ g1 m1 (by unfold rngItems; simpa using it_rng1 0 _)⟩
    · cases r1 with
      | cons r1 t =>
        cases t with
        | cons r2 t =>
          cases t
          cases r1 with
          | d r1 =>
            cases r1
            cases r2 with
            | d r2 => cases r2; exact .inr (.inl ⟨_, _, rfl, q.1, q.2 κ1 H1 _ g1 m1 (it_rng1 _ _)⟩)
    · cases r1 with
      | cons r1 t =>
        cases t with
        | cons r2 t =>
          cases t with
          | cons r3 t =>
            cases t
            cases r1 with
            | d r1 =>
              cases r1
              cases r2 with
              | d r2 =>
                cases r2
                cases r3 with
                | d r3 => cases r3; exact .inr (.inr ⟨_, _, _, _, rfl, rngC q.1.1 q.1.2.1 q.1.2.2, q.2 κ1 H1 _ g1 m1 (it_rng _ _ _)⟩)
    · exact q.elim
  have fin : ∀ {t : TA} {σ : L2.St} {H : Hp} {C C' : List V → Hp → Prop}, (∀ vs H, C vs H → C' vs H) → gA X Γ W es σ H C → gA X Γ W es σ H C' := fun {t σ H C C'} hc ⟨κ, ρ, M, rs, rm, h⟩ => ⟨κ, ρ, M, rs, rm, mEs G.mo _ _ _ _ _ _ _ (fun ss M1 q κ1 vs H1 g r m => hc _ _ (q κ1 vs H1 g r m)) (fun _ _ q => q) h⟩
  match es', hl, hz, ha, ns with
  | [x], hl, hz, ha, ns =>
    rw [List.all_cons, Bool.and_eq_true] at ns
    refine (pi_range1 hg (G.bt _ (by decide)) ha (star_cons ns.1)).mono fun σ H R h => fin (t := gA X Γ W es) (fun vs H1 ⟨l, q⟩ => ?_) (key σ H R h)
    rw [← hl] at l
    rcases q with q | ⟨_, _, rfl, _⟩ | ⟨_, _, _, _, rfl, _⟩
    · exact q
    · simp at l
    · simp at l
  | [x, y], hl, hz, ha, ns =>
    simp only [List.all_cons, Bool.and_eq_true] at ns
    refine (pi_range2 hg (G.bt _ (by decide)) ha (by rw [star_cons ns.1, star_cons ns.2.1]; rfl) (star_cons ns.2.1)).mono fun σ H R h => fin (t := gA X Γ W es) (fun vs H1 ⟨l, q⟩ => ?_) (key σ H R h)
    rw [← hl] at l
    rcases q with ⟨_, rfl, _⟩ | q | ⟨_, _, _, _, rfl, _⟩
    · simp at l
    · exact q
    · simp at l
  | [x, y, z], hl, hz, ha, ns =>
    simp only [List.all_cons, Bool.and_eq_true] at ns
    refine (pi_range3 hg (G.bt _ (by decide)) ha (star_cons ns.1) (star_any (by simp [ns.2.1, ns.2.2.1]))).mono fun σ H R h => fin (t := gA X Γ W es) (fun vs H1 ⟨l, q⟩ => ?_) (key σ H R h)
    rw [← hl] at l
    rcases q with ⟨_, rfl, _⟩ | ⟨_, _, rfl, _⟩ | q
    · simp at l
    · simp at l
    · exact q
  | [], hl, hz, ha, ns => simp at hz
  | _ :: _ :: _ :: _ :: _, hl, hz, ha, ns => simp at hz
end
end G

/-! Layer G, part 4d: targets; comprehensions. -/
namespace G
open PySem L2 PySem.Spec PyProof.Rows

/-- the slots but these are the same -/
def SB (vs : List Nat) (σ σ' : L2.St) : Prop := σ.length = σ'.length ∧ ∀ i, i ∉ vs → σ[i]? = σ'[i]?
theorem SB.refl {vs σ} : SB vs σ σ := ⟨rfl, fun _ _ => rfl⟩
theorem SB.trans {l1 l2 : List Nat} {σ σ1 σ2 : L2.St} (h1 : SB l1 σ σ1) (h2 : SB l2 σ1 σ2) : SB (l1 ++ l2) σ σ2 :=
  ⟨h1.1.trans h2.1, fun i hi => (h1.2 i fun z => hi (List.mem_append_left _ z)).trans (h2.2 i fun z => hi (List.mem_append_right _ z))⟩
theorem SB.more {l : List Nat} {σ σ1 : L2.St} (h : SB l σ σ1) (l2 : List Nat) : SB (l ++ l2) σ σ1 := ⟨h.1, fun i hi => h.2 i fun z => hi (List.mem_append_left _ z)⟩
theorem SB.set {i : Nat} {σ : L2.St} {v : Option V} : SB [i] σ (σ.set i v) := ⟨by simp, fun j hj => by rw [List.getElem?_set_ne (by simpa [eq_comm] using hj)]⟩
theorem wipe_at {σ : L2.St} : ∀ {vs : List Nat} {i : Nat}, (wipe σ vs)[i]? = if i ∈ vs ∧ i < σ.length then some none else σ[i]?
  | [], i => by simp [wipe]
  | v :: vs, i => by
    have hl : (wipe σ vs).length = σ.length := wipe_length σ vs
    show ((wipe σ vs).set v none)[i]? = _
    by_cases h : v = i
    · subst h
      by_cases hv : v < σ.length
      · rw [List.getElem?_set_self (by rw [hl]; exact hv), if_pos ⟨List.mem_cons_self, hv⟩]
      · rw [List.getElem?_eq_none (by simpa [hl] using hv), if_neg (fun z => hv z.2), List.getElem?_eq_none (by omega)]
    · rw [List.getElem?_set_ne h, wipe_at]
      have : (i ∈ v :: vs ∧ i < σ.length) ↔ (i ∈ vs ∧ i < σ.length) := by
        constructor
        · rintro ⟨a, b⟩
          rcases List.mem_cons.mp a with z | z
          · exact absurd z.symm h
          · exact ⟨z, b⟩
        · rintro ⟨a, b⟩; exact ⟨List.mem_cons_of_mem _ a, b⟩
      simp only [this]
theorem SB.wipe {vs : List Nat} {σ σ' : L2.St} (h : SB vs σ σ') : wipe σ' vs = wipe σ vs := by
  apply List.ext_getElem?
  intro i
  rw [wipe_at, wipe_at, ← h.1]
  by_cases hi : i ∈ vs
  · by_cases hl : i < σ.length
    · rw [if_pos ⟨hi, hl⟩, if_pos ⟨hi, hl⟩]
    · have hll := h.1
      rw [if_neg (fun z => hl z.2), if_neg (fun z => hl z.2), List.getElem?_eq_none (by omega), List.getElem?_eq_none (by omega)]
  · rw [if_neg (fun z => hi z.1), if_neg (fun z => hi z.1), h.2 i hi]
theorem SB.wiped {vs : List Nat} {σ : L2.St} : SB vs σ (L2.wipe σ vs) := ⟨(wipe_length σ vs).symm, fun i hi => by rw [wipe_at, if_neg (fun z => hi z.1)]⟩
theorem RSt.wipe {K H κ} {ρ : Sto} {σ : L2.St} (h : RSt K H κ ρ σ) : ∀ vs : List Nat, RSt K H κ (wipeS ρ vs) (L2.wipe σ vs)
  | [] => h
  | v :: vs => (RSt.wipe h vs).unset v none

section
variable (X : Cx)
def gTg (t : Tg) : TG := fun v σ H Q => ∃ κ ρ M it, RSt X.K H κ ρ σ ∧ RM X.K H κ M ∧ RI X.K H κ v it ∧ wTg t it ρ fun ρ' => ∀ σ', RSt X.K H κ ρ' σ' → SB (tgSlots t) σ σ' → Q σ' H
def gTgs (ts : List Tg) : TGs := fun vs σ H Q => ∃ κ ρ M ss, RSt X.K H κ ρ σ ∧ RM X.K H κ M ∧ RSs X.K H κ vs ss ∧ wTgs ts ss ρ fun ρ' => ∀ σ', RSt X.K H κ ρ' σ' → SB (tgSlotss ts) σ σ' → Q σ' H
end
theorem _root_.L2.PG.mono {X : Cx} {e : Expr} {t t' : TG} (h : PG X e t) (m : ∀ v σ H Q, t' v σ H Q → t v σ H Q) : PG X e t' := ⟨fun pins s σ H v u Q I r q => h.run pins s σ H v u Q I r (m _ _ _ _ q)⟩
theorem _root_.L2.PGs.mono {X : Cx} {e : List Expr} {t t' : TGs} (h : PGs X e t) (m : ∀ v σ H Q, t' v σ H Q → t v σ H Q) : PGs X e t' := ⟨fun pins s σ H v u Q I r q => h.run pins s σ H v u Q I r (m _ _ _ _ q)⟩
section
variable {X : Cx} {Γ : Env} {W : WX} {T : CT} {pos : Pos}
theorem jt_nm {i : Nat} {x : Str} (hN : X.N.Nodup) (hi : X.N[i]? = some x) (hx : L2.Loc X.env.scope x) (hf : X.fn x = true ∨ X.env.scope.names.lookup x = some .local) : PG X (.Name x pos) (gTg X (.nm i)) := (pg_name hN hi hx hf).mono fun v σ H Q ⟨κ, ρ, M, it, rs, rm, ri, h⟩ => by
  cases it with
  | one s =>
    simp only [wTg] at h
    exact h _ (rs.set ri i) .set
  | many ss =>
    simp only [wTg] at h
    obtain ⟨xs, e, h⟩ := h
    obtain ⟨a, vs, rfl, t, z, r⟩ := ri
    exact h _ (rs.set (.d (.tup t z (RSs.toP r e))) i) .set
def noStars (es : List Expr) : Bool := es.all nostar
theorem assignEach_map {env : PySem.Env} : ∀ {es : List Expr}, es.all nostar = true → (assignEach es env).length = es.length ∧ (assignEach es env).findIdx? (·.1) = none ∧ (assignEach es env).map (·.2) = es.map fun e => assign e env := by
  intro es h
  induction es with
  | nil => exact ⟨rfl, rfl, rfl⟩
  | cons e es ih =>
    rw [List.all_cons, Bool.and_eq_true] at h
    obtain ⟨i1, i2, i3⟩ := ih h.2
    have key : assignEach (e :: es) env = (false, assign e env) :: assignEach es env := by
      cases e <;> first | rfl | exact absurd h.1 (by simp [nostar])
    rw [key]
    refine ⟨by simp [i1], ?_, by simp [i3]⟩
    rw [List.findIdx?_cons]
    simp [i2]
theorem jts_nil : PGs X [] (gTgs X []) := pgs_nil.mono fun vs σ H Q ⟨κ, ρ, M, ss, rs, rm, r, h⟩ => by
  cases r with
  | nil =>
    simp only [wTgs] at h
    exact ⟨rfl, h σ rs .refl⟩
  | cons r t =>
    simp only [wTgs] at h
theorem jts_cons {e : Expr} {es : List Expr} {t : Tg} {ts : List Tg} (h1 : PG X e (gTg X t)) (h2 : PGs X es (gTgs X ts)) (ne : nostar e = true) (ns : es.all nostar = true) : PGs X (e :: es) (gTgs X (t :: ts)) := by
  have hm := (assignEach_map (env := X.env) (es := e :: es) (by simp [ne]; simpa using ns)).2.2
  have hm2 := (assignEach_map (env := X.env) ns).2.2
  refine (pgs_cons h1 h2 (by rw [hm, hm2]; rfl)).mono fun vs σ H Q ⟨κ, ρ, M, ss, rs, rm, r, h⟩ => ?_
  cases r with
  | nil => simp only [wTgs] at h
  | cons r q =>
    simp only [wTgs] at h
    refine ⟨_, _, rfl, κ, ρ, M, .one _, rs, rm, r, wTg_mo _ _ _ _ _ (fun ρ1 h σ1 rs1 sb1 => ?_) h⟩
    refine ⟨κ, ρ1, M, _, rs1, rm, q, wTgs_mo _ _ _ _ _ (fun ρ2 h σ2 rs2 sb2 => h σ2 rs2 ?_) h⟩
    show SB (tgSlots t ++ tgSlotss ts) σ σ2
    exact sb1.trans sb2
theorem pg_or {e : Expr} {t t' : TG} (h : PG X e t) (h' : PG X e t') : PG X e (fun v σ H Q => t v σ H Q ∨ t' v σ H Q) := ⟨fun pins s σ H v u Q I r q => q.elim (fun q => h.run pins s σ H v u Q I r q) (fun q => h'.run pins s σ H v u Q I r q)⟩
theorem jt_tp {es : List Expr} {ts : List Tg} {k : Nat} (hc : X.calm = true) (h : PGs X es (gTgs X ts)) (ns : es.all nostar = true) (hl : es.length = ts.length) : PG X (.Tuple es k pos) (gTg X (.tp ts)) := by
  obtain ⟨m1, m2, _⟩ := assignEach_map (env := X.env) ns
  refine (pg_or (pg_tup (n := ts.length) hc h (by rw [m1, hl]) m2) (pg_unl (n := ts.length) hc h (by rw [m1, hl]) m2)).mono fun v σ H Q ⟨κ, ρ, M, it, rs, rm, ri, h⟩ => ?_
  cases it with
  | one s =>
    cases s with
    | l k => simp only [wTg] at h
    | e _ _ _ _ _ => simp only [wTg] at h
    | d x =>
      cases x with
      | tuple xs =>
        simp only [wTg] at h
        cases ri with
        | d ri =>
          cases ri with
          | tup t z r => exact .inl ⟨_, _, rfl, t.sq, by rw [r.length]; exact h.1, κ, ρ, M, _, rs, rm, r.toS, h.2⟩
      | list xs =>
        simp only [wTg] at h
        cases ri with
        | d ri =>
          cases ri with
          | lst t z r => exact .inr ⟨_, _, rfl, t.sq, by rw [r.length]; exact h.1, κ, ρ, M, _, rs, rm, r.toS, h.2⟩
      | _ => simp only [wTg] at h
  | many ss =>
    simp only [wTg] at h
    obtain ⟨a, vs, rfl, t, z, r⟩ := ri
    exact .inl ⟨a, vs, rfl, t.sq, by rw [r.length]; exact h.1, κ, ρ, M, ss, rs, rm, r, h.2⟩
/-! ### comprehensions -/
theorem on_eta {κ : Loc} {D : Addr} {t : List Addr} (h : κ.tmp = D :: t) : κ = (⟨κ.at_, t⟩ : Loc).on D := by
  cases κ
  simp only at h
  subst h
  rfl
def WF : WX := fun _ _ _ _ => False
theorem lc_read {e : E} {t : Tg} {it : It} {c : Oe} (mo : Γ.Mo) {σ : L2.St} {H : Hp} {Q : VK} (h : gF X Γ W (.comp e t it c) σ H Q) : tLc (gI X Γ W it) (gTg X t) (gC X Γ WF c) (gE X Γ WF e) (tgSlots t) σ H Q := by
  obtain ⟨κ, ρ, M, rs, rm, h⟩ := h
  simp only [wF] at h
  refine ⟨κ, ρ, M, rs, rm, mI mo it ρ _ _ _ _ _ (fun r M1 ⟨hz, h⟩ κ1 H1 J g1 m1 io D hD => ?_) (fun _ _ q => q) h⟩
  obtain ⟨items, ok⟩ := r
  simp only at hz h io
  have hDt : D ∉ κ1.tmp := fun z => (m1.tm D z).1 hD
  have rs1 := rs.grow g1.toGrow
  refine ⟨fun i m H' => m = items.length - i ∧ i ≤ items.length ∧ ∃ (κ' : G.Loc) (M' : Mem) (acc : List S) (vs : List V), Grow κ1 H1 (κ'.on D) H' ∧ κ'.tmp = κ1.tmp ∧ (∀ a ∈ κ1.tmp, H' a = H1 a) ∧ H' D = some (.lst vs) ∧ RSs X.K H' (κ'.on D) vs acc ∧ vs.length ≤ i ∧ RM X.K H' (κ'.on D) M' ∧
      wLc (tgAt t (wipeS ρ (tgSlots t))) ok (fun ρ1 => wC Γ c ρ1) (fun ρ1 => wE Γ e ρ1) (items.drop i) acc M' (PostL X.K H κ Q) (fun _ _ => False), ?_, ?_⟩
  · exact ⟨_, rfl, Nat.zero_le _, κ1, M1, [], [], Grow.on m1 hD, rfl, fun a ha => upd_ne fun z => hDt (by rw [← z]; exact ha), upd_same, .nil, Nat.le_refl _, m1.on hD, h⟩
  · rintro i m H' ⟨rfl, hi, κ', M', acc, vs, g, tm, st, hv, rv, hl, m', hw⟩
    by_cases hlt : i < items.length
    · rw [List.drop_eq_getElem_cons hlt] at hw
      simp only [wLc] at hw
      obtain ⟨hok, hw⟩ := hw
      refine .inr ⟨io.go _ _ _ i g m' hok hlt, fun H'' => i + 1 ≤ items.length ∧ ∃ (κ' : G.Loc) (M' : Mem) (acc : List S) (vs : List V), Grow κ1 H1 (κ'.on D) H'' ∧ κ'.tmp = κ1.tmp ∧ (∀ a ∈ κ1.tmp, H'' a = H1 a) ∧ H'' D = some (.lst vs) ∧ RSs X.K H'' (κ'.on D) vs acc ∧ vs.length ≤ i + 1 ∧ RM X.K H'' (κ'.on D) M' ∧
        wLc (tgAt t (wipeS ρ (tgSlots t))) ok (fun ρ1 => wC Γ c ρ1) (fun ρ1 => wE Γ e ρ1) (items.drop (i + 1)) acc M' (PostL X.K H κ Q) (fun _ _ => False), fun H'' q => ⟨_, by omega, rfl, q⟩, fun x H2 y => ?_⟩
      obtain ⟨g2, m2, ri⟩ := io.yld _ _ _ i _ x H2 g m' hok (List.getElem?_eq_getElem hlt) y
      have gg := g.trans g2.toGrow
      have st2 : ∀ a ∈ κ1.tmp, H2 a = H1 a := fun a ha => (g2.st a (by show a ∈ D :: κ'.tmp; rw [tm]; exact List.mem_cons_of_mem _ ha)).trans (st a ha)
      have hv2 : H2 D = some (.lst vs) := (g2.st D (List.mem_cons_self)).trans hv
      refine ⟨κ'.on D, wipeS ρ (tgSlots t), M', _, (rs1.grow gg).wipe _, m2, ri, wTg_mo _ _ _ _ _ (fun ρ2 hw σ2 rs2 sb => ⟨sb.wipe.trans SB.wiped.wipe, ?_⟩) hw⟩
      refine ⟨κ'.on D, ρ2, M', rs2, m2, mC mo c ρ2 _ _ _ _ _ (fun b M3 hw κ3 H3 g3 m3 => ?_) (fun _ _ z => z.elim) hw⟩
      -- the place of the list in the making
      have fin : ∀ {κx : Loc} {Hx : Hp}, Gr (κ'.on D) H2 κx Hx → ∃ κy : Loc, κx = κy.on D ∧ κy.tmp = κ1.tmp ∧ Grow κ1 H1 (κy.on D) Hx ∧ (∀ a ∈ κ1.tmp, Hx a = H1 a) ∧ Hx D = some (.lst vs) := fun {κx Hx} gx => by
        have e1 : κx.tmp = D :: κ1.tmp := by rw [gx.tmp]; show D :: κ'.tmp = _; rw [tm]
        have e2 := on_eta e1
        refine ⟨⟨κx.at_, κ1.tmp⟩, e2, rfl, ?_, fun a ha => (gx.st a (by show a ∈ D :: κ'.tmp; rw [tm]; exact List.mem_cons_of_mem _ ha)).trans (st2 a ha), (gx.st D List.mem_cons_self).trans hv2⟩
        rw [← e2]
        exact gg.trans gx.toGrow
      cases b with
      | false =>
        obtain ⟨κy, rfl, t1, t2, t3, t4⟩ := fin g3
        exact ⟨hlt, κy, M3, acc, vs, t2, t1, t3, t4, rv.grow (g2.trans g3).toGrow, by omega, m3, hw⟩
      | true =>
        refine ⟨κ3, ρ2, M3, rs2.grow g3.toGrow, m3, mE mo e ρ2 _ _ _ _ _ (fun v M4 hw κ4 y H4 g4 r4 m4 => ?_) (fun _ _ z => z.elim) hw⟩
        obtain ⟨κy, rfl, t1, t2, t3, t4⟩ := fin (g3.trans g4)
        have rv4 := rv.grow (g2.trans (g3.trans g4)).toGrow
        refine ⟨vs, t4, by omega, hlt, κy, M4, acc ++ [v], vs ++ [y], t2.trans Grow.tick, t1, fun a ha => ?_, upd_same, Pd.append (rv4.grow Grow.tick) (.cons (r4.grow Grow.tick) .nil), by rw [List.length_append, List.length_singleton]; omega, m4.tick, hw⟩
        rw [upd_ne fun z => hDt (by rw [← z]; exact ha)]
        exact t3 a ha
    · have e0 : i = items.length := by omega
      subst e0
      rw [List.drop_length] at hw
      simp only [wLc] at hw
      refine .inl ⟨io.stop _ _ _ g m' hw.1, ?_⟩
      refine hw.2 κ' D vs H' (g1.toGrow.trans g) (tm.trans g1.tmp) (fun a ha => (st a (by rw [g1.tmp]; exact ha)).trans (g1.st a ha)) (by rw [← g1.tmp]; exact hDt) hv (by omega) rv m'
theorem lc2_read {e : E} {t u : Tg} {it ju : It} {c : Oe} (mo : Γ.Mo) {σ : L2.St} {H : Hp} {Q : VK} (h : gF X Γ W (.comp2 e t it u ju c) σ H Q) : tLc2 (gI X Γ W it) (gTg X t) (gC X Γ WF .none) (gI X Γ WF ju) (gTg X u) (gC X Γ WF c) (gE X Γ WF e) (tgSlots t ++ tgSlots u) (tgSlots u) σ H Q := by
  obtain ⟨κ, ρ, M, rs, rm, h⟩ := h
  simp only [wF] at h
  refine ⟨κ, ρ, M, rs, rm, mI mo it ρ _ _ _ _ _ (fun r M1 h κ1 H1 J g1 m1 io D hD => ?_) (fun _ _ q => q) h⟩
  obtain ⟨items, ok⟩ := r
  simp only at h io
  have hDt : D ∉ κ1.tmp := fun z => (m1.tm D z).1 hD
  have rs1 := rs.grow g1.toGrow
  refine ⟨fun i m H' => m = items.length - i ∧ i ≤ items.length ∧ ∃ (κ' : G.Loc) (M' : Mem) (acc : List S) (vs : List V), Grow κ1 H1 (κ'.on D) H' ∧ κ'.tmp = κ1.tmp ∧ (∀ a ∈ κ1.tmp, H' a = H1 a) ∧ H' D = some (.lst vs) ∧ RSs X.K H' (κ'.on D) vs acc ∧ vs.length ≤ sizeLine ∧ RM X.K H' (κ'.on D) M' ∧
      wLc2 (tgAt t (wipeS ρ (tgSlots t ++ tgSlots u))) ok (fun ρ1 => wI Γ ju ρ1) (fun ρ1 => tgAt u (wipeS ρ1 (tgSlots u))) (fun ρ1 => wC Γ c ρ1) (fun ρ1 => wE Γ e ρ1) (items.drop i) acc M' (PostL X.K H κ Q), ?_, ?_⟩
  · exact ⟨_, rfl, Nat.zero_le _, κ1, M1, [], [], Grow.on m1 hD, rfl, fun a ha => upd_ne fun z => hDt (by rw [← z]; exact ha), upd_same, .nil, Nat.zero_le _, m1.on hD, h⟩
  · rintro i m H' ⟨rfl, hi, κ', M', acc, vs, g, tm, st, hv, rv, hl, m', hw⟩
    by_cases hlt : i < items.length
    · rw [List.drop_eq_getElem_cons hlt] at hw
      simp only [wLc2] at hw
      obtain ⟨hok, hw⟩ := hw
      refine .inr ⟨io.go _ _ _ i g m' hok hlt, fun H'' => i + 1 ≤ items.length ∧ ∃ (κ' : G.Loc) (M' : Mem) (acc : List S) (vs : List V), Grow κ1 H1 (κ'.on D) H'' ∧ κ'.tmp = κ1.tmp ∧ (∀ a ∈ κ1.tmp, H'' a = H1 a) ∧ H'' D = some (.lst vs) ∧ RSs X.K H'' (κ'.on D) vs acc ∧ vs.length ≤ sizeLine ∧ RM X.K H'' (κ'.on D) M' ∧
        wLc2 (tgAt t (wipeS ρ (tgSlots t ++ tgSlots u))) ok (fun ρ1 => wI Γ ju ρ1) (fun ρ1 => tgAt u (wipeS ρ1 (tgSlots u))) (fun ρ1 => wC Γ c ρ1) (fun ρ1 => wE Γ e ρ1) (items.drop (i + 1)) acc M' (PostL X.K H κ Q), fun H'' q => ⟨_, by omega, rfl, q⟩, fun x H2 y => ?_⟩
      obtain ⟨g2, m2, ri⟩ := io.yld _ _ _ i _ x H2 g m' hok (List.getElem?_eq_getElem hlt) y
      have gg := g.trans g2.toGrow
      have st2 : ∀ a ∈ κ1.tmp, H2 a = H1 a := fun a ha => (g2.st a (by show a ∈ D :: κ'.tmp; rw [tm]; exact List.mem_cons_of_mem _ ha)).trans (st a ha)
      have hv2 : H2 D = some (.lst vs) := (g2.st D (List.mem_cons_self)).trans hv
      refine ⟨κ'.on D, wipeS ρ (tgSlots t ++ tgSlots u), M', _, (rs1.grow gg).wipe _, m2, ri, wTg_mo _ _ _ _ _ (fun ρ2 hw σ2 rs2 sb => ⟨(sb.more (tgSlots u)).wipe.trans SB.wiped.wipe, ?_⟩) hw⟩
      refine ⟨κ'.on D, ρ2, M', rs2, m2, ?_⟩
      simp only [wC]
      intro κ3 H3 g3 m3
      rw [if_pos rfl]
      refine ⟨κ3, ρ2, M', rs2.grow g3.toGrow, m3, mI mo ju ρ2 _ _ _ _ _ (fun r1 M4 hw κ4 H4 J1 g4 m4 io1 => ?_) (fun _ _ z => z.elim) hw⟩
      obtain ⟨items1, ok1⟩ := r1
      simp only at hw io1
      -- the place of the list in the making
      have fin : ∀ {κz κx : Loc} {vz : List V} {Hz Hx : Hp}, κz.tmp = κ1.tmp → Grow κ1 H1 (κz.on D) Hz → (∀ a ∈ κ1.tmp, Hz a = H1 a) → Hz D = some (.lst vz) → Gr (κz.on D) Hz κx Hx → ∃ κy : Loc, κx = κy.on D ∧ κy.tmp = κ1.tmp ∧ Grow κ1 H1 (κy.on D) Hx ∧ (∀ a ∈ κ1.tmp, Hx a = H1 a) ∧ Hx D = some (.lst vz) := fun {κz κx vz Hz Hx} tz gz sz dz gx => by
        have e1 : κx.tmp = D :: κ1.tmp := by rw [gx.tmp]; show D :: κz.tmp = _; rw [tz]
        have e2 := on_eta e1
        refine ⟨⟨κx.at_, κ1.tmp⟩, e2, rfl, ?_, fun a ha => (gx.st a (by show a ∈ D :: κz.tmp; rw [tz]; exact List.mem_cons_of_mem _ ha)).trans (sz a ha), (gx.st D List.mem_cons_self).trans dz⟩
        rw [← e2]
        exact gz.trans gx.toGrow
      obtain ⟨κ5, rfl, t1, t2, t3, t4⟩ := fin tm gg st2 hv2 (g3.trans g4)
      have g34 := (g3.trans g4).toGrow
      refine ⟨fun j k H' => k = items1.length - j ∧ j ≤ items1.length ∧ ∃ (κ' : G.Loc) (M' : Mem) (acc : List S) (vs : List V), Grow (κ5.on D) H4 (κ'.on D) H' ∧ κ'.tmp = κ1.tmp ∧ (∀ a ∈ κ1.tmp, H' a = H1 a) ∧ H' D = some (.lst vs) ∧ RSs X.K H' (κ'.on D) vs acc ∧ vs.length ≤ sizeLine ∧ RM X.K H' (κ'.on D) M' ∧
        wLcK (tgAt u (wipeS ρ2 (tgSlots u))) ok1 (fun ρ1 => wC Γ c ρ1) (fun ρ1 => wE Γ e ρ1) (items1.drop j) acc M' fun acc2 M2 => wLc2 (tgAt t (wipeS ρ (tgSlots t ++ tgSlots u))) ok (fun ρ1 => wI Γ ju ρ1) (fun ρ1 => tgAt u (wipeS ρ1 (tgSlots u))) (fun ρ1 => wC Γ c ρ1) (fun ρ1 => wE Γ e ρ1) (items.drop (i + 1)) acc2 M2 (PostL X.K H κ Q), ?_, ?_⟩
      · exact ⟨_, rfl, Nat.zero_le _, κ5, M4, acc, vs, Grow.refl, t1, t3, t4, rv.grow (g2.toGrow.trans g34), hl, m4, hw⟩
      · rintro j k H5 ⟨rfl, hj, κ6, M6, acc6, vs6, g6, t6, st6, hv6, rv6, hl6, m6, hw⟩
        by_cases hlt1 : j < items1.length
        · rw [List.drop_eq_getElem_cons hlt1] at hw
          simp only [wLcK] at hw
          obtain ⟨hok1, hw⟩ := hw
          refine .inr ⟨io1.go _ _ _ j g6 m6 hok1 hlt1, fun H'' => j + 1 ≤ items1.length ∧ ∃ (κ' : G.Loc) (M' : Mem) (acc : List S) (vs : List V), Grow (κ5.on D) H4 (κ'.on D) H'' ∧ κ'.tmp = κ1.tmp ∧ (∀ a ∈ κ1.tmp, H'' a = H1 a) ∧ H'' D = some (.lst vs) ∧ RSs X.K H'' (κ'.on D) vs acc ∧ vs.length ≤ sizeLine ∧ RM X.K H'' (κ'.on D) M' ∧
            wLcK (tgAt u (wipeS ρ2 (tgSlots u))) ok1 (fun ρ1 => wC Γ c ρ1) (fun ρ1 => wE Γ e ρ1) (items1.drop (j + 1)) acc M' fun acc2 M2 => wLc2 (tgAt t (wipeS ρ (tgSlots t ++ tgSlots u))) ok (fun ρ1 => wI Γ ju ρ1) (fun ρ1 => tgAt u (wipeS ρ1 (tgSlots u))) (fun ρ1 => wC Γ c ρ1) (fun ρ1 => wE Γ e ρ1) (items.drop (i + 1)) acc2 M2 (PostL X.K H κ Q), fun H'' q => ⟨_, by omega, rfl, q⟩, fun x7 H7 y7 => ?_⟩
          obtain ⟨g7, m7, ri7⟩ := io1.yld _ _ _ j _ x7 H7 g6 m6 hok1 (List.getElem?_eq_getElem hlt1) y7
          have st7 : ∀ a ∈ κ1.tmp, H7 a = H1 a := fun a ha => (g7.st a (by show a ∈ D :: κ6.tmp; rw [t6]; exact List.mem_cons_of_mem _ ha)).trans (st6 a ha)
          have hv7 : H7 D = some (.lst vs6) := (g7.st D (List.mem_cons_self)).trans hv6
          have gz := g6.trans g7.toGrow
          have gb := t2.trans gz
          refine ⟨κ6.on D, wipeS ρ2 (tgSlots u), M6, _, (rs2.grow (g34.trans gz)).wipe _, m7, ri7, wTg_mo _ _ _ _ _ (fun ρ3 hw σ3 rs3 sb3 => ⟨sb3.wipe.trans SB.wiped.wipe, ?_⟩) hw⟩
          refine ⟨κ6.on D, ρ3, M6, rs3, m7, mC mo c ρ3 _ _ _ _ _ (fun b M8 hw κ8 H8 g8 m8 => ?_) (fun _ _ z => z.elim) hw⟩
          cases b with
          | false =>
            obtain ⟨κ9, rfl, w1, w2, w3, w4⟩ := fin t6 gb st7 hv7 g8
            exact ⟨hlt1, κ9, M8, acc6, vs6, gz.trans g8.toGrow, w1, w3, w4, rv6.grow (g7.trans g8).toGrow, hl6, m8, hw⟩
          | true =>
            refine ⟨κ8, ρ3, M8, rs3.grow g8.toGrow, m8, mE mo e ρ3 _ _ _ _ _ (fun v M9 hw κa ya Ha ga ra ma => ?_) (fun _ _ z => z.elim) hw⟩
            obtain ⟨hz, hw⟩ := hw
            obtain ⟨κ9, rfl, w1, w2, w3, w4⟩ := fin t6 gb st7 hv7 (g8.trans ga)
            have rva := rv6.grow (g7.trans (g8.trans ga)).toGrow
            have hlen : vs6.length < sizeLine := by rw [rv6.length]; exact hz
            refine ⟨vs6, w4, hlen, hlt1, κ9, M9, acc6 ++ [v], vs6 ++ [ya], (gz.trans (g8.trans ga).toGrow).trans Grow.tick, w1, fun a ha => ?_, upd_same, Pd.append (rva.grow Grow.tick) (.cons (ra.grow Grow.tick) .nil), by rw [List.length_append, List.length_singleton]; omega, ma.tick, hw⟩
            rw [upd_ne fun z => hDt (by rw [← z]; exact ha)]
            exact w3 a ha
        · have e0 : j = items1.length := by omega
          subst e0
          rw [List.drop_length] at hw
          simp only [wLcK] at hw
          exact .inl ⟨io1.stop _ _ _ g6 m6 hw.1, hlt, κ6, M6, acc6, vs6, t2.trans g6, t6, st6, hv6, rv6, hl6, m6, hw.2⟩
    · have e0 : i = items.length := by omega
      subst e0
      rw [List.drop_length] at hw
      simp only [wLc2] at hw
      refine .inl ⟨io.stop _ _ _ g m' hw.1, ?_⟩
      refine hw.2 κ' D vs H' (g1.toGrow.trans g) (tm.trans g1.tmp) (fun a ha => (st a (by rw [g1.tmp]; exact ha)).trans (g1.st a ha)) (by rw [← g1.tmp]; exact hDt) hv hl rv m'
theorem GOk.blk (G : GOk X Γ W T) (hc : T.cm = true) (s : Shared) (H : Hp) (scope : Scope) (C : Addr) (cl : List (Str × Addr)) (fp : List Addr) : GOk (X.blk s H scope (compEnvC scope cl C X.env) fp) Γ WF { T with sc := relS scope T.sc } where
  eN := G.eN
  eS := by rw [← G.eS]; rfl
  nd := G.nd
  calm := G.calm
  hu := G.hu
  gu := G.gu
  bt := G.bt
  fk := G.fk
  fn := G.fn
  tk := fun u s' ⟨_, _, _, _, _, _, _, _, _, _, _, _, _, _, _, _, w⟩ => w.elim
  mo := G.mo
  dp := G.dp
  xo := G.xo
  cl := G.cl
  cu := fun a dd c f v h => by cases ((G.cn hc).symm.trans h)
  xm := G.xm
  hn := G.hn
  cn := G.cn
  ht := fun h => by rw [hc] at h; cases h
theorem jf_comp {e : E} {t : Tg} {it : It} {c : Oe} {elt tg iter : Expr} {ifs : List Expr} {scope : Scope} {own : List (Str × Nat)} (G : GOk X Γ W T) (hc : T.cm = true) (hi : PI X tg iter (gI X Γ W it)) (ok : BlkOk X.N X.env.scope scope own) (ho : own.map (·.2) = tgSlots t)
    (hg : ∀ (s : Shared) (H : Hp) (C : Addr) (cl : List (Str × Addr)) (fp : List Addr), PG (X.blk s H scope (compEnvC scope cl C X.env) fp) tg (gTg (X.blk s H scope (compEnvC scope cl C X.env) fp) t))
    (ht : ∀ (s : Shared) (H : Hp) (C : Addr) (cl : List (Str × Addr)) (fp : List Addr), PTs (X.blk s H scope (compEnvC scope cl C X.env) fp) ifs (gC (X.blk s H scope (compEnvC scope cl C X.env) fp) Γ WF c))
    (he : ∀ (s : Shared) (H : Hp) (C : Addr) (cl : List (Str × Addr)) (fp : List Addr), PE (X.blk s H scope (compEnvC scope cl C X.env) fp) elt (gE (X.blk s H scope (compEnvC scope cl C X.env) fp) Γ WF e)) (hs : notSet iter = true) :
    PE X (.ListComp elt [⟨tg, iter, ifs, 0⟩] scope pos) (gF X Γ W (.comp e t it c)) := by
  refine (pe_lc (wi := gI X Γ W it) (g := gTg X t) (tt := gC X Γ WF c) (te := gE X Γ WF e) (G.calm hc) G.nd hi ok hg ht he (fs_of hs)).mono fun σ H Q h => ?_
  rw [ho]
  exact lc_read G.mo h
theorem jf_comp2 {e : E} {t u : Tg} {it ju : It} {c : Oe} {elt tg iter tg1 iter1 : Expr} {ifs1 : List Expr} {scope : Scope} {own : List (Str × Nat)} (G : GOk X Γ W T) (hc : T.cm = true) (hi : PI X tg iter (gI X Γ W it)) (ok : BlkOk X.N X.env.scope scope own) (ho : own.map (·.2) = tgSlots t ++ tgSlots u)
    (hg : ∀ (s : Shared) (H : Hp) (C : Addr) (cl : List (Str × Addr)) (fp : List Addr), PG (X.blk s H scope (compEnvC scope cl C X.env) fp) tg (gTg (X.blk s H scope (compEnvC scope cl C X.env) fp) t))
    (hi1 : ∀ (s : Shared) (H : Hp) (C : Addr) (cl : List (Str × Addr)) (fp : List Addr), PI (X.blk s H scope (compEnvC scope cl C X.env) fp) tg1 iter1 (gI (X.blk s H scope (compEnvC scope cl C X.env) fp) Γ WF ju))
    (hg1 : ∀ (s : Shared) (H : Hp) (C : Addr) (cl : List (Str × Addr)) (fp : List Addr), PG (X.blk s H scope (compEnvC scope cl C X.env) fp) tg1 (gTg (X.blk s H scope (compEnvC scope cl C X.env) fp) u))
    (ht0 : ∀ (s : Shared) (H : Hp) (C : Addr) (cl : List (Str × Addr)) (fp : List Addr), PTs (X.blk s H scope (compEnvC scope cl C X.env) fp) [] (gC (X.blk s H scope (compEnvC scope cl C X.env) fp) Γ WF .none))
    (ht : ∀ (s : Shared) (H : Hp) (C : Addr) (cl : List (Str × Addr)) (fp : List Addr), PTs (X.blk s H scope (compEnvC scope cl C X.env) fp) ifs1 (gC (X.blk s H scope (compEnvC scope cl C X.env) fp) Γ WF c))
    (he : ∀ (s : Shared) (H : Hp) (C : Addr) (cl : List (Str × Addr)) (fp : List Addr), PE (X.blk s H scope (compEnvC scope cl C X.env) fp) elt (gE (X.blk s H scope (compEnvC scope cl C X.env) fp) Γ WF e)) (hs : notSet iter = true) (hs1 : notSet iter1 = true) :
    PE X (.ListComp elt [⟨tg, iter, [], 0⟩, ⟨tg1, iter1, ifs1, 0⟩] scope pos) (gF X Γ W (.comp2 e t it u ju c)) := by
  refine (pe_lc2 (wi := gI X Γ W it) (g := gTg X t) (tt := gC X Γ WF .none) (wi1 := gI X Γ WF ju) (g1 := gTg X u) (tt1 := gC X Γ WF c) (te := gE X Γ WF e) (vs1 := tgSlots u) (G.calm hc) G.nd hi ok (fun i hi => by rw [ho]; exact List.mem_append_right _ hi) hg ht0 hi1 hg1 ht he (fs_of hs) (fun env => fs_of hs1)).mono fun σ H Q h => ?_
  rw [ho]
  exact lc2_read G.mo h
/-- name = [..] -/
theorem js_comp {i : Nat} {y : Str} {py spos : Pos} {te : E} {e : E} {t : Tg} {it : It} {c : Oe} {elt tg iter : Expr} {ifs : List Expr} {scope : Scope} {own : List (Str × Nat)} (G : GOk X Γ W T) (hc : T.cm = true) (hy : X.N[i]? = some y) (hyl : X.env.scope.names.lookup y = some .local)
    (hsw : swapsWith (.ListComp elt [⟨tg, iter, ifs, 0⟩] scope pos) (some (.Name y py)) spos.line X.env = pure true) (hi : PI X tg iter (gI X Γ W it)) (ok : BlkOk X.N X.env.scope scope own) (ho : own.map (·.2) = tgSlots t)
    (hg : ∀ (s : Shared) (H : Hp) (C : Addr) (cl : List (Str × Addr)) (fp : List Addr), PG (X.blk s H scope (compEnvC scope cl C X.env) fp) tg (gTg (X.blk s H scope (compEnvC scope cl C X.env) fp) t))
    (ht : ∀ (s : Shared) (H : Hp) (C : Addr) (cl : List (Str × Addr)) (fp : List Addr), PTs (X.blk s H scope (compEnvC scope cl C X.env) fp) ifs (gC (X.blk s H scope (compEnvC scope cl C X.env) fp) Γ WF c))
    (he : ∀ (s : Shared) (H : Hp) (C : Addr) (cl : List (Str × Addr)) (fp : List Addr), PE (X.blk s H scope (compEnvC scope cl C X.env) fp) elt (gE (X.blk s H scope (compEnvC scope cl C X.env) fp) Γ WF e)) (hs : notSet iter = true) :
    PS X (.Assign [.Name y py] (.ListComp elt [⟨tg, iter, ifs, 0⟩] scope pos) spos) (tAsg (gF X Γ W (.comp e t it c)) (gName i)) := by
  refine ⟨fun pins s σ H D I h => (ps_setLc (wi := gI X Γ W it) (g := gTg X t) (tt := gC X Γ WF c) (te := gE X Γ WF e) (G.calm hc) G.nd hy hyl hsw hi ok hg ht he (fs_of hs)).run pins s σ H D I ?_⟩
  show tLc _ _ _ _ _ _ _ _
  rw [ho]
  exact lc_read G.mo h
end
end G

/-! Layer G, part 4h: comprehensions over a list or a tuple while an error is handled. -/
namespace G
open PySem L2 PySem.Spec PyProof.Rows HotX
section
variable {prog : Program} {w : World} {A : Around} {E : Value → Shared → Prop} {s : Shared}
theorem list_end_hot {it l x1 : Addr} {i : Nat} {items} {Q : Option Value → Shared → Prop} (hot : HotAt A x1 s.heap)
    (hit : s.heap.IsListIter it l i) (hl : s.heap.IsList l items) (hx : items[i]? = none)
    (hQ : ∀ h', (∀ b u, b ≠ it → s.heap.get? b = some u → h'.get? b = some u) → Q none { s with heap := h' }) : wpAny (model prog w) A (pyNext (.ref it)) Q E s := by
  obtain ⟨o, ho, hc, hd⟩ := id hit
  obtain ⟨ol, hol, _, nl, hdl⟩ := hl
  obtain ⟨hh, o1, vs1, h1, d1, c1⟩ := hot
  have ne : it ≠ x1 := fun z => by
    rw [z, h1] at ho
    cases ho
    rw [d1] at hd
    cases hd
    cases c1
  unfold pyNext
  refine wpAny_bind (wpAny_attempt (wpAny_callSpecial?_slot (name := Str.ofString "__next__") hit.typeIs slot_listiter_next (wpAny_call_entry slot_listiter_next hit.typeIs entry_listiter_next ?_ (args_listiter_next _))))
  show wpAny _ _ (field (.ref it) 0 >>= _) _ _ s
  refine wpAny_bind (wpAny_field ho hd (x := .ref l) rfl ?_)
  have nn : ¬ ((Value.ref l == Value.none) = true) := Bool.false_ne_true
  show wpAny _ _ (if (Value.ref l == Value.none) = true then _ else _) _ _ s
  rw [if_neg nn]
  show wpAny _ _ (field (.ref it) 1 >>= _) _ _ s
  refine wpAny_bind (wpAny_field ho hd (x := .int i 0) rfl (wpAny_bind (wpAny_seqItems hol hdl ?_)))
  simp only [Int.toNat_natCast, hx]
  refine wpAny_bind (wpAny_rule (wpAny_bind (wpAny_setField ho hd (by simp) ?_)))
  have h1' : (s.heap.update it (Obj.mapFields (·.setIfInBounds 0 .none))).get? x1 = some o1 := (Heap.get?_update_other _ _ ne).trans h1
  show wpAny _ _ (newExc (.type "StopIteration") [] >>= _) _ _ _
  refine wpAny_bind ?_
  simp only [newExc, newTuple]
  refine wpAny_bind (wpAny_newObj_type ?_ (by size_fits))
  refine wpAny_bind (m := firstArgMember _ _) (wpAny_of_eq (a := Value.none) (by first | rfl | (simp only [firstArgMember]; rfl)) ?_)
  refine wpAny_newObj_type ?_ (by size_fits)
  have k2 : ∀ {b u} {x y : Obj}, (s.heap.update it (Obj.mapFields (·.setIfInBounds 0 .none))).get? b = some u → (((s.heap.update it (Obj.mapFields (·.setIfInBounds 0 .none))).push x).push y).get? b = some u := fun z => Heap.get?_push_of_some _ (Heap.get?_push_of_some _ z)
  refine raiseNew_hot ⟨hh, o1, vs1, k2 h1', d1, c1⟩ (Nat.ne_of_lt (Heap.lt_size (Heap.get?_push_of_some _ h1'))) (Heap.get?_push_size _ rfl) rfl (by first | (simp; done) | (simp; omega) | (simp only [Array.size_append]; simp; omega)) ?_
  refine wpAny_bind (wpAny_isInstance (T := "StopIteration") (b := true) ⟨_, Heap.get?_update_self _ (Heap.get?_push_size _ rfl) rfl, rfl⟩ isSubtype_stop ?_)
  refine wpAny_pure (hQ _ fun b u hb z => ?_)
  have z' : (s.heap.update it (Obj.mapFields (·.setIfInBounds 0 .none))).get? b = some u := (Heap.get?_update_other _ _ (Ne.symm hb)).trans z
  rw [Heap.get?_update_other _ _ (Nat.ne_of_gt (Heap.lt_size (Heap.get?_push_of_some _ z')))]
  exact k2 z'
theorem tuple_end_hot {it l x1 : Addr} {i : Nat} {items} {Q : Option Value → Shared → Prop} (hot : HotAt A x1 s.heap)
    (hit : s.heap.IsTupleIter it l i) (hl : s.heap.IsTuple l items) (hx : items[i]? = none)
    (hQ : ∀ h', (∀ b u, b ≠ it → s.heap.get? b = some u → h'.get? b = some u) → Q none { s with heap := h' }) : wpAny (model prog w) A (pyNext (.ref it)) Q E s := by
  obtain ⟨o, ho, hc, hd⟩ := id hit
  obtain ⟨ol, hol, _, nl, hdl⟩ := hl
  obtain ⟨hh, o1, vs1, h1, d1, c1⟩ := hot
  have ne : it ≠ x1 := fun z => by
    rw [z, h1] at ho
    cases ho
    rw [d1] at hd
    cases hd
    cases c1
  unfold pyNext
  refine wpAny_bind (wpAny_attempt (wpAny_callSpecial?_slot (name := Str.ofString "__next__") hit.typeIs F.slot_tuple_iterator_next (wpAny_call_entry F.slot_tuple_iterator_next hit.typeIs F.entry_tuple_iterator_next ?_ (F.args_tuple_iterator_next_1 _))))
  show wpAny _ _ (field (.ref it) 0 >>= _) _ _ s
  refine wpAny_bind (wpAny_field ho hd (x := .ref l) rfl ?_)
  have nn : ¬ ((Value.ref l == Value.none) = true) := Bool.false_ne_true
  show wpAny _ _ (if (Value.ref l == Value.none) = true then _ else _) _ _ s
  rw [if_neg nn]
  show wpAny _ _ (field (.ref it) 1 >>= _) _ _ s
  refine wpAny_bind (wpAny_field ho hd (x := .int i 0) rfl (wpAny_bind (wpAny_seqItems hol hdl ?_)))
  simp only [Int.toNat_natCast, hx]
  refine wpAny_bind (wpAny_rule (wpAny_bind (wpAny_setField ho hd (by simp) ?_)))
  have h1' : (s.heap.update it (Obj.mapFields (·.setIfInBounds 0 .none))).get? x1 = some o1 := (Heap.get?_update_other _ _ ne).trans h1
  show wpAny _ _ (newExc (.type "StopIteration") [] >>= _) _ _ _
  refine wpAny_bind ?_
  simp only [newExc, newTuple]
  refine wpAny_bind (wpAny_newObj_type ?_ (by size_fits))
  refine wpAny_bind (m := firstArgMember _ _) (wpAny_of_eq (a := Value.none) (by first | rfl | (simp only [firstArgMember]; rfl)) ?_)
  refine wpAny_newObj_type ?_ (by size_fits)
  have k2 : ∀ {b u} {x y : Obj}, (s.heap.update it (Obj.mapFields (·.setIfInBounds 0 .none))).get? b = some u → (((s.heap.update it (Obj.mapFields (·.setIfInBounds 0 .none))).push x).push y).get? b = some u := fun z => Heap.get?_push_of_some _ (Heap.get?_push_of_some _ z)
  refine raiseNew_hot ⟨hh, o1, vs1, k2 h1', d1, c1⟩ (Nat.ne_of_lt (Heap.lt_size (Heap.get?_push_of_some _ h1'))) (Heap.get?_push_size _ rfl) rfl (by first | (simp; done) | (simp; omega) | (simp only [Array.size_append]; simp; omega)) ?_
  refine wpAny_bind (wpAny_isInstance (T := "StopIteration") (b := true) ⟨_, Heap.get?_update_self _ (Heap.get?_push_size _ rfl) rfl, rfl⟩ isSubtype_stop ?_)
  refine wpAny_pure (hQ _ fun b u hb z => ?_)
  have z' : (s.heap.update it (Obj.mapFields (·.setIfInBounds 0 .none))).get? b = some u := (Heap.get?_update_other _ _ (Ne.symm hb)).trans z
  rw [Heap.get?_update_other _ _ (Nat.ne_of_gt (Heap.lt_size (Heap.get?_push_of_some _ z')))]
  exact k2 z'
end
/-- an iterator whose turns may be asked for while an error is handled -/
structure TurnS (P : Program) (w : World) (K : PySem.W.Frag) (tg : Expr) (J : L2.It) (it : Addr) (tn : Nat → Heap → Prop) : Prop where
  obj : ∀ i h, tn i h → ∃ o, h.get? it = some o ∧ ∀ v, o.data ≠ .cell v
  keep : ∀ i h h', tn i h → (∀ o, h.get? it = some o → h'.get? it = some o) → tn i h'
  item : ∀ (X : Cx), X.prog = P → X.w = w → X.K = K → ∀ (i : Nat) (pins : List (Addr × Obj)) (s : Shared) (σ : L2.St) (H : Hp) (E : Value → Shared → Prop), Inv X pins σ H s → FpOk X pins H it → tn i s.heap → J.go i H →
    wpAny (model P w) X.A (pyNext (.ref it)) (fun r s1 => ∃ u, r = some u ∧ wpAny (model P w) X.A (letOwnedTupleGo tg (.ref it) u) (fun _ s2 => ∃ x H', Inv X pins σ H' s2 ∧ RelV x u ∧ J.yld i H x H' ∧ tn (i + 1) s2.heap ∧ H' it = none) E s1) E s
  done : ∀ (X : Cx), X.prog = P → X.w = w → X.K = K → ∀ (i : Nat) (pins : List (Addr × Obj)) (s : Shared) (σ : L2.St) (H : Hp) (E : Value → Shared → Prop), (∃ x1, HotAt X.A x1 s.heap) → Inv X pins σ H s → FpOk X pins H it → tn i s.heap → J.stop i H →
    wpAny (model P w) X.A (pyNext (.ref it)) (fun r s1 => r = none ∧ Inv X pins σ H s1) E s
  self : ∀ (A : Around) (i : Nat) (s : Shared) (Q : Value → Shared → Prop) (E : Value → Shared → Prop), tn i s.heap → Q (.ref it) s → wpAny (model P w) A (pyIter (.ref it)) Q E s
theorem turnS_list {P : Program} {w : World} {K : PySem.W.Frag} {tg : Expr} (a it : Addr) : TurnS P w K tg (Itl K a) it (fun i h => h.IsListIter it a i) where
  obj := fun i h ⟨o, e, c, d⟩ => ⟨o, e, fun v z => by rw [d] at z; cases z⟩
  keep := fun i h h' st k => st.at k
  item := fun X hP hw hK i pins s σ H E I ⟨f0, f1, f2, f3, f4, f5⟩ st ⟨xs, x, hq, hx⟩ => by
    subst hP hw hK
    obtain ⟨its, rv, pl, hz⟩ := I.list hq
    obtain ⟨u, hu, ru⟩ := rv.get hx
    refine wpAny_pyNext_list_item st pl.isList (x := u) (by simpa using hu) fun h' st' sb => ?_
    have I1 : Inv X pins σ H { s with heap := h' } := I.turned (t' := s.toks) (fun b o hb e => (sb.2 b hb).trans e) f0 f1 f3 f4 f5
    obtain ⟨o, e, c, d⟩ := id st'
    exact ⟨u, rfl, go_of (s := { s with heap := h' }) e c d (by decide) ⟨x, H, I1, ru, ⟨rfl, fun ys hy => I.list_inj hy hq ▸ hx⟩, st', f0⟩⟩
  done := fun X hP hw hK i pins s σ H E ⟨x1, hot⟩ I ⟨f0, f1, f2, f3, f4, f5⟩ st ⟨xs, hq, hx⟩ => by
    subst hP hw hK
    obtain ⟨its, rv, pl, hz⟩ := I.list hq
    have hl := rv.length
    exact list_end_hot hot st pl.isList (by simp; omega) fun h' eb => ⟨rfl, I.turned (t' := s.toks) (fun b o hb e => eb b o hb e) f0 f1 f3 f4 f5⟩
  self := fun _ _ _ _ _ st h => wpAny_pyIter_listiter st h
theorem turnS_tuple {P : Program} {w : World} {K : PySem.W.Frag} {tg : Expr} (a it : Addr) : TurnS P w K tg (Itt K a) it (fun i h => h.IsTupleIter it a i) where
  obj := fun i h ⟨o, e, c, d⟩ => ⟨o, e, fun v z => by rw [d] at z; cases z⟩
  keep := fun i h h' st k => st.at k
  item := fun X hP hw hK i pins s σ H E I ⟨f0, f1, f2, f3, f4, f5⟩ st ⟨xs, x, hq, hx⟩ => by
    subst hP hw hK
    obtain ⟨its, rv, pl, hz⟩ := I.tuple hq
    obtain ⟨u, hu, ru⟩ := rv.get hx
    refine wpAny_pyNext_tuple_item st (show s.heap.IsTuple a its.toArray from pl) (x := u) (by simpa using hu) fun h' st' sb => ?_
    have I1 : Inv X pins σ H { s with heap := h' } := I.turned (t' := s.toks) (fun b o hb e => (sb.2 b hb).trans e) f0 f1 f3 f4 f5
    obtain ⟨o, e, c, d⟩ := id st'
    exact ⟨u, rfl, go_of (s := { s with heap := h' }) e c d (by decide) ⟨x, H, I1, ru, ⟨rfl, fun ys hy => I.tuple_inj hy hq ▸ hx⟩, st', f0⟩⟩
  done := fun X hP hw hK i pins s σ H E ⟨x1, hot⟩ I ⟨f0, f1, f2, f3, f4, f5⟩ st ⟨xs, hq, hx⟩ => by
    subst hP hw hK
    obtain ⟨its, rv, pl, hz⟩ := I.tuple hq
    have hl := rv.length
    exact tuple_end_hot hot st (show s.heap.IsTuple a its.toArray from pl) (by simp; omega) fun h' eb => ⟨rfl, I.turned (t' := s.toks) (fun b o hb e => eb b o hb e) f0 f1 f3 f4 f5⟩
  self := fun _ _ _ _ _ st h => wpAny_pyIter_tupleiter st h
section
variable {X : Cx} {pins : List (Addr × Obj)} {σ : L2.St} {H : Hp} {s : Shared}
/-- the error that is handled stands as it was, in the block too -/
theorem hot_in {p : Addr × Obj} {scope : Scope} {ce : PySem.Env} {it : Addr} {σ' : L2.St} {H' : Hp} {s' : Shared} (hp : p ∈ X.pn) (h1 : L2H.Hot1 X.A p) (I : Inv X pins σ H s) (f : FpOk X pins H it) (J : Inv (X.blk s H scope ce [it]) [] σ' H' s') : ∃ x1, HotAt X.A x1 s'.heap := by
  obtain ⟨hh, vs, e1, c1⟩ := h1
  obtain ⟨g, fr, nl, nf, _⟩ := I.pin p (List.mem_append_left _ hp)
  refine ⟨p.1, hh, p.2, vs, J.base.keep p.1 p.2 g fr (fun z => ?_) (fun z => ?_), e1, c1⟩
  · exact (List.mem_cons.mp (I.stkSub p.1 z)).elim nl nf
  · have e : p.1 = it := by simpa using (show p.1 ∈ [it] from z)
    exact f.2.2.2.2.2 p (List.mem_append_left _ hp) e
variable {elt tg iter : Expr} {ifs : List Expr} {scope : Scope} {own : List (Str × Nat)} {pos : Pos} {g : TG} {tt : TT} {te : TE} {Q : VK}
/-- what tLc wants, the iterator being there -/
def rLc (g : TG) (tt : TT) (te : TE) (vs : List Nat) (σ : L2.St) (Q : VK) (J : L2.It) (H1 : Hp) : Prop := ∀ D, H1 D = none → ∃ V : Nat → Nat → Hp → Prop, (∃ m, V 0 m (upd H1 D (.lst []))) ∧ ∀ i m H, V i m H →
  (J.stop i H ∧ Q (.ref D) H) ∨ (J.go i H ∧ ∃ N : Hp → Prop, (∀ H', N H' → ∃ m', m' < m ∧ V (i + 1) m' H') ∧ ∀ x H', J.yld i H x H' → g x (wipe σ vs) H' fun σ2 H2 => wipe σ2 vs = wipe σ vs ∧ tt σ2 H2 fun b H3 =>
    if b = true then te σ2 H3 fun y H4 => ∃ acc, H4 D = some (.lst acc) ∧ acc.length < sizeLine ∧ N (upd H4 D (.lst (acc ++ [y]))) else N H3)
theorem hot_loop {it : Addr} {tn : Nat → Heap → Prop} {J : L2.It} (hc : L2H.HotC X) (hN : X.N.Nodup) (I : Inv X pins σ H s) (ok : BlkOk X.N X.env.scope scope own) (T : TurnS X.prog X.w X.K tg J it tn) (st : tn 0 s.heap) (f : FpOk X pins H it)
    (hg : ∀ (s : Shared) (H : Hp) (C : Addr) (cl : List (Str × Addr)) (fp : List Addr), PG (X.blk s H scope (compEnvC scope cl C X.env) fp) tg g) (ht : ∀ (s : Shared) (H : Hp) (C : Addr) (cl : List (Str × Addr)) (fp : List Addr), PTs (X.blk s H scope (compEnvC scope cl C X.env) fp) ifs tt)
    (he : ∀ (s : Shared) (H : Hp) (C : Addr) (cl : List (Str × Addr)) (fp : List Addr), PE (X.blk s H scope (compEnvC scope cl C X.env) fp) elt te) (q : rLc g tt te (own.map (·.2)) σ Q J H) :
    wpAny (model X.prog X.w) X.A (newList []) (fun acc s₃ => wpAny (model X.prog X.w) X.A (newFunctionEnv scope X.env.globals (cloFrom X.env.cells scope.names []) [] X.env.qual none .none (some X.env)) (fun cenv s₄ =>
      codeAny (model X.prog X.w) X.A (.compStart (.ListComp elt [⟨tg, iter, ifs, 0⟩] scope pos) 0 (.ref it) acc { cenv with scope := relabel scope X.env }) (compPost (model X.prog X.w) X.A X.xe none (EP X pins σ Q) acc cenv.locals) s₄) X.xe s₃) X.xe s := by
  obtain ⟨p, hp1, hpn⟩ := hc
  refine wpAny_newObj_type (newEnv_comp ?_) (by show 0 ≤ sizeLine; decide)
  generalize eD : s.heap.objs.size = D
  obtain ⟨V, ⟨m0, v0⟩, turn⟩ := q D (I.hok.fresh (Nat.le_of_eq eD))
  have ltI : it < s.heap.objs.size := let ⟨o, e, _⟩ := T.obj _ _ st; Heap.lt_size e
  -- the list that is made
  generalize eT : ({ s with heap := s.heap.push { cls := .type "list", data := .seq ([] : List Value).toArray } } : Shared) = t
  have ht0 : t.heap = s.heap.push { cls := .type "list", data := .seq ([] : List Value).toArray } := by rw [← eT]
  have It : Inv X pins σ (upd H D (.lst [])) t := by
    rw [← eT]
    exact I.laid (t' := s.toks) (fun b o e => Heap.get?_push_of_some _ e) (Nat.le_of_eq eD) ⟨Nat.zero_le _, [], 0, .nil, by rw [← eD]; exact Heap.get?_push_size _ rfl⟩
  have ft : FpOk X pins (upd H D (.lst [])) it := ⟨by rw [upd_ne (by rw [← eD]; exact Nat.ne_of_lt ltI)]; exact f.1, f.2⟩
  have ltT : it < t.heap.objs.size := by rw [ht0, Heap.size_push]; exact Nat.lt_succ_of_lt ltI
  have B0 := block_start It ok hN (fp := [it]) fun b hb => by
    have e : b = it := by simpa using hb
    subst e
    exact ⟨ft, ltT⟩
  have stT : tn 0 t.heap := T.keep _ _ _ st fun o e => by rw [ht0]; exact Heap.get?_push_of_some _ e
  have jg := hg t (upd H D (.lst [])) t.heap.objs.size (cellsFrom (t.heap.objs.size + 1) scope.names (cloFrom X.env.cells scope.names [])) [it]
  have jt := ht t (upd H D (.lst [])) t.heap.objs.size (cellsFrom (t.heap.objs.size + 1) scope.names (cloFrom X.env.cells scope.names [])) [it]
  have je := he t (upd H D (.lst [])) t.heap.objs.size (cellsFrom (t.heap.objs.size + 1) scope.names (cloFrom X.env.cells scope.names [])) [it]
  show codeAny _ _ (.compStart (.ListComp elt [⟨tg, iter, ifs, 0⟩] scope pos) 0 (.ref it) (.ref D) (compEnvC scope (cellsFrom (t.heap.objs.size + 1) scope.names (cloFrom X.env.cells scope.names [])) t.heap.objs.size X.env)) (compPost (model X.prog X.w) X.A X.xe none (EP X pins σ Q) (.ref D) t.heap.objs.size) { t with heap := pushCells (t.heap.push { cls := .type "dict", data := .dict #[] }) scope.names }
  generalize eC : compEnvC scope (cellsFrom (t.heap.objs.size + 1) scope.names (cloFrom X.env.cells scope.names [])) t.heap.objs.size X.env = ce at B0 jg jt je ⊢
  have cL : ce.locals = t.heap.objs.size := by subst eC; rfl
  generalize eH : upd H D (.lst []) = G at It ft B0 jg jt je v0
  generalize eU : ({ t with heap := pushCells (t.heap.push { cls := .type "dict", data := .dict #[] }) scope.names } : Shared) = u at B0 ⊢
  have stU : tn 0 u.heap := T.keep _ _ _ stT fun o e => by rw [← eU]; exact pushCells_keeps _ _ _ _ (Heap.get?_push_of_some _ e)
  -- the iterator is free of all that the block holds
  have free : ∀ {σ' : L2.St} {H' : Hp} {s' : Shared}, Inv (X.blk t G scope ce [it]) [] σ' H' s' → H' it = none → FpOk (X.blk t G scope ce [it]) [] H' it := fun {σ' H' s'} J' hn =>
    have mi : it ∈ (X.blk t G scope ce [it]).ex := List.mem_cons_self
    ⟨hn, (J'.ok.exf it mi).1, J'.ok.exfs it mi, .inl mi, fun x c e => (J'.ok.exf it mi).2 x c e, fun z hz => absurd (show z ∈ ([] : List (Addr × Obj)) ++ [] from hz) (by simp)⟩
  have loop : codeAny (model X.prog X.w) X.A (.compLoop (.ListComp elt [⟨tg, iter, ifs, 0⟩] scope pos) 0 (.ref it) (.ref D) ce) (compPost (model X.prog X.w) X.A X.xe none (EP X pins σ Q) (.ref D) t.heap.objs.size) u := by
    refine compLoop_any (fun n s' => ∃ i H', Inv (X.blk t G scope ce [it]) [] (wipe σ (own.map (·.2))) H' s' ∧ tn i s'.heap ∧ H' it = none ∧ V i n H') ?_ m0 ⟨0, G, B0, stU, ft.1, v0⟩
    rintro n s5 ⟨i, H5, J5, st5, n5, w5⟩
    rcases turn i n H5 w5 with ⟨stop, qq⟩ | ⟨go, N, hN', step⟩
    · refine thnF (T.done (X.blk t G scope ce [it]) rfl rfl rfl i [] s5 _ H5 (fun _ _ => False) (hot_in (X := X) hpn hp1 It ft J5) J5 (free J5 n5) st5 stop) fun r s6 ⟨hr, J6⟩ => ?_
      subst hr
      obtain ⟨m, hm, _⟩ := J6.loc
      have hm : s6.heap.Ns ce.locals m := hm
      rw [cL] at hm
      have J7 : Inv X pins σ H5 s6 := It.call' (ch := [it]) J6.os J6.base J6.hok J6.bare fun b hb => by
        have e : b = it := by simpa using hb
        subst e
        exact ⟨ft.2.2.2.1, ft.2.1, ft.2.2.2.2.1, ft.2.2.2.2.2⟩
      have nC : H5 t.heap.objs.size = none := by
        have z : H5 ce.locals = none := J6.free
        rwa [cL] at z
      obtain ⟨f0, f1, f2, f3, f4, f5⟩ := It.fpOk (Nat.le_refl _) nC
      exact ⟨m, hm, fun h'' sb => ⟨.ref D, H5, J7.turned (t' := s6.toks) (fun b o hb e => (sb.2 b hb).trans e) f0 f1 f3 f4 f5, rfl, qq⟩⟩
    · refine thnF (T.item (X.blk t G scope ce [it]) rfl rfl rfl i [] s5 _ H5 (fun _ _ => False) J5 (free J5 n5) st5 go) fun r s6 ⟨y, hr, h6⟩ => ?_
      subst hr
      refine thnF h6 fun _ s7 ⟨x, H7, J7, r7, y7, st7, n7⟩ => ?_
      have one : ∀ b ∈ [it], b = it := fun b hb => by simpa using hb
      have P7 := J7.pinned (fp := [it]) (fun b hb => by rw [one b hb]; exact free J7 n7) (fun b hb => by rw [one b hb]; exact T.obj _ _ st7)
      refine thnF (jg.run _ s7 _ H7 x y _ P7 r7 (step x H7 y7)) fun _ s8 ⟨σ8, H8, J8, w8, q8⟩ => ?_
      refine thnF (jt.run _ s8 σ8 H8 _ J8 q8) fun b s9 ⟨H9, J9, q9⟩ => ?_
      have again : ∀ {s' : Shared} {H' : Hp}, Inv (X.blk t G scope ce [it]) ([] ++ pinsAt [it] s7.heap) σ8 H' s' → N H' → ∃ m, m < n ∧ ∃ i H', Inv (X.blk t G scope ce [it]) [] (wipe σ (own.map (·.2))) H' s' ∧ tn i s'.heap ∧ H' it = none ∧ V i m H' := fun {s' H'} J' nx => by
        obtain ⟨m', lt, v'⟩ := hN' H' nx
        obtain ⟨o, eo, _⟩ := T.obj _ _ st7
        have z := J'.pin (it, o) (List.mem_append_right _ (List.mem_append_right _ (mem_pinsAt List.mem_cons_self eo)))
        refine ⟨m', lt, i + 1, H', (J'.unpinned (pins := [])).weak (by rw [← w8, wipe_length]) (fun j v e => ?_), T.keep _ _ _ st7 fun o' e' => ?_, z.2.1, v'⟩
        · rw [← w8] at e
          exact (wipe_some e).1
        · rw [eo] at e'
          cases e'
          exact z.1
      cases b with
      | true =>
        simp only [if_true] at q9 ⊢
        exact thnF (je.run _ s9 σ8 H9 _ J9 q9) fun z s10 ⟨yv, H10, J10, r10, acc, eA, zA, nx⟩ => app_ok (X := X.blk t G scope ce [it]) J10 eA zA r10 fun s11 J11 => again J11 nx
      | false =>
        simp only [Bool.false_eq_true, if_false] at q9 ⊢
        exact again J9 q9
  exact codeAny_compStart_list loop (T.self X.A 0 _ _ _ stU loop)
/-- a comprehension over what e gives, a list or a tuple, while an error is handled -/
theorem pe_lcS {ti : TE} (hc : L2H.HotC X) (hN : X.N.Nodup) (hi : PE X iter ti) (ok : BlkOk X.N X.env.scope scope own)
    (hg : ∀ (s : Shared) (H : Hp) (C : Addr) (cl : List (Str × Addr)) (fp : List Addr), PG (X.blk s H scope (compEnvC scope cl C X.env) fp) tg g) (ht : ∀ (s : Shared) (H : Hp) (C : Addr) (cl : List (Str × Addr)) (fp : List Addr), PTs (X.blk s H scope (compEnvC scope cl C X.env) fp) ifs tt)
    (he : ∀ (s : Shared) (H : Hp) (C : Addr) (cl : List (Str × Addr)) (fp : List Addr), PE (X.blk s H scope (compEnvC scope cl C X.env) fp) elt te) (hs : ∀ x, foldedSetIterable iter X.env x = pure x) :
    PE X (.ListComp elt [⟨tg, iter, ifs, 0⟩] scope pos) (tLc (fun σ H R => ti σ H fun x H1 => ∃ a, x = .ref a ∧ (((∃ xs, SqL X.K H1 a xs) ∧ R (Itl X.K a) H1) ∨ ((∃ xs, SqT X.K H1 a xs) ∧ R (Itt X.K a) H1))) g tt te (own.map (·.2))) := by
  refine ⟨fun pins s σ H Q I h => ?_⟩
  rw [eval_ListComp]
  have hfree : ∀ y ∈ scope.names, y.2 = .free → ∃ c, X.env.cells.lookup y.1 = some c := fun y hy e => (ok.free y hy e).elim (fun k => I.ok.has _ (.inl k)) fun k => I.ok.has _ (.inr k)
  refine wpAny_comprehension_free (use := none) rfl hs (closure_ok hfree) ok.kind (fun y hy e => by rw [ok.uniq y hy, e]) (thn (hi.run pins s σ H _ I h) fun v s1 ⟨x, H1, I1, rx, a, ex, q⟩ => ?_)
  subst ex
  cases rx
  rcases q with ⟨⟨xs, hq⟩, q⟩ | ⟨⟨xs, hq⟩, q⟩
  · obtain ⟨its, rv, pl, hz⟩ := I1.list hq
    refine wpAny_pyIter_list pl.isList ?_
    have I2 : Inv X pins σ H1 { s1 with heap := s1.heap.push { cls := .type "list_iterator", data := .fields #[.ref a, .int 0 0] } } := I1.kept (t' := s1.toks) fun b o e => Heap.get?_push_of_some _ e
    exact hot_loop hc hN I2 ok (turnS_list a _) ⟨_, Heap.get?_push_size _ rfl, rfl, rfl⟩ (I1.fpOk (Nat.le_refl _) (I1.hok.fresh (Nat.le_refl _))) hg ht he q
  · obtain ⟨its, rv, pl, hz⟩ := I1.tuple hq
    refine wpAny_pyIter_tuple (show s1.heap.IsTuple a its.toArray from pl) ?_
    have I2 : Inv X pins σ H1 { s1 with heap := s1.heap.push { cls := .type "tuple_iterator", data := .fields #[.ref a, .int 0 0] } } := I1.kept (t' := s1.toks) fun b o e => Heap.get?_push_of_some _ e
    exact hot_loop hc hN I2 ok (turnS_tuple a _) ⟨_, Heap.get?_push_size _ rfl, rfl, rfl⟩ (I1.fpOk (Nat.le_refl _) (I1.hok.fresh (Nat.le_refl _))) hg ht he q
end
section
variable {X : Cx} {Γ : Env} {W : WX} {T : CT} {pos : Pos}
/-- within such a block nothing is known of the error -/
def CT.blkS (T : CT) (scope : Scope) : CT := { T with sc := relS scope T.sc, hs := [], cm := false }
theorem GOk.blkS (G : GOk X Γ W T) (s : Shared) (H : Hp) (scope : Scope) (C : Addr) (cl : List (Str × Addr)) (fp : List Addr) : GOk (X.blk s H scope (compEnvC scope cl C X.env) fp) { Γ with cur := none } WF (T.blkS scope) where
  eN := G.eN
  eS := by rw [CT.blkS, ← G.eS]; rfl
  nd := G.nd
  calm := fun h => by cases h
  hu := G.hu
  gu := G.gu
  bt := G.bt
  fk := G.fk
  fn := fun h => by cases h
  tk := fun u s' ⟨_, _, _, _, _, _, _, _, _, _, _, _, _, _, _, _, w⟩ => w.elim
  mo := ⟨G.mo.mo⟩
  dp := G.dp
  xo := fun c l C hl hm => let x := G.xo c l C hl hm; { x with hs := fun c hc => by cases hc }
  cl := G.cl
  cu := fun a dd c f v h => by cases h
  xm := G.xm
  hn := fun c hc => by cases hc
  cn := fun _ => rfl
  ht := fun _ h => (h rfl).elim
theorem gE_var {i : Nat} : gE X Γ W (.var i) = gE X { Γ with cur := none } W (.var i) := by
  funext σ H Q
  simp only [gE, wE]
/-- names alone -/
def isOfV : E → It → Oe → Bool
  | .var _, .of _, .none => true
  | .var _, .of _, .some (.var _) => true
  | _, _, _ => false
theorem isOfV_some {e : E} {it : It} {c : Oe} (h : isOfV e it c = true) : ∃ i a, e = .var i ∧ it = .of a ∧ (c = .none ∨ ∃ j, c = .some (.var j)) := by
  unfold isOfV at h
  split at h
  · exact ⟨_, _, rfl, rfl, .inl rfl⟩
  · exact ⟨_, _, rfl, rfl, .inr ⟨_, rfl⟩⟩
  · cases h
theorem gC_var {j : Nat} : gC X Γ W (.some (.var j)) = gC X { Γ with cur := none } W (.some (.var j)) := by
  funext σ H Q
  simp only [gC, wC, wT, wE]
theorem gC_none : gC X Γ W .none = gC X { Γ with cur := none } W .none := by
  funext σ H Q
  simp only [gC, wC]
theorem jf_compS {i : Nat} {t : Tg} {a : E} {c : Oe} {elt tg iter : Expr} {ifs : List Expr} {scope : Scope} {own : List (Str × Nat)} (G : GOk X Γ W T) (hc : T.cm = false) (hh : T.hs ≠ []) (ha : PE X iter (gE X Γ W a)) (ok : BlkOk X.N X.env.scope scope own) (ho : own.map (·.2) = tgSlots t)
    (hg : ∀ (s : Shared) (H : Hp) (C : Addr) (cl : List (Str × Addr)) (fp : List Addr), PG (X.blk s H scope (compEnvC scope cl C X.env) fp) tg (gTg (X.blk s H scope (compEnvC scope cl C X.env) fp) t))
    (ht : ∀ (s : Shared) (H : Hp) (C : Addr) (cl : List (Str × Addr)) (fp : List Addr), PTs (X.blk s H scope (compEnvC scope cl C X.env) fp) ifs (gC (X.blk s H scope (compEnvC scope cl C X.env) fp) Γ WF c))
    (he : ∀ (s : Shared) (H : Hp) (C : Addr) (cl : List (Str × Addr)) (fp : List Addr), PE (X.blk s H scope (compEnvC scope cl C X.env) fp) elt (gE (X.blk s H scope (compEnvC scope cl C X.env) fp) Γ WF (.var i))) (hs : notSet iter = true) :
    PE X (.ListComp elt [⟨tg, iter, ifs, 0⟩] scope pos) (gF X Γ W (.comp (.var i) t (.of a) c)) := by
  refine (pe_lcS (ti := gE X Γ W a) (g := gTg X t) (tt := gC X Γ WF c) (te := gE X Γ WF (.var i)) (G.ht hc hh) G.nd ha ok hg ht he (fs_of hs)).mono fun σ H Q h => ?_
  rw [ho]
  have h := lc_read G.mo h
  -- what the iterator is
  obtain ⟨κ, ρ, M, rs, rm, h⟩ := h
  simp only [wI] at h
  refine gE.go G.mo .refl rs rm h fun x M1 κ1 vx H1 ⟨xs, e, q⟩ g1 r1 m1 => ?_
  obtain ⟨a, rfl, hs⟩ := stays m1 r1 e
  refine ⟨a, rfl, ?_⟩
  rcases hs with ⟨st, ⟨vs, hq, _⟩, _⟩ | ⟨st, ⟨vs, hq, _⟩, _⟩
  · exact .inl ⟨⟨vs, hq⟩, q κ1 H1 _ g1 m1 (it_list st)⟩
  · exact .inr ⟨⟨vs, hq⟩, q κ1 H1 _ g1 m1 (it_tup st)⟩
end
end G

/-! Layer G, part 4e: enumerate over lists and tuples. -/
namespace G
open PySem L2 PySem.Spec PyProof.Rows
/-! ### enumerate(v), v told by how its iterator begins -/
theorem meets_enum1 {v : Value} {o : Obj} {H : Heap → Prop} (B : Begins v o H) :
    Meets (Builtin.«enumerate.__new__» ⟨[.type "enumerate", v], []⟩) (fun _ R s => H s.heap ∧
      R (.ok (.ret (.ref (s.heap.push o).objs.size))) { s with heap := (s.heap.push o).push { cls := .type "enumerate", data := .fields #[.none, .bool false, .ref s.heap.objs.size, rawInt 0, .none, .none] } }) :=
  .of_wp fun prog w A R s h => by
    obtain ⟨hp, g, d, tk, os⟩ := s; obtain ⟨h1, h⟩ := h
    have hsub := sub_enumerate
    have q1 : ∀ {A' : Around} {E : Value → Shared → Prop} {Q : Value → Shared → Prop}, Q (.ref hp.objs.size) ⟨hp.push o, g, d, tk, os⟩ → wpAny (model prog w) A' (pyIter v) Q E ⟨hp, g, d, tk, os⟩ :=
      fun q => B.iter prog w _ _ ⟨hp, g, d, tk, os⟩ _ h1 q
    wp_walk using q1
    refine wpAny_stack_any fun st => wpAny_pure ?_
    split
    · rename_i c _ _ _ _ _
      cases (c == Value.type "enumerate")
      · wp_walk using q1
        exact ⟨_, rfl, h⟩
      · wp_walk using q1
        exact ⟨_, rfl, h⟩
    · wp_walk using q1
      exact ⟨_, rfl, h⟩
section
variable {prog : Program} {w : World} {A : Around} {E : Value → Shared → Prop} {s : Shared}
theorem enum1_begins {v : Value} {o : Obj} {H : Heap → Prop} {Q : Value → Shared → Prop} (B : Begins v o H) (h1 : H s.heap)
    (h : ∀ h', IsEnum h' (s.heap.objs.size + 1) s.heap.objs.size 0 .none → h'.get? s.heap.objs.size = some o → h'.objs.size = s.heap.objs.size + 2 →
      (∀ b o, s.heap.get? b = some o → h'.get? b = some o) → Q (.ref (s.heap.objs.size + 1)) { s with heap := h' }) :
    wpAny (model prog w) A (call (.type "enumerate") [v]) Q E s := by
  refine callType_new F.called_enumerate (by decide) (F.typeCall_enumerate_1 _) (F.newCall_enumerate_1 _) (fun obj => F.args_object_init_2 obj _) F.entry_enumerate_new
    (meets_enum1 B) ⟨h1, ?_⟩
  have hz : (s.heap.push o).objs.size = s.heap.objs.size + 1 := Heap.size_push ..
  show _ ∧ _
  rw [hz]
  have he : IsEnum ((s.heap.push o).push { cls := .type "enumerate", data := .fields #[.none, .bool false, .ref s.heap.objs.size, rawInt 0, .none, .none] }) (s.heap.objs.size + 1) s.heap.objs.size 0 .none := by
    have := Heap.get?_push_size (s.heap.push o) (o := { cls := .type "enumerate", data := .fields #[.none, .bool false, .ref s.heap.objs.size, rawInt 0, .none, .none] }) rfl
    rw [hz] at this; exact this
  refine ⟨⟨_, he, rfl⟩, h _ he (Heap.get?_push_of_some _ (Heap.get?_push_size _ B.free)) (by rw [Heap.size_push, hz]) fun b o x => Heap.get?_push_of_some _ (Heap.get?_push_of_some _ x)⟩
end
/-- the tuple at a, each item in a new pair -/
def Itet (K : PySem.W.Frag) (a : Addr) : L2.It :=
  ⟨fun i H => ∃ (xs : List V) (x : V), SqT K H a xs ∧ xs[i]? = some x, fun i H v H' => ∃ T x, v = .ref T ∧ H T = none ∧ H' = upd H T (.tup [.int (i : Nat), x]) ∧ ∀ xs, SqT K H a xs → xs[i]? = some x, fun i H => ∃ xs : List V, SqT K H a xs ∧ xs.length ≤ i⟩
theorem turn_enumT {P : Program} {w : World} {K : PySem.W.Frag} {elts : List Expr} {kk : Nat} {tpos : Pos} (a e it : Addr) :
    Turn P w K (.Tuple elts kk tpos) (Itet K a) [e, it] e (fun i h => (∃ old, IsEnum h e it ((i : Nat) : Int) old) ∧ h.IsTupleIter it a i ∧ e ≠ it ∧ a ≠ it ∧ e ≠ a) where
  mem := by simp
  obj := fun i h st b hb => by
    obtain ⟨⟨old, he⟩, ⟨o, ho, hc, hd⟩, _⟩ := st
    have e' : b = e ∨ b = it := by simpa using hb
    rcases e' with z | z
    · rw [z]; exact ⟨_, he, fun v q => nomatch q⟩
    · rw [z]; exact ⟨o, ho, fun v q => by rw [hd] at q; cases q⟩
  keep := fun i h h' st k => let ⟨⟨old, he⟩, hi, hne⟩ := st; ⟨⟨old, k e (by simp) _ he⟩, hi.at fun o q => k it (by simp) o q, hne⟩
  item := by
    intro X hP hw hK hc i pins s σ H E I hf st hg
    subst hP hw hK
    obtain ⟨⟨old, he⟩, hit, hne, hat, hea⟩ := st
    obtain ⟨xs, x, hq, hx⟩ := hg
    obtain ⟨its, rv, p, hz⟩ := I.tuple hq
    obtain ⟨u, hu, ru⟩ := rv.get hx
    have hel : e < s.heap.objs.size := Heap.lt_size he
    have hil : it < s.heap.objs.size := by obtain ⟨_, q, _⟩ := hit; exact Heap.lt_size q
    have hlt : i < its.toArray.size := by
      rw [List.size_toArray]
      exact (List.getElem?_eq_some_iff.mp hu).1
    refine wpAny_pyNext_enum_itemD (Draws.tuple (A := X.A.in1) (I.ok.hd hc) it a hat its.toArray) he ⟨hit, (show s.heap.IsTuple a its.toArray from p)⟩ hlt hne (by simp [hne, hea]) fun y h' tk hy ho hit' hT hsz hk => ?_
    obtain ⟨hit', _⟩ := hit'
    have ey : y = u := by
      have e1 : its.toArray[i]? = some u := by simpa using hu
      rw [e1] at hy
      exact (Option.some.inj hy).symm
    subst ey
    refine ⟨_, rfl, wpAny_letOwnedTupleGo_enum (s := { s with heap := h', toks := tk + 1 }) ho fun h'' he' sb => ?_⟩
    have hT2 : h''.get? s.heap.objs.size = some { cls := .type "tuple", data := .seq #[.int i tk, y] } := (sb.2 _ (Nat.ne_of_gt hel)).trans hT
    have new : ObjOk X.prog X.w (upd H s.heap.objs.size (.tup [.int (i : Nat), x])) h'' s.heap.objs.size (.tup [.int (i : Nat), x]) :=
      ⟨by show 2 ≤ sizeLine; decide, [.int i tk, y], .cons ⟨_, rfl⟩ (.cons ru .nil), ⟨_, hT2, rfl, _, rfl⟩⟩
    have I1 : Inv X pins σ (upd H s.heap.objs.size (.tup [.int (i : Nat), x])) { s with heap := h'', toks := tk + 1 } :=
      I.turnedNew (ch := [e, it]) (fun b ob hb q => (sb.2 b (fun z => hb (by simp [z]))).trans (hk b ob (fun z => hb (by simp [z])) (fun z => hb (by simp [z])) q)) hf (Nat.le_refl _) new
    refine ⟨.ref s.heap.objs.size, _, I1, rfl, ⟨_, x, rfl, I.hok.fresh (Nat.le_refl _), rfl, fun ys hy => by rw [I.tuple_inj hy hq]; exact hx⟩, ⟨⟨y, ?_⟩, hit'.at fun o q => (sb.2 it (Ne.symm hne)).trans q, hne, hat, hea⟩, fun b hb => ?_⟩
    · have e1 : ((i + 1 : Nat) : Int) = (i : Int) + 1 := by omega
      rw [e1]; exact he'
    · have hb' : b < s.heap.objs.size := by
        have e' : b = e ∨ b = it := by simpa using hb
        rcases e' with z | z
        · rw [z]; exact hel
        · rw [z]; exact hil
      rw [upd_ne (Nat.ne_of_lt hb')]
      exact (hf b hb).1
  done := by
    intro X hP hw hK hc i pins s σ H E I hf st hg
    subst hP hw hK
    obtain ⟨⟨old, he⟩, hit, hne, hat, hea⟩ := st
    obtain ⟨xs, hq, hx⟩ := hg
    obtain ⟨its, rv, p, hz⟩ := I.tuple hq
    obtain ⟨f0, f1, f2, f3, f4, f5⟩ := hf it (by simp)
    have hl := rv.length
    have D2 : Draws X.prog X.w X.A.in1 it [it, a] i (fun _ _ => True) (fun j h => j = i ∧ h.IsTupleIter it a i ∧ h.IsTuple a its.toArray) :=
      ⟨fun _ _ st => let ⟨o, ho, _⟩ := st.2.1; ⟨o, ho⟩, fun _ _ _ st hk => ⟨st.1, st.2.1.at fun o e => hk it (by simp) o e, st.2.2.at fun o e => hk a (by simp) o e⟩,
        fun j s Q E hj st hQ => absurd st.1 (Nat.ne_of_lt hj), fun s Q E st hE => wpAny_nextOf_tuple_end (A := X.A.in1) (I.ok.hd hc) st.2.1 st.2.2 (by simp; omega) hE⟩
    exact wpAny_pyNext_enum_endD D2 he ⟨rfl, hit, (show s.heap.IsTuple a its.toArray from p)⟩ fun h' eb => ⟨rfl, I.turned (t' := s.toks) (fun b o hb q => eb b o hb q) f0 f1 f3 f4 f5⟩
  self := fun A i s Q E st h => let ⟨⟨_, he⟩, _⟩ := st; wpAny_pyIter_enum he h
/-- enumerate over a list or a tuple, whichever it is -/
def iEnumB (K : PySem.W.Frag) (ta : TA) : TI := fun σ H R => ta σ H fun vs H1 => ∃ a, vs = [.ref a] ∧ (((∃ xs, SqL K H1 a xs) ∧ R (Ite K a) H1) ∨ ((∃ xs, SqT K H1 a xs) ∧ R (Itet K a) H1))
theorem pi_enumB {X : Cx} {e : Expr} {ta : TA} {p pos tpos : Pos} {elts : List Expr} {kk : Nat} (hg : Gl X "enumerate") (hm : X.mg "enumerate" = none) (ha : PA X [e] ta) (hs : starEach [e] X.env = [(false, eval e X.env)] := by rfl) :
    PI X (.Tuple elts kk tpos) (.Call (.Name "enumerate" p) [e] [] pos) (iEnumB X.K ta) := by
  refine ⟨fun pins s σ H R I h => ?_⟩
  refine Call_ (ld_blt I hg hm boot_enumerate (PyProof.Rows.callWith_type1 (thn (ha.run pos pins s σ H _ I h) fun us s1 ⟨vs, H1, I1, r1, q1⟩ => ?_) hs rfl))
  obtain ⟨a, ex, q⟩ := q1
  subst ex
  cases r1 with
  | cons r rr =>
    cases rr
    cases r
    have fp : ∀ b ∈ [s1.heap.objs.size + 1, s1.heap.objs.size], s1.heap.objs.size ≤ b := fun b hb => by
      have e' : b = s1.heap.objs.size + 1 ∨ b = s1.heap.objs.size := by simpa using hb
      rcases e' with z | z
      · rw [z]; exact Nat.le_add_right _ _
      · rw [z]; exact Nat.le_refl _
    rcases q with ⟨⟨xs, hq⟩, q⟩ | ⟨⟨xs, hq⟩, q⟩
    · obtain ⟨its, rv, p', hz⟩ := I1.list hq
      refine call_enumerate_list p'.isList fun h' he hit hsz hk => wpAny_pyIter_enum he ?_
      have I2 : Inv X pins σ H1 { s1 with heap := h' } := I1.kept (t' := s1.toks) hk
      exact ⟨s1.heap.objs.size + 1, [s1.heap.objs.size + 1, s1.heap.objs.size], _, _, H1, rfl, I2, turn_enum a (s1.heap.objs.size + 1) s1.heap.objs.size, ⟨⟨.none, he⟩, hit, Nat.succ_ne_self _⟩, fun b hb => I1.fpOk (fp b hb) (I1.hok.fresh (fp b hb)), q⟩
    · obtain ⟨its, rv, p', hz⟩ := I1.tuple hq
      have hal : a < s1.heap.objs.size := by obtain ⟨o, e, _⟩ := p'; exact Heap.lt_size e
      refine enum1_begins (begins_tuple a its.toArray) (show s1.heap.IsTuple a its.toArray from p') fun h' he hit hsz hk => wpAny_pyIter_enum he ?_
      have I2 : Inv X pins σ H1 { s1 with heap := h' } := I1.kept (t' := s1.toks) hk
      exact ⟨s1.heap.objs.size + 1, [s1.heap.objs.size + 1, s1.heap.objs.size], _, _, H1, rfl, I2, turn_enumT a (s1.heap.objs.size + 1) s1.heap.objs.size, ⟨⟨.none, he⟩, ⟨_, hit, rfl, rfl⟩, Nat.succ_ne_self _, Nat.ne_of_lt hal, (Nat.ne_of_lt (Nat.lt_succ_of_lt hal)).symm⟩, fun b hb => I1.fpOk (fp b hb) (I1.hok.fresh (fp b hb)), q⟩
section
variable {K : PySem.W.Frag} {H H' : Hp} {κ κ' : Loc} {M : Mem}
theorem it_enumT {a : Addr} {xs : List S} {ok : Mem → Prop} (h : TStay K H κ a xs ok) : ItOk K H κ (Itet K a) (enumItems xs) ok where
  go κ' H' M' i g m o hi := by
    obtain ⟨vs, q, r⟩ := h κ' H' M' g m o
    have hi2 : i < vs.length := by rw [r.length]; simpa [enumItems] using hi
    exact ⟨vs, vs[i], q, List.getElem?_eq_getElem hi2⟩
  yld κ' H' M' i it v H2 g m o hi y := by
    obtain ⟨vs, q, r⟩ := h κ' H' M' g m o
    obtain ⟨T, x, rfl, hn, rfl, y⟩ := y
    obtain ⟨s, e, rfl⟩ := enum_get hi
    obtain ⟨w, ew, rw'⟩ := Pd.get' r e
    have := y vs q
    rw [ew] at this
    cases this
    exact ri_pair m hn (.d (.int _)) rw'
  stop κ' H' M' g m o := by
    obtain ⟨vs, q, r⟩ := h κ' H' M' g m o
    exact ⟨vs, q, by rw [r.length]; simp [enumItems]⟩
end
section
variable {X : Cx} {Γ : Env} {W : WX} {T : CT} {a : E} {a' : Expr} {pos p p2 : Pos}
theorem ji_enum (G : GOk X Γ W T) {es : List Expr} {k : Nat} (hg : Gl X "enumerate") (ha : PE X a' (gE X Γ W a)) (na : nostar a' = true) : PI X (.Tuple es k p2) (.Call (.Name "enumerate" p) [a'] [] pos) (gI X Γ W (.enum a)) :=
  (pi_enumB hg (G.bt _ (by decide)) (pa_cons ha pa_nil (star_cons na)) (star_cons na)).mono fun σ H R ⟨κ, ρ, M, rs, rm, h⟩ => by
  simp only [wI] at h
  refine gE.go G.mo .refl rs rm h fun x M1 κ1 vx H1 ⟨xs, e, q⟩ g1 r1 m1 => ?_
  obtain ⟨a, rfl, hs⟩ := stays m1 r1 e
  rcases hs with ⟨st, ⟨vs, hq, rv⟩, _⟩ | ⟨st, ⟨vs, hq, rv⟩, _⟩
  · exact ⟨a, rfl, .inl ⟨⟨vs, hq⟩, q κ1 H1 _ g1 m1 (it_enum st)⟩⟩
  · exact ⟨a, rfl, .inr ⟨⟨vs, hq⟩, q κ1 H1 _ g1 m1 (it_enumT st)⟩⟩
end
end G

/-! Layer G, part 4f: dict displays with keys that are texts. -/
namespace G
open PySem L2 PySem.Spec PyProof.Rows
def keyStrs : List (Option Expr) → List Str → Bool
  | [], [] => true
  | some (.Constant (.str x) _ _) :: r, k :: ks => decide (x = k) && keyStrs r ks
  | _, _ => false
section
variable {X : Cx} {Γ : Env} {W : WX} {T : CT} {pos : Pos}
def trsOf (X : Cx) (Γ : Env) (W : WX) : List Str → Es → List (TE × TE)
  | k :: ks, .cons e es => (gE X Γ W (.cst (.str k)), gE X Γ W e) :: trsOf X Γ W ks es
  | _, _ => []
theorem keyStrs_some : ∀ {keys : List (Option Expr)} {ks : List Str}, keyStrs keys ks = true → keys.all (·.isSome) = true ∧ keys.length = ks.length
  | [], [], _ => ⟨rfl, rfl⟩
  | [], k :: ks, h => by cases h
  | none :: r, ks, h => by
    unfold keyStrs at h
    cases ks <;> cases h
  | some e :: r, [], h => by simp [keyStrs] at h
  | some e :: r, k :: ks, h => by
    unfold keyStrs at h
    split at h <;> first | contradiction | skip
    rename_i x j q r' k' ks' e1 e2
    cases e1
    cases e2
    rw [Bool.and_eq_true] at h
    obtain ⟨a, b⟩ := keyStrs_some h.2
    exact ⟨by simp [a], by simp [b]⟩
theorem keyStrs_cons {o : Option Expr} {r : List (Option Expr)} {k : Str} {ks : List Str} (h : keyStrs (o :: r) (k :: ks) = true) : ∃ j q, o = some (.Constant (.str k) j q) ∧ keyStrs r ks = true := by
  unfold keyStrs at h
  split at h <;> first | contradiction | skip
  rename_i x j q r' k' ks' e1 e2
  cases e1
  cases e2
  rw [Bool.and_eq_true, decide_eq_true_eq] at h
  obtain ⟨rfl, h⟩ := h
  exact ⟨j, q, rfl, h⟩
theorem pairs_go (mo : Γ.Mo) {C : List (V × V) → Hp → Prop} {σ : L2.St} {ρ : Sto} : ∀ (ks : List Str) (es : Es) {κ : Loc} {H : Hp} {M : Mem} {P : List S → Mem → Prop}, es.len = ks.length → RSt X.K H κ ρ σ → RM X.K H κ M →
    wEs Γ es ρ M P (fun _ _ => False) → (∀ vs M1 κ1 xs H1, P vs M1 → Gr κ H κ1 H1 → RSs X.K H1 κ1 xs vs → RM X.K H1 κ1 M1 → C ((ks.map V.str).zip xs) H1) → tPairs (trsOf X Γ W ks es) σ H C
  | [], .nil, κ, H, M, P, hl, rs, rm, h, c => by
    simp only [wEs] at h
    exact c [] M κ [] H h .refl .nil rm
  | [], .cons e es, κ, H, M, P, hl, rs, rm, h, c => by
    simp [Es.len] at hl
  | k :: ks, .nil, κ, H, M, P, hl, rs, rm, h, c => by
    simp [Es.len] at hl
  | k :: ks, .cons e es, κ, H, M, P, hl, rs, rm, h, c => by
    simp only [wEs] at h
    simp only [Es.len, List.length_cons, Nat.add_right_cancel_iff] at hl
    show gE X Γ W (.cst (.str k)) σ H _
    refine ⟨κ, ρ, M, rs, rm, ?_⟩
    simp only [wE]
    intro κ1 v H1 g1 r1 m1
    cases r1 with
    | d r1 =>
      cases r1
      have rs1 := rs.grow g1.toGrow
      refine ⟨κ1, ρ, M, rs1, m1, mE mo e ρ _ _ _ _ _ (fun x M2 p2 κ2 vx H2 g2 r2 m2 => ?_) (fun _ _ z => z.elim) h⟩
      exact pairs_go mo ks es hl (rs1.grow g2.toGrow) m2 p2 fun vs M3 κ3 xs H3 p3 g3 r3 m3 => c (x :: vs) M3 κ3 (vx :: xs) H3 p3 ((g1.trans g2).trans g3) (.cons (r2.grow g3.toGrow) r3) m3
theorem merge_nodup : ∀ (more kvs : List (Key × V)), (kvs.map (·.1) ++ more.map (·.1)).Nodup → mergeK kvs more = kvs ++ more
  | [], kvs, _ => by simp [mergeK]
  | p :: r, kvs, h => by
    have hn : valV kvs p.1 = none := by
      unfold valV
      rw [Option.map_eq_none_iff, List.find?_eq_none]
      intro q hq e
      rw [List.nodup_append] at h
      have := h.2.2 q.1 (List.mem_map_of_mem hq) p.1 (by simp)
      exact this (by simpa using e)
    have e : putK kvs p.1 p.2 = kvs ++ [p] := putK_new _ hn
    show mergeK (putK kvs p.1 p.2) r = _
    rw [e, merge_nodup r (kvs ++ [p]) (by simpa using h)]
    simp
theorem zip_fst {α β : Type} : ∀ {xs : List α} {ys : List β}, (xs.zip ys).map (·.1) = xs.take ys.length
  | [], _ => by simp
  | x :: xs, [] => by simp
  | x :: xs, y :: ys => by
    rw [List.zip_cons_cons, List.map_cons, zip_fst]
    rfl
theorem rk_zip {K : PySem.W.Frag} {H : Hp} {κ : Loc} : ∀ {ks : List Key} {xs : List V} {vs : List S}, RSs K H κ xs vs → RK K H κ (ks.zip xs) (ks.zip vs)
  | [], _, _, _ => by simpa using Paired.nil
  | _ :: _, _, _, .nil => by simpa using Paired.nil
  | k :: ks, _, _, .cons r t => by
    rw [List.zip_cons_cons, List.zip_cons_cons]
    exact .cons ⟨rfl, r⟩ (rk_zip t)
theorem zip_kV : ∀ {ks : List Str} {xs : List V}, (ks.map V.str).zip xs = ((ks.map (Sum.inr : Str → Key)).zip xs).map fun kv => (kV kv.1, kv.2)
  | [], _ => by simp
  | k :: ks, [] => by simp
  | k :: ks, x :: xs => by
    simp only [List.map_cons, List.zip_cons_cons]
    rw [zip_kV]
    rfl
theorem j_ddisp {keys : List (Option Expr)} {vals : List Expr} {ks : List Str} {es : Es} (G : GOk X Γ W T) (hp : PPs X pos keys vals (trsOf X Γ W ks es)) (hk : keyStrs keys ks = true) (hv : vals.length = es.len) (he : es.len = ks.length) (hn : ks.Nodup) (h0 : ks ≠ []) (h15 : ks.length ≤ 15) :
    PE X (.Dict keys vals pos) (gE X Γ W (.ddisp ks es)) := by
  obtain ⟨ka, kl⟩ := keyStrs_some hk
  refine (pe_disp hp ka (by omega) (fun e => h0 (by
    rw [e] at kl
    exact List.length_eq_zero_iff.mp kl.symm)) (by omega)).mono fun σ H Q ⟨κ, ρ, M, rs, rm, h⟩ p hpn => ?_
  simp only [wE] at h
  have gon : Grow κ H (κ.on p) (upd H p (.dK [])) := Grow.on rm hpn
  have m0 : RM X.K (upd H p (.dK [])) (κ.on p) M := rm.on hpn
  have hnt : p ∉ κ.tmp := fun z => (rm.tm p z).1 hpn
  refine pairs_go G.mo ks es he (rs.grow gon) m0 h fun vs M1 κ1 xs H2 q g1 r1 m1 => ?_
  have et : κ1.tmp = p :: κ.tmp := g1.tmp
  have e1 := on_eta et
  generalize hκ : (⟨κ1.at_, κ.tmp⟩ : Loc) = κ2 at e1
  have t2 : κ2.tmp = κ.tmp := by rw [← hκ]
  subst e1
  have hp2 : H2 p = some (.dK []) := (g1.st p List.mem_cons_self).trans upd_same
  have hx : xs.length ≤ 15 ∨ ks.length < xs.length := by omega
  have hz : (((ks.map (Sum.inr : Str → Key)).zip xs)).length ≤ 15 := by
    rw [List.length_zip, List.length_map]
    omega
  refine ⟨hp2, (ks.map (Sum.inr : Str → Key)).zip xs, zip_kV, hz, ?_⟩
  have nd : (((ks.map (Sum.inr : Str → Key)).zip xs).map (·.1)).Nodup := by
    rw [zip_fst]
    have h2 : (ks.map (Sum.inr : Str → Key)).Nodup := by
      unfold List.Nodup
      rw [List.pairwise_map]
      exact List.Pairwise.imp (fun h e => h (by cases e; rfl)) hn
    exact List.Nodup.sublist (List.take_sublist _ _) h2
  rw [merge_nodup _ [] (by simpa using nd), List.nil_append]
  have m2 : RM X.K (upd H2 p (.dK ((ks.map (Sum.inr : Str → Key)).zip xs))) (κ2.on p) M1 := m1.tick
  have gt : Grow (κ2.on p) H2 (κ2.on p) (upd H2 p (.dK ((ks.map (Sum.inr : Str → Key)).zip xs))) := Grow.tick
  refine q (κ2.more p) (.ref p) _ ⟨(gon.trans g1.toGrow).trans (gt.trans Grow.offMore), t2, fun a ha => ?_⟩ (.l ?_) (m2.offMore (by rw [t2]; exact hnt) ⟨_, upd_same, by rw [sizeLine_eq]; omega, rk_zip (RSs.grow (gt.trans Grow.offMore) r1)⟩)
  · have hne : a ≠ p := fun e => hnt (e ▸ ha)
    rw [upd_ne hne, g1.st a (List.mem_cons_of_mem _ ha), upd_ne hne]
  · have : κ2.at_.length = M1.length := m1.len
    rw [← this]
    exact more_last
theorem ok_dix (hu : X.A.units + 100 < cLine) : IxR X (r2 X.K wDix) := by
  intro value slice pins s σ H x y v u Q I rx ry h hs
  obtain ⟨κ, M, sx, sy, hm, h1, h2, h⟩ := h
  unfold wDix dAt at h
  split at h
  · obtain ⟨kvs, k, hk, ek, d, e, h⟩ := h
    cases h1 with
    | l h1 =>
      cases h2 with
      | d h2 =>
        have ev := key_of_PD h2 ek
        subst ev
        cases rx
        obtain ⟨t, g⟩ := get_dict hu I hm h1 hk ry e h
        exact tail_dict t hs g
  · exact h.elim
theorem j_dix {a b : E} {a' b' : Expr} (G : GOk X Γ W T) (ha : PE X a' (gE X Γ W a)) (hb : PE X b' (gE X Γ W b)) (hs : PlainIx b') : PE X (.Subscript a' b' pos) (gE X Γ W (.dix a b)) := (pe_ix (ok_dix G.hu) ha hb hs).mono fun σ H Q ⟨κ, ρ, M, rs, rm, h⟩ => by
  simp only [wE] at h
  refine gE.go G.mo .refl rs rm h fun x M1 κ1 vx H1 p1 g1 r1 m1 => ?_
  refine gE.go G.mo g1 (rs.grow g1.toGrow) m1 p1 fun y M2 κ2 vy H2 p2 g2 r2 m2 => ?_
  exact ⟨κ2, M2, x, y, m2, r1.grow g2.toGrow, r2, wDix_mo (fun z M3 q => q.grow (g1.trans g2)) p2⟩
theorem j_dnew : PE X (.Dict [] [] pos) (gE X Γ W .dnew) := pe_dnewK.mono fun σ H Q ⟨κ, ρ, M, rs, rm, h⟩ p hp => by
  simp only [wE] at h
  refine h (κ.more p) (.ref p) _ (Gr.more rm hp) (.l ?_) (rm.more hp ⟨[], upd_same, by simp, .nil⟩)
  have : κ.at_.length = M.length := rm.len
  rw [← this]
  exact more_last
theorem ok_dput (hu : X.A.units + 100 < cLine) : PSet X (fun o i v H Q => ∃ κ M so si sv, RM X.K H κ M ∧ RS X.K H κ o so ∧ RS X.K H κ i si ∧ RS X.K H κ v sv ∧ wDput so si sv M (PostM X.K H κ Q)) := by
  intro pins s σ H o i v ov iv u Q I ro ri rv h
  obtain ⟨κ, M, so, si, sv, m, h1, h2, h3, h⟩ := h
  unfold wDput dAt at h
  split at h
  · obtain ⟨kvs, k, hk, ek, hz, h⟩ := h
    cases h1 with
    | l h1 =>
      cases h2 with
      | d h2 =>
        have ev := key_of_PD h2 ek
        subst ev
        obtain ⟨kv, ha, z, r⟩ := m.ob _ _ _ h1 hk
        cases ro
        have hl : kv.length = kvs.length := Paired.length r
        refine d_setItem (by omega) I (DPut.k (k := k) (v := v) ha (by omega)) ri rv fun s' I' => ⟨_, I', ?_⟩
        refine h κ _ (Gr.put m h1) (m.put h1 ⟨_, upd_same, Nat.le_trans (length_putK _ _ _) (by omega), ?_⟩)
        exact RK.put (Paired.mapP r fun _ _ z => ⟨z.1, z.2.grow (Grow.put m h1)⟩) _ (h3.grow (Grow.put m h1))
  · exact h.elim
end
end G

/-! Layer G, part 5: statements. -/
namespace G
open PySem L2 PySem.Spec PyProof.Rows

/-- a def's own context -/
structure GSt (X : Cx) : Prop where
  po : PassesOwn (model X.prog X.w) X.A X.env X.xe
  stk : X.stack = X.env :: X.outer
  frm : X.env.frame = some X.env.locals
  fnt : ∀ x, X.fn x = true
  ex : X.ex = []
section
variable (X : Cx) (Γ : Env) (W : WX)
def PO (H : Hp) (κ : G.Loc) (D : Ends) : Outs where
  nx := fun ρ' M' => ∀ κ' σ' H', Gr κ H κ' H' → RSt X.K H' κ' ρ' σ' → RM X.K H' κ' M' → D.nx σ' H'
  rt := Post X.K H κ D.rt
  bk := fun ρ' M' => ∀ κ' σ' H', Gr κ H κ' H' → RSt X.K H' κ' ρ' σ' → RM X.K H' κ' M' → D.bk σ' H'
  ct := fun ρ' M' => ∀ κ' σ' H', Gr κ H κ' H' → RSt X.K H' κ' ρ' σ' → RM X.K H' κ' M' → D.ct σ' H'
  ex := fun x ρ' M' => ∀ κ' σ' cls d H', Gr κ H κ' H' → RSt X.K H' κ' ρ' σ' → RM X.K H' κ' M' → RX X.mg X.K H' κ' cls d x → W cls d σ' H'
def gS (s : G.St) : TS := fun D σ H => ∃ κ ρ M, RSt X.K H κ ρ σ ∧ RM X.K H κ M ∧ wS Γ s ρ M (PO X W H κ D)
def gSs (s : Ss) : TS := fun D σ H => ∃ κ ρ M, RSt X.K H κ ρ σ ∧ RM X.K H κ M ∧ wSs Γ s ρ M (PO X W H κ D)
end
theorem _root_.L2.PS.mono {X : Cx} {e : Stmt} {t t' : TS} (h : PS X e t) (m : ∀ D σ H, t' D σ H → t D σ H) : PS X e t' := ⟨fun pins s σ H D I q => h.run pins s σ H D I (m _ _ _ q)⟩
theorem _root_.L2.PSs.mono {X : Cx} {e : List Stmt} {t t' : TS} (h : PSs X e t) (m : ∀ D σ H, t' D σ H → t D σ H) : PSs X e t' := ⟨fun pins s σ H D I q => h.run pins s σ H D I (m _ _ _ q)⟩
section
variable {X : Cx} {Γ : Env} {W : WX} {T : CT} {κ κ0 κ' : G.Loc} {H H0 H' : Hp} {ρ : Sto} {σ : L2.St} {M : Mem} {D : Ends} {a b c e : E} {a' b' c' e' : Expr} {pos p p2 : Pos}
theorem PO.grow (g : Gr κ H κ' H') : (PO X W H κ D).Le (PO X W H' κ' D) :=
  ⟨fun ρ1 M1 h κ1 σ1 H1 g1 rs rm => h κ1 σ1 H1 (g.trans g1) rs rm, fun v M1 h => h.grow g, fun ρ1 M1 h κ1 σ1 H1 g1 rs rm => h κ1 σ1 H1 (g.trans g1) rs rm, fun ρ1 M1 h κ1 σ1 H1 g1 rs rm => h κ1 σ1 H1 (g.trans g1) rs rm,
    fun x ρ1 M1 h κ1 σ1 cls d H1 g1 rs rm rx => h κ1 σ1 cls d H1 (g.trans g1) rs rm rx⟩
theorem PO.px (rs : RSt X.K H κ ρ σ) {x : Xc} {M1 : Mem} (h : (PO X W H κ D).ex x ρ M1) : PX X.mg X.K H κ (XW W σ) x M1 := fun κ1 cls d H1 g rx m => h κ1 σ cls d H1 g (rs.grow g.toGrow) m rx
/-- an expression of a statement -/
theorem gE.st {e : E} {P : S → Mem → Prop} {C : VK} (mo : Γ.Mo) (g : Gr κ0 H0 κ H) (rs0 : RSt X.K H0 κ0 ρ σ) (rm : RM X.K H κ M) (h : wE Γ e ρ M P (fun x M1 => (PO X W H0 κ0 D).ex x ρ M1))
    (c : ∀ z M1 κ1 x H1, P z M1 → Gr κ H κ1 H1 → RS X.K H1 κ1 x z → RM X.K H1 κ1 M1 → C x H1) : gE X Γ W e σ H C :=
  gE.go mo g (rs0.grow g.toGrow) rm (mE mo e ρ _ _ _ _ _ (fun _ _ q => q) (fun _ _ q => PO.px rs0 q) h) c
theorem gT.st {e : E} {P : Bool → Mem → Prop} {C : Bool → Hp → Prop} (mo : Γ.Mo) (g : Gr κ0 H0 κ H) (rs0 : RSt X.K H0 κ0 ρ σ) (rm : RM X.K H κ M) (h : wT Γ e ρ M P (fun x M1 => (PO X W H0 κ0 D).ex x ρ M1))
    (c : ∀ z M1 κ1 H1, P z M1 → Gr κ H κ1 H1 → RM X.K H1 κ1 M1 → C z H1) : gT X Γ W e σ H C :=
  gT.go mo g (rs0.grow g.toGrow) rm (mT mo e ρ _ _ _ _ _ (fun _ _ q => q) (fun _ _ q => PO.px rs0 q) h) c
theorem gSs.go {s : Ss} {O : Outs} (mo : Γ.Mo) (rs : RSt X.K H κ ρ σ) (rm : RM X.K H κ M) (h : wSs Γ s ρ M O) (l : O.Le (PO X W H κ D)) : gSs X Γ W s D σ H := ⟨κ, ρ, M, rs, rm, (mSs s Γ mo).go h l⟩
/-! ### blocks -/
theorem jss_nil : PSs X [] (gSs X Γ W .nil) := pss_nil.mono fun D σ H ⟨κ, ρ, M, rs, rm, h⟩ => by
  simp only [wSs] at h
  exact h κ σ H .refl rs rm
theorem jss_cons {s : G.St} {ss : Ss} {s' : Stmt} {ss' : List Stmt} (G : GOk X Γ W T) (h1 : PS X s' (gS X Γ W s)) (h2 : PSs X ss' (gSs X Γ W ss)) : PSs X (s' :: ss') (gSs X Γ W (.cons s ss)) := (pss_cons h1 h2).mono fun D σ H ⟨κ, ρ, M, rs, rm, h⟩ => by
  simp only [wSs] at h
  refine ⟨κ, ρ, M, rs, rm, (mS s Γ G.mo).go h ⟨fun ρ1 M1 h κ1 σ1 H1 g1 rs1 rm1 => ?_, fun v M1 h => h, fun _ _ h => h, fun _ _ h => h, fun _ _ _ h => h⟩⟩
  exact gSs.go G.mo rs1 rm1 h (PO.grow g1)
theorem js_pass : PS X (.Pass pos) (gS X Γ W .pass) := ps_pass.mono fun D σ H ⟨κ, ρ, M, rs, rm, h⟩ => by
  simp only [wS] at h
  exact h κ σ H .refl rs rm
theorem js_brk : PS X (.Break pos) (gS X Γ W .brk) := ps_break.mono fun D σ H ⟨κ, ρ, M, rs, rm, h⟩ => by
  simp only [wS] at h
  exact h κ σ H .refl rs rm
theorem js_cont : PS X (.Continue pos) (gS X Γ W .cont) := ps_continue.mono fun D σ H ⟨κ, ρ, M, rs, rm, h⟩ => by
  simp only [wS] at h
  exact h κ σ H .refl rs rm
theorem js_doc {x : Str} {j : Nat} : PS X (.Expr (.Constant (.str x) j p) pos) (gS X Γ W .pass) := ps_doc.mono fun D σ H ⟨κ, ρ, M, rs, rm, h⟩ => by
  simp only [wS] at h
  exact h κ σ H .refl rs rm
theorem js_retN : PS X (.Return none pos) (gS X Γ W .retN) := ps_retN.mono fun D σ H ⟨κ, ρ, M, rs, rm, h⟩ => by
  simp only [wS] at h
  exact h κ .non H .refl (.d .non) rm
theorem js_ret (G : GOk X Γ W T) (he : PE X e' (gE X Γ W e)) : PS X (.Return (some e') pos) (gS X Γ W (.ret e)) := (ps_ret he).mono fun D σ H ⟨κ, ρ, M, rs, rm, h⟩ => by
  simp only [wS] at h
  exact gE.st G.mo .refl rs rm h fun v M1 κ1 x H1 q g r m => q κ1 x H1 g r m
theorem js_expr (G : GOk X Γ W T) (he : PE X e' (gE X Γ W e)) (hn : notComp e' = true) : PS X (.Expr e' pos) (gS X Γ W (.expr e)) := (ps_expr he (sw_of hn)).mono fun D σ H ⟨κ, ρ, M, rs, rm, h⟩ => by
  simp only [wS] at h
  exact gE.st G.mo .refl rs rm h fun v M1 κ1 x H1 q g r m => q κ1 σ H1 g (rs.grow g.toGrow) m
theorem js_if {s t : Ss} {s' t' : List Stmt} (G : GOk X Γ W T) (hc : PT X c' (gT X Γ W c)) (ha : PSs X s' (gSs X Γ W s)) (hb : PSs X t' (gSs X Γ W t)) : PS X (.If c' s' t' pos) (gS X Γ W (.cond c s t)) := (ps_if hc ha hb).mono fun D σ H ⟨κ, ρ, M, rs, rm, h⟩ => by
  simp only [wS] at h
  refine gT.st G.mo .refl rs rm h fun k M1 κ1 H1 q g m => ?_
  cases k with
  | true => exact gSs.go G.mo (rs.grow g.toGrow) m q (PO.grow g)
  | false => exact gSs.go G.mo (rs.grow g.toGrow) m q (PO.grow g)
/-! ### assignments -/
theorem js_asg {t : Tg} {tg : Expr} (G : GOk X Γ W T) (he : PE X e' (gE X Γ W e)) (hg : PG X tg (gTg X t)) (hs : swapsWithSole [tg] e' pos.line X.env = pure false) (hw : swappedStores [tg] e' X.env = pure none) (hn : nostar tg = true) : PS X (.Assign [tg] e' pos) (gS X Γ W (.asg t e)) :=
  (ps_asg he hg hs hw (assignEach_map (env := X.env) (es := [tg]) (by simp [hn])).2.2).mono fun D σ H ⟨κ, ρ, M, rs, rm, h⟩ => by
  simp only [wS] at h
  refine gE.st G.mo .refl rs rm h fun v M1 κ1 x H1 q g r m => ?_
  exact ⟨κ1, ρ, M1, .one v, rs.grow g.toGrow, m, r, wTg_mo _ _ _ _ _ (fun ρ1 q σ' rs' _ => q κ1 σ' H1 g rs' m) q⟩
/-- t, u = what a tuple that holds lists tells -/
theorem js_unp {ts : List Tg} {es : List Expr} {k : Nat} {p2 : Pos} (G : GOk X Γ W T) (hc : X.calm = true) (he : PE X e' (gE X Γ W e)) (h : PGs X es (gTgs X ts)) (ns : es.all nostar = true) (hl : es.length = ts.length) (hs : swapsWithSole [.Tuple es k p2] e' pos.line X.env = pure false) (hw : swappedStores [.Tuple es k p2] e' X.env = pure none) : PS X (.Assign [.Tuple es k p2] e' pos) (gS X Γ W (.unp ts e)) := by
  obtain ⟨m1, m2, _⟩ := assignEach_map (env := X.env) ns
  refine (ps_asg he (pg_tup (n := ts.length) hc h (by rw [m1, hl]) m2) hs hw (assignEach_map (env := X.env) (es := [.Tuple es k p2]) (by rfl)).2.2).mono fun D σ H ⟨κ, ρ, M, rs, rm, h⟩ => ?_
  simp only [wS] at h
  refine gE.st G.mo .refl rs rm h fun v M1 κ1 x H1 ⟨i, e, ss, hk, hn, q⟩ g r m => ?_
  subst e
  cases r with
  | l h1 =>
    obtain ⟨vs, ha, z, r⟩ := m.ob _ _ _ h1 hk
    exact ⟨_, vs, rfl, .inl (.of ha), by rw [r.length]; exact hn, κ1, ρ, M1, ss, rs.grow g.toGrow, m, r, wTgs_mo _ _ _ _ _ (fun ρ1 q σ' rs' _ => q κ1 σ' H1 g rs' m) q⟩
theorem sub_asg {o i : Expr} {env : PySem.Env} (h : notSlice i = true) : ∀ v, assign (.Subscript o i pos) env v = (do
      let ov ← holding [v] (eval o env)
      let iv ← holding [v, ov] (eval i env)
      standAt pos
      holding [v, ov, iv] (setItem ov iv v)
      release [v, ov, iv] []) := by
  intro v
  cases i <;> first | rfl | cases h
theorem sw_sub {o i : Expr} {l : Nat} {env : PySem.Env} : swapsWithSole [.Subscript o i p] e' l env = pure false := by
  cases e' <;> rfl
theorem sst_sub {o i : Expr} {env : PySem.Env} : swappedStores [.Subscript o i p] e' env = pure none := by
  cases e' <;> rfl
theorem js_setIx (G : GOk X Γ W T) (he : PE X e' (gE X Γ W e)) (ha : PE X a' (gE X Γ W a)) (hb : PE X b' (gE X Γ W b)) (hn : notSlice b' = true) : PS X (.Assign [.Subscript a' b' p] e' pos) (gS X Γ W (.setIx a b e)) :=
  (ps_asg he (pg_sub ha hb (ok_put G.hu) (sub_asg hn)) sw_sub sst_sub rfl).mono fun D σ H ⟨κ, ρ, M, rs, rm, h⟩ => by
  simp only [wS] at h
  refine gE.st G.mo .refl rs rm h fun v M1 κ1 vv H1 q g1 r1 m1 => ?_
  refine gE.st G.mo g1 rs m1 q fun x M2 κ2 vx H2 q g2 r2 m2 => ?_
  refine gE.st G.mo (g1.trans g2) rs m2 q fun y M3 κ3 vy H3 q g3 r3 m3 => ?_
  have g13 := g1.trans (g2.trans g3)
  refine ⟨κ3, M3, x, y, v, m3, r2.grow g3.toGrow, r3, r1.grow (g2.trans g3).toGrow, wPut_mo (fun M4 q κ4 H4 g4 m4 => ?_) q⟩
  exact q κ4 σ H4 (g13.trans g4) (rs.grow (g13.trans g4).toGrow) m4
theorem js_dput (G : GOk X Γ W T) (he : PE X e' (gE X Γ W e)) (ha : PE X a' (gE X Γ W a)) (hb : PE X b' (gE X Γ W b)) (hn : notSlice b' = true) : PS X (.Assign [.Subscript a' b' p] e' pos) (gS X Γ W (.dput a b e)) :=
  (ps_asg he (pg_sub ha hb (ok_dput G.hu) (sub_asg hn)) sw_sub sst_sub rfl).mono fun D σ H ⟨κ, ρ, M, rs, rm, h⟩ => by
  simp only [wS] at h
  refine gE.st G.mo .refl rs rm h fun v M1 κ1 vv H1 q g1 r1 m1 => ?_
  refine gE.st G.mo g1 rs m1 q fun x M2 κ2 vx H2 q g2 r2 m2 => ?_
  refine gE.st G.mo (g1.trans g2) rs m2 q fun y M3 κ3 vy H3 q g3 r3 m3 => ?_
  have g13 := g1.trans (g2.trans g3)
  refine ⟨κ3, M3, x, y, v, m3, r2.grow g3.toGrow, r3, r1.grow (g2.trans g3).toGrow, wDput_mo (fun M4 q κ4 H4 g4 m4 => ?_) q⟩
  exact q κ4 σ H4 (g13.trans g4) (rs.grow (g13.trans g4).toGrow) m4
theorem sst_sub2 {o i o2 i2 u v : Expr} {k k2 : Nat} {pt pt2 q q2 : Pos} {env : PySem.Env} : swappedStores [.Tuple [.Subscript o i q, .Subscript o2 i2 q2] k pt] (.Tuple [u, v] k2 pt2) env = pure none := by
  unfold swappedStores
  dsimp only
  by_cases h1 : env.blockKind = .function <;> by_cases h2 : (match u with | .Starred .. => true | _ => false) = true <;> by_cases h3 : (match v with | .Starred .. => true | _ => false) = true <;> simp [h1, h2, h3]
theorem js_parIx {i j f : E} {i' j' f' : Expr} {k k2 : Nat} {pt pt2 q q2 : Pos} (G : GOk X Γ W T) (hc : T.cm = true) (he : PE X (.Tuple [e', f'] k2 pt2) (gE X Γ W (.tup (.cons e (.cons f .nil))))) (ha : PE X a' (gE X Γ W a)) (hi : PE X i' (gE X Γ W i)) (hb : PE X b' (gE X Γ W b)) (hj : PE X j' (gE X Γ W j)) (hn : notSlice i' = true) (hm : notSlice j' = true) :
    PS X (.Assign [.Tuple [.Subscript a' i' q, .Subscript b' j' q2] k pt] (.Tuple [e', f'] k2 pt2) pos) (gS X Γ W (.parIx a i b j e f)) :=
  (ps_asg he (pg_tup (n := 2) (G.calm hc) (pgs_cons (pg_sub ha hi (ok_put G.hu) (sub_asg hn)) (pgs_cons (pg_sub hb hj (ok_put G.hu) (sub_asg hm)) pgs_nil))) rfl sst_sub2 rfl).mono fun D σ H ⟨κ, ρ, M, rs, rm, h⟩ => by
  simp only [wS] at h
  refine gE.st G.mo .refl rs rm h fun v M1 κ1 vv H1 ⟨x1, x2, ev, h1⟩ g1 r1 m1 => ?_
  subst ev
  cases r1 with
  | d r1 =>
    cases r1 with
    | tup t z r =>
      cases r with
      | cons ra r =>
        cases r with
        | cons rb r =>
          cases r
          refine ⟨_, _, rfl, t.sq, rfl, _, _, rfl, ?_⟩
          refine gE.st G.mo g1 rs m1 h1 fun x M2 κ2 vx H2 h2 g2 r2 m2 => ?_
          refine gE.st G.mo (g1.trans g2) rs m2 h2 fun y M3 κ3 vy H3 h3 g3 r3 m3 => ?_
          have g13 := g1.trans (g2.trans g3)
          refine ⟨κ3, M3, x, y, .d x1, m3, r2.grow g3.toGrow, r3, .d (ra.grow (g2.trans g3).toGrow), wPut_mo (fun M4 h4 κ4 H4 g4 m4 => ?_) h3⟩
          have g14 := g13.trans g4
          refine ⟨_, _, rfl, ?_⟩
          refine gE.st G.mo g14 rs m4 h4 fun x5 M5 κ5 v5 H5 h5 g5 r5 m5 => ?_
          refine gE.st G.mo (g14.trans g5) rs m5 h5 fun y6 M6 κ6 v6 H6 h6 g6 r6 m6 => ?_
          have g16 := g14.trans (g5.trans g6)
          refine ⟨κ6, M6, x5, y6, .d x2, m6, r5.grow g6.toGrow, r6, .d (rb.grow (g2.trans (g3.trans (g4.trans (g5.trans g6)))).toGrow), wPut_mo (fun M7 q κ7 H7 g7 m7 => ?_) h6⟩
          exact ⟨rfl, q κ7 σ H7 (g16.trans g7) (rs.grow (g16.trans g7).toGrow) m7⟩
theorem js_par {i j : Nat} {x y : Str} {px py pt : Pos} {kt k2 : Nat} {pt2 : Pos} (G : GOk X Γ W T) (hc : T.cm = true) (hi : X.N[i]? = some x) (hj : X.N[j]? = some y) (hij : i ≠ j) (hx : X.env.scope.names.lookup x = some .local) (hy : X.env.scope.names.lookup y = some .local)
    (ha : PE X a' (gE X Γ W a)) (hb : PE X b' (gE X Γ W b)) (na : nostar a' = true) (nb : nostar b' = true) (hw : swappedStores [.Tuple [.Name x px, .Name y py] kt pt] (.Tuple [a', b'] k2 pt2) X.env = pure (some [x, y])) :
    PS X (.Assign [.Tuple [.Name x px, .Name y py] kt pt] (.Tuple [a', b'] k2 pt2) pos) (gS X Γ W (.par i j a b)) :=
  (ps_par (G.calm hc) G.nd hi hj hij hx hy (pa_cons ha (pa_cons hb pa_nil (star_cons nb)) (star_cons na)) hw).mono fun D σ H ⟨κ, ρ, M, rs, rm, h⟩ => by
  simp only [wS] at h
  refine gE.st G.mo .refl rs rm h fun v M1 κ1 vv H1 q g1 r1 m1 => ?_
  refine gE.st G.mo g1 rs m1 q fun w M2 κ2 vw H2 q g2 r2 m2 => ?_
  have g12 := g1.trans g2
  exact ⟨vv, vw, rfl, q κ2 _ H2 g12 (((rs.grow g12.toGrow).set (r1.grow g2.toGrow) i).set r2 j) m2⟩
/-! ### op= -/
def rAug (K : PySem.W.Frag) (o : Operator) : TIp := fun x y H Q => ∃ κ M sx sy, RM K H κ M ∧ RS K H κ x sx ∧ RS K H κ y sy ∧ wAug o sx sy fun r => Post K H κ Q r M
theorem ok_aug (o : Operator) : PIp X o (rAug X.K o) := by
  intro pins s σ H x y v u Q I rx ry h
  obtain ⟨κ, M, sx, sy, m, h1, h2, h⟩ := h
  unfold wAug at h
  split at h
  · cases h1 with | d h1 => cases h1; cases h2 with | d h2 => cases h2; exact ip_add pins s σ H _ _ v u Q I rx ry ⟨_, _, rfl, rfl, h.at (.d (.int _)) m⟩
  · cases h1 with | d h1 => cases h1; cases h2 with | d h2 => cases h2; exact ip_sub pins s σ H _ _ v u Q I rx ry ⟨_, _, rfl, rfl, h.at (.d (.int _)) m⟩
  · obtain ⟨hc, h⟩ := h
    cases h1 with
    | d h1 =>
      cases h1
      cases h2 with
      | d h2 =>
        cases h2
        obtain ⟨t, rfl⟩ := rx
        obtain ⟨t', rfl⟩ := ry
        have hm : IntMulOk _ _ := hc.elim CMul.ok CMulW.ok
        exact P.imul_int ⟨.int _, H, I.tok _, ⟨_, rfl⟩, Post.at h (.d (.int _)) m⟩ hm
  · exact False.elim h
theorem js_aug {i : Nat} {x : Str} (o : Operator) (G : GOk X Γ W T) (Gs : GSt X) (hi : X.N[i]? = some x) (hx : L2.Loc X.env.scope x) (he : PE X e' (gE X Γ W e)) : PS X (.AugAssign (.Name x p) o e' pos) (gS X Γ W (.aug i o e)) :=
  (ps_aug G.nd hi hx he (ok_aug o) (.inl (Gs.fnt x))).mono fun D σ H ⟨κ, ρ, M, rs, rm, h⟩ => by
  simp only [wS] at h
  obtain ⟨v, ev, h⟩ := h
  obtain ⟨vv, e2, r⟩ := rs.here _ _ ev
  refine ⟨vv, e2, gE.st G.mo .refl rs rm h fun w M1 κ1 vw H1 q g1 r1 m1 => ?_⟩
  refine ⟨κ1, M1, v, w, m1, r.grow g1.toGrow, r1, wAug_mo (fun z q κ2 vz H2 g2 r2 m2 => ?_) q⟩
  have g12 := g1.trans g2
  exact q κ2 _ H2 g12 ((rs.grow g12.toGrow).set r2 i) m2
theorem aug_sub {i : Expr} (h : notSlice i = true) : ∀ ov iv new, augStore i ov iv new = (do holding [new, ov, iv] (setItem ov iv new); release [new, ov, iv] []; pure .next) := by
  intro ov iv new
  cases i <;> first | rfl | cases h
theorem js_augIx (o : Operator) (G : GOk X Γ W T) (ha : PE X a' (gE X Γ W a)) (hb : PE X b' (gE X Γ W b)) (he : PE X e' (gE X Γ W e)) (hn : notSlice b' = true) : PS X (.AugAssign (.Subscript a' b' p) o e' pos) (gS X Γ W (.augIx a b o e)) :=
  (ps_augS ha hb (ok_get G.hu) he (ok_aug o) (ok_put G.hu) (aug_sub hn)).mono fun D σ H ⟨κ, ρ, M, rs, rm, h⟩ => by
  simp only [wS] at h
  refine gE.st G.mo .refl rs rm h fun x M1 κ1 vx H1 q g1 r1 m1 => ?_
  refine gE.st G.mo g1 rs m1 q fun y M2 κ2 vy H2 q g2 r2 m2 => ?_
  have g12 := g1.trans g2
  refine ⟨κ2, M2, x, y, m2, r1.grow g2.toGrow, r2, wIx_mo (fun z M3 q κ3 vz H3 g3 r3 m3 => ?_) q⟩
  refine gE.st G.mo (g12.trans g3) rs m3 q fun w M4 κ4 vw H4 q g4 r4 m4 => ?_
  refine ⟨κ4, M4, z, w, m4, r3.grow g4.toGrow, r4, wAug_mo (fun r q κ5 vr H5 g5 r5 m5 => ?_) q⟩
  have g25 := g3.trans (g4.trans g5)
  refine ⟨κ5, M4, x, y, r, m5, r1.grow (g2.trans g25).toGrow, r2.grow g25.toGrow, r5, wPut_mo (fun M6 q κ6 H6 g6 m6 => ?_) q⟩
  have g := g12.trans (g25.trans g6)
  exact q κ6 σ H6 g (rs.grow g.toGrow) m6
/-! ### lists' methods -/
theorem js_app (G : GOk X Γ W T) (ha : PE X a' (gE X Γ W a)) (he : PE X e' (gE X Γ W e)) (hab : abOk a' = true) (hl : (p.endLine == p2.line) = true) (ne : nostar e' = true) : PS X (.Expr (.Call (.Attribute a' "append" p) [e'] [] p2) pos) (gS X Γ W (.app a e)) :=
  (ps_expr (pe_bm F.plainAttrs_list F.slot_list_append F.type_list_append ok_append ha (pa_cons he pa_nil (star_cons ne)) (ab_of hab) (kw_few (by simp [ne]) (by simp)) hl (star_cons ne) (star_any rfl)) (sw_of rfl)).mono fun D σ H ⟨κ, ρ, M, rs, rm, h⟩ => by
  simp only [wS] at h
  refine gE.st G.mo .refl rs rm h fun x M1 κ1 vx H1 ⟨t, q⟩ g1 r1 m1 => ⟨ty_list m1 r1 t, ?_⟩
  refine gE.st G.mo g1 rs m1 q fun v M2 κ2 vv H2 ⟨k, xs, ex, hk, hz, q2⟩ g2 r2 m2 => ?_
  subst ex
  refine ⟨κ2, M2, k, xs, vv, v, rfl, m2, r1.grow g2.toGrow, r2, hk, hz, fun κ3 H3 g3 m3 => ?_⟩
  have g := (g1.trans g2).trans g3
  exact q2 κ3 σ H3 g (rs.grow g.toGrow) m3
theorem js_ext (G : GOk X Γ W T) (ha : PE X a' (gE X Γ W a)) (he : PE X e' (gE X Γ W e)) (hab : abOk a' = true) (hl : (p.endLine == p2.line) = true) (ne : nostar e' = true) : PS X (.Expr (.Call (.Attribute a' "extend" p) [e'] [] p2) pos) (gS X Γ W (.ext a e)) :=
  (ps_expr (pe_bm F.plainAttrs_list F.slot_list_extend F.type_list_extend ok_extend ha (pa_cons he pa_nil (star_cons ne)) (ab_of hab) (kw_few (by simp [ne]) (by simp)) hl (star_cons ne) (star_any rfl)) (sw_of rfl)).mono fun D σ H ⟨κ, ρ, M, rs, rm, h⟩ => by
  simp only [wS] at h
  refine gE.st G.mo .refl rs rm h fun x M1 κ1 vx H1 ⟨t, q⟩ g1 r1 m1 => ⟨ty_list m1 r1 t, ?_⟩
  refine gE.st G.mo g1 rs m1 q fun v M2 κ2 vv H2 ⟨k, xs, ys, ex, hk, hi, ht, hz, q2⟩ g2 r2 m2 => ?_
  subst ex
  refine ⟨κ2, M2, k, xs, vv, v, ys, rfl, m2, r1.grow g2.toGrow, r2, hk, hi, ht, hz, fun κ3 H3 g3 m3 => ?_⟩
  have g := (g1.trans g2).trans g3
  exact q2 κ3 σ H3 g (rs.grow g.toGrow) m3
theorem js_ins (G : GOk X Γ W T) (ha : PE X a' (gE X Γ W a)) (hb : PE X b' (gE X Γ W b)) (he : PE X e' (gE X Γ W e)) (hab : abOk a' = true) (hl : (p.endLine == p2.line) = true) (nb : nostar b' = true) (ne : nostar e' = true) : PS X (.Expr (.Call (.Attribute a' "insert" p) [b', e'] [] p2) pos) (gS X Γ W (.ins a b e)) :=
  (ps_expr (pe_bm F.plainAttrs_list F.slot_list_insert F.type_list_insert ok_insert ha (pa_cons hb (pa_cons he pa_nil (star_cons ne)) (star_cons nb)) (ab_of hab) (kw_few (by simp [nb, ne]) (by simp)) hl (star_cons nb) (star_any (by simp [ne]))) (sw_of rfl)).mono fun D σ H ⟨κ, ρ, M, rs, rm, h⟩ => by
  simp only [wS] at h
  refine gE.st G.mo .refl rs rm h fun x M1 κ1 vx H1 ⟨t, q⟩ g1 r1 m1 => ⟨ty_list m1 r1 t, ?_⟩
  refine gE.st G.mo g1 rs m1 q fun y M2 κ2 vy H2 q g2 r2 m2 => ?_
  refine gE.st G.mo (g1.trans g2) rs m2 q fun v M3 κ3 vv H3 ⟨k, xs, j, ex, ey, hk, hj, hz, q2⟩ g3 r3 m3 => ?_
  subst ex ey
  cases r2 with
  | d r2 =>
    cases r2
    refine ⟨κ3, M3, k, xs, j, vv, v, rfl, m3, r1.grow (g2.trans g3).toGrow, r3, hk, hj, hz, fun κ4 H4 g4 m4 => ?_⟩
    have g := (g1.trans g2).trans (g3.trans g4)
    exact q2 κ4 σ H4 g (rs.grow g.toGrow) m4
/-! ### loops -/
theorem js_whl {s : Ss} {s' : List Stmt} (G : GOk X Γ W T) (Gs : GSt X) (hc : PT X c' (gT X Γ W c)) (hb : PSs X s' (gSs X Γ W s)) : PS X (.While c' s' [] pos) (gS X Γ W (.whl c s)) := (ps_while Gs.po hc hb).mono fun D σ H ⟨κ, ρ, M, rs, rm, h⟩ => by
  simp only [wS] at h
  obtain ⟨n, h⟩ := h
  refine ⟨fun m σ1 H1 => ∃ κ1 ρ1 M1, Gr κ H κ1 H1 ∧ RSt X.K H1 κ1 ρ1 σ1 ∧ RM X.K H1 κ1 M1 ∧ wWhl (fun ρ1 => wT Γ c ρ1) (fun ρ1 M2 O1 => wSs Γ s ρ1 M2 O1) m ρ1 M1 (PO X W H κ D), ⟨n, κ, ρ, M, .refl, rs, rm, h⟩, ?_⟩
  rintro m σ1 H1 ⟨κ1, ρ1, M1, g1, rs1, rm1, h⟩
  cases m with
  | zero => simp only [wWhl] at h
  | succ m =>
    simp only [wWhl] at h
    refine ⟨κ1, ρ1, M1, rs1, rm1, mT G.mo c ρ1 _ _ _ _ _ (fun k M2 q κ2 H2 g2 m2 => ?_) (fun x M2 q => PO.px rs1 ((PO.grow g1).ex _ _ _ q)) h⟩
    have g12 := g1.trans g2
    cases k with
    | true =>
      refine ⟨fun σ3 H3 => ∃ κ3 ρ3 M3, Gr κ H κ3 H3 ∧ RSt X.K H3 κ3 ρ3 σ3 ∧ RM X.K H3 κ3 M3 ∧ wWhl (fun ρ1 => wT Γ c ρ1) (fun ρ1 M2 O1 => wSs Γ s ρ1 M2 O1) m ρ3 M3 (PO X W H κ D), fun σ3 H3 q => ⟨m, Nat.lt_succ_self m, q⟩, ?_⟩
      refine gSs.go G.mo (rs1.grow g2.toGrow) m2 q ⟨fun ρ3 M3 q κ3 σ3 H3 g3 rs3 m3 => ⟨κ3, ρ3, M3, g12.trans g3, rs3, m3, q⟩, fun v M3 q => (q : Post X.K H κ D.rt v M3).grow g12, fun ρ3 M3 q κ3 σ3 H3 g3 rs3 m3 => q κ3 σ3 H3 (g12.trans g3) rs3 m3,
        fun ρ3 M3 q κ3 σ3 H3 g3 rs3 m3 => ⟨κ3, ρ3, M3, g12.trans g3, rs3, m3, q⟩, fun x ρ3 M3 q => (PO.grow g12).ex _ _ _ q⟩
    | false => exact q κ2 σ1 H2 g12 (rs1.grow g2.toGrow) m2
theorem js_for {s : Ss} {s' : List Stmt} {t : Tg} {it : G.It} {tg iter : Expr} (G : GOk X Γ W T) (Gs : GSt X) (hc : T.cm = true) (hi : PI X tg iter (gI X Γ W it)) (hg : PG X tg (gTg X t)) (hb : PSs X s' (gSs X Γ W s)) (hn : notSet iter = true) : PS X (.For tg iter s' [] pos) (gS X Γ W (.loop t it s)) :=
  (ps_for Gs.po (G.calm hc) hi hg hb (fs_of hn)).mono fun D σ H ⟨κ, ρ, M, rs, rm, h⟩ => by
  simp only [wS] at h
  refine ⟨κ, ρ, M, rs, rm, mI G.mo it ρ _ _ _ _ _ (fun r M1 h κ1 H1 J g1 m1 io => ?_) (fun x M1 q => PO.px rs q) h⟩
  obtain ⟨items, ok⟩ := r
  simp only at h io
  refine ⟨fun i m σ2 H2 => m = items.length - i ∧ i ≤ items.length ∧ ∃ κ2 ρ2 M2, Gr κ1 H1 κ2 H2 ∧ RSt X.K H2 κ2 ρ2 σ2 ∧ RM X.K H2 κ2 M2 ∧ wFor (wTg t) ok (fun ρ1 M2 O1 => wSs Γ s ρ1 M2 O1) (items.drop i) ρ2 M2 (PO X W H κ D),
    ⟨_, rfl, Nat.zero_le _, κ1, ρ, M1, .refl, rs.grow g1.toGrow, m1, h⟩, ?_⟩
  rintro i m σ2 H2 ⟨rfl, hi, κ2, ρ2, M2, g2, rs2, m2, h⟩
  have g12 := g1.trans g2
  by_cases hlt : i < items.length
  · rw [List.drop_eq_getElem_cons hlt] at h
    simp only [wFor] at h
    obtain ⟨hok, h⟩ := h
    refine .inr ⟨io.go _ _ _ i g2.toGrow m2 hok hlt, fun σ3 H3 => i + 1 ≤ items.length ∧ ∃ κ3 ρ3 M3, Gr κ1 H1 κ3 H3 ∧ RSt X.K H3 κ3 ρ3 σ3 ∧ RM X.K H3 κ3 M3 ∧ wFor (wTg t) ok (fun ρ1 M2 O1 => wSs Γ s ρ1 M2 O1) (items.drop (i + 1)) ρ3 M3 (PO X W H κ D),
      fun σ3 H3 q => ⟨_, by omega, rfl, q⟩, fun x H3 y => ?_⟩
    obtain ⟨g3, m3, ri⟩ := io.yld _ _ _ i _ x H3 g2.toGrow m2 hok (List.getElem?_eq_getElem hlt) y
    refine ⟨κ2, ρ2, M2, _, rs2.grow g3.toGrow, m3, ri, wTg_mo _ _ _ _ _ (fun ρ4 h σ4 rs4 _ => ?_) h⟩
    have g13 := g12.trans g3
    refine gSs.go G.mo rs4 m3 h ⟨fun ρ5 M5 q κ5 σ5 H5 g5 rs5 m5 => ⟨hlt, κ5, ρ5, M5, g2.trans (g3.trans g5), rs5, m5, q⟩, fun v M5 q => (q : Post X.K H κ D.rt v M5).grow g13, fun ρ5 M5 q κ5 σ5 H5 g5 rs5 m5 => q κ5 σ5 H5 (g13.trans g5) rs5 m5,
      fun ρ5 M5 q κ5 σ5 H5 g5 rs5 m5 => ⟨hlt, κ5, ρ5, M5, g2.trans (g3.trans g5), rs5, m5, q⟩, fun x ρ5 M5 q => (PO.grow g13).ex _ _ _ q⟩
  · have e0 : i = items.length := by omega
    subst e0
    rw [List.drop_length] at h
    simp only [wFor] at h
    exact .inl ⟨io.stop _ _ _ g2.toGrow m2 h.1, h.2 κ2 σ2 H2 g12 rs2 m2⟩
end
end G

/-! Layer G, part 5b: a raise of an own exception whose __init__ says super().__init__("..") and keeps one field. -/
namespace G
open PySem L2 PySem.Spec PyProof.Rows PySem.Calls
open PySem.W (Frag)

theorem mc_eval {o : Expr} {name : Str} {apos pos : Pos} {args : List Expr} {env : PySem.Env} (hl : (apos.endLine == pos.line) = true) (ns : args.all nostar = true) (hz : args.length < 30) : eval (.Call (.Attribute o name apos) args [] pos) env = (do
      let ov ← attributeBase o name env (eval o env)
      standAt apos.atName
      let (f, first) ← holding [ov] (getMethod ov name (do return (← importBound o env).getD true))
      callWith pos f first (backTo pos (starEach args env)) []) := by
  have hform : methodCallForm (args.length + ([] : List Keyword).length) (backTo pos (starEach args env)) (backToKw pos (keywordEach [] env)) = true := by
    unfold methodCallForm
    rw [star_all ns]
    simp only [Bool.true_and]
    rw [show (backToKw pos (keywordEach [] env)) = [] from rfl]
    simpa using hz
  have hpos : methodCallPos true o env apos pos = pure pos := by
    unfold methodCallPos
    simp [hl]
  show (do
    let ov ← attributeBase o name env (eval o env)
    standAt apos.atName
    methodCall o name apos pos env ov (args.length + ([] : List Keyword).length) (backTo pos (starEach args env)) (backToKw pos (keywordEach [] env))) = _
  unfold methodCall
  rw [hform, hpos]
  rfl
section
variable {prog : Program} {w : World} {K : Frag} {mg : Str → Option Value} {A : Around} {E : Value → Shared → Prop} {R : Result → Shared → Prop} {h : Heap} {g : Array GenState} {d : Drawn} {t : Nat} {os : OsState} {C fI cc cda e t0 : Addr} {par fld : Str}
/-- the bound ValueError.__init__ is called -/
theorem call_mw {u : Addr} {rest : List Value} {Q : Value → Shared → Prop} {nm q : Str} {N : Addr} {bs bm : List Value} {sn : List Str} {sub : List Value} {ab : Bool} {col : Option Bool} {dd : Option Addr} {k0 k1 k2 k3 k5 : Option Value}
    (hC : h.get? C = some (excClassObj nm q C N bs bm true sn sub ab col dd k0 k1 k2 k3 k5 "ValueError.__new__")) (he : h.get? e = some (PySem.HandSPX.excO C t0)) (hu : h.get? u = some (PySem.W.kxs_mw "ValueError.__init__" e)) (hz : rest.length ≤ sizeLine)
    (hq : ∀ h' t1, (∀ b o, b ≠ e → h.get? b = some o → h'.get? b = some o) → h'.get? e = some (PySem.HandSPX.excO C t1) → Q .none ⟨h', g, d, t, os⟩) : wpAny (model prog w) A (call (.ref u) rest) Q E ⟨h, g, d, t, os⟩ := by
  refine wpAny_call (codeAny_of_tree ?_)
  show wpAny _ A.in1 (callAny (.ref u) ⟨rest, []⟩) _ _ _
  simp only [callAny]
  refine wpAny_bind (wpAny_load hu ?_)
  have isMw : (Value.type "method-wrapper" == Value.type "method" || Value.type "method-wrapper" == Value.type "builtin_function_or_method" || Value.type "method-wrapper" == Value.type "method-wrapper") = true := by decide
  simp only [PySem.W.kxs_mw, isMw, if_true]
  refine PySem.W.KFB.if_so (by decide) ?_
  refine wpAny_bind (PySem.W.check_bound_init F.excBase_ValueError.toExcCallFacts hC he rfl ?_)
  refine wpAny_bind (wpAny_pure (wpAny_pure ⟨PySem.plainId_quiet F.excBase_ValueError.init.plain _, codeAny_builtin F.excBase_ValueError.initEntry ?_⟩))
  exact PySem.W.exc_init_tree (cls := .ref C) (t0 := t0) (dv := none) (c2 := .none) (c3 := .none) (b4 := .bool false) he hz fun h' k e' _ => hq h' _ k e'
/-- __init__ runs -/
theorem init_call {v : Value} (T : ExC prog K mg C fI cc cda par fld) (hroom : A.depth < recursionLimit) (X : K.In h) (hlim : h.NoLimit) (hg : h.Ns mainGlobals mg) (hb : ∃ mb, h.Ns builtinsNs mb ∧ ∀ x : Str, x ≠ "__name__" → mb x = bootBuiltins x)
    (hca : h.get? e = some (PySem.HandSPX.excO C t0)) (hne : ∀ b o, K.lookup b = some o → b ≠ e) (hng : mainGlobals ≠ e) (hnb : builtinsNs ≠ e)
    (hR : ∀ h' t' dx t1, (∀ b o, b ≠ e → h.get? b = some o → h'.get? b = some o) → h.objs.size ≤ dx → dx ≠ e → h'.get? e = some ({ cls := .ref C, dict := some dx, data := .fields #[.ref t1, .none, .none, .none, .bool false, .none] } : Obj) →
      h'.Ns1 dx (fun y => if y = fld then some v else none) → R (.ok (.ret .none)) ⟨h', g, d, t', os⟩) :
    codeAny (model prog w) A (.call (.ref fI) ⟨[.ref e, v], []⟩) R ⟨h, g, d, t, os⟩ := by
  obtain ⟨nm, q, N, bs, bm, sn, sub, ab, col, dd, k0, k1, k2, k3, k5, hC, hbm⟩ := T.cls
  obtain ⟨oc, od, qual, params, body, scope, kV, doc, pm, an, ct, osl, ccl, cdd, vs, ccs, file, tf, lk, hcd, hbody, lcd, hvs, hfile, hbind, hhead, sk, sco, sge, sce, s1, s2, s3, s4⟩ := T.fn
  obtain ⟨cl, cld, csl, lcc⟩ := T.cell
  obtain ⟨mb, hmb, hbb⟩ := hb
  have hcl : PySem.W.clsIn K C = some { name := nm, bases := bs, mro := .ref C :: bm, ns := N, qualname := q, hasDict := true, slotNames := sn, subclasses := sub, abstract := ab, collection := col, hasDel := false } := by unfold PySem.W.clsIn; rw [hC] <;> rfl
  obtain ⟨ar, har, hart⟩ : ∃ ar, (params.posonlyargs ++ params.args).head? = some ar ∧ ar.arg = "self" := by
    cases hq : (params.posonlyargs ++ params.args).head? with
    | none => rw [hq] at hhead; cases hhead
    | some ar => rw [hq] at hhead; exact ⟨ar, rfl, by simpa using hhead⟩
  refine PySem.ks_codeAny_call_defAt (fd := PySem.W.ksFn "__init__" qual params body scope .none kV doc pm an (.ref cda) ct cc) (body := body) (binds := [("self", .ref e), (par, v)]) hroom (X _ _ lk) rfl hlim (PySem.W.codeRec_of X hcd) rfl
    (.of_eq (hbind [.ref e, v] rfl)) sce (fun x hx => ?_) (fun h0 hns hk => ?_) sco sge sk
  · rcases List.mem_cons.mp hx with rfl | hx
    · exact s3
    · rcases List.mem_cons.mp hx with rfl | hx
      · exact s4
      · cases hx
  cases hbody with
  | mk p0 p1 p2 p3 p4 p5 p6 p7 p8 p9 j msg hl =>
  have X0 : K.In h0 := X.keeps hk
  have nsV : h0.Ns h.objs.size (fun x => (List.reverse [(("self" : Str), Value.ref e), (par, v)]).lookup x) := hns
  have selfV : (List.reverse [(("self" : Str), Value.ref e), (par, v)]).lookup ("self" : Str) = some (Value.ref e) := by
    have z : (("self" : Str) == par) = false := by simpa using T.parD.2
    simp [List.lookup, z]
  have parV : (List.reverse [(("self" : Str), Value.ref e), (par, v)]).lookup par = some v := by simp [List.lookup]
  have hLe : h.objs.size ≠ e := fun z => by
    have := Heap.lt_size hca
    rw [z] at this
    exact absurd this (Nat.lt_irrefl _)
  have up : ∀ b o, h.get? b = some o → h0.get? b = some o := hk
  have kC0 := X0 _ _ hC
  refine PySem.ks_wpAt_execs_cons (PySem.ks_wpAt_Expr_any (PySem.ks_wpAt_MethodCall ?_ (mc_eval hl rfl (by simp))) (by simp [interactive, callEnv, newEnv, sk]) (sw_of rfl))
  refine PySem.ks_wpAt_super_base (env := callEnv _ _ _) s1 s2 (by decide) rfl (X0 _ _ lk) rfl har rfl (X0 _ _ lcd) rfl hvs hfile T.notop ?_
  refine PySem.W.ks_loadName_global sk s1 (loadGlobal_builtin (hg.keeps up) T.nosup (hmb.keeps up) ((hbb _ (by decide)).trans (by decide +kernel)) ⟨rfl, ?_⟩)
  refine wpAny_loadName_free sk s2 rfl ⟨_, X0 _ _ lcc, rfl⟩ ?_
  rw [hart]
  refine wpAny_loadName_local sk s3 nsV selfV ?_
  refine PySem.ks_wpAny_isType_cls kC0 rfl ⟨rfl, ?_⟩
  have kE : h0.get? e = some (PySem.HandSPX.excO C t0) := up _ _ hca
  have hsubC : PySem.W.Looks (model prog w) h0 (isSubtype (.ref C) (.ref C)) true := PySem.W.looks_mroIn X0 T.mro
  refine PySem.ks_wpAny_call_super kC0 rfl kE rfl (fun c z => by cases z) hsubC (fun h1 hso k1 => ?_)
  -- getMethod of the super object
  have X1 : K.In h1 := X0.keeps k1
  have kE1 := k1 _ _ kE
  have IE1 : PySem.W.InstAt h1 e (PySem.HandSPX.excO C t0) C none := ⟨kE1, rfl, rfl, trivial⟩
  have hI : PySem.W.Looks (model prog w) h1 (isInstance (.ref e) (.type "ValueError")) true := IE1.type.andThen (PySem.W.looks_subIn X1 T.veC)
  have hmro : PySem.W.Looks (model prog w) h1 (mroOf (.ref C)) (.ref C :: bm) := fun A Q E s k q => wpAny_bind ((PySem.W.looks_clsIn X1 hcl) A _ E s k (wpAny_pure q))
  have hsup := T.sup
  unfold PySem.W.ks_superIn at hsup
  rw [hcl] at hsup
  refine PySem.W.kxs_getMethod PySem.W.kxs_ValueError hso (PySem.W.looks_opaque X1 T.cst) hmro rfl X1 hsup hI (hne C _ hC).symm (by decide) ?_
  -- the bound method is called with the text
  have hpush : ∀ b o, h1.get? b = some o → (h1.push (PySem.W.kxs_mw "ValueError.__init__" e)).get? b = some o := fun b o z => Heap.get?_push_of_some _ z
  have hmw : (h1.push (PySem.W.kxs_mw "ValueError.__init__" e)).get? h1.objs.size = some (PySem.W.kxs_mw "ValueError.__init__" e) := Heap.get?_push_at rfl rfl
  refine PySem.W.kxs_callWith (i := "ValueError.__init__") (x := e) (by rfl) (evalArgs_plain (spliced_cons (Constant_str (k := j) (pos := p3) (spliced_nil ⟨hmw, ?_⟩))))
  refine call_mw (hpush _ _ (k1 _ _ kC0)) (hpush _ _ kE1) hmw (by show 1 ≤ sizeLine; decide) fun h2 t1 k2 e2 => ?_
  -- self.fld = par
  have keep2 : ∀ b o, b ≠ e → h0.get? b = some o → h2.get? b = some o := fun b o hb z => k2 b o hb (hpush _ _ (k1 _ _ z))
  have X2 : K.In h2 := fun b o z => keep2 b o (hne b o z) (X0 b o z)
  have ns2 : h2.Ns h.objs.size (fun x => (List.reverse [(("self" : Str), Value.ref e), (par, v)]).lookup x) := nsV.at fun o z => keep2 _ o hLe z
  refine PySem.ks_wpAt_execs_cons (PySem.ks_wpAt_Assign_Attr ?_ (sw_of rfl))
  refine wpAt_of_wpAny (wpAny_Name (wpAny_loadName_local sk s4 ns2 parV ?_) T.parD.1)
  refine wpAny_Name (wpAny_loadName_local sk s3 ns2 selfV ?_) (by decide)
  refine PySem.W.set_plain X2 (ox := PySem.HandSPX.excO C t1) (od := none) ⟨e2, rfl, rfl, trivial⟩ T.sa ?_
  refine PySem.HandSPX.exc_osa X2 e2 hcl (show PySem.HandSPX.refsVE (.ref C :: bm) = true from hbm) rfl T.nof (fun h3 t3 dx k3 d3 n3 e3 hn3 => ?_)
  have hsz : h.objs.size ≤ h2.objs.size := by
    have z : ∃ o, h2.get? h.objs.size = some o := by
      obtain ⟨o, _, _, z, _⟩ := ns2
      exact ⟨o, z⟩
    obtain ⟨o, z⟩ := z
    exact Nat.le_of_lt (Heap.lt_size z)
  refine wpAt_of_wpAny (wpAny_execs_nil (hR h3 t3 dx t1 (fun b o hb z => ?_) (Nat.le_trans hsz d3) n3 e3 hn3))
  exact k3 b o hb (keep2 b o hb (up b o z))
end
end G

/-! Layer G, part 5c: raise; the suite of a clause; try. -/
namespace G
open PySem L2 PySem.Spec PyProof.Rows
def fldOf (c : Str) : Str := if c = "Undefined" then "what" else "value"
section
variable {X : Cx} {Γ : Env} {W : WX} {T : CT} {a e : E} {a' e' : Expr} {pos p p2 p3 : Pos}
/-- C(v), C's __init__ as ExC tells -/
theorem pmk_ini {x : Str} {C fI cc cda : Addr} {par fld : Str} {te : TE} (K1 : ExC X.prog X.K X.mg C fI cc cda par fld) (hdp : X.A.depth + 10 < recursionLimit) (hg : Gl X x) (hm : X.mg x = some (.ref C)) (hdb : (x == ("__debug__" : Str)) = false) (he : PE X e' te) (ne : nostar e' = true) :
    L2N.PMk X (.Call (.Name x p) [e'] [] pos) (fun σ H Q => tCons te tNil σ H fun vs H1 => ∃ v, vs = [v] ∧ ∀ dx, H1 dx = none → Q (.ref C) (some dx) (upd H1 dx (.xd [(fld, v)]))) := by
  intro pins s σ H Q I h
  obtain ⟨nm, q, N, bs, bm, sn, sub, ab, col, dd, k0, k1, k2, k3, k5, hC, hbm⟩ := K1.cls
  refine wpAny_Call_Name_kw (ld_glob I hg hm ?_ hdb)
  have ha : PA X [e'] (tCons te tNil) := pa_cons he pa_nil (star_cons ne)
  refine PySem.W.callWith_K (h₀ := X.base) I.ok.mod.kin K1.kC (thn (ha.run pos pins s σ H _ I h) fun us s1 ⟨vs, H1, I1, r1, v, ev, q1⟩ => ⟨I1.kIn, ?_⟩) (star_cons ne) (star_any rfl)
  subst ev
  obtain ⟨u, rfl, ru⟩ := vals1 r1
  show wpAny _ _ (call (.ref C) [u]) _ _ _
  have hb := I1.ok.mod.blt
  have keepG : X.base.StaysIn s1.heap := fun b o z => I1.bk b o z
  have hnsG : s1.heap.Ns mainGlobals X.mg := I1.ok.mod.glob.keeps I1.bk
  have hnsB : ∃ mb, s1.heap.Ns builtinsNs mb ∧ ∀ x : Str, x ≠ "__name__" → mb x = bootBuiltins x := let ⟨mb, h1, h2⟩ := hb; ⟨mb, h1.keeps I1.bk, h2⟩
  have hlim := I1.nolimit
  have XK := I1.kIn
  obtain ⟨hp, g, d, t, os⟩ := s1
  simp only at hnsG hnsB hlim XK
  have kk : ∀ b o, hp.get? b = some o → ((hp.push (PySem.W.kdv_tup [u])).push (PySem.HandSPX.excO C hp.objs.size)).get? b = some o := fun b o z => Heap.get?_push_of_some _ (Heap.get?_push_of_some _ z)
  have hget : ((hp.push (PySem.W.kdv_tup [u])).push (PySem.HandSPX.excO C hp.objs.size)).get? (hp.objs.size + 1) = some (PySem.HandSPX.excO C hp.objs.size) := by heap_get
  have lt : ∀ b o, hp.get? b = some o → b ≠ hp.objs.size + 1 := fun b o z => Nat.ne_of_lt (Nat.lt_succ_of_lt (Heap.lt_size z))
  have ltN : ∀ {b : Addr} {m : Str → Option Value}, hp.Ns b m → b ≠ hp.objs.size + 1 := fun {b m} ⟨o, _, _, z, _⟩ => lt b o z
  have sz : ((hp.push (PySem.W.kdv_tup [u])).push (PySem.HandSPX.excO C hp.objs.size)).objs.size = hp.objs.size + 2 := by rw [Heap.size_push, Heap.size_push]
  refine wpAny_call (PySem.HandSPX.call_own F.excBase_ValueError (fun Y => PySem.HandSPX.refsVE_contains Y bm hbm) (XK _ _ hC) (PySem.W.looks_findIn XK K1.ini) (fun self => PySem.W.bind_fn XK self K1.tyI) (by show 1 ≤ sizeLine; decide)
    (init_call K1 (by rw [make_depth]; omega) (XK.keeps kk) (hlim.keeps kk) (hnsG.keeps kk) (let ⟨mb, h1, h2⟩ := hnsB; ⟨mb, h1.keeps kk, h2⟩) hget (fun b o z => lt b o (XK b o z)) (ltN hnsG) (ltN hnsB.choose_spec.1) fun h' t' dx t1 k hdx nx hx hn => ?_))
  rw [sz] at hdx
  have hH1 : H1 dx = none := I1.hok.fresh (by show hp.objs.size ≤ dx; omega)
  obtain ⟨G, g1, g2⟩ := restrict h' fun b => decide (b ≠ hp.objs.size + 1)
  have gk : ∀ b, b ≠ hp.objs.size + 1 → G.get? b = h'.get? b := fun b hb => g1 b (decide_eq_true hb)
  have ge : G.get? (hp.objs.size + 1) = none := g2 _ (by simp)
  have J : Inv X pins σ (upd H1 dx (.xd [(fld, v)])) ⟨G, g, d, t', os⟩ := I1.laid (t' := t') (a := dx) (o := .xd [(fld, v)]) (h' := G) (fun b o z => by
      rw [gk b (lt b o z)]
      exact k b o (lt b o z) (kk b o z)) (by show hp.objs.size ≤ dx; omega) ⟨_, hn.at fun o y => (gk dx nx).trans y, relO_put (fs := []) ru fun g => True.intro⟩
  refine ⟨rfl, hp.objs.size + 1, _, _, ⟨G, g, d, t', os⟩, _, .ref C, some dx, rfl, J, fun b o z => ?_, ge, hx, ⟨rfl, rfl, fun _ q => by cases q; rfl⟩, rfl, rfl, ?_, rfl, I1.bare, raises_own K1.exC K1.tyC, q1 dx hH1⟩
  · by_cases hb : b = hp.objs.size + 1
    · rw [hb] at z
      have z : G.get? (hp.objs.size + 1) = some o := z
      rw [ge] at z
      cases z
    · exact (gk b hb).symm.trans z
  · rw [upd_ne (Ne.symm nx)]
    exact I1.hok.fresh (by show hp.objs.size ≤ hp.objs.size + 1; omega)
theorem js_raise {c : Str} (G : GOk X Γ W T) (hc : T.cm = true) (hcs : c ∈ T.cs) (hg : Gl X c) (he : PE X e' (gE X Γ W e)) (ne : nostar e' = true) : PS X (.Raise (some (.Call (.Name c p) [e'] [] p2)) none pos) (gS X Γ W (.raise c e)) := by
  obtain ⟨C, fI, cc, cda, par, hm, hdb, K1⟩ := G.cl c hcs
  refine (L2N.ps_raise (G.calm hc) G.tk (pmk_ini K1 G.dp hg hm hdb he ne)).mono fun D σ H ⟨κ, ρ, M, rs, rm, h⟩ => ?_
  simp only [wS] at h
  refine gE.st G.mo .refl rs rm h fun v M1 κ1 vx H1 q g1 r1 m1 => ⟨vx, rfl, fun dx hdx => ?_⟩
  have g2 := g1.trans (Gr.new (o := .xd [((if c = "Undefined" then "what" else "value" : Str), vx)]) m1 hdx)
  exact q κ1 σ _ _ _ g2 (rs.grow g2.toGrow) (m1.new hdx) ⟨C, dx, vx, hm, rfl, rfl, upd_same, m1.out hdx, r1.grow (Grow.new m1 hdx)⟩
/-! ### the suite of a clause -/
theorem suite_inst {X0 : Cx} {a : Addr} {oe : Obj} {pn : List (Addr × Obj)} {C dd : Addr} {fs : List (Str × V)} {pins : List (Addr × Obj)} {σ : L2.St} {H : Hp} {s : Shared} (I : Inv (X0.suite a ((a, oe) :: pn)) pins σ H s) (hz : Zc (.ref C) (some dd) oe) (hf : ∃ vs, oe.data = .fields vs) (hd : H dd = some (.xd fs)) :
    ∃ od, PySem.W.InstAt s.heap a oe C (some od) := by
  obtain ⟨hget, _⟩ := I.pin (a, oe) (List.mem_append.mpr (.inl List.mem_cons_self))
  obtain ⟨vs, hv⟩ := hf
  obtain ⟨mA, ⟨od, es, ep, ho, _⟩, _⟩ := I.hok dd _ hd
  refine ⟨od, hget, hz.1, ?_, ?_⟩
  · unfold PySem.W.notCls
    rw [hv] <;> rfl
  · show (match oe.dict with | _ => _)
    rw [hz.2]
    exact ho
end
end G

/-! Layer G, part 5d: isinstance and fields of a caught error; try with clauses that name it. -/
namespace G
open PySem L2 PySem.Spec PyProof.Rows
section
variable {X : Cx} {Γ : Env} {W : WX} {T : CT} {a e : E} {a' e' : Expr} {pos p p2 p3 : Pos}
def clsV : Value → V
  | .type n => .ty n
  | .ref C => .ref C
  | _ => .non
theorem pe_cls {c : Str} {cv : Value} (hg : Gl X c) (h : HName X.mg c cv) : PE X (.Name c p) (tC (clsV cv)) ∧ ClsV (clsV cv) cv := by
  obtain ⟨hd, ⟨hm, C, rfl⟩ | ⟨hm, hv, hn, n, rfl⟩⟩ := h
  · exact ⟨pe_glob hg hm rfl hd, .own C⟩
  · exact ⟨pe_bltn hg hm hv rfl hn hd, .ty n⟩
/-- isinstance(e, c), e the error that the suite holds -/
theorem ok_isX (G : GOk X Γ W T) : CallR X (.builtin "isinstance") (fun vs H Q => ∃ κ M x y cv s b, vs = [x, y] ∧ Γ.cur = some s ∧ RM X.K H κ M ∧ RS X.K H κ x s ∧ ClsV y cv ∧ (∃ ad dd c f v C, s = .e ad dd c f v ∧ X.mg c = some (.ref C) ∧ (∀ l, Γ.mro c = some l → PySem.W.kitOne X.K (.ref C) cv = some b) ∧ ∃ l, Γ.mro c = some l) ∧ Q (.bl b) H) := by
  intro pins s σ H vs us Q I rv h
  obtain ⟨κ, M, x, y, cv, sv, b, rfl, hcur, m, r, hy, ⟨ad, dd, c, f, v, C, rfl, hmg, hk, l, hl⟩, q⟩ := h
  obtain ⟨X0, oe, pn, C', rfl, hz, hf, hmg', _⟩ := G.cu _ _ _ _ _ hcur
  rw [hmg] at hmg'
  cases hmg'
  have xo := G.xo c l C hl hmg
  obtain ⟨u1, u2, rfl, r1, r2⟩ := vals2 rv
  have e2 := hy.eq r2
  subst e2
  cases r with
  | e hd ho rr =>
    cases r1
    obtain ⟨od, J⟩ := suite_inst I hz hf hd
    exact PySem.W.kia_one (PySem.W.kitx_exc xo.cl xo.ga xo.gg xo.exC xo.ca xo.sp xo.tk xo.mo) I.kIn J (hk l hl) (fun z => nomatch z) fun tk => ⟨.bl b, H, I.kept (t' := tk) fun _ _ z => z, rfl, q⟩
theorem j_isX {c : Str} (G : GOk X Γ W T) (hc : c ∈ T.hs) (hg : Gl X "isinstance") (hgc : Gl X c) (ha : PE X a' (gE X Γ W a)) (na : nostar a' = true) : PE X (.Call (.Name "isinstance" p) [a', .Name c p2] [] pos) (gE X Γ W (.isX a [c])) := by
  have hmr := G.xm
  obtain ⟨cv, hcv⟩ := G.hn c hc
  obtain ⟨pc, kc⟩ := pe_cls (p := p2) hgc hcv
  refine (pe_callB (ok_isX G) hg (G.bt _ (by decide)) PyProof.Rows.boot_isinstance (pa_cons ha (pa_cons pc pa_nil (star_cons rfl)) (star_cons na)) (he := star_cons na) (hpl := star_any rfl)).mono fun σ H Q ⟨κ, ρ, M, rs, rm, h⟩ => ?_
  simp only [wE] at h
  refine gE.go G.mo .refl rs rm h fun x M1 κ1 vx H1 ⟨hcur, q⟩ g1 r1 m1 => ?_
  cases x with
  | d x => exact q.elim
  | l k => exact q.elim
  | e ad dd cl f v =>
    obtain ⟨l, hl, q⟩ := q
    obtain ⟨C, hC⟩ := hmr cl l hl
    obtain ⟨cv', hcv', _, hk⟩ := (G.xo cl l C hl hC).hs c hc
    have ecv : cv' = cv := by
      obtain ⟨_, ⟨h1, _⟩ | ⟨h1, h2, _⟩⟩ := hcv <;> obtain ⟨_, ⟨k1, _⟩ | ⟨k1, k2, _⟩⟩ := hcv'
      · rw [h1] at k1; cases k1; rfl
      · rw [h1] at k1; cases k1
      · rw [h1] at k1; cases k1
      · rw [h2] at k2; cases k2; rfl
    subst ecv
    refine ⟨κ1, M1, vx, _, cv', _, l.contains c, rfl, hcur, m1, r1, kc, ⟨ad, dd, cl, f, v, C, rfl, hC, fun l' hl' => by rw [hl] at hl'; cases hl'; exact hk, l, hl⟩, ?_⟩
    simp only [List.any_cons, List.any_nil, Bool.or_false] at q
    exact q κ1 _ H1 g1 (.d (.bl _)) m1
/-- e.value, e.what -/
theorem ok_xval {f : Str} (G : GOk X Γ W T) (hfl : f = "value" ∨ f = "what") (ha : PE X a' (gE X Γ W a)) (hab : abOk a' = true) : PE X (.Attribute a' f pos) (gE X Γ W (.xval a f)) := by
  refine ⟨fun pins s σ H Q I h => ?_⟩
  by_cases hm : ∃ ad dd c g v, Γ.cur = some (.e ad dd c g v)
  case neg =>
    obtain ⟨κ, ρ, M, rs, rm, h⟩ := h
    simp only [wE] at h
    refine attr_of (ab_of hab) (thn (ha.run pins s σ H (fun _ _ => False) I (gE.go G.mo .refl rs rm h fun x M1 κ1 vx H1 ⟨hc, q⟩ g1 r1 m1 => ?_)) fun u s1 ⟨_, _, _, _, z⟩ => z.elim)
    cases x with
    | e ad dd c g v => exact hm ⟨ad, dd, c, g, v, hc⟩
    | d x => exact q
    | l k => exact q
  case pos =>
    obtain ⟨ad, dd, c, g, v, hcur⟩ := hm
    obtain ⟨X0, oe, pn, C, rfl, hz, hf, hmg, l, hl⟩ := G.cu _ _ _ _ _ hcur
    have xo := G.xo c l C hl hmg
    have hno : PySem.W.findIn (X0.suite ad ((ad, oe) :: pn)).K (.ref C) f = some none := by
      rcases hfl with rfl | rfl
      · exact xo.nv
      · exact xo.nw
    refine (pe_xf (X := X0) ⟨xo.ga, xo.gg, xo.exC, xo.hdC⟩ hno hz hf ha (ab_of hab)).run pins s σ H Q I ?_
    obtain ⟨κ, ρ, M, rs, rm, h⟩ := h
    simp only [wE] at h
    refine gE.go G.mo .refl rs rm h fun x M1 κ1 vx H1 ⟨hc, q⟩ g1 r1 m1 => ?_
    rw [hcur] at hc
    cases hc
    unfold wXval at q
    obtain ⟨rfl, q⟩ := q
    cases r1 with
    | @e _ _ _ _ w _ hd ho rr => exact ⟨rfl, rfl, dd, [(g, w)], w, rfl, hd, by simp [List.lookup], q κ1 w H1 g1 rr m1⟩
end
/-! ### try -/
abbrev TSx := Addr → Value → Option Addr → TS
/-- the ends of a suite: the clause's name goes -/
def goneE (D : Ends) (i : Nat) : Ends := { nx := fun σ H => D.nx (σ.set i none) H, rt := D.rt, bk := fun σ H => D.bk (σ.set i none) H, ct := fun σ H => D.ct (σ.set i none) H }
/-- what the clauses wish of an error -/
def wHds (K : PySem.W.Frag) (Wout : WX) (D : Ends) : List (Value × Nat × TSx) → WX
  | [] => Wout
  | (c, i, ts) :: r => fun cls d σ H => ∃ b, PySem.W.exmOne K cls c = some b ∧ (b = true → ∀ a, H a = none → ts a cls d (goneE D i) (σ.set i (some (.ref a))) H) ∧ (b = false → wHds K Wout D r cls d σ H)
inductive Hds (X : Cx) : List ExceptHandler → List (Value × Nat × TSx) → Prop
  | nil : Hds X [] []
  | cons {x n : Str} {c : Value} {i : Nat} {ts : TSx} {st : Stmt} {sts : List Stmt} {np hp : Pos} {hds : List ExceptHandler} {l : List (Value × Nat × TSx)} (nm : Names X x c) (ix : X.N[i]? = some n) (lo : X.env.kindOf n = some .local)
      (su : ∀ (a : Addr) (oe : Obj) (cls : Value) (d : Option Addr) (pn : List (Addr × Obj)), L2N.Zn cls d oe → (∃ vs, oe.data = .fields vs) → PSs (X.suite a ((a, oe) :: pn)) (st :: sts) (ts a cls d)) (r : Hds X hds l) :
      Hds X (.ExceptHandler (some (.Name x np)) (some n) (st :: sts) hp :: hds) ((c, i, ts) :: l)
section
variable {X : Cx} {body : List Stmt} {h₀ : ExceptHandler} {hds : List ExceptHandler} {l : List (Value × Nat × TSx)} {pos : Pos} {tb : WX → TS} {Wout : WX}
/-- the end of a try's part, back in the def -/
theorem SP.back {pins : List (Addr × Obj)} {D : Ends} {f : Flow} {s : Shared} {xe : Value → Shared → Prop} (ok : X.Ok) (h : SP (X.tr (X.pn ++ pins) xe) [] D f s) : SP X pins D f s := by
  cases f with
  | ret u => exact let ⟨v, σ, H, J, r, q⟩ := h; ⟨v, σ, H, J.ofTry ok, r, q⟩
  | next => exact let ⟨σ, H, J, q⟩ := h; ⟨σ, H, J.ofTry ok, q⟩
  | brk => exact let ⟨σ, H, J, q⟩ := h; ⟨σ, H, J.ofTry ok, q⟩
  | cont => exact let ⟨σ, H, J, q⟩ := h; ⟨σ, H, J.ofTry ok, q⟩
theorem ps_tryA (stk : X.stack = X.env :: X.outer) (frm : X.env.frame = some X.env.locals) (nd : X.N.Nodup) (tk : L2N.Takes X Wout)
    (hb : ∀ (W : WX) (pn : List (Addr × Obj)) (xe : Value → Shared → Prop), L2N.Takes (X.tr pn xe) W → PassesOwn (model X.prog X.w) X.A X.env xe → PSs (X.tr pn xe) body (tb W))
    (hh : Hds X (h₀ :: hds) l) : PS X (.Try body (h₀ :: hds) [] [] pos) (fun D σ H => tb (wHds X.K Wout D l) D σ H) := by
  refine ⟨fun pins s σ H D I h => wpAny_Try_except ?_⟩
  have ok := I.ok
  have frs' : X.A.frames = some (X.env :: X.outer) := by rw [ok.frames, stk]
  have run := (hb (wHds X.K Wout D l) (X.pn ++ pins) (fun err t1 => wpAny (model X.prog X.w) X.A (noteFrame err X.env) (fun _ t2 => wpAny (model X.prog X.w) X.A (setFlight err none) (fun _ t3 =>
      wpAny (model X.prog X.w) X.A (handleBy err X.env (h₀ :: hds)) (SP X pins D) X.xe t3) X.xe t2) X.xe t1) (fun u s' xx => ?_) PassesOwn.looking).run [] s σ H D (I.toTry _) h
  · refine wpAny_mono run (fun f s1 hsp => ?_) fun e s1 z => z
    have hsp := SP.back ok hsp
    cases f with
    | next => exact wpAny_execs_nil hsp
    | _ => exact hsp
  -- an error of the body
  obtain ⟨a, B, sI, pins', σ', H', cls, d, rfl, J', nb, up, sky, na, os, ag, w⟩ := xx
  have J : Inv X pins σ' H' sI := J'.ofTry ok
  show wpAny (model X.prog X.w) X.A (noteFrame (.ref a) X.env) _ _ _
  refine L2N.Sky.land L2N.Zn.steady frs' frm (show Sky B (X.env :: X.outer) a (L2N.Zn cls d) X.env.locals s'.heap by rw [← stk]; exact sky) fun h3 fl3 up3 => ?_
  have J3 : Inv X pins σ' H' { s' with heap := h3 } := J.landed nb fl3.1 (up.trans up3) os ag
  obtain ⟨oe3, vs3, he3, hz3, hd3⟩ := fl3.there
  have nfr : a ∉ frs (X.env :: X.outer) := fun hm => by
    obtain ⟨_, o', e', hnf⟩ := fl3.2.2.1.mem hm
    rw [he3] at e'
    cases e'
    exact hnf _ hd3
  have nL : a ≠ X.env.locals := fun z => nfr (List.mem_filterMap.mpr ⟨X.env, List.mem_cons_self, by rw [frm, z]⟩)
  have nF : a ∉ X.fs := fun hm => let ⟨e, he, q⟩ := List.mem_filterMap.mp hm; nfr (List.mem_filterMap.mpr ⟨e, List.mem_cons_of_mem _ he, q⟩)
  have S3 := J3.suite he3 hd3 na nL nF
  have typ : PySem.W.Looks (model X.prog X.w) h3 (typeOf (.ref a)) cls := fun A Q E s k q => wpAny_typeOf_ref (k _ _ he3) (by rw [hz3.1]; exact q)
  have key : ∀ {hs' : List ExceptHandler} {l' : List (Value × Nat × TSx)}, Hds X hs' l' → wHds X.K Wout D l' cls d σ' H' → wpAny (model X.prog X.w) X.A (handleBy (.ref a) X.env hs') (SP X pins D) X.xe { s' with heap := h3 } := by
    intro hs' l' hk
    induction hk with
    | nil =>
      intro w
      refine wpAny_handleBy_nil ?_
      obtain ⟨_, _, _, oe, vs, Tb, _, _, he, _, hd, h1, _⟩ := id fl3
      have goes : wpAny (model X.prog X.w) X.A (setFlight (.ref a) X.env.frame) (fun _ s4 => wpAny (model X.prog X.w) X.A (throw (.ref a) : Sem Flow) (SP X pins D) X.xe s4) X.xe { s' with heap := h3 } := by
        rw [frm]
        exact HandSPX.setFlight_upZ fl3 fun h4 hh4 up4 => wpAny_throw (tk _ _ ⟨a, B, sI, pins, σ', H', cls, d, rfl, J, nb, (up.trans up3).trans up4, .inr (.inr (by rw [stk]; exact hh4)), na, os, ag, w⟩)
      have nn : (Value.ref Tb == Value.none) = false := by simp
      unfold PySem.passOn
      refine wpAny_bind (wpAny_field he hd h1 ?_)
      rw [nn]
      first
        | exact wpAny_bind (wpAny_pure (wpAny_bind goes))
        | exact wpAny_bind goes
    | @cons x n c i ts st sts np hp hds2 l2 nm ix lo su r ih =>
      intro ⟨b, hb1, yes, no⟩
      refine wpAny_handleBy_cons (codeAny_handlers_test ?_) (by intro q; cases q)
      have sees : ∀ {Q E : Value → Shared → Prop}, Q c { s' with heap := h3 } → wpAny (model X.prog X.w) (X.A.mark (some (.ref a))) (eval (.Name x np) X.env) Q E { s' with heap := h3 } := fun {Q E} q => by
        obtain ⟨hg, hdbg, hm | ⟨hm, hv, hnn⟩⟩ := nm
        · exact ld_glob (X := X.suite a ((a, oe3) :: (X.pn ++ pins))) S3 hg hm q hdbg
        · exact ld_blt (X := X.suite a ((a, oe3) :: (X.pn ++ pins))) S3 hg hm hv q hnn hdbg
      refine sees ((PySem.W.exm_one (M := model X.prog X.w) J3.kIn typ hb1).here ?_)
      cases b with
      | false => exact ih (no rfl)
      | true =>
        refine codeAny_handlers_suite_as (HandSPX.lands_againZ fl3 fun h4 fl4 up4 => ?_)
        have J4 : Inv X pins σ' H' { s' with heap := h4 } := J.landed nb fl4.1 ((up.trans up3).trans up4) os ag
        obtain ⟨oe4, vs4, he4, hz4, hd4⟩ := fl4.there
        refine store_ok (X := X.suite a ((a, oe4) :: (X.pn ++ pins))) (v := .ref a) (J4.suite he4 hd4 na nL nF) nd ix (.inl lo) rfl (fun s5 S5 => ?_) (.inr lo)
        refine wpAny_mono ((su a oe4 cls d (X.pn ++ pins) hz4 ⟨_, hd4⟩).run [] s5 _ H' _ S5 (yes rfl a na)) (fun f s6 hsp => ?_) fun _ _ z => False.elim z
        have goes : ∀ {σ6 : L2.St} {H6 : Hp} {Q : Shared → Prop}, Inv (X.suite a ((a, oe4) :: (X.pn ++ pins))) [] σ6 H6 s6 → (∀ s7, Inv X pins (σ6.set i none) H6 s7 → Q s7) →
            wpAny (model X.prog X.w) X.A (do bindName X.env n .none; unbindBehindTheSuite X.env n hp) (fun _ s7 => Q s7) X.xe s6 := fun S6 hq => gone_ok (S6.unsuite ok) nd ix lo hq
        cases f with
        | ret u => exact let ⟨v6, σ6, H6, S6, r6, q6⟩ := hsp; goes S6 fun s7 J7 => ⟨v6, _, H6, J7, r6, q6⟩
        | next => exact let ⟨σ6, H6, S6, q6⟩ := hsp; goes S6 fun s7 J7 => ⟨_, H6, J7, q6⟩
        | brk => exact let ⟨σ6, H6, S6, q6⟩ := hsp; goes S6 fun s7 J7 => ⟨_, H6, J7, q6⟩
        | cont => exact let ⟨σ6, H6, S6, q6⟩ := hsp; goes S6 fun s7 J7 => ⟨_, H6, J7, q6⟩
  exact key hh w
end
end G

/-! Layer G, part 6: try over the layer; a def by its body. -/
namespace G
open PySem L2 PySem.Spec PyProof.Rows
section
variable {X : Cx} {Γ : Env} {W : WX} {T : CT} {pos p p2 : Pos}
theorem HName.uniq {c : Str} {u v : Value} (h : HName X.mg c u) (k : HName X.mg c v) : u = v := by
  obtain ⟨_, ⟨h1, _⟩ | ⟨h1, h2, _⟩⟩ := h <;> obtain ⟨_, ⟨k1, _⟩ | ⟨k1, k2, _⟩⟩ := k
  · rw [h1] at k1; cases k1; rfl
  · rw [h1] at k1; cases k1
  · rw [h1] at k1; cases k1
  · rw [h2] at k2; cases k2; rfl
theorem HName.names {c : Str} {u : Value} (hg : Gl X c) (h : HName X.mg c u) : Names X c u := by
  obtain ⟨hd, ⟨h1, _⟩ | ⟨h1, h2, h3, _⟩⟩ := h
  · exact ⟨hg, hd, .inl h1⟩
  · exact ⟨hg, hd, .inr ⟨h1, h2, h3⟩⟩
/-- Γ in a suite -/
def Env.held (Γ : Env) (a dd : Nat) (x : Xc) : Env := { Γ with cur := some (.e a dd x.cls x.fld x.val) }
def CT.inSuite (T : CT) : CT := { T with cm := false, cs := [] }
theorem GOk.suite (G : GOk X Γ W T) {a dd C : Addr} {oe : Obj} {pn : List (Addr × Obj)} {x : Xc} (hz : L2N.Zn (.ref C) (some dd) oe) (hf : ∃ vs, oe.data = .fields vs) (hm : X.mg x.cls = some (.ref C)) (hl : ∃ l, Γ.mro x.cls = some l) : GOk (X.suite a ((a, oe) :: pn)) (Γ.held a dd x) WF T.inSuite where
  eN := G.eN
  eS := G.eS
  nd := G.nd
  calm := fun h => by cases h
  hu := G.hu
  gu := G.gu
  bt := G.bt
  fk := G.fk
  fn := fun h => by cases h
  tk := fun u s' ⟨_, _, _, _, _, _, _, _, _, _, _, _, _, _, _, _, w⟩ => w.elim
  mo := ⟨G.mo.mo⟩
  dp := G.dp
  cl := fun c hc => by cases hc
  xo := G.xo
  cu := fun a' dd' c f v h => by
    cases h
    exact ⟨X, oe, pn, C, rfl, hz.zc, hf, hm, hl⟩
  xm := G.xm
  hn := G.hn
  cn := fun h => by cases h
  ht := fun _ _ => let ⟨vs, hd⟩ := hf; ⟨(a, oe), ⟨rfl, vs, hd, hz.2.2 vs hd⟩, List.mem_cons_self⟩
/-- what a suite is to run -/
def tSu (X : Cx) (Γ : Env) (b : Ss) : TSx := fun a cls d D σ H => ∃ (x : Xc) (C dd : Addr) (κ : _root_.G.Loc) (ρ : Sto) (M : Mem), cls = .ref C ∧ d = some dd ∧ X.mg x.cls = some (.ref C) ∧ (∃ l, Γ.mro x.cls = some l) ∧ RSt X.K H κ ρ σ ∧ RM X.K H κ M ∧ wSs (Γ.held a dd x) b ρ M (PO X WF H κ D)
theorem su_of {b : Ss} {b' : List Stmt} (G : GOk X Γ W T) (Gs : GSt X) (hb : ∀ (Y : Cx) (Δ : Env), GOk Y Δ WF T.inSuite → GSt Y → PSs Y b' (gSs Y Δ WF b)) (a : Addr) (oe : Obj) (cls : Value) (d : Option Addr) (pn : List (Addr × Obj)) (hz : L2N.Zn cls d oe) (hf : ∃ vs, oe.data = .fields vs) :
    PSs (X.suite a ((a, oe) :: pn)) b' (tSu X Γ b a cls d) := by
  refine ⟨fun pins s σ H D I h => ?_⟩
  obtain ⟨x, C, dd, κ, ρ, M, rfl, rfl, hm, hl, rs, rm, h⟩ := h
  exact (hb _ _ (G.suite hz hf hm hl) ⟨fun _ _ h => h.elim, Gs.stk, Gs.frm, Gs.fnt, Gs.ex⟩).run pins s σ H D I ⟨κ, ρ, M, rs, rm, h⟩
/-- the clauses, as they are read -/
inductive HsR (X : Cx) (Γ : Env) (T : CT) : Hs → List (Value × Nat × TSx) → Prop
  | nil : HsR X Γ T .nil []
  | cons {c : Str} {cv : Value} {i : Nat} {b : Ss} {hs : Hs} {l} (hc : c ∈ T.hs) (hn : HName X.mg c cv) (r : HsR X Γ T hs l) : HsR X Γ T (.cons c i b hs) ((cv, i, tSu X Γ b) :: l)
theorem hs_read (G : GOk X Γ W T) {hs : Hs} {l : List (Value × Nat × TSx)} (r : HsR X Γ T hs l) {κ κ' : _root_.G.Loc} {H H' : Hp} {ρ : Sto} {σ : L2.St} {M : Mem} {D : Ends} {x : Xc} {cls : Value} {d : Option Addr} (g : Gr κ H κ' H') (rs : RSt X.K H' κ' ρ σ) (rm : RM X.K H' κ' M) (rx : RX X.mg X.K H' κ' cls d x)
    (h : wHs Γ hs x ρ M (PO X W H κ D)) : wHds X.K W D l cls d σ H' := by
  induction r with
  | nil =>
    simp only [wHs] at h
    exact h κ' σ cls d H' g rs rm rx
  | @cons c cv i b hs l hc hn r ih =>
    simp only [wHs] at h
    obtain ⟨m, hm, h⟩ := h
    obtain ⟨C, dd, v, hmg, rfl, rfl, hd, ho, rv⟩ := id rx
    obtain ⟨cv', hcv, hex, _⟩ := (G.xo x.cls m C hm hmg).hs c hc
    cases HName.uniq hn hcv
    refine ⟨m.contains c, hex, fun hb a ha => ?_, fun hb => ih (by rw [hb] at h; simpa using h)⟩
    rw [if_pos hb] at h
    refine ⟨x, C, dd, κ', _, M, rfl, rfl, hmg, ⟨m, hm⟩, rs.set (.e hd ho rv) i, rm, (mSs b (Γ.held a dd x) ⟨G.mo.mo⟩).go (h a dd) ⟨fun ρ1 M1 h κ1 σ1 H1 g1 rs1 m1 => ?_, fun u M1 h => (h : Post X.K H κ D.rt u M1).grow g, fun ρ1 M1 h κ1 σ1 H1 g1 rs1 m1 => ?_, fun ρ1 M1 h κ1 σ1 H1 g1 rs1 m1 => ?_, fun y ρ1 M1 z => z.elim⟩⟩
    · exact h κ1 _ H1 (g.trans g1) (rs1.unset i none) m1
    · exact h κ1 _ H1 (g.trans g1) (rs1.unset i none) m1
    · exact h κ1 _ H1 (g.trans g1) (rs1.unset i none) m1
theorem GOk.tr {W' : WX} (G : GOk X Γ W T) (hcm : T.cm = true) {pn : List (Addr × Obj)} {xe : Value → Shared → Prop} (nc : Γ.cur = none) (tk : L2N.Takes (X.tr pn xe) W') : GOk (X.tr pn xe) Γ W' T where
  eN := G.eN
  eS := G.eS
  nd := G.nd
  calm := G.calm
  hu := G.hu
  gu := G.gu
  bt := G.bt
  fk := G.fk
  fn := G.fn
  tk := tk
  mo := G.mo
  dp := G.dp
  cl := G.cl
  xo := G.xo
  cu := fun a dd c f v h => by cases (nc.symm.trans h)
  xm := G.xm
  hn := G.hn
  cn := G.cn
  ht := fun h => by rw [hcm] at h; cases h
theorem js_try {b : Ss} {hs : Hs} {b' : List Stmt} {h₀ : ExceptHandler} {hds : List ExceptHandler} {l : List (Value × Nat × TSx)} (G : GOk X Γ W T) (Gs : GSt X) (hcm : T.cm = true) (nc : Γ.cur = none)
    (hb : ∀ (W' : WX) (pn : List (Addr × Obj)) (xe : Value → Shared → Prop), GOk (X.tr pn xe) Γ W' T → GSt (X.tr pn xe) → PSs (X.tr pn xe) b' (gSs (X.tr pn xe) Γ W' b)) (r : HsR X Γ T hs l) (hh : Hds X (h₀ :: hds) l) : PS X (.Try b' (h₀ :: hds) [] [] pos) (gS X Γ W (.tryX b hs)) := by
  refine (ps_tryA (tb := fun W' => gSs X Γ W' b) Gs.stk Gs.frm G.nd G.tk (fun W' pn xe tk po => ?_) hh).mono fun D σ H ⟨κ, ρ, M, rs, rm, h⟩ => ?_
  · exact hb W' pn xe (G.tr hcm nc tk) ⟨po, Gs.stk, Gs.frm, Gs.fnt, Gs.ex⟩
  · simp only [wS] at h
    exact ⟨κ, ρ, M, rs, rm, (mSs b Γ G.mo).go h ⟨fun _ _ h => h, fun _ _ h => h, fun _ _ h => h, fun _ _ h => h, fun x ρ1 M1 h κ1 σ1 cls d H1 g1 rs1 m1 rx => hs_read G r g1 rs1 m1 rx h⟩⟩
end
/-! ### a def's end -/
def blw (n : Nat) : S → Prop
  | .d _ => True
  | .l k => k < n
  | .e _ _ _ _ v => blw n v
def MO.blw (n : Nat) : MO → Prop
  | .lst xs => ∀ s ∈ xs, G.blw n s
  | .dct kvs => ∀ p ∈ kvs, G.blw n p.2
  | .tpl xs => ∀ s ∈ xs, G.blw n s
  | .fz _ _ => True
/-- the value v that a def ends with at the memory M', begun at M, as the caller sees it: r at M2 -/
def Ex (M M' : Mem) (v r : S) (M2 : Mem) : Prop :=
  (r = v ∧ M2 = M') ∨
    (M2 = M'.take M.length ∧ M.length ≤ M'.length ∧ (∀ (i : Nat) (o : MO), M2[i]? = some o → M[i]? = some o ∨ o.blw M.length) ∧ ((r = v ∧ blw M.length v) ∨ ∃ k ds, M.length ≤ k ∧ v = .l k ∧ M'[k]? = some (.lst (ds.map .d)) ∧ r = .d (.list ds)))
/-- all that is new is forgotten, all that is old stands -/
theorem Ex.drop {M l : Mem} {v : S} (h : blw M.length v) : Ex M (M ++ l) v v M :=
  .inr ⟨by simp, by simp, fun i o e => .inl e, .inl ⟨rfl, h⟩⟩
/-- .. but the list that is told, which stands from now on -/
theorem Ex.frz {M l : Mem} {k : Nat} {ds : List PD} (h : l[k]? = some (.lst (ds.map .d))) : Ex M (M ++ l) (.l (M.length + k)) (.d (.list ds)) M :=
  .inr ⟨by simp, by simp, fun i o e => .inl e, .inr ⟨M.length + k, ds, by omega, rfl, by rw [List.getElem?_append_right (by omega)]; simpa using h, rfl⟩⟩
section
variable {K : PySem.W.Frag} {H : Hp} {κ κ' : _root_.G.Loc} {M M' M2 : Mem} {v : V} {s r : S}
mutual
theorem RP.shrink (e : ∀ a, κ'.out a → κ.out a) : ∀ {v : V} {d : PD}, RP K H κ' v d → RP K H κ v d
  | _, _, .non => .non
  | _, _, .bl b => .bl b
  | _, _, .int i => .int i
  | _, _, .str x => .str x
  | _, _, .lst h z r => .lst (h.imp (fun h => ⟨h.1, e _ h.2⟩) fun h => h) z (RPs.shrink e r)
  | _, _, .tup h z r => .tup ⟨h.1, e _ h.2⟩ z (RPs.shrink e r)
  | _, _, .dct h o => .dct h (e _ o)
  | _, _, .dc1 h o => .dc1 h (e _ o)
theorem RPs.shrink (e : ∀ a, κ'.out a → κ.out a) : ∀ {vs : List V} {ds : List PD}, RPs K H κ' vs ds → RPs K H κ vs ds
  | _, _, .nil => .nil
  | _, _, .cons h t => .cons (RP.shrink e h) (RPs.shrink e t)
end
theorem RS.shrink {n : Nat} (e : ∀ a, κ'.out a → κ.out a) (hp : ∀ k, k < n → κ.at_[k]? = κ'.at_[k]?) (h : RS K H κ' v s) (b : blw n s) : RS K H κ v s := by
  induction h with
  | d h => exact .d (h.shrink e)
  | l h => exact .l (by rw [hp _ b]; exact h)
  | e hd ho r ih => exact .e hd (e _ ho) (ih b)
theorem RS.lt (h : RS K H κ v s) : blw κ.at_.length s := by
  induction h with
  | d h => trivial
  | l h => exact (List.getElem?_eq_some_iff.mp h).1
  | e hd ho r ih => exact ih
theorem RSs.lt {vs : List V} {ss : List S} (h : RSs K H κ vs ss) : ∀ s ∈ ss, blw κ.at_.length s := by
  induction h with
  | nil => intro s hs; cases hs
  | cons r t ih =>
    intro s hs
    rcases List.mem_cons.mp hs with rfl | hs
    · exact r.lt
    · exact ih s hs
theorem RSs.shrink {n : Nat} {vs : List V} {ss : List S} (e : ∀ a, κ'.out a → κ.out a) (hp : ∀ k, k < n → κ.at_[k]? = κ'.at_[k]?) (h : RSs K H κ' vs ss) (b : ∀ s ∈ ss, blw n s) : RSs K H κ vs ss := by
  induction h with
  | nil => exact .nil
  | cons r t ih => exact .cons (r.shrink e hp (b _ List.mem_cons_self)) (ih fun s hs => b s (List.mem_cons_of_mem _ hs))
theorem RO.lt {a : Addr} {o : MO} (h : RO K H κ a o) : o.blw κ.at_.length := by
  cases o with
  | lst xs =>
    obtain ⟨vs, _, _, r⟩ := h
    exact RSs.lt r
  | dct kvs =>
    have key : ∀ {l : List (Key × V)} {kvs : List (Key × S)}, Paired (fun p q => p.1 = q.1 ∧ RS K H κ p.2 q.2) l kvs → ∀ p ∈ kvs, blw κ.at_.length p.2 := by
      intro l kvs h
      induction h with
      | nil => intro p hp; cases hp
      | cons r t ih =>
        intro p hp
        rcases List.mem_cons.mp hp with rfl | hp
        · exact r.2.lt
        · exact ih p hp
    obtain ⟨kv, _, _, r⟩ := h
    exact key r
  | tpl xs =>
    obtain ⟨vs, _, _, r⟩ := h
    exact RSs.lt r
  | fz o kv => trivial
theorem RO.shrink {n : Nat} {a : Addr} {o : MO} (e : ∀ a, κ'.out a → κ.out a) (hp : ∀ k, k < n → κ.at_[k]? = κ'.at_[k]?) (h : RO K H κ' a o) (b : o.blw n) : RO K H κ a o := by
  cases o with
  | lst xs =>
    obtain ⟨vs, h1, h2, r⟩ := h
    exact ⟨vs, h1, h2, RSs.shrink e hp r b⟩
  | dct kvs =>
    have key : ∀ {l : List (Key × V)} {kvs : List (Key × S)}, Paired (fun p q => p.1 = q.1 ∧ RS K H κ' p.2 q.2) l kvs → (∀ p ∈ kvs, blw n p.2) → Paired (fun p q => p.1 = q.1 ∧ RS K H κ p.2 q.2) l kvs := by
      intro l kvs h b
      induction h with
      | nil => exact .nil
      | cons r t ih => exact .cons ⟨r.1, r.2.shrink e hp (b _ List.mem_cons_self)⟩ (ih fun p hp => b p (List.mem_cons_of_mem _ hp))
    obtain ⟨kv, h1, h2, r⟩ := h
    exact ⟨kv, h1, h2, key r b⟩
  | tpl xs =>
    obtain ⟨vs, h1, h2, r⟩ := h
    exact ⟨vs, h1, h2, RSs.shrink e hp r b⟩
  | fz o kv => exact h
/-- the caller's view -/
theorem Ex.out {H0 : Hp} (h : Ex M M' s r M2) (m : RM K H0 κ M) (g : Gr κ H0 κ' H) (rv : RS K H κ' v s) (m' : RM K H κ' M') : ∃ κ2, Gr κ H0 κ2 H ∧ RS K H κ2 v r ∧ RM K H κ2 M2 ∧ ∀ a, κ'.out a → κ2.out a := by
  rcases h with ⟨rfl, rfl⟩ | ⟨rfl, hlen, hob, hr⟩
  · exact ⟨κ', g, rv, m', fun _ h => h⟩
  · obtain ⟨l, el⟩ := g.pre
    have hn : κ.at_.length = M.length := m.len
    have eo : ∀ a, κ'.out a → κ.out a := fun a h => ⟨fun z => h.1 (by rw [el]; exact List.mem_append_left _ z), fun z => h.2 (by rw [g.tmp]; exact z)⟩
    have hp : ∀ k, k < M.length → κ.at_[k]? = κ'.at_[k]? := fun k hk => by rw [el, List.getElem?_append_left (by rw [hn]; exact hk)]
    refine ⟨κ, g.forget, ?_, ?_, eo⟩
    · rcases hr with ⟨rfl, hb⟩ | ⟨k, ds, hk, rfl, hk2, rfl⟩
      · exact rv.shrink eo hp hb
      · cases rv with
        | @l a _ ha =>
          obtain ⟨vs, hH, hz, rs⟩ := m'.ob k a _ ha hk2
          refine .d (.lst (.inl ⟨.of hH, fun z => ?_, fun z => ?_⟩) hz ((RSs.toP' rs).shrink eo))
          · obtain ⟨j, hj, ej⟩ := List.mem_iff_getElem.mp z
            have h1 : κ'.at_[j]? = some a := by rw [← hp j (by rw [← hn]; exact hj), List.getElem?_eq_getElem hj, ej]
            obtain ⟨i1, q1⟩ := List.getElem?_eq_some_iff.mp ha
            obtain ⟨i2, q2⟩ := List.getElem?_eq_some_iff.mp h1
            have := (List.getElem_inj m'.nd).mp (q1.trans q2.symm)
            omega
          · exact (m'.tm a (by rw [g.tmp]; exact z)).2 (List.mem_of_getElem? ha)
    · refine ⟨by rw [List.length_take]; omega, m.nd, fun k a o e1 e2 => ?_, fun a ha => ?_⟩
      · have hk : k < M.length := by rw [← hn]; exact (List.getElem?_eq_some_iff.mp e1).1
        have e3 : M'[k]? = some o := by rwa [List.getElem?_take_of_lt hk] at e2
        have r' := m'.ob k a o (by rw [← hp k hk]; exact e1) e3
        refine r'.shrink eo hp ?_
        rcases hob k o e2 with z | z
        · have := (m.ob k a o e1 z).lt
          rw [hn] at this
          exact this
        · exact z
      · obtain ⟨h1, h2⟩ := m'.tm a (by rw [g.tmp]; exact ha)
        exact ⟨h1, fun z => h2 (by rw [el]; exact List.mem_append_left _ z)⟩
end
end G

/-! Layer G, part 6b: a def by its body. -/
namespace G
open PySem L2 PySem.Spec PyProof.Rows
def startS (N : List Str) (ss : List S) : Sto := ss.map some ++ List.replicate (N.length - ss.length) none
theorem RSt.start {K : PySem.W.Frag} {H : Hp} {κ : Loc} {N : List Str} {vs : List V} {ss : List S} (r : RSs K H κ vs ss) : RSt K H κ (startS N ss) (L2.start N vs) := by
  refine ⟨by simp [startS, L2.start, r.length], fun i s e => ?_⟩
  unfold startS at e
  unfold L2.start
  have hl := r.length
  by_cases hi : i < ss.length
  · rw [List.getElem?_append_left (by simpa using hi), List.getElem?_map] at e
    rw [List.getElem?_append_left (by rw [List.length_map, hl]; exact hi), List.getElem?_map]
    cases q : ss[i]? with
    | none => rw [q] at e; cases e
    | some t =>
      rw [q] at e
      cases e
      obtain ⟨v, hv, rv⟩ := Pd.get' r q
      exact ⟨v, by rw [hv]; rfl, rv⟩
  · rw [List.getElem?_append_right (by simpa using hi), List.getElem?_replicate] at e
    split at e <;> cases e
/-- what is known of the program, for all its defs -/
structure PF (P : Program) (K : PySem.W.Frag) (mg : Str → Option Value) (mro : Str → Option (List Str)) (cs hs : List Str) : Prop where
  bt : ∀ x ∈ bnames, mg x = none
  cl : ∀ c ∈ cs, ∃ C fI cc cda par, mg c = some (.ref C) ∧ (c == ("__debug__" : Str)) = false ∧ ExC P K mg C fI cc cda par (if c = "Undefined" then "what" else "value")
  xo : ∀ c l C, mro c = some l → mg c = some (.ref C) → XOk K mg C l hs
  xm : ∀ c l, mro c = some l → ∃ C, mg c = some (.ref C)
  hn : ∀ c ∈ hs, ∃ cv, HName mg c cv
/-- a def that may be called by its name, at k levels of room -/
def Cal (P : Program) (w : World) (K : PySem.W.Frag) (mg : Str → Option Value) (base : Heap) (k : Nat) (kws : List (Str × Nat × List Str)) (f : Str) (ps : List Str) (φ : FSpec) : Prop :=
  ∃ (a : Addr) (fd : FuncData), FnG P w K mg base k a fd ps (spOf mg K ps.length φ) ∧ mg f = some (.ref a) ∧ PySem.W.keepIn K (.ref a) = true ∧ Binds K fd ps [] ∧ (f == ("__debug__" : Str)) = false ∧ ∀ q ∈ kws, q.1 = f → KB fd ps q.2.1 q.2.2
theorem Cal.mono {P w K mg base j k kws f ps φ} (c : Cal P w K mg base j kws f ps φ) (h : j ≤ k) : Cal P w K mg base k kws f ps φ := let ⟨a, fd, F, r⟩ := c; ⟨a, fd, F.mono h, r⟩
/-- a def's ends, as its body comes to them -/
def exits (M : Mem) (Q : S → Mem → Prop) (E : Xc → Mem → Prop) : Outs where
  nx := fun _ M' => ∃ r M2, Ex M M' (.d .none) r M2 ∧ Q r M2
  rt := fun v M' => ∃ r M2, Ex M M' v r M2 ∧ Q r M2
  ex := fun x _ M' => ∃ r M2, Ex M M' x.val r M2 ∧ E { x with val := r } M2
theorem fnG_of {P : Program} {w : World} {K : PySem.W.Frag} {mg : Str → Option Value} {base : Heap} {k : Nat} {f : Addr} {name qual : Str} {params : Arguments} {body : List Stmt} {scope : Scope} {dV kV doc pm cdv ct oc : Value} {an od : Option Addr}
    {osl : Array (Option Value)} {T : CT} {Γ : Env} {ps : List Str} {φ : FSpec} {b : Ss} (lk : K.lookup f = some ⟨oc, od, .func (PySem.W.fnOf name qual params body scope dV kV doc pm an cdv ct), osl⟩) (hcd : PySem.W.codeIn K cdv qual = true) (S : FnScope T.N ps scope)
    (hS : T.sc = scope) (pf : PF P K mg Γ.mro T.cs T.hs) (mo : Γ.Mo) (nc : Γ.cur = none) (hcm : T.cm = true) (h2 : 2 ≤ k) (hcal : ∀ g ψ, Γ.Φ g = some ψ → Cal P w K mg base k T.ks g (Γ.ps g) ψ) (hfs : ∀ g ∈ T.fs, (∃ ψ, Γ.Φ g.1 = some ψ) ∧ Γ.ps g.1 = g.2)
    (hb : ∀ (X : Cx) (W : WX), GOk X Γ W T → GSt X → PSs X body (gSs X Γ W b))
    (hφ : ∀ (ss : List G.S) (M : Mem) (Q : G.S → Mem → Prop) (E : Xc → Mem → Prop), ss.length = ps.length → φ ss M Q E → wSs Γ b (startS T.N ss) M (exits M Q E)) :
    FnG P w K mg base (k + 1) f (PySem.W.fnOf name qual params body scope dV kV doc pm an cdv ct) ps (spOf mg K ps.length φ) := by
  refine ⟨fun vs H Q E ⟨κ, M, ss, hl, _⟩ => hl, fun A outer s H args us vs Q E hr gu e0 hbd r hsp => ?_⟩
  obtain ⟨κ, M, ss, hl, rm, rss, hsp⟩ := hsp
  have KX : K.In s.heap := e0.mod.kin.keeps fun b o e => (e0.bs b o e).1
  have lim : s.heap.NoLimit := e0.mod.nolimit.keeps fun b o e => (e0.bs b o e).1
  have kinds : ∀ y ∈ ps.zip us, scope.names.lookup y.1 = some .local ∨ (scope.names.lookup y.1 = some .cell ∧ ((cellsFrom (s.heap.objs.size + 1) scope.names []).lookup y.1).isSome = true) := fun ⟨n, v⟩ hy => by
    rcases S.par n (List.of_mem_zip hy).1 with q | q
    · exact .inl q
    · exact .inr ⟨q, PySem.W.cellsFrom_some _ _ _ (.inl q)⟩
  refine codeAny_call_function hr.depth (KX _ _ lk) rfl S.co S.gen rfl (PySem.W.codeRec_of KX hcd) (hbd _ _ _ _ ?_)
  refine wpAny_newFunctionEnv_cells S.kind kinds fun env he s1 x => ?_
  subst he
  refine ⟨lim.keeps x.toInCall.keep, codeAny_func ?_⟩
  have I := inv_start (CX := L2N.CX P w) (E := E) (qual := qual) (f := f) (cd := cdv) S hr.hd e0 hl r x
  have hd := hr.deeper (envOfC qual scope s.heap.objs.size f cdv)
  have G0 : GOk (cxOf (L2N.CX P w) P w K mg base T.N qual scope f cdv A outer s H E) Γ (fun cls d _ H' => E cls d H') T := by
    refine ⟨rfl, hS.symm, S.nd, fun _ => rfl, ?_, gu, pf.bt, hfs, fun _ g ψ hg => ?_, L2N.takes_of rfl rfl rfl rfl, mo, ?_, pf.cl, pf.xo, (fun a dd c f v h => by cases (nc.symm.trans h)), pf.xm, pf.hn, fun _ => nc, fun z => by rw [hcm] at z; cases z⟩
    · have := hd.un
      show (A.deeper (envOfC qual scope s.heap.objs.size f cdv)).units + 100 < cLine
      omega
    · obtain ⟨a, fd, F, q⟩ := hcal g ψ hg
      exact ⟨k, a, fd, F, hd, q⟩
    · have := hd.dp
      show (A.deeper (envOfC qual scope s.heap.objs.size f cdv)).depth + 10 < recursionLimit
      omega
  have G1 : GSt (cxOf (L2N.CX P w) P w K mg base T.N qual scope f cdv A outer s H E) := ⟨passes_of rfl, rfl, rfl, fun _ => rfl, rfl⟩
  have hbody := hφ ss M _ _ (by rw [← rss.length, hl]) hsp
  have fin : gSs (cxOf (L2N.CX P w) P w K mg base T.N qual scope f cdv A outer s H E) Γ (fun cls d _ H' => E cls d H') b { nx := fun _ H' => Q .non H', rt := Q } (L2.start T.N vs) H := by
    refine ⟨κ, startS T.N ss, M, RSt.start rss, rm, (mSs b Γ mo).go hbody ⟨fun ρ1 M1 ⟨r, M2, ex, q⟩ κ1 σ1 H1 g1 rs1 m1 => ?_, fun v M1 ⟨r, M2, ex, q⟩ κ1 v1 H1 g1 r1 m1 => ?_, fun _ _ z => z.elim, fun _ _ z => z.elim, fun y ρ1 M1 ⟨r, M2, ex, q⟩ κ1 σ1 cls d H1 g1 rs1 m1 rx => ?_⟩⟩
    · obtain ⟨κ2, g2, r2, m2, _⟩ := ex.out rm g1 (.d .non) m1
      exact q κ2 .non H1 g2 r2 m2
    · obtain ⟨κ2, g2, r2, m2, _⟩ := ex.out rm g1 r1 m1
      exact q κ2 v1 H1 g2 r2 m2
    · obtain ⟨C, dd, v, hmg, ec, ed, hd, ho, rv⟩ := rx
      obtain ⟨κ2, g2, r2, m2, o2⟩ := ex.out rm g1 rv m1
      exact q κ2 cls d H1 g2 ⟨C, dd, v, hmg, ec, ed, hd, o2 _ ho, r2⟩ m2
  refine wpAny_mono ((hb _ _ G0 G1).run [] s1 _ H _ I fin) (fun fl s' hs => ?_) fun e s' hs => hs
  have done : ∀ {σ' : L2.St} {H' : Hp} {v : V} {u : Value}, Inv (cxOf (L2N.CX P w) P w K mg base T.N qual scope f cdv A outer s H E) [] σ' H' s' → RelV v u → Q v H' → CE outer P w H s Q u s' := fun {_ H' v _} J rv q => ⟨v, H', J.os, J.bare, J.base, J.hok, rv, q⟩
  cases fl with
  | ret u => exact let ⟨_, _, _, J, rv, q⟩ := hs; done J rv q
  | next => exact let ⟨_, _, J, q⟩ := hs; done (v := V.non) (u := Value.none) J rfl q
  | brk => exact let ⟨_, _, _, q⟩ := hs; q.elim
  | cont => exact let ⟨_, _, _, q⟩ := hs; q.elim
end G

/-! Layer G, part 6c: list(range(n)), the place of an int in a row of ints, an error's kind by several classes. -/
namespace G
open PySem L2 PySem.Spec PyProof.Rows
section
variable {X : Cx} {Γ : Env} {W : WX} {T : CT} {a b e : E} {a' b' e' : Expr} {pos p p2 p3 : Pos}
theorem rss_ints {K : PySem.W.Frag} {H : Hp} {κ : Loc} : ∀ {ns : List Int} {vs : List V}, RSs K H κ vs (ns.map I) → vs = ns.map V.int
  | [], _, h => by cases h; rfl
  | n :: ns, _, h => by
    cases h with
    | cons r t =>
      rw [rss_ints t]
      cases r with
      | d r => cases r; rfl
theorem int_rss {K : PySem.W.Frag} {H : Hp} {κ : Loc} : ∀ ns : List Int, RSs K H κ (ns.map V.int) (ns.map I)
  | [] => .nil
  | n :: ns => .cons (.d (.int n)) (int_rss ns)
theorem rp_lens {K : PySem.W.Frag} {H : Hp} {κ : Loc} (n : Nat) : RSs K H κ ((List.range n).map fun i => V.int (0 + (i : Nat))) ((List.range n).map fun k => I (k : Nat)) := by
  have h := int_rss (K := K) (H := H) (κ := κ) ((List.range n).map fun k => ((k : Nat) : Int))
  rw [List.map_map, List.map_map] at h
  have e : (V.int ∘ fun k : Nat => (k : Int)) = fun i : Nat => V.int (0 + (i : Nat)) := by
    funext i
    simp
  rw [e] at h
  exact h
theorem jf_lrng (G : GOk X Γ W T) (hc : T.cm = true) (hl : Gl X "list") (hr : Gl X "range") (ha : PE X a' (gE X Γ W a)) (na : nostar a' = true) : PE X (.Call (.Name "list" p) [.Call (.Name "range" p2) [a'] [] p3] [] pos) (gF X Γ W (.lrng a)) := by
  refine (pe_listRg (G.calm hc) hl (G.bt _ (by decide)) (prg_1 hr (G.bt _ (by decide)) ha (star_cons na)) (star_cons rfl)).mono fun σ H Q ⟨κ, ρ, M, rs, rm, h⟩ => ?_
  simp only [wF] at h
  refine gE.go G.mo .refl rs rm h fun x M1 κ1 vx H1 ⟨i, e, ⟨h1, h2⟩, q⟩ g1 r1 m1 => ?_
  have ev : vx = .int i := by
    unfold int? at e
    split at e
    · cases e
      cases r1 with
      | d r1 => cases r1; rfl
    · cases e
  subst ev
  obtain ⟨u1, u2, u3, u4⟩ := h1
  refine ⟨i, rfl, ⟨u1, u2, u3, u4, by omega⟩, fun l hl => ?_⟩
  refine (q.grow g1).new m1 hl ?_ ?_
  · rw [rgV_length, sizeLine_eq]
    omega
  · have := rp_lens (K := X.K) (H := H1) (κ := κ1) i.toNat
    unfold rgV
    rw [Int.sub_zero]
    exact this
/-! ### index -/
def rIdx (K : PySem.W.Frag) (t : String) : V → List V → Hp → VK → Prop := fun x xs H Q => ∃ κ M sx, ∃ ns : List Int, ∃ i, xs = [V.int i] ∧ RM K H κ M ∧ RS K H κ x sx ∧ isTyS M t sx = some true ∧ items M sx = some (ns.map I) ∧ i ∈ ns ∧ Q (.int (ns.idxOf i : Nat)) H
theorem vals_hold {h : Heap} : ∀ {ns : List Int} {us : List Value}, Vals (ns.map V.int) us → PySem.W.HoldAll h us ns
  | [], _, r => by cases r; exact .nil
  | n :: ns, _, r => by
    cases r with
    | cons r t =>
      obtain ⟨k, rfl⟩ := r
      exact .cons ⟨_, .int n k⟩ (vals_hold t)
theorem isTuple_of {h : Heap} {a : Addr} {its : Array Value} (p : IsTup h a its) : h.IsTuple a its := p
theorem ok_indexL (hu : X.A.units + 100 < cLine) : MtR X "list.index" (rIdx X.K "list") := by
  intro pins s σ H x xs v us Q I rx rxs h
  obtain ⟨κ, M, sx, ns, i, rfl, m, h1, ty, e, hi, q⟩ := h
  obtain ⟨a, rfl, ⟨_, ⟨vs, hs, r⟩, _⟩ | ⟨_, _, _, z⟩⟩ := stays m h1 e
  · have ev := rss_ints r
    subst ev
    obtain ⟨its, rv, pl, hz⟩ := I.list hs
    cases rx
    cases rxs with
    | cons ry rt =>
      cases rt
      obtain ⟨k, rfl⟩ := ry
      refine PySem.W.index_list_datum (vs := its) pl.isList (vals_hold rv) ⟨_, .int i k⟩ (by show X.A.units + 1 + 0 < cLine; omega) (by rw [List.length_map] at hz; exact hz) hi ⟨.int _, H, I.kept (t' := s.toks + 1) fun _ _ z => z, ⟨_, rfl⟩, q⟩
  · rw [ty] at z
    cases z
theorem ok_indexTp (hu : X.A.units + 100 < cLine) : MtR X "tuple.index" (rIdx X.K "tuple") := by
  intro pins s σ H x xs v us Q I rx rxs h
  obtain ⟨κ, M, sx, ns, i, rfl, m, h1, ty, e, hi, q⟩ := h
  obtain ⟨a, rfl, ⟨_, _, z⟩ | ⟨_, ⟨vs, hs, r⟩, _, _⟩⟩ := stays m h1 e
  · exfalso
    cases sx with
    | d y => cases y <;> simp [isTyS, isTy] at z ty
    | l k =>
      unfold isTyS at z ty
      dsimp only at z ty
      cases hk : M[k]? with
      | none => rw [hk] at z; cases z
      | some o =>
        rw [hk] at z ty
        cases o <;> simp at z ty
    | e _ _ _ _ _ => cases z
  · have ev := rss_ints r
    subst ev
    obtain ⟨its, rv, pl, hz⟩ := I.tuple hs
    cases rx
    cases rxs with
    | cons ry rt =>
      cases rt
      obtain ⟨k, rfl⟩ := ry
      refine PySem.W.index_tuple_datum (vs := its) (isTuple_of pl) (vals_hold rv) ⟨_, .int i k⟩ (by show X.A.units + 1 + 0 < cLine; omega) hi ⟨.int _, H, I.kept (t' := s.toks + 1) fun _ _ z => z, ⟨_, rfl⟩, q⟩
theorem j_index (G : GOk X Γ W T) (ha : PE X a' (gE X Γ W a)) (hb : PE X b' (gE X Γ W b)) (hab : abOk a' = true) (hl : (p.endLine == pos.line) = true) (nb : nostar b' = true) : PE X (.Call (.Attribute a' "index" p) [b'] [] pos) (gE X Γ W (.index a b)) := by
  refine (pe_bm F.plainAttrs_list F.slot_list_index F.type_list_index (ok_indexL G.hu) ha (pa_cons hb pa_nil (star_cons nb)) (ab_of hab) (kw_few (by simp [nb]) (by simp)) hl (star_cons nb) (star_any rfl)).mono fun σ H Q ⟨κ, ρ, M, rs, rm, h⟩ => ?_
  simp only [wE] at h
  refine gE.go G.mo .refl rs rm h fun x M1 κ1 vx H1 ⟨t, q⟩ g1 r1 m1 => ⟨ty_list m1 r1 t, ?_⟩
  refine gE.go G.mo g1 (rs.grow g1.toGrow) m1 q fun y M2 κ2 vy H2 ⟨ns, i, t2, e, ey, hi, q⟩ g2 r2 m2 => ?_
  subst ey
  cases r2 with
  | d r2 =>
    cases r2
    exact ⟨κ2, M2, x, ns, i, rfl, m2, r1.grow g2.toGrow, t2, e, hi, q κ2 _ H2 (g1.trans g2) (.d (.int _)) m2⟩
/-! ### isinstance of an error and several classes -/
theorem kit_anyX {t : Value} {l : List Str} : ∀ {cs : List Str} {cvs : List Value}, Paired (fun c cv => PySem.W.kitOne X.K t cv = some (l.contains c)) cs cvs → PySem.W.kitAny X.K t cvs = some (cs.any fun c => l.contains c)
  | [], _, h => by cases h; rfl
  | c :: cs, _, h => by
    cases h with
    | cons h t =>
      rw [PySem.W.kitAny, h, List.any_cons]
      cases l.contains c with
      | true => rfl
      | false => exact kit_anyX t
theorem ok_isXT (G : GOk X Γ W T) : CallR X (.builtin "isinstance") (fun vs H Q => ∃ κ M x q cvs s b, vs = [x, .ref q] ∧ H q = some (.tup (cvs.map clsV)) ∧ Paired ClsV (cvs.map clsV) cvs ∧ Γ.cur = some s ∧ RM X.K H κ M ∧ RS X.K H κ x s ∧ (∃ ad dd c f v C, s = .e ad dd c f v ∧ X.mg c = some (.ref C) ∧ (∀ l, Γ.mro c = some l → PySem.W.kitAny X.K (.ref C) cvs = some b) ∧ ∃ l, Γ.mro c = some l) ∧ Q (.bl b) H) := by
  intro pins s σ H vs us Q I rv h
  obtain ⟨κ, M, x, q, cvs, sv, b, rfl, hq, hy, hcur, m, r, ⟨ad, dd, c, f, v, C, rfl, hmg, hk, l, hl⟩, qq⟩ := h
  obtain ⟨X0, oe, pn, C', rfl, hz, hf, hmg', _⟩ := G.cu _ _ _ _ _ hcur
  rw [hmg] at hmg'
  cases hmg'
  have xo := G.xo c l C hl hmg
  obtain ⟨u1, u2, rfl, r1, r2⟩ := vals2 rv
  cases (show u2 = Value.ref q from r2)
  obtain ⟨_, its, rv2, o, h1, h2, n, h3⟩ := (show ObjOk _ _ H s.heap q (.tup (cvs.map clsV)) from I.hok q _ hq)
  have e3 := ClsV.all hy rv2
  subst e3
  obtain ⟨oc, od, dt, sl⟩ := o
  simp only at h2 h3
  subst h2 h3
  cases r with
  | e hd ho rr =>
    cases r1
    obtain ⟨od', J⟩ := suite_inst I hz hf hd
    exact PySem.W.kia_tup (PySem.W.kitx_exc xo.cl xo.ga xo.gg xo.exC xo.ca xo.sp xo.tk xo.mo) I.kIn J h1 (hk l hl) (fun z => nomatch z) fun tk => ⟨.bl b, H, I.kept (t' := tk) fun _ _ z => z, rfl, qq⟩
def clNames : List Expr → List Str → Bool
  | [], [] => true
  | .Name n _ :: es, c :: cs => decide (n = c) && clNames es cs
  | _, _ => false
theorem clNames_some : ∀ {es : List Expr} {cs : List Str}, clNames es cs = true → ∃ ps : List Pos, ps.length = cs.length ∧ es = (cs.zip ps).map fun q => .Name q.1 q.2
  | [], [], _ => ⟨[], rfl, rfl⟩
  | [], _ :: _, h => by simp [clNames] at h
  | e :: es, [], h => by cases e <;> simp [clNames] at h
  | e :: es, c :: cs, h => by
    cases e <;> simp only [clNames, Bool.false_eq_true] at h
    rename_i n p
    simp only [Bool.and_eq_true, decide_eq_true_eq] at h
    obtain ⟨rfl, h⟩ := h
    obtain ⟨ps, e1, e2⟩ := clNames_some h
    exact ⟨p :: ps, by simp [e1], by rw [e2]; rfl⟩
theorem pa_cls : ∀ {cs : List Str} {ps : List Pos} {cvs : List Value}, ps.length = cs.length → (∀ c ∈ cs, Gl X c) → Paired (fun c cv => HName X.mg c cv) cs cvs → PA X ((cs.zip ps).map fun q => .Name q.1 q.2) (fun σ H Q => Q (cvs.map clsV) H) ∧ Paired ClsV (cvs.map clsV) cvs
  | [], [], _, _, _, h => by cases h; exact ⟨pa_nil, .nil⟩
  | [], _ :: _, _, e, _, _ => by simp at e
  | _ :: _, [], _, e, _, _ => by simp at e
  | c :: cs, p :: ps, _, e, hg, h => by
    cases h with
    | cons h t =>
      obtain ⟨pc, kc⟩ := pe_cls (p := p) (hg c List.mem_cons_self) h
      obtain ⟨pt, kt⟩ := pa_cls (cs := cs) (ps := ps) (by simpa using e) (fun d hd => hg d (List.mem_cons_of_mem _ hd)) t
      exact ⟨(pa_cons pc pt (star_cons rfl)).mono fun σ H Q q => q, .cons kc kt⟩
theorem hnames (G : GOk X Γ W T) : ∀ {cs : List Str}, (∀ c ∈ cs, c ∈ T.hs) → ∃ cvs, Paired (fun c cv => HName X.mg c cv) cs cvs
  | [], _ => ⟨[], .nil⟩
  | c :: cs, h => by
    obtain ⟨cv, hcv⟩ := G.hn c (h c List.mem_cons_self)
    obtain ⟨cvs, t⟩ := hnames G (cs := cs) fun d hd => h d (List.mem_cons_of_mem _ hd)
    exact ⟨cv :: cvs, .cons hcv t⟩
theorem kit_ones {C : Addr} {l hs : List Str} (xo : XOk X.K X.mg C l hs) : ∀ {cs : List Str} {cvs : List Value}, (∀ c ∈ cs, c ∈ hs) → Paired (fun c cv => HName X.mg c cv) cs cvs → Paired (fun c cv => PySem.W.kitOne X.K (.ref C) cv = some (l.contains c)) cs cvs
  | [], _, _, h => by cases h; exact .nil
  | c :: cs, _, hc, h => by
    cases h with
    | cons h t =>
      obtain ⟨cv, hcv, _, hk⟩ := xo.hs c (hc c List.mem_cons_self)
      cases HName.uniq h hcv
      exact .cons hk (kit_ones xo (fun d hd => hc d (List.mem_cons_of_mem _ hd)) t)
theorem j_isXT {es : List Expr} {cs : List Str} {k : Nat} (G : GOk X Γ W T) (hn : clNames es cs = true) (hz : cs.length < 1000) (hc : ∀ c ∈ cs, c ∈ T.hs) (hg : Gl X "isinstance") (hgc : ∀ c ∈ cs, Gl X c) (ha : PE X a' (gE X Γ W a)) (na : nostar a' = true) :
    PE X (.Call (.Name "isinstance" p) [a', .Tuple es k p2] [] pos) (gE X Γ W (.isX a cs)) := by
  obtain ⟨ps, e1, rfl⟩ := clNames_some hn
  obtain ⟨cvs, hv⟩ := hnames G hc
  obtain ⟨pc, kc⟩ := pa_cls e1 hgc hv
  have hl : cvs.length = cs.length := (Paired.length hv).symm
  refine (pe_callB (ok_isXT G) hg (G.bt _ (by decide)) PyProof.Rows.boot_isinstance (pa_cons ha (pa_cons (pe_tup (x1 := k) (pos := p2) pc) pa_nil (star_cons rfl)) (star_cons na)) (he := star_cons na) (hpl := star_any rfl)).mono fun σ H Q ⟨κ, ρ, M, rs, rm, h⟩ => ?_
  simp only [wE] at h
  refine gE.go G.mo .refl rs rm h fun x M1 κ1 vx H1 ⟨hcur, q⟩ g1 r1 m1 => ?_
  refine ⟨by rw [List.length_map, sizeLine_eq]; omega, fun q' hq => ?_⟩
  cases x with
  | d x => exact q.elim
  | l k => exact q.elim
  | e ad dd cl f v =>
    obtain ⟨l, hl2, q⟩ := q
    obtain ⟨C, hC⟩ := G.xm cl l hl2
    have gn := Gr.new (κ := κ1) m1 (o := .tup (cvs.map clsV)) hq
    refine ⟨κ1, M1, vx, q', cvs, _, cs.any fun c => l.contains c, rfl, upd_same, kc, hcur, m1.new hq, r1.grow gn.toGrow, ⟨ad, dd, cl, f, v, C, rfl, hC, fun l' hl' => ?_, l, hl2⟩, ?_⟩
    · rw [hl2] at hl'
      cases hl'
      exact kit_anyX (kit_ones (G.xo cl l C hl2 hC) hc hv)
    · exact q κ1 _ _ (g1.trans gn) (.d (.bl _)) (m1.new hq)
end
end G

/-! Layer G, part 7: a look at the text: is it what the syntax tells? -/
namespace G
open PySem L2 PySem.Spec PyProof.Rows

def visB (sc : Scope) (x : Str) : Bool := match sc.names.lookup x with
  | some .local => true
  | some .cell => true
  | some .free => true
  | _ => false
def locB (sc : Scope) (x : Str) : Bool := match sc.names.lookup x with
  | some .local => true
  | some .cell => true
  | _ => false
def lclB (sc : Scope) (x : Str) : Bool := match sc.names.lookup x with
  | some .local => true
  | _ => false
def glB (sc : Scope) (x : Str) : Bool := match sc.names.lookup x with
  | some .globalImplicit => true
  | _ => false
theorem visB_ok {sc : Scope} {x : Str} (h : visB sc x = true) : Vis sc x := by
  unfold visB at h
  split at h
  · rename_i e; exact .inl e
  · rename_i e; exact .inr (.inl e)
  · rename_i e; exact .inr (.inr e)
  · cases h
theorem locB_ok {sc : Scope} {x : Str} (h : locB sc x = true) : L2.Loc sc x := by
  unfold locB at h
  split at h
  · rename_i e; exact .inl e
  · rename_i e; exact .inr e
  · cases h
theorem lclB_ok {sc : Scope} {x : Str} (h : lclB sc x = true) : sc.names.lookup x = some .local := by
  unfold lclB at h
  split at h
  · assumption
  · cases h
theorem glB_ok {X : Cx} {sc : Scope} {x : Str} (e : X.env.scope = sc) (h : glB sc x = true) : Gl X x := by
  unfold glB at h
  split at h
  · rename_i q
    show X.env.scope.names.lookup x = _
    rw [e]
    exact q
  · cases h
def strB (a b : Str) : Bool := a == b
def constB : PD → Expr → Bool
  | .int i, .Constant (.int j) _ _ => decide (i = j)
  | .bool i, .Constant (.bool j) _ _ => decide (i = j)
  | .none, .Constant .none _ _ => true
  | .str i, .Constant (.str j) _ _ => decide (i = j)
  | .dict [], .Dict [] [] _ => true
  | .dict [(.int i, .int j)], .Dict [some (.Constant (.int i') _ _)] [.Constant (.int j') _ _] _ => decide (i = i') && decide (j = j')
  | _, _ => false
def isBO : Expr → Bool
  | .BoolOp .. => true
  | _ => false
def CT.blk (T : CT) (scope : Scope) : CT := { T with sc := relS scope T.sc }
def fnB (T : CT) (f : Str) (n : Nat) : Bool := T.fs.any fun p => decide (p.1 = f) && decide (p.2.length = n)
def fnKB (T : CT) (f : Str) (n : Nat) (ks : List Str) : Bool := T.fs.any fun p => decide (p.1 = f) && kwsOk p.2 n ks
def tyOneB (n : Str) (ts : List String) : Bool := match ts with
  | [t] => decide (n = Str.ofString t) && decide (t ∈ six)
  | _ => false
def celB (scope : Scope) (x : Str) : Bool := scope.names.lookup x == some .cell
def allB (_ : Str) : Bool := true
mutual
def kTg : Tg → CT → (Str → Bool) → Expr → Bool
  | .nm i, T, blk, .Name x _ => decide (T.N[i]? = some x) && (locB T.sc x && (blk x || lclB T.sc x))
  | .tp ts, T, blk, .Tuple es _ _ => T.cm && (es.all nostar && kTgs ts T blk es)
  | _, _, _, _ => false
def kTgs : List Tg → CT → (Str → Bool) → List Expr → Bool
  | [], _, _, [] => true
  | t :: ts, T, blk, e :: es => kTg t T blk e && kTgs ts T blk es
  | _, _, _, _ => false
end
def ownOf (T : CT) (t : Tg) : List (Str × Nat) := (tgSlots t).map fun i => ((T.N[i]?).getD "", i)
def isTupE : Expr → Bool
  | .Tuple .. => true
  | _ => false
def notIf : Expr → Bool
  | .IfExp .. => false
  | _ => true
mutual
def kE : E → CT → Expr → Bool
  | .var i, T, .Name x _ => decide (T.N[i]? = some x) && (visB T.sc x && (!(x == ("__debug__" : Str)) && !(x == ("__classdict__" : Str))))
  | .cst c, _, e => constB c e
  | .neg a, T, .UnaryOp .USub e _ => kE a T e
  | .not a, T, .UnaryOp .Not e _ => notIf e && kE a T e
  | .and a b, T, .BoolOp .And (x :: y :: r) pos => notIf x && (kE a T x && (match r with
    | [] => notIf y && kE b T y
    | z :: r => isBO (.BoolOp .And (y :: z :: r) pos) && kE b T (.BoolOp .And (y :: z :: r) pos)))
  | .or a b, T, .BoolOp .Or (x :: y :: r) pos => notIf x && (kE a T x && (match r with
    | [] => notIf y && kE b T y
    | z :: r => isBO (.BoolOp .Or (y :: z :: r) pos) && kE b T (.BoolOp .Or (y :: z :: r) pos)))
  | .ite c a b, T, .IfExp x y z _ => notIf x && kE c T x && (kE a T y && kE b T z)
  | .bin o a b, T, .BinOp x p y _ => decide (o = p) && (kE a T x && kE b T y)
  | .cmp o a b, T, .Compare x [p] [y] _ => decide (o = p) && (!behindInMarks o y && (kE a T x && kE b T y))
  | .chain o o' a b c, T, .Compare x [p, p'] [y, z] _ => decide (o = p) && (decide (o' = p') && (!lastMarks [o, o'] [y, z] && (kE a T x && (kE b T y && kE c T z))))
  | .tup es, T, .Tuple xs _ _ => xs.all nostar && kEs es T xs
  | .mtup es, T, .Tuple xs _ _ => xs.all nostar && kEs es T xs
  | .rev a, T, .Subscript x (.Slice none none (some (.UnaryOp .USub (.Constant (.int 1) _ _) _)) _) _ => kE a T x
  | .fr f, T, e => kF f T e
  | .al f, T, e => kF f T e
  | .dnew, _, .Dict [] [] _ => true
  | .dix a b, T, .Subscript x y _ => notSlice y && (kE a T x && kE b T y)
  | .ddisp ks es, T, .Dict keys vals _ => keyStrs keys ks && (decide ks.Nodup && (decide (ks ≠ []) && (decide (ks.length ≤ 15) && (decide (vals.length = es.len) && (decide (es.len = ks.length) && kEs es T vals)))))
  | .ix a b, T, .Subscript x y _ => notSlice y && (kE a T x && kE b T y)
  | .sl a lo hi, T, .Subscript x (.Slice l h none _) _ => kE a T x && (kO lo T l && kO hi T h)
  | .call f es, T, .Call (.Name g _) (x :: xs) [] _ => decide (f = g) && (T.cm && (fnB T f es.len && (glB T.sc f && ((x :: xs).all nostar && kEs es T (x :: xs)))))
  | .callK f es ns ks, T, .Call (.Name g _) xs kws _ => decide (f = g) && (T.cm && (fnKB T f es.len ns && (decide ((f, es.len, ns) ∈ T.ks) && (decide (ks.len = ns.length) && (decide (kwNames kws = ns.map some) && (glB T.sc f && (xs.all nostar && ((xs.isEmpty == (es.len == 0)) && (kEs es T xs && kKs ks T kws)))))))))
  | .b1 f a, T, .Call (.Name n _) [x] [] _ => (decide (b1N f = some n) && ((!b1C f || T.cm) && (glB T.sc n && (nostar x && kE a T x)))) || (match x with
    | .Call (.Name m _) [y] [] _ => (decide (f = .set) || decide (f = .setL)) && (decide (n = "len") && (decide (m = "set") && (T.cm && (glB T.sc "len" && (glB T.sc "set" && (nostar y && kE a T y)))))) || (decide (f = .tupR) && (decide (n = "tuple") && (decide (m = "reversed") && (T.cm && (glB T.sc "tuple" && (glB T.sc "reversed" && (nostar y && kE a T y)))))))
    | _ => false)
  | .b1 f a, T, .Call (.Name n _) [x] [⟨some m, .Constant (.bool true) _ _, _⟩] _ => decide (f = .sortedR) && (decide (n = "sorted") && (decide (m = Str.ofString "reverse") && (glB T.sc "sorted" && (nostar x && kE a T x))))
  | .b2 f a b, T, .Call (.Name n _) [x, y] [] _ => (match f with | .max => decide (n = "max") | .min => decide (n = "min") | _ => false) && (T.cm && (glB T.sc n && (nostar x && (nostar y && (kE a T x && kE b T y)))))
  | .isI a ts, T, .Call (.Name n _) [x, y] [] _ => decide (n = "isinstance") && (glB T.sc "isinstance" && (nostar x && (kE a T x && (match y with
    | .Name m _ => tyOneB m ts && glB T.sc m
    | .Tuple es _ _ => tyNames es ts && (decide (ts.length < 1000) && (decide (ts ≠ []) && ts.all fun t => glB T.sc (Str.ofString t)))
    | _ => false))))
  | .isX a cs, T, .Call (.Name n _) [x, y] [] _ => decide (n = "isinstance") && (glB T.sc "isinstance" && (nostar x && (kE a T x && (match y with
    | .Name c _ => decide (cs = [c]) && (decide (c ∈ T.hs) && glB T.sc c)
    | .Tuple es _ _ => clNames es cs && (decide (cs.length < 1000) && cs.all fun c => decide (c ∈ T.hs) && glB T.sc c)
    | _ => false))))
  | .xval a f, T, .Attribute x g _ => decide (f = g) && ((decide (f = "value") || decide (f = "what")) && (abOk x && kE a T x))
  | .pop a, T, .Call (.Attribute x m p) [] [] q => decide (m = "pop") && ((p.endLine == q.line) && (abOk x && kE a T x))
  | .index a b, T, .Call (.Attribute x m p) [y] [] q => decide (m = "index") && ((p.endLine == q.line) && (abOk x && (nostar y && (kE a T x && kE b T y))))
  | .popAt a b, T, .Call (.Attribute x m p) [y] [] q => decide (m = "pop") && ((p.endLine == q.line) && (abOk x && (nostar y && (kE a T x && kE b T y))))
  | _, _, _ => false
def kEs : Es → CT → List Expr → Bool
  | .nil, _, [] => true
  | .cons e es, T, x :: xs => kE e T x && kEs es T xs
  | _, _, _ => false
def kKs : Es → CT → List Keyword → Bool
  | .nil, _, [] => true
  | .cons e es, T, ⟨_, x, _⟩ :: xs => kE e T x && kKs es T xs
  | _, _, _ => false
def kO : Oe → CT → Option Expr → Bool
  | .none, _, none => true
  | .some e, T, some x => kE e T x
  | _, _, _ => false
def kC : Oe → CT → List Expr → Bool
  | .none, _, [] => true
  | .some e, T, [x] => notIf x && kE e T x
  | _, _, _ => false
def kF : F → CT → Expr → Bool
  | .disp es, T, .List xs _ => xs.all nostar && kEs es T xs
  | .cat a b, T, .BinOp x .Add y _ => kE a T x && kE b T y
  | .rep a b, T, .BinOp x .Mult y _ => kE a T x && kE b T y
  | .slice a lo hi, T, .Subscript x (.Slice l h none _) _ => kE a T x && (kO lo T l && kO hi T h)
  | .listOf a, T, .Call (.Name n _) [x] [] _ => decide (n = "list") && (glB T.sc "list" && (nostar x && kE a T x))
  | .lrng a, T, .Call (.Name n _) [.Call (.Name m _) [x] [] _] [] _ => decide (n = "list") && (decide (m = "range") && (T.cm && (glB T.sc "list" && (glB T.sc "range" && (nostar x && kE a T x)))))
  | .comp2 e t it u ju c, T, .ListComp elt [⟨tg, iter, [], 0⟩, ⟨tg1, iter1, ifs, 0⟩] scope _ => T.cm && (blkC T.N T.sc scope (ownOf T t ++ ownOf T u) && (notSet iter && (notSet iter1 && (kI it T tg iter && (kTg t (T.blk scope) (celB scope) tg && (kI ju (T.blk scope) tg1 iter1 && (kTg u (T.blk scope) (celB scope) tg1 && (kC c (T.blk scope) ifs && kE e (T.blk scope) elt))))))))
  | .comp e t it c, T, .ListComp elt [⟨tg, iter, ifs, 0⟩] scope _ => (T.cm && (blkC T.N T.sc scope (ownOf T t) && (notSet iter && (kI it T tg iter && (kTg t (T.blk scope) (celB scope) tg && (kC c (T.blk scope) ifs && kE e (T.blk scope) elt)))))) || (!T.cm && (!T.hs.isEmpty && (isOfV e it c && (blkC T.N T.sc scope (ownOf T t) && (notSet iter && (kI it T tg iter && (kTg t (T.blkS scope) (celB scope) tg && (kC c (T.blkS scope) ifs && kE e (T.blkS scope) elt))))))))
  | _, _, _ => false
def kI : It → CT → Expr → Expr → Bool
  | .of e, T, _, x => kE e T x
  | .rng es, T, _, .Call (.Name n _) xs [] _ => decide (n = "range") && (glB T.sc "range" && (xs.all nostar && (decide (xs.length = es.len) && (decide (1 ≤ xs.length) && (decide (xs.length ≤ 3) && kEs es T xs)))))
  | .enum e, T, tg, .Call (.Name n _) [x] [] _ => decide (n = "enumerate") && (isTupE tg && (glB T.sc "enumerate" && (nostar x && kE e T x)))
  | .zip a b, T, tg, .Call (.Name n _) [x, y] [] _ => decide (n = "zip") && (isTupE tg && (glB T.sc "zip" && (nostar x && (nostar y && (kE a T x && kE b T y)))))
  | .rev e, T, _, .Call (.Name n _) [x] [] _ => decide (n = "reversed") && (glB T.sc "reversed" && (nostar x && kE e T x))
  | .keys e, T, _, x => kE e T x
  | _, _, _, _ => false
end
end G

/-! Layer G, part 7b: what passes the look is run as the syntax tells. -/
namespace G
open PySem L2 PySem.Spec PyProof.Rows
structure Snd (X : Cx) (Γ : Env) (W : WX) (e : E) (x : Expr) : Prop where
  pe : PE X x (gE X Γ W e)
  pt : notIf x = true → PT X x (gT X Γ W e)
  pw : isBO x = true → PW X x (gT X Γ W e)
def isLog : E → Bool
  | .not _ => true
  | .and _ _ => true
  | .or _ _ => true
  | _ => false
theorem wT_val {Γ : Env} {e : E} (h : isLog e = false) : ∀ ρ M Q E, wT Γ e ρ M Q E = wE Γ e ρ M (fun x M1 => ∃ k, truth M1 x = some k ∧ Q k M1) E := by
  intro ρ M Q E
  cases e <;> first | (simp only [wT]; done) | cases h
theorem Snd.val {X : Cx} {Γ : Env} {W : WX} {T : CT} {e : E} {x : Expr} (G : GOk X Γ W T) (h : PE X x (gE X Γ W e)) (hl : isLog e = false) (hp : plainT x = true) (hb : isBO x = false) : Snd X Γ W e x :=
  ⟨h, fun _ => tt_val G h (plain_of hp) (wT_val hl), fun z => by rw [hb] at z; cases z⟩
theorem kTg_blk {T : CT} {X : Cx} {x : Str} (hS : X.env.scope = T.sc) {blk : Str → Bool} (h : locB T.sc x = true ∧ (blk x || lclB T.sc x) = true) (hf : ∀ x, blk x = true → X.fn x = true) : L2.Loc X.env.scope x ∧ (X.fn x = true ∨ X.env.scope.names.lookup x = some .local) := by
  rw [hS]
  refine ⟨locB_ok h.1, ?_⟩
  rcases Bool.or_eq_true_iff.mp h.2 with z | z
  · exact .inl (hf x z)
  · exact .inr (lclB_ok z)
mutual
theorem sTg : ∀ (t : Tg) (T : CT) (blk : Str → Bool) (e : Expr), kTg t T blk e = true → ∀ {X : Cx} {Γ : Env} {W : WX}, GOk X Γ W T → (∀ x, blk x = true → X.fn x = true) → PG X e (gTg X t)
  | .nm i, T, blk, e, h => by
    rename_i X Γ W
    intro G hf
    unfold kTg at h
    split at h <;> first | contradiction | skip
    rename_i i' n pos heq
    cases heq
    simp only [Bool.and_eq_true, decide_eq_true_eq] at h
    obtain ⟨h1, h2⟩ := h
    have := kTg_blk G.eS h2 hf
    exact jt_nm G.nd (by rw [G.eN]; exact h1) this.1 this.2
  | .tp ts, T, blk, e, h => by
    rename_i X Γ W
    intro G hf
    unfold kTg at h
    split at h <;> first | contradiction | skip
    rename_i ts' es k pos heq
    cases heq
    simp only [Bool.and_eq_true] at h
    obtain ⟨h1, h2, h3⟩ := h
    obtain ⟨p, l⟩ := sTgs ts _ _ es h3 G hf h2
    exact jt_tp (G.calm h1) p h2 l
theorem sTgs : ∀ (ts : List Tg) (T : CT) (blk : Str → Bool) (es : List Expr), kTgs ts T blk es = true → ∀ {X : Cx} {Γ : Env} {W : WX}, GOk X Γ W T → (∀ x, blk x = true → X.fn x = true) → es.all nostar = true → PGs X es (gTgs X ts) ∧ es.length = ts.length
  | [], T, blk, [], h => fun G hf ns => ⟨jts_nil, rfl⟩
  | [], T, blk, _ :: _, h => by simp [kTgs] at h
  | t :: ts, T, blk, [], h => by simp [kTgs] at h
  | t :: ts, T, blk, e :: es, h => by
    rename_i X Γ W
    intro G hf ns
    simp only [kTgs, Bool.and_eq_true] at h
    rw [List.all_cons, Bool.and_eq_true] at ns
    obtain ⟨p, l⟩ := sTgs ts T blk es h.2 G hf ns.2
    exact ⟨jts_cons (sTg t T blk e h.1 G hf) p ns.1 ns.2, by rw [List.length_cons, List.length_cons, l]⟩
end
theorem fnB_ok {T : CT} {f : Str} {n : Nat} (h : fnB T f n = true) : ∃ ps, (f, ps) ∈ T.fs ∧ n = ps.length := by
  unfold fnB at h
  obtain ⟨p, hp, h⟩ := List.any_eq_true.mp h
  simp only [Bool.and_eq_true, decide_eq_true_eq] at h
  exact ⟨p.2, by rw [← h.1]; exact hp, h.2.symm⟩
theorem fnKB_ok {T : CT} {f : Str} {n : Nat} {ks : List Str} (h : fnKB T f n ks = true) : ∃ ps, (f, ps) ∈ T.fs ∧ kwsOk ps n ks = true := by
  unfold fnKB at h
  obtain ⟨p, hp, h⟩ := List.any_eq_true.mp h
  simp only [Bool.and_eq_true, decide_eq_true_eq] at h
  exact ⟨p.2, by rw [← h.1]; exact hp, h.2⟩
theorem own_map (T : CT) (t : Tg) : (ownOf T t).map (·.2) = tgSlots t := by
  unfold ownOf
  rw [List.map_map]
  induction tgSlots t with
  | nil => rfl
  | cons i l ih => rw [List.map_cons, ih]; rfl
theorem isTup_ok {e : Expr} (h : isTupE e = true) : ∃ es k p, e = .Tuple es k p := by
  cases e <;> first | exact ⟨_, _, _, rfl⟩ | cases h
theorem bool_not {b : Bool} (h : (!b) = true) : b = false := by cases b <;> simp_all
mutual
theorem sE : ∀ (e : E) (T : CT) (x : Expr), kE e T x = true → ∀ {X : Cx} {Γ : Env} {W : WX}, GOk X Γ W T → Snd X Γ W e x
  | .var i, T, x, h => by
    rename_i X Γ W
    intro G
    unfold kE at h
    split at h <;> first | contradiction | skip
    rename_i i' n pos heq
    cases heq
    simp only [Bool.and_eq_true, decide_eq_true_eq] at h
    obtain ⟨h1, h2, h3, h4⟩ := h
    exact .val G (j_var (by rw [G.eN]; exact h1) (by rw [G.eS]; exact visB_ok h2) (bool_not h3) (bool_not h4)) rfl rfl rfl
  | .cst c, T, x, h => by
    rename_i X Γ W
    intro G
    unfold kE at h
    unfold constB at h
    split at h <;> first | contradiction | skip
    · cases of_decide_eq_true h; exact .val G j_cst_int rfl rfl rfl
    · cases of_decide_eq_true h; exact .val G j_cst_bool rfl rfl rfl
    · exact .val G j_cst_none rfl rfl rfl
    · cases of_decide_eq_true h; exact .val G j_cst_str rfl rfl rfl
    · exact .val G j_cst_dict rfl rfl rfl
    · simp only [Bool.and_eq_true, decide_eq_true_eq] at h
      obtain ⟨rfl, rfl⟩ := h
      exact .val G j_cst_dc1 rfl rfl rfl
  | .neg a, T, x, h => by
    rename_i X Γ W
    intro G
    unfold kE at h
    split at h <;> first | contradiction | skip
    rename_i a' e pos heq
    cases heq
    exact .val G (j_neg G (sE a _ e h G).pe) rfl rfl rfl
  | .not a, T, x, h => by
    rename_i X Γ W
    intro G
    unfold kE at h
    split at h <;> first | contradiction | skip
    rename_i a' e pos heq
    cases heq
    rw [Bool.and_eq_true] at h
    have s := sE a _ e h.2 G
    exact ⟨j_not G s.pe, fun _ => tt_not G (s.pt h.1), (fun q => by cases q)⟩
  | .and a b, T, x, h => by
    rename_i X Γ W
    intro G
    unfold kE at h
    split at h <;> first | contradiction | skip
    rename_i a' b' x y r pos heq
    cases heq
    simp only [Bool.and_eq_true] at h
    obtain ⟨h0, h1, h2⟩ := h
    have sa := sE a _ x h1 G
    cases r with
    | nil =>
      simp only [Bool.and_eq_true] at h2
      have sb := sE b _ y h2.2 G
      have w := w_and (pos := pos) G (sa.pt h0) (pw_and1 (sb.pt h2.1))
      exact ⟨j_and G sa.pe (pe_one sb.pe), fun _ => w.pt, fun _ => w⟩
    | cons z r =>
      simp only [Bool.and_eq_true] at h2
      have sb := sE b _ _ h2.2 G
      have w := w_and (pos := pos) G (sa.pt h0) (sb.pw h2.1)
      exact ⟨j_and G sa.pe sb.pe, fun _ => w.pt, fun _ => w⟩
  | .or a b, T, x, h => by
    rename_i X Γ W
    intro G
    unfold kE at h
    split at h <;> first | contradiction | skip
    rename_i a' b' x y r pos heq
    cases heq
    simp only [Bool.and_eq_true] at h
    obtain ⟨h0, h1, h2⟩ := h
    have sa := sE a _ x h1 G
    cases r with
    | nil =>
      simp only [Bool.and_eq_true] at h2
      have sb := sE b _ y h2.2 G
      have w := w_or (pos := pos) G (sa.pt h0) (pw_or1 (sb.pt h2.1))
      exact ⟨j_or G sa.pe (pe_one sb.pe), fun _ => w.pt, fun _ => w⟩
    | cons z r =>
      simp only [Bool.and_eq_true] at h2
      have sb := sE b _ _ h2.2 G
      have w := w_or (pos := pos) G (sa.pt h0) (sb.pw h2.1)
      exact ⟨j_or G sa.pe sb.pe, fun _ => w.pt, fun _ => w⟩
  | .ite c a b, T, x, h => by
    rename_i X Γ W
    intro G
    unfold kE at h
    split at h <;> first | contradiction | skip
    rename_i c' a' b' x y z pos heq
    cases heq
    simp only [Bool.and_eq_true] at h
    obtain ⟨⟨h0, h1⟩, h2, h3⟩ := h
    exact ⟨j_ite G ((sE c _ x h1 G).pt h0) (sE a _ y h2 G).pe (sE b _ z h3 G).pe, (fun q => by cases q), (fun q => by cases q)⟩
  | .bin o a b, T, x, h => by
    rename_i X Γ W
    intro G
    unfold kE at h
    split at h <;> first | contradiction | skip
    rename_i o' a' b' x q y pos heq
    cases heq
    simp only [Bool.and_eq_true, decide_eq_true_eq] at h
    obtain ⟨rfl, h1, h2⟩ := h
    exact .val G (j_bin G o (sE a _ x h1 G).pe (sE b _ y h2 G).pe) rfl rfl rfl
  | .cmp o a b, T, x, h => by
    rename_i X Γ W
    intro G
    unfold kE at h
    split at h <;> first | contradiction | skip
    rename_i o' a' b' x q y pos heq
    cases heq
    simp only [Bool.and_eq_true, decide_eq_true_eq] at h
    obtain ⟨rfl, h0, h1, h2⟩ := h
    have sa := (sE a _ x h1 G).pe
    have sb := (sE b _ y h2 G).pe
    exact ⟨j_cmp G o sa sb (bool_not h0), fun _ => tt_cmp G o sa sb (bool_not h0), (fun q => by cases q)⟩
  | .chain o o' a b c, T, x, h => by
    rename_i X Γ W
    intro G
    unfold kE at h
    split at h <;> first | contradiction | skip
    rename_i o1 o2 a' b' c' x q q' y z pos heq
    cases heq
    simp only [Bool.and_eq_true, decide_eq_true_eq] at h
    obtain ⟨rfl, rfl, h0, h1, h2, h3⟩ := h
    have sa := (sE a _ x h1 G).pe
    have sb := (sE b _ y h2 G).pe
    have sc := (sE c _ z h3 G).pe
    exact ⟨j_chain G o o' sa sb sc (bool_not h0), fun _ => tt_chain G o o' sa sb sc (bool_not h0), (fun q => by cases q)⟩
  | .tup es, T, x, h => by
    rename_i X Γ W
    intro G
    unfold kE at h
    split at h <;> first | contradiction | skip
    rename_i es' xs k pos heq
    cases heq
    simp only [Bool.and_eq_true] at h
    exact .val G (j_tup G (sEs es _ xs h.2 h.1 G)) rfl rfl rfl
  | .mtup es, T, x, h => by
    rename_i X Γ W
    intro G
    unfold kE at h
    split at h <;> first | contradiction | skip
    rename_i es' xs k pos heq
    cases heq
    simp only [Bool.and_eq_true] at h
    exact .val G (j_mtup G (sEs es _ xs h.2 h.1 G)) rfl rfl rfl
  | .fr f, T, x, h => by
    rename_i X Γ W
    intro G
    unfold kE at h
    obtain ⟨h1, h2, h3⟩ := sF f _ x h G
    exact .val G (j_fr G h1) rfl h2 h3
  | .al f, T, x, h => by
    rename_i X Γ W
    intro G
    unfold kE at h
    obtain ⟨h1, h2, h3⟩ := sF f _ x h G
    exact .val G (j_al G h1) rfl h2 h3
  | .ix a b, T, x, h => by
    rename_i X Γ W
    intro G
    unfold kE at h
    split at h <;> first | contradiction | skip
    rename_i a' b' x y pos heq
    cases heq
    simp only [Bool.and_eq_true] at h
    obtain ⟨h0, h1, h2⟩ := h
    exact .val G (j_ix G (sE a _ x h1 G).pe (sE b _ y h2 G).pe (plainIx_of h0)) rfl rfl rfl
  | .sl a lo hi, T, x, h => by
    rename_i X Γ W
    intro G
    unfold kE at h
    split at h <;> first | contradiction | skip
    rename_i a' lo' hi' x l r p2 pos heq
    cases heq
    simp only [Bool.and_eq_true] at h
    obtain ⟨h0, h1, h2⟩ := h
    exact .val G (j_sl G (sE a _ x h0 G).pe (sO lo _ l h1 G) (sO hi _ r h2 G)) rfl rfl rfl
  | .call f es, T, x, h => by
    rename_i X Γ W
    intro G
    unfold kE at h
    split at h <;> first | contradiction | skip
    rename_i f' es' g p x xs pos heq
    cases heq
    simp only [Bool.and_eq_true, decide_eq_true_eq] at h
    obtain ⟨rfl, h1, h2, h3, h4, h5⟩ := h
    obtain ⟨ps, hf, hl⟩ := fnB_ok h2
    exact .val G (j_call G h1 hf hl (glB_ok G.eS h3) (sEs es _ (x :: xs) h5 (by simpa using h4) G) (by simpa using h4)) rfl rfl rfl
  | .callK f es ns ks, T, x, h => by
    rename_i X Γ W
    intro G
    unfold kE at h
    split at h <;> first | contradiction | skip
    rename_i f' es' ns' ks' g p xs kws pos heq
    cases heq
    simp only [Bool.and_eq_true, decide_eq_true_eq] at h
    obtain ⟨rfl, h1, h2, h3, h4, h5, h6, h7, h8, h9, h10⟩ := h
    obtain ⟨ps, hf, hok⟩ := fnKB_ok h2
    refine .val G (j_callK G h1 hf h3 hok h4 h5 (glB_ok G.eS h6) (sEs es _ xs h9 h7 G) (sKs ks _ kws h10 G) h7 fun e => ?_) rfl rfl rfl
    subst e
    cases es with
    | nil => rfl
    | cons e es => simp [Es.len] at h8
  | .b1 f a, T, x, h => by
    rename_i X Γ W
    intro G
    unfold kE at h
    split at h <;> first | contradiction | skip
    rotate_left
    · rename_i f' a' n p x m j p2 q pos heq
      cases heq
      simp only [Bool.and_eq_true, decide_eq_true_eq] at h
      obtain ⟨rfl, rfl, rfl, h4, h5, h6⟩ := h
      exact .val G (j_sortedR G (glB_ok G.eS h4) (sE a _ x h6 G).pe h5) rfl rfl rfl
    rename_i f' a' n p x pos heq
    cases heq
    rw [Bool.or_eq_true] at h
    rcases h with h | h
    · simp only [Bool.and_eq_true, decide_eq_true_eq, Bool.or_eq_true] at h
      obtain ⟨h1, h2, h3, h4, h5⟩ := h
      exact .val G (j_b1 G f h1 (fun z => h2.elim (fun y => by rw [z] at y; cases y) id) (glB_ok G.eS h3) (sE a _ x h5 G).pe h4) rfl rfl rfl
    · split at h <;> first | contradiction | skip
      rename_i m p2 y q
      simp only [Bool.and_eq_true, decide_eq_true_eq, Bool.or_eq_true] at h
      rcases h with h | h
      rotate_left
      · obtain ⟨rfl, rfl, rfl, h4, h5, h6, h7, h8⟩ := h
        exact .val G (j_tupR G h4 (glB_ok G.eS h5) (glB_ok G.eS h6) (sE a _ y h8 G).pe h7) rfl rfl rfl
      obtain ⟨h0, rfl, rfl, h4, h5, h6, h7, h8⟩ := h
      rcases h0 with rfl | rfl
      · exact .val G (j_lenset G h4 (glB_ok G.eS h5) (glB_ok G.eS h6) (sE a _ y h8 G).pe h7) rfl rfl rfl
      · exact .val G (j_lensetL G h4 (glB_ok G.eS h5) (glB_ok G.eS h6) (sE a _ y h8 G).pe h7) rfl rfl rfl
  | .b2 f a b, T, x, h => by
    rename_i X Γ W
    intro G
    unfold kE at h
    split at h <;> first | contradiction | skip
    rename_i f' a' b' n p x y pos heq
    cases heq
    simp only [Bool.and_eq_true] at h
    obtain ⟨h1, h2, h3, h4, h5, h6, h7⟩ := h
    refine .val G (j_b2 G h2 f ?_ (glB_ok G.eS h3) (sE a _ x h6 G).pe (sE b _ y h7 G).pe h4 h5) rfl rfl rfl
    cases f with
    | max => exact .inl ⟨rfl, by simpa using h1⟩
    | min => exact .inr ⟨rfl, by simpa using h1⟩
    | gcd => cases h1
  | .isI a ts, T, x, h => by
    rename_i X Γ W
    intro G
    unfold kE at h
    split at h <;> first | contradiction | skip
    rename_i a' ts' n p x y pos heq
    cases heq
    simp only [Bool.and_eq_true, decide_eq_true_eq] at h
    obtain ⟨rfl, h1, h2, h3, h4⟩ := h
    have sa := (sE a _ x h3 G).pe
    split at h4
    · rename_i m p2
      simp only [Bool.and_eq_true] at h4
      obtain ⟨h5, h6⟩ := h4
      unfold tyOneB at h5
      split at h5 <;> first | contradiction | skip
      simp only [Bool.and_eq_true, decide_eq_true_eq] at h5
      obtain ⟨rfl, h5⟩ := h5
      exact .val G (j_isi G h5 (glB_ok G.eS h1) (glB_ok G.eS h6) sa h2) rfl rfl rfl
    · simp only [Bool.and_eq_true, decide_eq_true_eq] at h4
      obtain ⟨h5, h6, h7, h8⟩ := h4
      exact .val G (j_isiT G h5 h6 h7 (fun t ht => glB_ok G.eS (List.all_eq_true.mp h8 t ht)) (glB_ok G.eS h1) sa h2) rfl rfl rfl
    · cases h4
  | .isX a cs, T, x, h => by
    rename_i X Γ W
    intro G
    unfold kE at h
    split at h <;> first | contradiction | skip
    rename_i a' cs' n p x y pos heq
    cases heq
    simp only [Bool.and_eq_true, decide_eq_true_eq] at h
    obtain ⟨rfl, h1, h2, h3, h4⟩ := h
    have sa := (sE a _ x h3 G).pe
    split at h4
    · rename_i c p2
      simp only [Bool.and_eq_true, decide_eq_true_eq] at h4
      obtain ⟨rfl, h4, h5⟩ := h4
      exact .val G (j_isX G h4 (glB_ok G.eS h1) (glB_ok G.eS h5) sa h2) rfl rfl rfl
    · simp only [Bool.and_eq_true, decide_eq_true_eq] at h4
      obtain ⟨h5, h6, h7⟩ := h4
      have h8 := fun c hc => (Bool.and_eq_true _ _).mp (List.all_eq_true.mp h7 c hc)
      exact .val G (j_isXT G h5 h6 (fun c hc => of_decide_eq_true (h8 c hc).1) (glB_ok G.eS h1) (fun c hc => glB_ok G.eS (h8 c hc).2) sa h2) rfl rfl rfl
    · cases h4
  | .xval a f, T, x, h => by
    rename_i X Γ W
    intro G
    unfold kE at h
    split at h <;> first | contradiction | skip
    rename_i a' f' x g pos heq
    cases heq
    simp only [Bool.and_eq_true, decide_eq_true_eq, Bool.or_eq_true] at h
    obtain ⟨rfl, h1, h2, h3⟩ := h
    exact .val G (ok_xval G h1 (sE a _ x h3 G).pe h2) rfl rfl rfl
  | .pop a, T, x, h => by
    rename_i X Γ W
    intro G
    unfold kE at h
    split at h <;> first | contradiction | skip
    rename_i a' x m p q heq
    cases heq
    simp only [Bool.and_eq_true, decide_eq_true_eq] at h
    obtain ⟨rfl, h1, h2, h3⟩ := h
    exact .val G (j_pop G (sE a _ x h3 G).pe h2 h1) rfl rfl rfl
  | .popAt a b, T, x, h => by
    rename_i X Γ W
    intro G
    unfold kE at h
    split at h <;> first | contradiction | skip
    rename_i a' b' x m p y q heq
    cases heq
    simp only [Bool.and_eq_true, decide_eq_true_eq] at h
    obtain ⟨rfl, h1, h2, h3, h4, h5⟩ := h
    exact .val G (j_popAt G (sE a _ x h4 G).pe (sE b _ y h5 G).pe h2 h1 h3) rfl rfl rfl
  | .ddisp ks es, T, x, h => by
    rename_i X Γ W
    intro G
    unfold kE at h
    split at h <;> first | contradiction | skip
    rename_i ks' es' keys vals pos heq
    cases heq
    simp only [Bool.and_eq_true, decide_eq_true_eq] at h
    obtain ⟨h1, h2, h3, h4, h5, h6, h7⟩ := h
    exact .val G (j_ddisp G (sDs es _ vals ks keys h7 h1 h6 G) h1 h5 h6 h2 h3 h4) rfl rfl rfl
  | .rev a, T, x, h => by
    rename_i X Γ W
    intro G
    unfold kE at h
    split at h <;> first | contradiction | skip
    rename_i a' y k p1 p2 p3 pos heq
    cases heq
    exact .val G (j_rev G (sE a _ y h G).pe) rfl rfl rfl
  | .get d k a, T, x, h => by
    unfold kE at h
    cases h
  | .index a b, T, x, h => by
    rename_i X Γ W
    intro G
    unfold kE at h
    split at h <;> first | contradiction | skip
    rename_i a' b' x m p y q heq
    cases heq
    simp only [Bool.and_eq_true, decide_eq_true_eq] at h
    obtain ⟨rfl, h1, h2, h3, h4, h5⟩ := h
    exact .val G (j_index G (sE a _ x h4 G).pe (sE b _ y h5 G).pe h2 h1 h3) rfl rfl rfl
  | .indexT a b, T, x, h => by
    unfold kE at h
    cases h
  | .dnew, T, x, h => by
    rename_i X Γ W
    intro G
    unfold kE at h
    split at h <;> first | contradiction | skip
    exact .val G j_dnew rfl rfl rfl
  | .dix a b, T, x, h => by
    rename_i X Γ W
    intro G
    unfold kE at h
    split at h <;> first | contradiction | skip
    rename_i a' b' x y pos heq
    cases heq
    simp only [Bool.and_eq_true] at h
    obtain ⟨h0, h1, h2⟩ := h
    exact .val G (j_dix G (sE a _ x h1 G).pe (sE b _ y h2 G).pe (plainIx_of h0)) rfl rfl rfl
theorem sDs : ∀ (es : Es) (T : CT) (xs : List Expr) (ks : List Str) (keys : List (Option Expr)), kEs es T xs = true → keyStrs keys ks = true → es.len = ks.length → ∀ {X : Cx} {Γ : Env} {W : WX} {pos : Pos}, GOk X Γ W T → PPs X pos keys xs (trsOf X Γ W ks es)
  | .nil, T, [], [], keys, h, hk, hl => by
    rename_i X Γ W pos
    intro G
    obtain ⟨_, kl⟩ := keyStrs_some hk
    have e : keys = [] := List.length_eq_zero_iff.mp kl
    subst e
    exact pps_nil
  | .nil, T, [], k :: ks, keys, h, hk, hl => by simp [Es.len] at hl
  | .nil, T, _ :: _, _, _, h, _, _ => by simp [kEs] at h
  | .cons e es, T, [], _, _, h, _, _ => by simp [kEs] at h
  | .cons e es, T, x :: xs, [], keys, h, hk, hl => by simp [Es.len] at hl
  | .cons e es, T, x :: xs, k :: ks, [], h, hk, hl => by simp [keyStrs] at hk
  | .cons e es, T, x :: xs, k :: ks, o :: keys, h, hk, hl => by
    rename_i X Γ W pos
    intro G
    simp only [kEs, Bool.and_eq_true] at h
    obtain ⟨j, q, rfl, hk2⟩ := keyStrs_cons hk
    simp only [Es.len, List.length_cons, Nat.add_right_cancel_iff] at hl
    exact pps_cons j_cst_str (sE e _ x h.1 G).pe (sDs es _ xs ks keys h.2 hk2 hl G)
theorem sEs : ∀ (es : Es) (T : CT) (xs : List Expr), kEs es T xs = true → xs.all nostar = true → ∀ {X : Cx} {Γ : Env} {W : WX}, GOk X Γ W T → PA X xs (gA X Γ W es)
  | .nil, T, [], h, ns => fun G => ja_nil
  | .nil, T, _ :: _, h, ns => by simp [kEs] at h
  | .cons e es, T, [], h, ns => by simp [kEs] at h
  | .cons e es, T, x :: xs, h, ns => by
    rename_i X Γ W
    intro G
    simp only [kEs, Bool.and_eq_true] at h
    rw [List.all_cons, Bool.and_eq_true] at ns
    exact ja_cons G (sE e _ x h.1 G).pe (sEs es _ xs h.2 ns.2 G) (star_cons ns.1)
theorem sKs : ∀ (es : Es) (T : CT) (xs : List Keyword), kKs es T xs = true → ∀ {X : Cx} {Γ : Env} {W : WX}, GOk X Γ W T → PK X xs (gA X Γ W es)
  | .nil, T, [], h => fun G => jk_nil
  | .nil, T, _ :: _, h => by simp [kKs] at h
  | .cons e es, T, [], h => by simp [kKs] at h
  | .cons e es, T, ⟨n, x, p⟩ :: xs, h => by
    rename_i X Γ W
    intro G
    simp only [kKs, Bool.and_eq_true] at h
    exact jk_cons G (sE e _ x h.1 G).pe (sKs es _ xs h.2 G)
theorem sO : ∀ (o : Oe) (T : CT) (x : Option Expr), kO o T x = true → ∀ {X : Cx} {Γ : Env} {W : WX}, GOk X Γ W T → L2.PO X x (gO X Γ W o)
  | .none, T, none, h => fun G => jo_none
  | .none, T, some _, h => by simp [kO] at h
  | .some e, T, none, h => by simp [kO] at h
  | .some e, T, some x, h => by
    rename_i X Γ W
    intro G
    simp only [kO] at h
    exact jo_some G (sE e _ x h G).pe
theorem sC : ∀ (o : Oe) (T : CT) (xs : List Expr), kC o T xs = true → ∀ {X : Cx} {Γ : Env} {W : WX}, GOk X Γ W T → PTs X xs (gC X Γ W o)
  | .none, T, [], h => fun G => ⟨fun pins s σ H Q I ⟨κ, ρ, M, rs, rm, q⟩ => pts_nil.run pins s σ H Q I (by simp only [wC] at q; exact q κ H .refl rm)⟩
  | .none, T, _ :: _, h => by simp [kC] at h
  | .some e, T, [], h => by simp [kC] at h
  | .some e, T, [x], h => by
    rename_i X Γ W
    intro G
    simp only [kC, Bool.and_eq_true] at h
    exact ⟨fun pins s σ H Q I ⟨κ, ρ, M, rs, rm, q⟩ => (pts_one ((sE e _ x h.2 G).pt h.1)).run pins s σ H Q I (by simp only [wC] at q; exact ⟨κ, ρ, M, rs, rm, q⟩)⟩
  | .some e, T, _ :: _ :: _, h => by simp [kC] at h
theorem sF : ∀ (f : F) (T : CT) (x : Expr), kF f T x = true → ∀ {X : Cx} {Γ : Env} {W : WX}, GOk X Γ W T → PE X x (gF X Γ W f) ∧ plainT x = true ∧ isBO x = false
  | .disp es, T, x, h => by
    rename_i X Γ W
    intro G
    unfold kF at h
    split at h <;> first | contradiction | skip
    rename_i es' xs pos heq
    cases heq
    simp only [Bool.and_eq_true] at h
    exact ⟨jf_disp G (sEs es _ xs h.2 h.1 G), rfl, rfl⟩
  | .cat a b, T, x, h => by
    rename_i X Γ W
    intro G
    unfold kF at h
    split at h <;> first | contradiction | skip
    rename_i a' b' x y pos heq
    cases heq
    simp only [Bool.and_eq_true] at h
    exact ⟨jf_cat G (sE a _ x h.1 G).pe (sE b _ y h.2 G).pe, rfl, rfl⟩
  | .rep a b, T, x, h => by
    rename_i X Γ W
    intro G
    unfold kF at h
    split at h <;> first | contradiction | skip
    rename_i a' b' x y pos heq
    cases heq
    simp only [Bool.and_eq_true] at h
    exact ⟨jf_rep G (sE a _ x h.1 G).pe (sE b _ y h.2 G).pe, rfl, rfl⟩
  | .slice a lo hi, T, x, h => by
    rename_i X Γ W
    intro G
    unfold kF at h
    split at h <;> first | contradiction | skip
    rename_i a' lo' hi' x l r p2 pos heq
    cases heq
    simp only [Bool.and_eq_true] at h
    obtain ⟨h0, h1, h2⟩ := h
    exact ⟨jf_slice G (sE a _ x h0 G).pe (sO lo _ l h1 G) (sO hi _ r h2 G), rfl, rfl⟩
  | .listOf a, T, x, h => by
    rename_i X Γ W
    intro G
    unfold kF at h
    split at h <;> first | contradiction | skip
    rename_i a' n p x pos heq
    cases heq
    simp only [Bool.and_eq_true, decide_eq_true_eq] at h
    obtain ⟨rfl, h1, h2, h3⟩ := h
    exact ⟨jf_listOf G (glB_ok G.eS h1) (sE a _ x h3 G).pe h2, rfl, rfl⟩
  | .comp e t it c, T, x, h => by
    rename_i X Γ W
    intro G
    unfold kF at h
    split at h <;> first | contradiction | skip
    rename_i e' t' it' c' elt tg iter ifs scope pos heq
    cases heq
    rw [Bool.or_eq_true] at h
    rcases h with h | h
    case inr =>
      simp only [Bool.and_eq_true, Bool.not_eq_true'] at h
      obtain ⟨h1, hh, hv, h2, h3, h4, h5, h6, h7⟩ := h
      obtain ⟨i, a, rfl, rfl, hcv⟩ := isOfV_some hv
      simp only [kI] at h4
      have G2 := fun s H C cl fp => G.blkS s H scope C cl fp
      refine ⟨jf_compS G h1 (fun z => by rw [z] at hh; cases hh) (sE a _ iter h4 G).pe (own := ownOf _ t) (by rw [G.eN, G.eS]; exact blkOk_by h2) (own_map _ t) (fun s H C cl fp => ?_) (fun s H C cl fp => ?_) (fun s H C cl fp => ?_) h3, rfl, rfl⟩
      · exact sTg t _ _ tg h5 (G2 s H C cl fp) (fun _ z => z)
      · have := sC c _ ifs h6 (G2 s H C cl fp)
        rcases hcv with rfl | ⟨j, rfl⟩
        · rw [gC_none]
          exact this
        · rw [gC_var]
          exact this
      · rw [gE_var]
        exact (sE (.var i) _ elt h7 (G2 s H C cl fp)).pe
    simp only [Bool.and_eq_true] at h
    obtain ⟨h1, h2, h3, h4, h5, h6, h7⟩ := h
    refine ⟨jf_comp G h1 (sI it _ tg iter h4 G) (own := ownOf _ t) (by rw [G.eN, G.eS]; exact blkOk_by h2) (own_map _ t) (fun s H C cl fp => ?_) (fun s H C cl fp => ?_) (fun s H C cl fp => ?_) h3, rfl, rfl⟩
    · exact sTg t _ _ tg h5 (G.blk h1 s H scope C cl fp) (fun _ z => z)
    · exact sC c _ ifs h6 (G.blk h1 s H scope C cl fp)
    · exact (sE e _ elt h7 (G.blk h1 s H scope C cl fp)).pe
  | .comp2 e t it u ju c, T, x, h => by
    rename_i X Γ W
    intro G
    unfold kF at h
    split at h <;> first | contradiction | skip
    rename_i e' t' it' u' ju' c' elt tg iter tg1 iter1 ifs scope pos heq
    cases heq
    simp only [Bool.and_eq_true] at h
    obtain ⟨h1, h2, h3, h3b, h4, h5, h6, h7, h8, h9⟩ := h
    refine ⟨jf_comp2 G h1 (sI it _ tg iter h4 G) (own := ownOf _ t ++ ownOf _ u) (by rw [G.eN, G.eS]; exact blkOk_by h2) (by rw [List.map_append, own_map, own_map]) (fun s H C cl fp => ?_) (fun s H C cl fp => ?_) (fun s H C cl fp => ?_) (fun s H C cl fp => ?_) (fun s H C cl fp => ?_) (fun s H C cl fp => ?_) h3 h3b, rfl, rfl⟩
    · exact sTg t _ _ tg h5 (G.blk h1 s H scope C cl fp) (fun _ z => z)
    · exact sI ju _ tg1 iter1 h6 (G.blk h1 s H scope C cl fp)
    · exact sTg u _ _ tg1 h7 (G.blk h1 s H scope C cl fp) (fun _ z => z)
    · exact ⟨fun pins s σ H Q I ⟨κ, ρ, M, rs, rm, q⟩ => pts_nil.run pins s σ H Q I (by simp only [wC] at q; exact q κ H .refl rm)⟩
    · exact sC c _ ifs h8 (G.blk h1 s H scope C cl fp)
    · exact (sE e _ elt h9 (G.blk h1 s H scope C cl fp)).pe
  | .lrng a, T, x, h => by
    rename_i X Γ W
    intro G
    unfold kF at h
    split at h <;> first | contradiction | skip
    rename_i a' n p m p2 x q pos heq
    cases heq
    simp only [Bool.and_eq_true, decide_eq_true_eq] at h
    obtain ⟨rfl, rfl, h0, h1, h2, h3, h4⟩ := h
    exact ⟨jf_lrng G h0 (glB_ok G.eS h1) (glB_ok G.eS h2) (sE a _ x h4 G).pe h3, rfl, rfl⟩
theorem sI : ∀ (it : It) (T : CT) (tg iter : Expr), kI it T tg iter = true → ∀ {X : Cx} {Γ : Env} {W : WX}, GOk X Γ W T → PI X tg iter (gI X Γ W it)
  | .of e, T, tg, x, h => by
    rename_i X Γ W
    intro G
    unfold kI at h
    exact ji_of G (sE e _ x h G).pe
  | .rng es, T, tg, x, h => by
    rename_i X Γ W
    intro G
    unfold kI at h
    split at h <;> first | contradiction | skip
    rename_i es' n p xs pos heq
    cases heq
    simp only [Bool.and_eq_true, decide_eq_true_eq] at h
    obtain ⟨rfl, h1, h2, h3, h4, h5, h6⟩ := h
    exact ji_rng G (glB_ok G.eS h1) (sEs es _ xs h6 h2 G) h2 h3 ⟨h4, h5⟩
  | .enum e, T, tg, x, h => by
    rename_i X Γ W
    intro G
    unfold kI at h
    split at h <;> first | contradiction | skip
    rename_i e' n p x pos heq
    cases heq
    simp only [Bool.and_eq_true, decide_eq_true_eq] at h
    obtain ⟨rfl, h1, h2, h3, h4⟩ := h
    obtain ⟨_, _, _, rfl⟩ := isTup_ok h1
    exact ji_enum G (glB_ok G.eS h2) (sE e _ x h4 G).pe h3
  | .zip a b, T, tg, x, h => by
    rename_i X Γ W
    intro G
    unfold kI at h
    split at h <;> first | contradiction | skip
    rename_i a' b' n p x y pos heq
    cases heq
    simp only [Bool.and_eq_true, decide_eq_true_eq] at h
    obtain ⟨rfl, h1, h2, h3, h4, h5, h6⟩ := h
    obtain ⟨_, _, _, rfl⟩ := isTup_ok h1
    exact ji_zip G (glB_ok G.eS h2) (sE a _ x h5 G).pe (sE b _ y h6 G).pe h3 h4
  | .rev e, T, tg, x, h => by
    rename_i X Γ W
    intro G
    unfold kI at h
    split at h <;> first | contradiction | skip
    rename_i e' n p x pos heq
    cases heq
    simp only [Bool.and_eq_true, decide_eq_true_eq] at h
    obtain ⟨rfl, h1, h2, h3⟩ := h
    exact ji_rev G (glB_ok G.eS h1) (sE e _ x h3 G).pe h2
  | .keys e, T, tg, x, h => by
    rename_i X Γ W
    intro G
    unfold kI at h
    exact ji_keys G (sE e _ x h G).pe
end
end G

/-! Layer G, part 7c: a look at statements. -/
namespace G
open PySem L2 PySem.Spec PyProof.Rows
/-- name = [..]: does the value stand in the name's place at once? -/
def swCompB (T : CT) (y : Str) (py : Pos) : Expr → Bool
  | .ListComp _ _ scope pos => T.cm && (lclB T.sc y && ((py.line == pos.line) && !(scope.names.any fun (n, k) => n == y && (k == .local || k == .cell))))
  | _ => false
def isComp1 : E → Bool
  | .fr (.comp _ _ _ _) => true
  | .al (.comp _ _ _ _) => true
  | _ => false
def asgB (T : CT) (t : Tg) (e : E) (tg v : Expr) : Bool := match tg, v with
  | .Name y py, .ListComp .. => (isComp1 e && swCompB T y py v) || (T.sc.names.lookup y == some .cell)
  | .Tuple ts _ _, .Tuple vs _ _ => vs.all (foldedForSure 8) && !(vs.any fun | .Starred .. => true | _ => false)
  | .Name .., _ => notComp v
  | .Tuple .., _ => notComp v
  | _, _ => false
mutual
def kS : G.St → CT → Stmt → Bool
  | .asg t e, T, .Assign [tg] v _ => kTg t T allB tg && (nostar tg && (asgB T t e tg v && kE e T v))
  | .dput a b e, T, .Assign [.Subscript x y _] v _ => notSlice y && (kE e T v && (kE a T x && kE b T y))
  | .setIx a b e, T, .Assign [.Subscript x y _] v _ => notSlice y && (kE e T v && (kE a T x && kE b T y))
  | .par i j a b, T, .Assign [.Tuple [.Name x px, .Name y py] _ _] (.Tuple [u, v] _ _) _ => T.cm && (decide (T.N[i]? = some x) && (decide (T.N[j]? = some y) && (decide (i ≠ j) && (lclB T.sc x && (lclB T.sc y && (nostar u && (nostar v &&
      ((py.line == px.line) && (!([u, v].all (foldedForSure 8)) && (!([u, v].all (constantsAlone 8)) && (!(x == y) && (kE a T u && kE b T v))))))))))))
  | .aug i o e, T, .AugAssign (.Name x _) o' v _ => decide (o = o') && (decide (T.N[i]? = some x) && (locB T.sc x && kE e T v))
  | .augIx a b o e, T, .AugAssign (.Subscript x y _) o' v _ => decide (o = o') && (notSlice y && (kE a T x && (kE b T y && kE e T v)))
  | .expr e, T, .Expr v _ => notComp v && kE e T v
  | .app a e, T, .Expr (.Call (.Attribute x m p) [v] [] q) _ => decide (m = "append") && ((p.endLine == q.line) && (abOk x && (nostar v && (kE a T x && kE e T v))))
  | .ext a e, T, .Expr (.Call (.Attribute x m p) [v] [] q) _ => decide (m = "extend") && ((p.endLine == q.line) && (abOk x && (nostar v && (kE a T x && kE e T v))))
  | .ins a b e, T, .Expr (.Call (.Attribute x m p) [y, v] [] q) _ => decide (m = "insert") && ((p.endLine == q.line) && (abOk x && (nostar y && (nostar v && (kE a T x && (kE b T y && kE e T v))))))
  | .ret e, T, .Return (some v) _ => kE e T v
  | .retN, _, .Return none _ => true
  | .cond c a b, T, .If x y z _ => notIf x && (kE c T x && (kSs a T y && kSs b T z))
  | .loop t it b, T, .For tg iter body [] _ => T.cm && (notSet iter && (kI it T tg iter && (kTg t T allB tg && kSs b T body)))
  | .whl c b, T, .While x body [] _ => notIf x && (kE c T x && kSs b T body)
  | .raise c e, T, .Raise (some (.Call (.Name n _) [v] [] _)) none _ => decide (c = n) && (T.cm && (decide (c ∈ T.cs) && (glB T.sc c && (nostar v && kE e T v))))
  | .tryX b hs, T, .Try body (h :: hds) [] [] _ => T.cm && (kSs b T body && kHs hs T (h :: hds))
  | .pass, _, .Pass _ => true
  | .pass, _, .Expr (.Constant (.str _) _ _) _ => true
  | .brk, _, .Break _ => true
  | .cont, _, .Continue _ => true
  | .any, _, _ => true
  | .parIx a i b j e f, T, .Assign [.Tuple [.Subscript x y _, .Subscript x2 y2 _] _ _] (.Tuple [u, v] k p) _ => T.cm && (notSlice y && (notSlice y2 && (kE a T x && (kE i T y && (kE b T x2 && (kE j T y2 && kE (.tup (.cons e (.cons f .nil))) T (.Tuple [u, v] k p)))))))
  | .unp ts e, T, .Assign [.Tuple es _ _] (.Call f xs ks p) _ => T.cm && (kTgs ts T allB es && (es.all nostar && (notComp (.Call f xs ks p) && kE e T (.Call f xs ks p))))
  | _, _, _ => false
def kSs : Ss → CT → List Stmt → Bool
  | .nil, _, [] => true
  | .cons s ss, T, x :: xs => kS s T x && kSs ss T xs
  | _, _, _ => false
def kHs : Hs → CT → List ExceptHandler → Bool
  | .nil, _, [] => true
  | .cons c i b hs, T, .ExceptHandler (some (.Name x _)) (some n) (st :: sts) _ :: hds => decide (c = x) && (decide (c ∈ T.hs) && (glB T.sc c && (decide (T.N[i]? = some n) && (lclB T.sc n && (kSs b T.inSuite (st :: sts) && kHs hs T hds)))))
  | _, _, _ => false
end
theorem fr_read {X : Cx} {Γ : Env} {W : WX} {T : CT} {f : F} {σ : L2.St} {H : Hp} {Q : VK} (G : GOk X Γ W T) (h : gE X Γ W (.fr f) σ H Q) : gF X Γ W f σ H Q := by
  obtain ⟨κ, ρ, M, rs, rm, h⟩ := h
  simp only [wE] at h
  exact ⟨κ, ρ, M, rs, rm, mF G.mo f ρ _ _ _ _ _ (fun ss M1 ⟨xs, e, q⟩ => PostL.fr q e) (fun _ _ q => q) h⟩
theorem al_read {X : Cx} {Γ : Env} {W : WX} {T : CT} {f : F} {σ : L2.St} {H : Hp} {Q : VK} (G : GOk X Γ W T) (h : gE X Γ W (.al f) σ H Q) : gF X Γ W f σ H Q := by
  obtain ⟨κ, ρ, M, rs, rm, h⟩ := h
  simp only [wE] at h
  exact ⟨κ, ρ, M, rs, rm, mF G.mo f ρ _ _ _ _ _ (fun ss M1 q => PostL.al q) (fun _ _ q => q) h⟩
/-- what an assignment to a name wants of the value -/
theorem asg_read {X : Cx} {Γ : Env} {W : WX} {T : CT} {i : Nat} {e : E} {D : Ends} {σ : L2.St} {H : Hp} (G : GOk X Γ W T) (h : gS X Γ W (.asg (.nm i) e) D σ H) : gE X Γ W e σ H (fun x H1 => gName i x σ H1 D.nx) := by
  obtain ⟨κ, ρ, M, rs, rm, h⟩ := h
  simp only [wS] at h
  refine gE.st G.mo .refl rs rm h fun v M1 κ1 x H1 q g r m => ?_
  simp only [wTg] at q
  exact q κ1 _ H1 g ((rs.grow g.toGrow).set r i) m
theorem sole_of {t e : Expr} {l : Nat} {env : PySem.Env} {b : Bool} (h : swapsWith e (some t) l env = pure b) : swapsWithSole [t] e l env = pure b := by
  unfold swapsWithSole
  exact h
theorem sAsgC {t : Tg} {it : G.It} {c : Oe} {te w : E} {T : CT} {y : Str} {py p2 pos : Pos} {i : Nat} {elt : Expr} {gs : List Comprehension} {scope : Scope} {X : Cx} {Γ : Env} {W : WX} (G : GOk X Γ W T) (hcm : T.cm = true) (h4 : kF (.comp te t it c) T (.ListComp elt gs scope p2) = true)
    (h6 : lclB T.sc y = true) (h7 : (py.line == p2.line) = true) (h8 : (scope.names.any fun (n, k) => n == y && (k == .local || k == .cell)) = false) (hi : T.N[i]? = some y)
    (hw : ∀ D σ H, gS X Γ W (.asg (.nm i) w) D σ H → gS X Γ W (.asg (.nm i) (.fr (.comp te t it c))) D σ H ∨ gS X Γ W (.asg (.nm i) (.al (.comp te t it c))) D σ H) :
    PS X (.Assign [.Name y py] (.ListComp elt gs scope p2) pos) (gS X Γ W (.asg (.nm i) w)) := by
  unfold kF at h4
  split at h4 <;> first | contradiction | skip
  rename_i e' t' it' c' elt' tg iter ifs scope' pos' heq1 heq
  cases heq1
  cases heq
  rw [Bool.or_eq_true] at h4
  rcases h4 with h4 | h4
  case inr =>
    simp only [hcm, Bool.not_true, Bool.false_and] at h4
    cases h4
  simp only [Bool.and_eq_true] at h4
  obtain ⟨a1, a2, a3, a4, a5, a6, a7⟩ := h4
  refine ⟨fun pins s σ H D I q => (js_comp (te := te) (e := te) (c := c) (t := t) G a1 (by rw [G.eN]; exact hi) (by rw [G.eS]; exact lclB_ok h6) (sw_true I.ok.kind (by rw [G.eS]; exact lclB_ok h6) h7 h8) (sI it _ tg iter a4 G) (own := ownOf _ t) (by rw [G.eN, G.eS]; exact blkOk_by a2) (own_map _ t) (fun s H C cl fp => ?_) (fun s H C cl fp => ?_) (fun s H C cl fp => ?_) a3).run pins s σ H D I ?_⟩
  · exact sTg t _ _ tg a5 (G.blk a1 s H scope C cl fp) (fun _ z => z)
  · exact sC c _ ifs a6 (G.blk a1 s H scope C cl fp)
  · exact (sE te _ elt a7 (G.blk a1 s H scope C cl fp)).pe
  · rcases hw _ _ _ q with z | z
    · exact fr_read G (asg_read G z)
    · exact al_read G (asg_read G z)
theorem sw_stores {ts : List Expr} {k k2 : Nat} {pt p2 : Pos} {vs : List Expr} {env : PySem.Env} (h : vs.all (foldedForSure 8) = true) : swappedStores [.Tuple ts k pt] (.Tuple vs k2 p2) env = pure none := by
  unfold swappedStores
  dsimp only
  rw [h]
  repeat (first | rfl | split)
theorem sw_par {x y : Str} {px py pt p2 : Pos} {kt k2 : Nat} {u v : Expr} {env : PySem.Env} (hk : env.scope.kind = .function) (hx : env.scope.names.lookup x = some .local) (hy : env.scope.names.lookup y = some .local) (nu : nostar u = true) (nv : nostar v = true) (hl : (py.line == px.line) = true)
    (h1 : [u, v].all (foldedForSure 8) = false) (h2 : [u, v].all (constantsAlone 8) = false) (hxy : (x == y) = false) : swappedStores [.Tuple [.Name x px, .Name y py] kt pt] (.Tuple [u, v] k2 p2) env = pure (some [x, y]) := by
  have kx : env.kindOf x = some .local := hx
  have ky : env.kindOf y = some .local := hy
  have hb : env.blockKind = .function := by unfold Env.blockKind; rw [hk]; rfl
  have hyx : (y == x) = false := by
    cases h : y == x with
    | false => rfl
    | true =>
      rw [beq_iff_eq] at h
      subst h
      simp at hxy
  unfold swappedStores
  dsimp only
  simp only [List.length_cons, List.length_nil, hb, List.any_cons, List.any_nil]
  split
  · rename_i z; simp at z
  split
  · exact absurd nu (by simp [nostar])
  split
  · exact absurd nv (by simp [nostar])
  have hyx2 : ¬ y = x := by
    intro z
    subst z
    simp at hyx
  have hl2 : py.line = px.line := by
    rw [beq_iff_eq] at hl
    exact hl
  simp [kx, ky, hl, h1, h2, Expr.pos]
  simp [List.filterMap, ky, hl2, List.eraseDups, List.eraseDupsBy, List.eraseDupsBy.loop, hxy, hyx, hyx2]
mutual
theorem sS : ∀ (s : G.St) (T : CT) (x : Stmt), kS s T x = true → ∀ {X : Cx} {Γ : Env} {W : WX}, GOk X Γ W T → GSt X → PS X x (gS X Γ W s)
  | .asg t e, T, x, h => by
    rename_i X Γ W
    intro G Gs
    unfold kS at h
    split at h <;> first | contradiction | skip
    rename_i t' e' tg v pos heq
    cases heq
    simp only [Bool.and_eq_true] at h
    obtain ⟨h1, h2, h3, h4⟩ := h
    have pg := sTg t _ _ tg h1 G (fun x _ => Gs.fnt x)
    have pe := (sE e _ v h4 G).pe
    unfold asgB at h3
    split at h3
    · rename_i y py elt gs scope p2
      rcases Bool.or_eq_true_iff.mp h3 with h3 | h3
      rotate_left
      · have hk : X.env.scope.names.lookup y = some .cell := by
          rw [G.eS]
          exact eq_of_beq h3
        refine js_asg G pe pg (sole_of ?_) rfl h2
        unfold swapsWith PySem.Env.kindOf
        have e : ((some NameKind.cell : Option NameKind) == some .local) = false := by decide
        simp only [hk, e, Bool.and_false, Bool.false_and]
      simp only [Bool.and_eq_true] at h3
      obtain ⟨h5, h6⟩ := h3
      unfold swCompB at h6
      simp only [Bool.and_eq_true] at h6
      obtain ⟨hcm, h6, h7, h8⟩ := h6
      unfold kTg at h1
      split at h1 <;> first | contradiction | skip
      rename_i T' k i y' py' heq heq2
      cases heq2
      simp only [Bool.and_eq_true, decide_eq_true_eq] at h1
      unfold isComp1 at h5
      split at h5 <;> first | cases h5 | skip
      · rename_i te t it c
        unfold kE at h4
        exact sAsgC G hcm h4 h6 h7 (bool_not h8) h1.1 fun D σ H q => .inl q
      · rename_i te t it c
        unfold kE at h4
        exact sAsgC G hcm h4 h6 h7 (bool_not h8) h1.1 fun D σ H q => .inr q
    · rename_i ts k pt vs k2 p2
      simp only [Bool.and_eq_true] at h3
      exact js_asg G pe pg rfl (sw_stores h3.1) h2
    · exact js_asg G pe pg (sole_of (sw_of h3)) (by cases v <;> rfl) h2
    · rename_i v' _ _ _
      exact js_asg G pe pg (sole_of (sw_of h3)) (by cases v <;> first | rfl | (exfalso; rename_i hh; exact hh _ _ _ rfl)) h2
    · cases h3
  | .dput a b e, T, x, h => by
    rename_i X Γ W
    intro G Gs
    unfold kS at h
    split at h <;> first | contradiction | skip
    rename_i a' b' e' x y p v pos heq
    cases heq
    simp only [Bool.and_eq_true] at h
    obtain ⟨h1, h2, h3, h4⟩ := h
    exact js_dput G (sE e _ v h2 G).pe (sE a _ x h3 G).pe (sE b _ y h4 G).pe h1
  | .setIx a b e, T, x, h => by
    rename_i X Γ W
    intro G Gs
    unfold kS at h
    split at h <;> first | contradiction | skip
    rename_i a' b' e' x y p v pos heq
    cases heq
    simp only [Bool.and_eq_true] at h
    obtain ⟨h1, h2, h3, h4⟩ := h
    exact js_setIx G (sE e _ v h2 G).pe (sE a _ x h3 G).pe (sE b _ y h4 G).pe h1
  | .par i j a b, T, x, h => by
    rename_i X Γ W
    intro G Gs
    unfold kS at h
    split at h <;> first | contradiction | skip
    rename_i i' j' a' b' x px y py kt pt u v k2 p2 pos heq
    cases heq
    simp only [Bool.and_eq_true, decide_eq_true_eq] at h
    obtain ⟨h1, h2, h3, h4, h5, h6, h7, h8, h9, h10, h11, h12, h13, h14⟩ := h
    refine ⟨fun pins s σ H D I => (js_par G h1 (by rw [G.eN]; exact h2) (by rw [G.eN]; exact h3) h4 (by rw [G.eS]; exact lclB_ok h5) (by rw [G.eS]; exact lclB_ok h6) (sE a _ u h13 G).pe (sE b _ v h14 G).pe h7 h8
      (sw_par I.ok.kind (by rw [G.eS]; exact lclB_ok h5) (by rw [G.eS]; exact lclB_ok h6) h7 h8 h9 (bool_not h10) (bool_not h11) (bool_not h12))).run pins s σ H D I⟩
  | .aug i o e, T, x, h => by
    rename_i X Γ W
    intro G Gs
    unfold kS at h
    split at h <;> first | contradiction | skip
    rename_i i' o1 e' x p o2 v pos heq
    cases heq
    simp only [Bool.and_eq_true, decide_eq_true_eq] at h
    obtain ⟨rfl, h1, h2, h3⟩ := h
    exact js_aug o G Gs (by rw [G.eN]; exact h1) (by rw [G.eS]; exact locB_ok h2) (sE e _ v h3 G).pe
  | .augIx a b o e, T, x, h => by
    rename_i X Γ W
    intro G Gs
    unfold kS at h
    split at h <;> first | contradiction | skip
    rename_i a' b' o1 e' x y p o2 v pos heq
    cases heq
    simp only [Bool.and_eq_true, decide_eq_true_eq] at h
    obtain ⟨rfl, h1, h2, h3, h4⟩ := h
    exact js_augIx o G (sE a _ x h2 G).pe (sE b _ y h3 G).pe (sE e _ v h4 G).pe h1
  | .expr e, T, x, h => by
    rename_i X Γ W
    intro G Gs
    unfold kS at h
    split at h <;> first | contradiction | skip
    rename_i e' v pos heq
    cases heq
    simp only [Bool.and_eq_true] at h
    exact js_expr G (sE e _ v h.2 G).pe h.1
  | .app a e, T, x, h => by
    rename_i X Γ W
    intro G Gs
    unfold kS at h
    split at h <;> first | contradiction | skip
    rename_i a' e' x m p v q pos heq
    cases heq
    simp only [Bool.and_eq_true, decide_eq_true_eq] at h
    obtain ⟨rfl, h1, h2, h3, h4, h5⟩ := h
    exact js_app G (sE a _ x h4 G).pe (sE e _ v h5 G).pe h2 h1 h3
  | .ext a e, T, x, h => by
    rename_i X Γ W
    intro G Gs
    unfold kS at h
    split at h <;> first | contradiction | skip
    rename_i a' e' x m p v q pos heq
    cases heq
    simp only [Bool.and_eq_true, decide_eq_true_eq] at h
    obtain ⟨rfl, h1, h2, h3, h4, h5⟩ := h
    exact js_ext G (sE a _ x h4 G).pe (sE e _ v h5 G).pe h2 h1 h3
  | .ins a b e, T, x, h => by
    rename_i X Γ W
    intro G Gs
    unfold kS at h
    split at h <;> first | contradiction | skip
    rename_i a' b' e' x m p y v q pos heq
    cases heq
    simp only [Bool.and_eq_true, decide_eq_true_eq] at h
    obtain ⟨rfl, h1, h2, h3, h4, h5, h6, h7⟩ := h
    exact js_ins G (sE a _ x h5 G).pe (sE b _ y h6 G).pe (sE e _ v h7 G).pe h2 h1 h3 h4
  | .ret e, T, x, h => by
    rename_i X Γ W
    intro G Gs
    unfold kS at h
    split at h <;> first | contradiction | skip
    rename_i e' v pos heq
    cases heq
    exact js_ret G (sE e _ v h G).pe
  | .retN, T, x, h => by
    rename_i X Γ W
    intro G Gs
    unfold kS at h
    split at h <;> first | contradiction | skip
    exact js_retN
  | .cond c a b, T, x, h => by
    rename_i X Γ W
    intro G Gs
    unfold kS at h
    split at h <;> first | contradiction | skip
    rename_i c' a' b' x y z pos heq
    cases heq
    simp only [Bool.and_eq_true] at h
    obtain ⟨h0, h1, h2, h3⟩ := h
    exact js_if G ((sE c _ x h1 G).pt h0) (sSs a _ y h2 G Gs) (sSs b _ z h3 G Gs)
  | .loop t it b, T, x, h => by
    rename_i X Γ W
    intro G Gs
    unfold kS at h
    split at h <;> first | contradiction | skip
    rename_i t' it' b' tg iter body pos heq
    cases heq
    simp only [Bool.and_eq_true] at h
    obtain ⟨h0, h1, h2, h3, h4⟩ := h
    exact js_for G Gs h0 (sI it _ tg iter h2 G) (sTg t _ _ tg h3 G (fun x _ => Gs.fnt x)) (sSs b _ body h4 G Gs) h1
  | .whl c b, T, x, h => by
    rename_i X Γ W
    intro G Gs
    unfold kS at h
    split at h <;> first | contradiction | skip
    rename_i c' b' x body pos heq
    cases heq
    simp only [Bool.and_eq_true] at h
    obtain ⟨h0, h1, h2⟩ := h
    exact js_whl G Gs ((sE c _ x h1 G).pt h0) (sSs b _ body h2 G Gs)
  | .raise c e, T, x, h => by
    rename_i X Γ W
    intro G Gs
    unfold kS at h
    split at h <;> first | contradiction | skip
    rename_i c' e' n p v q pos heq
    cases heq
    simp only [Bool.and_eq_true, decide_eq_true_eq] at h
    obtain ⟨rfl, h1, h2, h3, h4, h5⟩ := h
    exact js_raise G h1 h2 (glB_ok G.eS h3) (sE e _ v h5 G).pe h4
  | .tryX b hs, T, x, h => by
    rename_i X Γ W
    intro G Gs
    unfold kS at h
    split at h <;> first | contradiction | skip
    rename_i b' hs' body h0 hds pos heq
    cases heq
    simp only [Bool.and_eq_true] at h
    obtain ⟨h1, h2, h3⟩ := h
    obtain ⟨l, r, hh⟩ := sHs hs _ (h0 :: hds) h3 G Gs
    exact js_try G Gs h1 (G.cn h1) (fun W' pn xe G' Gs' => sSs b _ body h2 G' Gs') r hh
  | .pass, T, x, h => by
    rename_i X Γ W
    intro G Gs
    unfold kS at h
    split at h <;> first | contradiction | skip
    · exact js_pass
    · exact js_doc
  | .brk, T, x, h => by
    rename_i X Γ W
    intro G Gs
    unfold kS at h
    split at h <;> first | contradiction | skip
    exact js_brk
  | .cont, T, x, h => by
    rename_i X Γ W
    intro G Gs
    unfold kS at h
    split at h <;> first | contradiction | skip
    exact js_cont
  | .any, T, x, h => by
    rename_i X Γ W
    intro G Gs
    refine ⟨fun pins s σ H D I ⟨κ, ρ, M, rs, rm, h⟩ => ?_⟩
    simp only [wS] at h
  | .parIx a i b j e f, T, x, h => by
    rename_i X Γ W
    intro G Gs
    unfold kS at h
    split at h <;> first | contradiction | skip
    rename_i a' i' b' j' e' f' x y q x2 y2 q2 kt pt u v k p pos heq
    cases heq
    simp only [Bool.and_eq_true] at h
    obtain ⟨h0, h1, h2, h3, h4, h5, h6, h7⟩ := h
    exact js_parIx G h0 (sE (.tup (.cons e (.cons f .nil))) _ _ h7 G).pe (sE a _ x h3 G).pe (sE i _ y h4 G).pe (sE b _ x2 h5 G).pe (sE j _ y2 h6 G).pe h1 h2
  | .unp ts e, T, x, h => by
    rename_i X Γ W
    intro G Gs
    unfold kS at h
    split at h <;> first | contradiction | skip
    rename_i ts' e' es k p2 f xs ks p pos heq
    cases heq
    simp only [Bool.and_eq_true] at h
    obtain ⟨h1, h2, h3, h4, h5⟩ := h
    obtain ⟨pg, l⟩ := sTgs ts _ _ es h2 G (fun x _ => Gs.fnt x) h3
    exact js_unp G (G.calm h1) (sE e _ _ h5 G).pe pg h3 l (sole_of (sw_of h4)) (by rfl)
theorem sSs : ∀ (ss : Ss) (T : CT) (xs : List Stmt), kSs ss T xs = true → ∀ {X : Cx} {Γ : Env} {W : WX}, GOk X Γ W T → GSt X → PSs X xs (gSs X Γ W ss)
  | .nil, T, [], h => fun G Gs => jss_nil
  | .nil, T, _ :: _, h => by simp [kSs] at h
  | .cons s ss, T, [], h => by simp [kSs] at h
  | .cons s ss, T, x :: xs, h => by
    rename_i X Γ W
    intro G Gs
    simp only [kSs, Bool.and_eq_true] at h
    exact jss_cons G (sS s _ x h.1 G Gs) (sSs ss _ xs h.2 G Gs)
theorem sHs : ∀ (hs : Hs) (T : CT) (xs : List ExceptHandler), kHs hs T xs = true → ∀ {X : Cx} {Γ : Env} {W : WX}, GOk X Γ W T → GSt X → ∃ l, HsR X Γ T hs l ∧ Hds X xs l
  | .nil, T, xs, h => by
    rename_i X Γ W
    intro G Gs
    unfold kHs at h
    split at h <;> first | contradiction | skip
    exact ⟨[], .nil, .nil⟩
  | .cons c i b hs, T, xs, h => by
    rename_i X Γ W
    intro G Gs
    unfold kHs at h
    split at h <;> first | contradiction | skip
    rename_i c' i' b' hs' x p n st sts q hds heq
    cases heq
    simp only [Bool.and_eq_true, decide_eq_true_eq] at h
    obtain ⟨rfl, h1, h2, h3, h4, h5, h6⟩ := h
    obtain ⟨l, r, hh⟩ := sHs hs _ hds h6 G Gs
    obtain ⟨cv, hcv⟩ := G.hn c h1
    refine ⟨(cv, i, tSu X Γ b) :: l, .cons h1 hcv r, .cons (hcv.names (glB_ok G.eS h2)) (by rw [G.eN]; exact h3) (by show X.env.scope.names.lookup n = _; rw [G.eS]; exact lclB_ok h4) (fun a oe cls d pn hz hf => ?_) hh⟩
    exact su_of G Gs (fun Y Δ G' Gs' => sSs b _ (st :: sts) h5 G' Gs') a oe cls d pn hz hf
end
end G

/-! Layer G, part 8: a law's head. -/
namespace G
open PySem L2 PySem.Spec PyProof.Rows
/-- the script, tracked as a thing that stands still, where it is not the module's own -/
def scrH (K : PySem.W.Frag) (a : Addr) (vs : List Value) (ns : List Int) : Hp := fun b => if b = a ∧ K.lookup a = none then some (.frz { cls := .type "list", data := .seq vs.toArray } (.lst (ns.map V.int))) else none
theorem scrH_some {K : PySem.W.Frag} {a b : Addr} {vs : List Value} {ns : List Int} {u : HO} (h : scrH K a vs ns b = some u) : b = a ∧ K.lookup a = none ∧ u = .frz { cls := .type "list", data := .seq vs.toArray } (.lst (ns.map V.int)) := by
  unfold scrH at h
  by_cases c : b = a ∧ K.lookup a = none
  · rw [if_pos c] at h
    exact ⟨c.1, c.2, (Option.some.inj h).symm⟩
  · rw [if_neg c] at h
    cases h
theorem scrH_none {K : PySem.W.Frag} {a b : Addr} {vs : List Value} {ns : List Int} (h : b ≠ a ∨ K.lookup a ≠ none) : scrH K a vs ns b = none := by
  refine if_neg fun ⟨c1, c2⟩ => ?_
  rcases h with h | h
  · exact h c1
  · exact h c2
def pints (ns : List Int) : List PD := ns.map PyData.int
theorem rps_ints {K H κ} : ∀ ns : List Int, RPs K H κ (ns.map V.int) (pints ns)
  | [] => .nil
  | n :: ns => .cons (.int n) (rps_ints ns)
theorem scr_reads {K : PySem.W.Frag} {a : Addr} {vs : List Value} {ns : List Int} {h : Heap} (KX : K.In h) (ha : h.get? a = some { cls := .type "list", data := .seq vs.toArray }) (hi : IntsAre vs ns) (hl : ns.length ≤ sizeLine) :
    RS K (scrH K a vs ns) ⟨[], []⟩ (.ref a) (.d (.list (pints ns))) := by
  refine .d (.lst (xs := ns.map V.int) ?_ (by rw [List.length_map]; exact hl) (rps_ints ns))
  cases q : K.lookup a with
  | none => exact .inl ⟨.inr ⟨_, if_pos ⟨rfl, q⟩⟩, ⟨List.not_mem_nil, List.not_mem_nil⟩⟩
  | some o =>
    have e := KX a o q
    rw [ha] at e
    exact .inr ⟨vs, _, by rw [q, ← e], by rw [List.length_map]; exact hl, vals_ints hi⟩
/-- what is not in the ledger of tracked things stands in the hidden heap -/
theorem hid_in {K : PySem.W.Frag} {a b : Addr} {vs : List Value} {ns : List Int} {h : Heap} {o : Obj} (e : h.get? b = some o) (n : b ≠ a ∨ K.lookup a ≠ none) : (hidT h (scrH K a vs ns)).get? b = some o := hidT_get e (scrH_none n)
theorem hid_ns {K : PySem.W.Frag} {a b : Addr} {vs : List Value} {ns : List Int} {h : Heap} {m : Str → Option Value} (ha : h.get? a = some { cls := .type "list", data := .seq vs.toArray }) (q : h.Ns b m) : (hidT h (scrH K a vs ns)).Ns b m := by
  obtain ⟨o, es, ep, e, d, r⟩ := q
  refine ⟨o, es, ep, hid_in e (.inl fun z => ?_), d, r⟩
  rw [z, ha] at e
  rw [← Option.some.inj e] at d
  cases d
theorem head_call {P : Program} {w : World} {K : PySem.W.Frag} {mg mb : Str → Option Value} {k : Nat} {fa a : Addr} {fd : FuncData} {x : Str} {φ : FSpec} {s : Shared} {vs : List Value} {ns : List Int}
    (KX : K.In s.heap) (n1 : s.heap.Ns mainGlobals mg) (n2 : s.heap.Ns builtinsNs mb) (n3 : ∀ x : Str, x ≠ "__name__" → mb x = bootBuiltins x) (n4 : s.heap.NoLimit) (hg : s.gens = #[])
    (ha : s.heap.get? a = some { cls := .type "list", data := .seq vs.toArray }) (hi : IntsAre vs ns) (hl : ns.length ≤ sizeLine) (hr : Room k callerA)
    (F : ∀ base : Heap, K.In base → base.Ns mainGlobals mg → FnG P w K mg base k fa fd [x] (spOf mg K 1 φ)) (bd : ∀ (s : Shared) (u : Value), BindsTo s fd ⟨[u], []⟩ [(x, u)])
    (hφ : ∀ (Q : S → Mem → Prop) (E : Xc → Mem → Prop), (∀ M, Q (B true) M) → φ [.d (.list (pints ns))] [] Q E) :
    codeAny (model P w) callerA (.call (.ref fa) ⟨[.ref a], []⟩) (fun r s' => r = .ok (.ret (.bool true)) ∧ OldK s.heap s'.heap ∧ s'.os = s.os ∧ AllBare s'.gens) s := by
  have nin : ∀ {o : Obj} {b : Addr}, K.lookup b = some o → b ≠ a ∨ K.lookup a ≠ none := fun {o b} e => by
    by_cases c : b = a
    · subst c
      exact .inr (by rw [e]; simp)
    · exact .inl c
  have kin : K.In (hidT s.heap (scrH K a vs ns)) := fun b o e => hid_in (KX b o e) (nin e)
  have hok : HOk P w (scrH K a vs ns) s.heap := fun b u z => by
    obtain ⟨rfl, _, rfl⟩ := scrH_some z
    exact ⟨ha, by rw [List.length_map]; exact hl, vs, _, vals_ints hi, ha⟩
  have e0 : Env0 P w K mg (hidT s.heap (scrH K a vs ns)) callerA [] s (scrH K a vs ns) :=
    { frames := rfl, mod := ⟨kin, hid_ns ha n1, ⟨mb, hid_ns ha n2, n3⟩, n4.imp fun mc h => ⟨hid_ns ha h.1, h.2⟩⟩, bs := fun b o e => of_hidT e, bsz := Nat.le_of_eq (hidT_size _ _), funs := trivial, frf := fun b hb => (nomatch hb), hok := hok, bare := .of_eq hg }
  refine codeAny_mono ((F _ kin (hid_ns ha n1)).run callerA [] s (scrH K a vs ns) ⟨[.ref a], []⟩ [.ref a] [.ref a] (fun v _ => v = .bl true) (fun _ _ _ => False) hr rfl e0 (bd s (.ref a)) (.cons rfl .nil) ?_) fun r s' h => ?_
  · refine ⟨⟨[], []⟩, [], [.d (.list (pints ns))], rfl, ⟨rfl, List.nodup_nil, fun k a o h => by simp at h, fun a h => by cases h⟩, .cons (scr_reads KX ha hi hl) .nil, ?_⟩
    refine hφ _ _ fun M κ' v H' _ rv _ => ?_
    cases rv with
    | d rv =>
      cases rv
      rfl
  · cases r with
    | error e =>
      obtain ⟨_, _, _, _, _, _, _, _, _, _, _, _, z⟩ := h
      exact z.elim
    | ok fl =>
      cases fl <;> first | exact False.elim h | skip
      obtain ⟨v, H', os, bare, un, hok', rv, q⟩ := h
      subst q
      cases rv
      refine ⟨rfl, OldK.of_keep fun b o e => ?_, os, bare⟩
      cases q : scrH K a vs ns b with
      | none => exact un.keep b o e q (by intro z; cases z) (by simp)
      | some u =>
        obtain ⟨_, _, rfl⟩ := scrH_some q
        have e1 := (hok b _ q).1
        rw [e] at e1
        rw [Option.some.inj e1]
        exact (hok' b _ (un.frzs b _ _ q)).1
theorem walk_g {l : PySem.W.OpenLaw} {n k : Nat} {q : Program} {loose : List Str} {XP : (Str → Option Value) → Heap → Prop} {YP : World → Heap → Prop} {d : DefRec} {K : Params → PySem.W.Frag} {φ : FSpec} {x : Str}
    (h1 : l.most = some n) (h2 : n ≤ sizeLine) (h3 : d.params.defaults = []) (hr : Room k callerA) (hY : ∀ (w : World) (h : Heap), YP w h → (K w.params).In h)
    (F : ∀ (w : World) (mg : Str → Option Value) (fa : Addr) (h : Heap), (K w.params).In h → h.Ns mainGlobals mg → mg d.name = some (.ref fa) →
      ∃ fd : FuncData, (∀ (s : Shared) (u : Value), BindsTo s fd ⟨[u], []⟩ [(x, u)]) ∧ ∀ base : Heap, (K w.params).In base → base.Ns mainGlobals mg → FnG l.prog w (K w.params) mg base k fa fd [x] (spOf mg (K w.params) 1 φ))
    (hφ : ∀ (ns : List Int) (Q : S → Mem → Prop) (E : Xc → Mem → Prop), ns.length ≤ n → (∀ z ∈ ns, Builtin.Int.intBits z ≤ 1048576) → (∀ M, Q (B true) M) → φ [.d (.list (pints ns))] [] Q E) :
    PySem.W.WalkO q loose XP YP l.row.toRowW d [] (fun f vs => PySem.call f vs) := by
  refine Att.attach_callB h1 h3 fun w s0 s1 mg mb fa o pm cd doc a vs ns G Y ho hd hcd hmg hobj hints hlen hbits hg => ?_
  have KX := hY w _ Y
  obtain ⟨fd, hb, hF⟩ := F w mg fa _ KX G.T.g hmg
  exact head_call KX G.T.g G.T.b G.T.builtins G.T.nolimit hg hobj hints (Nat.le_trans hlen h2) hr hF hb fun Q E q => hφ ns Q E hlen hbits q
end G

/-! Layer G, part 9: the facts of one program. -/
namespace G
open PySem L2 PySem.Spec PyProof.Rows
/-- a def that stands at the top -/
structure FF (K : PySem.W.Frag) (mg : Str → Option Value) (name : Str) (st : Stmt) (a : Addr) (fd : FuncData) : Prop where
  g : mg name = some (.ref a)
  k : PySem.W.keepIn K (.ref a) = true
  ex : ∃ (oc : Value) (od : Option Addr) (kV doc pm : Value) (an : Option Addr) (cdv ct : Value) (osl : Array (Option Value)), fd = PySem.W.fnOf name name (defArgs st) (defBody st) (defScope st) .none kV doc pm an cdv ct ∧ K.lookup a = some ⟨oc, od, .func fd, osl⟩ ∧ PySem.W.codeIn K cdv name = true
theorem ff_mk {K : PySem.W.Frag} {mg : Str → Option Value} {h : Heap} {name : Str} {st : Stmt} {a : Addr} {oc : Value} {od : Option Addr} {kV doc pm : Value} {an : Option Addr} {cdv ct : Value} {osl : Array (Option Value)} (X : K.In h) (g : h.Ns mainGlobals mg)
    (h1 : PySem.W.nsIn K mainGlobals name = some (some (.ref a))) (h2 : K.lookup a = some ⟨oc, od, .func (PySem.W.fnOf name name (defArgs st) (defBody st) (defScope st) .none kV doc pm an cdv ct), osl⟩) (h3 : PySem.W.codeIn K cdv name = true) (h4 : PySem.W.keepIn K (.ref a) = true) :
    ∃ a fd, FF K mg name st a fd := ⟨a, _, PySem.W.mg_of X g h1, h4, _, _, _, _, _, _, _, _, _, rfl, h2, h3⟩
/-- the parameters take the arguments by place -/
def Bd (name : Str) (st : Stmt) (ps : List Str) : Prop := ∀ (kV doc pm : Value) (an : Option Addr) (cdv ct : Value) (us : List Value), us.length = ps.length → bindArgs (PySem.W.fnOf name name (defArgs st) (defBody st) (defScope st) .none kV doc pm an cdv ct) ⟨us, []⟩ = pure (ps.zip us)
def BdK (name : Str) (st : Stmt) (ps : List Str) (n : Nat) (ks : List Str) : Prop := ∀ (kV doc pm : Value) (an : Option Addr) (cdv ct : Value) (us ws : List Value), us.length = n → ws.length = ks.length → bindArgs (PySem.W.fnOf name name (defArgs st) (defBody st) (defScope st) .none kV doc pm an cdv ct) ⟨us, ks.zip ws⟩ = pure (ps.zip (reord ps n ks us ws))
/-- the functions that a def calls -/
abbrev Lib := List (Str × List Str × FSpec)
def Lib.env (l : Lib) (mro : Str → Option (List Str)) : Env where
  Φ := fun f => (l.lookup f).map (·.2)
  ps := fun f => ((l.lookup f).map (·.1)).getD []
  cur := none
  mro := mro
def Lib.fs (l : Lib) : List (Str × List Str) := l.map fun p => (p.1, p.2.1)
theorem Lib.mem {l : Lib} {f : Str} {q : List Str × FSpec} (h : l.lookup f = some q) : (f, q) ∈ l := by
  induction l with
  | nil => cases h
  | cons p r ih =>
    obtain ⟨a, b⟩ := p
    rw [List.lookup_cons] at h
    split at h
    · rename_i e
      cases h
      rw [beq_iff_eq] at e
      rw [e]
      exact List.mem_cons_self
    · exact List.mem_cons_of_mem _ (ih h)
theorem Lib.mo {l : Lib} {mro} (h : ∀ p ∈ l, ∀ vs, Mono (p.2.2 vs)) : (l.env mro).Mo := ⟨fun f φ e vs => by
  unfold Lib.env at e
  simp only [Option.map_eq_some_iff] at e
  obtain ⟨q, e, rfl⟩ := e
  exact h _ (Lib.mem e) vs⟩
def Lib.nd (l : Lib) : Bool := l.all fun p => l.lookup p.1 |>.isSome
theorem Lib.look {l : Lib} (h : (l.map (·.1)).Nodup) {f : Str} {q : List Str × FSpec} (m : (f, q) ∈ l) : l.lookup f = some q := by
  induction l with
  | nil => cases m
  | cons p r ih =>
    obtain ⟨a, b⟩ := p
    rw [List.map_cons, List.nodup_cons] at h
    rw [List.lookup_cons]
    rcases List.mem_cons.mp m with e | e
    · cases e
      simp
    · have : (f == a) = false := by
        rw [beq_eq_false_iff_ne]
        rintro rfl
        exact h.1 (List.mem_map.mpr ⟨_, e, rfl⟩)
      rw [this]
      exact ih h.2 e
/-- all defs of the list may be called -/
def Cals (P : Program) (w : World) (K : PySem.W.Frag) (mg : Str → Option Value) (base : Heap) (k : Nat) (kws : List (Str × Nat × List Str)) (l : Lib) : Prop := ∀ p ∈ l, Cal P w K mg base k kws p.1 p.2.1 p.2.2
theorem Cals.nil {P w K mg base k kws} : Cals P w K mg base k kws [] := fun _ h => by cases h
theorem Cals.cons {P w K mg base k j kws f ps φ l} (h : Cal P w K mg base j kws f ps φ) (e : j ≤ k) (t : Cals P w K mg base k kws l) : Cals P w K mg base k kws ((f, ps, φ) :: l) := fun p m => by
  rcases List.mem_cons.mp m with rfl | m
  · exact h.mono e
  · exact t p m
/-- nothing is told of a def -/
theorem fng_no {P : Program} {w : World} {K : PySem.W.Frag} {mg : Str → Option Value} {base : Heap} {k : Nat} {a : Addr} {fd : FuncData} {ps : List Str} {φ : FSpec} (h : ∀ ss M Q E, ¬ φ ss M Q E) : FnG P w K mg base k a fd ps (spOf mg K ps.length φ) :=
  ⟨fun _ _ _ _ ⟨_, _, _, hl, _⟩ => hl, fun _ _ _ _ _ _ _ _ _ _ _ _ _ _ ⟨_, _, _, _, _, _, q⟩ => absurd q (h _ _ _ _)⟩
/-- a def by its body: what fnG_of wants, for a def that stands at the top -/
theorem fng_of {P : Program} {w : World} {K : PySem.W.Frag} {mg : Str → Option Value} {base : Heap} {k : Nat} {name : Str} {st : Stmt} {a : Addr} {fd : FuncData} {N ps : List Str} {ks : List (Str × Nat × List Str)} {cs hs : List Str} {mro : Str → Option (List Str)} {lib : Lib} {φ : FSpec} {b : Ss}
    (ff : FF K mg name st a fd) (S : FnScope N ps (defScope st)) (pf : PF P K mg mro cs hs) (h2 : 2 ≤ k) (cals : Cals P w K mg base k ks lib) (ln : (lib.map (·.1)).Nodup)
    (mo : ∀ p ∈ lib, ∀ vs, Mono (p.2.2 vs)) (ck : kSs b ⟨N, defScope st, lib.fs, ks, cs, hs, true⟩ (defBody st) = true)
    (hφ : ∀ (ss : List G.S) (M : Mem) (Q : G.S → Mem → Prop) (E : Xc → Mem → Prop), ss.length = ps.length → φ ss M Q E → wSs (lib.env mro) b (startS N ss) M (exits M Q E)) :
    FnG P w K mg base (k + 1) a fd ps (spOf mg K ps.length φ) := by
  obtain ⟨oc, od, kV, doc, pm, an, cdv, ct, osl, rfl, lk, hcd⟩ := ff.ex
  refine fnG_of (T := ⟨N, defScope st, lib.fs, ks, cs, hs, true⟩) (Γ := lib.env mro) lk hcd S rfl pf (Lib.mo mo) rfl rfl h2 (fun g ψ e => ?_) (fun g hg => ?_) (fun X W G Gs => sSs b _ _ ck G Gs) hφ
  · unfold Lib.env at e ⊢
    simp only [Option.map_eq_some_iff] at e
    obtain ⟨q, e, rfl⟩ := e
    have c := cals _ (Lib.mem e)
    simp only [e, Option.map_some, Option.getD_some]
    exact c
  · unfold Lib.fs at hg
    obtain ⟨p, hp, rfl⟩ := List.mem_map.mp hg
    have e := Lib.look ln (f := p.1) (q := p.2) hp
    simp only [Lib.env, e, Option.map_some, Option.getD_some]
    exact ⟨⟨_, rfl⟩, trivial⟩
/-- it may be called -/
theorem cal_of {P : Program} {w : World} {K : PySem.W.Frag} {mg : Str → Option Value} {base : Heap} {k : Nat} {name : Str} {st : Stmt} {a : Addr} {fd : FuncData} {ps : List Str} {ks : List (Str × Nat × List Str)} {φ : FSpec} (ff : FF K mg name st a fd) (F : FnG P w K mg base k a fd ps (spOf mg K ps.length φ))
    (bd : Bd name st ps) (kb : ∀ q ∈ ks, q.1 = name → BdK name st ps q.2.1 q.2.2) (nd : (name == ("__debug__" : Str)) = false) : Cal P w K mg base k ks name ps φ := by
  obtain ⟨oc, od, kV, doc, pm, an, cdv, ct, osl, rfl, lk, hcd⟩ := ff.ex
  exact ⟨a, _, F, ff.g, ff.k, .all (bd kV doc pm an cdv ct), nd, fun q hq e s us ws h3 h4 => .of_eq (kb q hq e kV doc pm an cdv ct us ws h3 h4)⟩
/-! ### classes -/
theorem superIn_of {K : PySem.W.Frag} {C S N N' : Addr} {nm q nm' q' name : Str} {bs bm bs' : List Value} {sn sn' : List Str} {sub sub' : List Value} {ab ab' : Bool} {col col' : Option Bool} {dd dd' : Option Addr} {k0 k1 k2 k3 k5 j0 j1 j2 j3 j5 : Option Value} {r : Option (Option Value)}
    (hC : K.lookup C = some (excClassObj nm q C N bs (.ref S :: bm) true sn sub ab col dd k0 k1 k2 k3 k5 "ValueError.__new__")) (hS : K.lookup S = some (excClassObj nm' q' S N' bs' bm true sn' sub' ab' col' dd' j0 j1 j2 j3 j5 "ValueError.__new__"))
    (h : PySem.W.findIn K (.ref S) name = r) : PySem.W.ks_superIn K C C name = r := by
  subst h
  unfold PySem.W.ks_superIn PySem.W.findIn PySem.W.clsIn
  rw [hC]
  dsimp only [excClassObj]
  rw [hS]
  dsimp only [excClassObj]
  simp
theorem kit_own {K : PySem.W.Frag} {C D : Addr} {b : Bool} (h1 : PySem.W.subIn K (.ref C) (.ref D) = some b) (h2 : PySem.W.subIn K (.ref D) (.ref D) = some true) (h3 : PySem.W.isClsIn K D = true) (h4 : PySem.W.typeIn K (.ref D) = some (.type "type")) (h5 : PySem.W.subIn K (.ref D) (.type "BaseException") = some true) :
    PySem.W.exmOne K (.ref C) (.ref D) = some b ∧ PySem.W.kitOne K (.ref C) (.ref D) = some b := by
  have h3' : (PySem.W.clsIn K D).isSome = true := h3
  have kc : PySem.W.kitCls K (.ref C) (.ref D) = some b := by
    unfold PySem.W.kitCls
    dsimp only
    rw [h3', h4, h1]
    rfl
  refine ⟨?_, ?_⟩
  · unfold PySem.W.exmOne
    rw [h5, kc]
    rfl
  · unfold PySem.W.kitOne
    rw [kc]
    split
    · rename_i e
      have e' : (Value.ref C) = .ref D := by simpa using e
      cases e'
      rw [h1] at h2
      rw [h2]
    · rfl
theorem kit_ty {K : PySem.W.Frag} {C : Addr} {t : String} {b : Bool} (h1 : PySem.W.subIn K (.ref C) (.type t) = some b) (h3 : PySem.W.kitMeta t = true) (h5 : PySem.W.subIn K (.type t) (.type "BaseException") = some true) :
    PySem.W.exmOne K (.ref C) (.type t) = some b ∧ PySem.W.kitOne K (.ref C) (.type t) = some b := by
  have kc : PySem.W.kitCls K (.ref C) (.type t) = some b := by
    unfold PySem.W.kitCls
    dsimp only
    rw [h3, h1]
    rfl
  refine ⟨?_, ?_⟩
  · unfold PySem.W.exmOne
    rw [h5, kc]
    rfl
  · unfold PySem.W.kitOne
    rw [kc]
    rfl
end G

/-! Layer G, part 9b: the facts of the classes of errors. -/
namespace G
open PySem L2 PySem.Spec PyProof.Rows
section
variable {P : Program} {K : PySem.W.Frag} {h : Heap} {mg : Str → Option Value} {C S fI cc cda N N' : Addr} {c par : Str}
    {nm q nm' q' : Str} {bs bm bs' : List Value} {sn sn' : List Str} {sub sub' : List Value} {ab ab' : Bool} {col col' : Option Bool} {dd dd' : Option Addr} {k0 k1 k2 k3 k5 j0 j1 j2 j3 j5 : Option Value}
    {oc kV doc pm ct : Value} {od an : Option Addr} {osl : Array (Option Value)} {qual : Str} {params : Arguments} {body : List Stmt} {scope : Scope}
    {cl ccl : Value} {cld cdd : Option Addr} {csl ccs : Array (Option Value)} {vs : Array Value} {fl : Str} {tf : Nat}
theorem exC_mk (X : K.In h) (g : h.Ns mainGlobals mg) (aC : PySem.W.nsIn K mainGlobals c = some (some (.ref C)))
    (xC : K.lookup C = some (excClassObj nm q C N bs (.ref S :: bm) true sn sub ab col dd k0 k1 k2 k3 k5 "ValueError.__new__")) (xS : K.lookup S = some (excClassObj nm' q' S N' bs' bm true sn' sub' ab' col' dd' j0 j1 j2 j3 j5 "ValueError.__new__"))
    (sa : PySem.W.findIn K (.ref C) "__setattr__" = some (some (.builtin "object.__setattr__"))) (e1 : PySem.W.subIn K (.ref C) (.type "BaseException") = some true) (e2 : PySem.W.subIn K (.ref C) (.type "ValueError") = some true) (e3 : PySem.W.typeIn K (.ref C) = some (.type "type"))
    (kC : PySem.W.keepIn K (.ref C) = true) (ini : PySem.W.findIn K (.ref C) "__init__" = some (some (.ref fI))) (tyI : PySem.W.typeIn K (.ref fI) = some (.type "function"))
    (lI : K.lookup fI = some ⟨oc, od, .func (PySem.W.ksFn "__init__" qual params body scope .none kV doc pm an (.ref cda) ct cc), osl⟩) (cI : PySem.W.codeIn K (.ref cda) qual = true) (lc : K.lookup cda = some ⟨ccl, cdd, .fields vs, ccs⟩) (v2 : vs[2]? = some (.str fl tf))
    (lcc : K.lookup cc = some ⟨cl, cld, .cell (some (.ref C)), csl⟩) (mro : PySem.W.mroIn K C (.ref C) = some true) (sup : PySem.W.findIn K (.ref S) "__init__" = some (some (.builtin "ValueError.__init__"))) (nosup : PySem.W.nsIn K mainGlobals "super" = some none)
    (cst : PySem.W.nsIn K cStatics "thirdparty.any" = some none) (nof : PySem.W.findIn K (.ref C) (if c = "Undefined" then "what" else "value") = some none)
    (ib : IniBody par (if c = "Undefined" then "what" else "value") body) (hf : ((P.main.file : Str) == fl) = true) (notop : (P.main.scope.names.lookup ("super" : Str)).isSome = false) (nd : (c == ("__debug__" : Str)) = false)
    (bi : ∀ us : List Value, us.length = 2 → bindArgs (PySem.W.ksFn "__init__" qual params body scope .none kV doc pm an (.ref cda) ct cc) ⟨us, []⟩ = pure ((["self", par] : List Str).zip us))
    (p1 : (params.posonlyargs ++ params.args).head?.map (·.arg) = some "self") (s1 : scope.kind = .function) (s2 : scope.isCoroutine = false) (s3 : scope.isGenerator = false) (s4 : (scope.names.all fun x => !(x.2 == .cell)) = true)
    (n1 : scope.names.lookup ("super" : Str) = some .globalImplicit) (n2 : scope.names.lookup ("__class__" : Str) = some .free) (n3 : scope.names.lookup ("self" : Str) = some .local) (n4 : scope.names.lookup par = some .local) (pd : (par == ("__debug__" : Str)) = false ∧ ("self" : Str) ≠ par)
    (rv : PySem.HandSPX.refsVE bm = true) :
    ∃ C fI cc cda par, mg c = some (.ref C) ∧ (c == ("__debug__" : Str)) = false ∧ ExC P K mg C fI cc cda par (if c = "Undefined" then "what" else "value") := by
  refine ⟨C, fI, cc, cda, par, PySem.W.mg_of X g aC, nd, ⟨⟨nm, q, N, bs, .ref S :: bm, sn, sub, ab, col, dd, k0, k1, k2, k3, k5, xC, rv⟩, sa, e1, e2, e3, kC, ini, tyI, ?_, ⟨_, _, _, lcc⟩, mro, ?_, PySem.W.mg_none_of X g nosup, notop, cst, nof, pd, trivial⟩⟩
  · refine ⟨oc, od, qual, params, body, scope, kV, doc, pm, an, ct, osl, ccl, cdd, vs, ccs, fl, tf, lI, cI, ib, lc, v2, hf, bi, p1, s1, s2, s3, ?_, n1, n2, n3, n4⟩
    intro x hx e
    have := List.all_eq_true.mp s4 x hx
    rw [e] at this
    cases this
  · exact superIn_of xC xS sup
theorem xok_mk {l hs : List Str} (X : K.In h) (g : h.Ns mainGlobals mg) (aC : PySem.W.nsIn K mainGlobals c = some (some (.ref C))) (xC : PySem.W.isClsIn K C = true)
    (ga : PySem.W.findIn K (.ref C) "__getattribute__" = some (some (.builtin "BaseException.__getattribute__"))) (gg : PySem.W.findIn K (.ref C) "__getattr__" = some none) (e1 : PySem.W.subIn K (.ref C) (.type "BaseException") = some true) (hd : PySem.W.hasDictIn K C = true)
    (ca : PySem.W.findIn K (.ref C) "__class__" = some (some (.builtin "object.__class__"))) (sp : PySem.W.specialIn K (.builtin "object.__class__") "__get__" = some (some (.builtin "getset_descriptor.__get__"))) (tk : PySem.W.takesIn K (.builtin "object.__class__") = some true)
    (mo : PySem.W.mroIn K C (.type "object") = some true) (nv : PySem.W.findIn K (.ref C) "value" = some none) (nw : PySem.W.findIn K (.ref C) "what" = some none)
    (hh : ∀ c ∈ hs, ∃ cv, HName mg c cv ∧ PySem.W.exmOne K (.ref C) cv = some (l.contains c) ∧ PySem.W.kitOne K (.ref C) cv = some (l.contains c)) :
    ∃ C, mg c = some (.ref C) ∧ XOk K mg C l hs := ⟨C, PySem.W.mg_of X g aC, ⟨xC, ga, gg, e1, hd, ca, sp, tk, mo, nv, nw, hh⟩⟩
theorem hh_nil {l : List Str} : ∀ c ∈ ([] : List Str), ∃ cv, HName mg c cv ∧ PySem.W.exmOne K (.ref C) cv = some (l.contains c) ∧ PySem.W.kitOne K (.ref C) cv = some (l.contains c) := fun _ h => by cases h
/-- one of the classes that clauses name -/
theorem hh_own {l hs : List Str} {d : Str} {D : Addr} {b : Bool} (X : K.In h) (g : h.Ns mainGlobals mg) (aD : PySem.W.nsIn K mainGlobals d = some (some (.ref D))) (h1 : PySem.W.subIn K (.ref C) (.ref D) = some b) (h2 : PySem.W.subIn K (.ref D) (.ref D) = some true) (h3 : PySem.W.isClsIn K D = true)
    (h4 : PySem.W.typeIn K (.ref D) = some (.type "type")) (h5 : PySem.W.subIn K (.ref D) (.type "BaseException") = some true) (nd : (d == ("__debug__" : Str)) = false) (hb : l.contains d = b)
    (t : ∀ c ∈ hs, ∃ cv, HName mg c cv ∧ PySem.W.exmOne K (.ref C) cv = some (l.contains c) ∧ PySem.W.kitOne K (.ref C) cv = some (l.contains c)) :
    ∀ c ∈ d :: hs, ∃ cv, HName mg c cv ∧ PySem.W.exmOne K (.ref C) cv = some (l.contains c) ∧ PySem.W.kitOne K (.ref C) cv = some (l.contains c) := fun c hc => by
  rcases List.mem_cons.mp hc with rfl | hc
  · rw [hb]
    exact ⟨.ref D, ⟨nd, .inl ⟨PySem.W.mg_of X g aD, D, rfl⟩⟩, kit_own h1 h2 h3 h4 h5⟩
  · exact t c hc
theorem hh_ty {l hs : List Str} {d : Str} {T : String} {b : Bool} (X : K.In h) (g : h.Ns mainGlobals mg) (aD : PySem.W.nsIn K mainGlobals d = some none) (h0 : bootBuiltins d = some (.type T)) (h1 : PySem.W.subIn K (.ref C) (.type T) = some b) (h3 : PySem.W.kitMeta T = true) (h5 : PySem.W.subIn K (.type T) (.type "BaseException") = some true)
    (nd : (d == ("__debug__" : Str)) = false) (nn : d ≠ "__name__") (hb : l.contains d = b)
    (t : ∀ c ∈ hs, ∃ cv, HName mg c cv ∧ PySem.W.exmOne K (.ref C) cv = some (l.contains c) ∧ PySem.W.kitOne K (.ref C) cv = some (l.contains c)) :
    ∀ c ∈ d :: hs, ∃ cv, HName mg c cv ∧ PySem.W.exmOne K (.ref C) cv = some (l.contains c) ∧ PySem.W.kitOne K (.ref C) cv = some (l.contains c) := fun c hc => by
  rcases List.mem_cons.mp hc with rfl | hc
  · rw [hb]
    exact ⟨.type T, ⟨nd, .inr ⟨PySem.W.mg_none_of X g aD, h0, nn, T, rfl⟩⟩, kit_ty h1 h3 h5⟩
  · exact t c hc
/-- all classes of the table -/
def MroF (tab : List (Str × List Str)) : Str → Option (List Str) := fun c => tab.lookup c
theorem pf_mk {tab : List (Str × List Str)} {cs hs : List Str} (X : K.In h) (g : h.Ns mainGlobals mg) (bt : ∀ x ∈ bnames, mg x = none)
    (hcs : ∀ c ∈ cs, ∃ C fI cc cda par, mg c = some (.ref C) ∧ (c == ("__debug__" : Str)) = false ∧ ExC P K mg C fI cc cda par (if c = "Undefined" then "what" else "value"))
    (hx : ∀ p ∈ tab, ∃ C, mg p.1 = some (.ref C) ∧ XOk K mg C p.2 hs) (hn : tab ≠ [] ∨ hs = []) : PF P K mg (MroF tab) cs hs := by
  have key : ∀ c l, MroF tab c = some l → ∃ C, mg c = some (.ref C) ∧ XOk K mg C l hs := fun c l e => by
    have : (c, l) ∈ tab := by
      unfold MroF at e
      clear hx hn
      induction tab with
      | nil => cases e
      | cons p r ih =>
        obtain ⟨a, b⟩ := p
        rw [List.lookup_cons] at e
        split at e
        · rename_i z
          cases e
          rw [beq_iff_eq] at z
          rw [z]
          exact List.mem_cons_self
        · exact List.mem_cons_of_mem _ (ih e)
    exact hx _ this
  refine ⟨bt, hcs, fun c l C e m => ?_, fun c l e => ?_, fun c hc => ?_⟩
  · obtain ⟨C', m', x⟩ := key c l e
    rw [m] at m'
    cases m'
    exact x
  · obtain ⟨C, m, _⟩ := key c l e
    exact ⟨C, m⟩
  · rcases hn with hn | hn
    · obtain ⟨p, r, rfl⟩ := List.exists_cons_of_ne_nil hn
      obtain ⟨C, _, x⟩ := hx p List.mem_cons_self
      obtain ⟨cv, q, _⟩ := x.hs c hc
      exact ⟨cv, q⟩
    · subst hn
      cases hc
/-- the built-in names that are not written at the top -/
theorem bt_mk (X : K.In h) (g : h.Ns mainGlobals mg) (e : ∀ x ∈ bnames, PySem.W.nsIn K mainGlobals x = some none) : ∀ x ∈ bnames, mg x = none := fun x hx => PySem.W.mg_none_of X g (e x hx)
end
end G

/-! Layer G, part 9c: specs of defs. -/
namespace G
open PySem L2 PySem.Spec PyProof.Rows
/-- a def that tells r, or raises it, and leaves all as it was -/
def Fn (pre : List S → Mem → (Xc ⊕ S) → Prop) : FSpec := fun vs M Q E => ∃ r, pre vs M r ∧ (match r with
  | .inl x => E x M
  | .inr v => Q v M)
theorem Fn_mo {pre} : ∀ vs, Mono (Fn pre vs) := fun vs M Q Q' X X' hq hx ⟨r, h, q⟩ => by
  refine ⟨r, h, ?_⟩
  cases r with
  | inl x => exact hx _ _ q
  | inr v => exact hq _ _ q
end G
namespace G
open PySem L2
section
variable {M l : Mem} {v : S} {x : PD} {Q : S → Mem → Prop} {k : Nat} {ds : List PD}
theorem ret_here (h : Q v M) : ∃ r M2, Ex M M v r M2 ∧ Q r M2 := ⟨v, M, .inl ⟨rfl, rfl⟩, h⟩
theorem ret_data (h : Q (.d x) M) : ∃ r M2, Ex M (M ++ l) (.d x) r M2 ∧ Q r M2 := ⟨_, _, Ex.drop trivial, h⟩
theorem ret_frz (e : l[k]? = some (.lst (ds.map .d))) (h : Q (.d (.list ds)) M) : ∃ r M2, Ex M (M ++ l) (.l (M.length + k)) r M2 ∧ Q r M2 := ⟨_, _, Ex.frz e, h⟩
theorem ret_frz0 {t : Mem} (h : Q (.d (.list ds)) M) : ∃ r M2, Ex M (M ++ .lst (ds.map .d) :: t) (.l M.length) r M2 ∧ Q r M2 := ret_frz (k := 0) rfl h
end
theorem mapM_d {M : Mem} {x : PD} : ∀ ts : List String, ts.mapM (fun t => isTyS M t (.d x)) = some (ts.map fun t => isTy t x)
  | [] => rfl
  | t :: ts => by
    rw [List.mapM_cons, mapM_d ts]
    rfl
def isIntD : PD → Bool
  | .int _ => true
  | _ => false
def isNumD : PD → Bool
  | .int i => decide (0 ≤ i)
  | _ => false
/-- a loop by an invariant at each item's place -/
theorem wFor_inv {tg : Itm → Sto → (Sto → Prop) → Prop} {ok : Mem → Prop} {body : Sto → Mem → Outs → Prop} {O : Outs} (Inv : List Itm → Sto → Mem → Prop) (items : List Itm) {ρ : Sto} {M : Mem}
    (h0 : Inv items ρ M) (hok : ∀ l ρ M, Inv l ρ M → ok M) (hend : ∀ ρ M, Inv [] ρ M → O.nx ρ M)
    (hs : ∀ x xs ρ M, Inv (x :: xs) ρ M → tg x ρ fun ρ1 => body ρ1 M { O with nx := fun ρ2 M2 => Inv xs ρ2 M2, ct := fun ρ2 M2 => Inv xs ρ2 M2, bk := O.nx })
    (mt : ∀ x ρ (Q Q' : Sto → Prop), (∀ ρ, Q ρ → Q' ρ) → tg x ρ Q → tg x ρ Q') (mb : ∀ ρ M O O', Outs.Le O O' → body ρ M O → body ρ M O') : wFor tg ok body items ρ M O := by
  induction items generalizing ρ M with
  | nil =>
    simp only [wFor]
    exact ⟨hok _ _ _ h0, hend _ _ h0⟩
  | cons x xs ih =>
    simp only [wFor]
    refine ⟨hok _ _ _ h0, mt _ _ _ _ (fun ρ1 q => mb _ _ _ _ ?_ q) (hs _ _ _ _ h0)⟩
    exact ⟨fun ρ2 M2 q => ih q, fun _ _ q => q, fun _ _ q => q, fun ρ2 M2 q => ih q, fun _ _ _ q => q⟩
end G

/-! Layer G, part 9d: more equations for walks. -/
namespace G
open PySem L2
section
variable {M : Mem} {Q : S → Mem → Prop} {i j : Int} {b : Bool} {xs ys : List PD} {k : Nat} {x y : S} {s t : Str} {lo hi : Option Int} {a c : PD}
theorem b_int : wB1 .int (.d (.int i)) M Q = Q (I i) M := rfl
theorem b_intb : wB1 .int (.d (.bool b)) M Q = Q (I (if b then 1 else 0)) M := rfl
theorem b_bool : wB1 .bool (.d (.int i)) M Q = Q (B (i != 0)) M := rfl
theorem b_boolb : wB1 .bool (.d (.bool b)) M Q = Q (B b) M := rfl
theorem b_lent : wB1 .len (.d (.tuple xs)) M Q = Q (I xs.length) M := by
  simp [wB1, items]
theorem b_lenl : wB1 .len (.d (.list xs)) M Q = Q (I xs.length) M := by
  simp [wB1, items]
theorem b_lenm : wB1 .len (.l k) M Q = ∃ xs, M[k]? = some (.lst xs) ∧ Q (I xs.length) M := by
  unfold wB1 items
  dsimp only
  cases e : M[k]? with
  | none => simp
  | some o => cases o <;> simp
theorem b_tupt : wB1 .tuple (.d (.tuple xs)) M Q = Q (.d (.tuple xs)) M := rfl
theorem b_tupl : wB1 .tuple (.d (.list xs)) M Q = Q (.d (.tuple xs)) M := rfl
theorem b_tupm : wB1 .tuple (.l k) M Q = ∃ xs : List PD, M[k]? = some (.lst (xs.map .d)) ∧ Q (.d (.tuple xs)) M := rfl
theorem b_str : wB1 .str (.d (.int i)) M Q = (i.natAbs.log2 < 1920 ∧ Q (.d (.str (toString i))) M) := rfl
theorem b_repr : wB1 .repr x M Q = ∃ a, pd M x = some a ∧ ((a.hasDict = false ∨ a = .dict [] ∨ ∃ i j : Int, a = .dict [(.int i, .int j)]) ∧ a.showable = true ∧ a.shown.length ≤ sizeLine ∧ a.depth ≤ 60) ∧ Q (.d (.str a.shown)) M := rfl
theorem b_abs : wB1 .abs (.d (.int i)) M Q = Q (I (if i < 0 then -i else i)) M := rfl
theorem b_sum : wB1 .sum x M Q = ∃ ns : List Int, items M x = some (ns.map I) ∧ Q (I ns.sum) M := rfl
theorem b_all : wB1 .all x M Q = ∃ bs : List Bool, items M x = some (bs.map B) ∧ Q (B (bs.all id)) M := rfl
theorem b_any : wB1 .any x M Q = ∃ bs : List Bool, items M x = some (bs.map B) ∧ Q (B (bs.any id)) M := rfl
theorem b_max : wB2 .max (.d (.int i)) (.d (.int j)) M Q = Q (I (if j > i then j else i)) M := rfl
theorem b_min : wB2 .min (.d (.int i)) (.d (.int j)) M Q = Q (I (if j < i then j else i)) M := rfl
theorem ix_t : wIx (.d (.tuple xs)) (.d (.int i)) M Q = ∃ v, atI xs i = some v ∧ Q (.d v) M := rfl
theorem ix_l : wIx (.d (.list xs)) (.d (.int i)) M Q = ∃ v, atI xs i = some v ∧ Q (.d v) M := rfl
theorem ix_m : wIx (.l k) (.d (.int i)) M Q = ∃ xs v, M[k]? = some (.lst xs) ∧ atI xs i = some v ∧ Q v M := rfl
theorem sl_t : wSl (.d (.tuple xs)) lo hi M Q = Q (.d (.tuple (cut xs lo hi))) M := rfl
theorem sl_l : wSl (.d (.list xs)) lo hi M Q = Q (.d (.list (cut xs lo hi))) M := rfl
theorem sl_m : wSl (.l k) lo hi M Q = ∃ xs : List PD, M[k]? = some (.lst (xs.map .d)) ∧ Q (.d (.list (cut xs lo hi))) M := rfl
theorem ty_d {t : String} : isTyS M t (.d a) = some (isTy t a) := rfl
theorem it_t : items M (.d (.tuple xs)) = some (xs.map S.d) := rfl
theorem it_l : items M (.d (.list xs)) = some (xs.map S.d) := rfl
theorem pd_d : pd M (.d a) = some a := rfl
theorem c_eq : wCmp .Eq (.d a) (.d c) M Q = wEqD a c M Q := rfl
theorem c_eq_s {z : Str} : wCmp .Eq (.d (.str z)) (.d c) M Q = (okD (.str z) = true ∧ okD c = true ∧ Q (B (PyData.eqv (.str z) c)) M) := rfl
theorem c_eq_t : wCmp .Eq (.d (.tuple xs)) (.d c) M Q = (okD (.tuple xs) = true ∧ okD c = true ∧ Q (B (PyData.eqv (.tuple xs) c)) M) := rfl
theorem c_eq_d : wCmp .Eq (.d (.dict [])) (.d (.tuple xs)) M Q = Q (B false) M := rfl
theorem c_ne : wCmp .NotEq (.d a) (.d c) M Q = (okD a = true ∧ okD c = true ∧ Q (B (!PyData.eqv a c)) M) := rfl
theorem c_eqb {b' : Bool} : wCmp .Eq (.d (.bool b)) (.d (.bool b')) M Q = Q (B (b == b')) M := by
  have h : ∀ b : Bool, okD (.bool b) = true := fun b => by cases b <;> rfl
  have e : PyData.eqv (.bool b) (.bool b') = (b == b') := by cases b <;> cases b' <;> rfl
  simp [wCmp, pd2, pd, wEqD, wEq, h, e]
theorem c_neb {b' : Bool} : wCmp .NotEq (.d (.bool b)) (.d (.bool b')) M Q = Q (B (!(b == b'))) M := by
  have h : ∀ b : Bool, okD (.bool b) = true := fun b => by cases b <;> rfl
  have e : PyData.eqv (.bool b) (.bool b') = (b == b') := by cases b <;> cases b' <;> rfl
  simp [wCmp, pd2, pd, wEqD, wEq, h, e]
theorem c_isN : wCmp .Is (.d .none) (.d .none) M Q = Q (B true) M := rfl
theorem c_isnN : wCmp .IsNot (.d .none) (.d .none) M Q = Q (B false) M := rfl
theorem isx_eq {mro : Str → Option (List Str)} {cs : List Str} {a dd : Nat} {c f : Str} {v : S} : wIsX mro cs (.e a dd c f v) M Q = ∃ l, mro c = some l ∧ Q (B (cs.any fun c => l.contains c)) M := rfl
theorem xval_eq {f : Str} {a dd : Nat} {c g : Str} {v : S} : wXval f (.e a dd c g v) M Q = (g = f ∧ Q v M) := rfl
end
end G
namespace G
theorem mul_l {i j : Int} (h : -(2 ^ 64) < i ∧ i < 2 ^ 64) : MulOk i j := .inl (.inl h)
theorem mul_r {i j : Int} (h : -(2 ^ 64) < j ∧ j < 2 ^ 64) : MulOk i j := .inl (.inr h)
theorem div_ok {j i : Int} (h : 0 < j ∧ j < 1073741824) : DivOk j i := ⟨h.1, .inl h.2⟩
end G

/-! Layer G, part 9e: loops by an invariant at each turn's number. -/
namespace G
open PySem L2
section
variable {M : Mem} {Q : S → Mem → Prop} {i j : Int} {ρ : Sto} {t : Tg} {ok : Mem → Prop} {body : Sto → Mem → Outs → Prop} {O : Outs}
theorem d_nil {Q : List S → Mem → Prop} : wDisp [] M Q = Q [] M := by
  unfold wDisp
  exact propext ⟨fun h => h.2, fun h => ⟨Nat.zero_le _, h⟩⟩
theorem d_eq {Q : List S → Mem → Prop} {x : S} {xs : List S} : wDisp (x :: xs) M Q = ((x :: xs).length ≤ sizeLine ∧ Q (x :: xs) M) := rfl
theorem rng_1 {Q : List Itm × (Mem → Prop) → Mem → Prop} : wRng [.d (.int i)] M Q = (rngOk 0 i ∧ Q (rngItems 0 i, fun _ => True) M) := rfl
theorem rng_2 {Q : List Itm × (Mem → Prop) → Mem → Prop} : wRng [.d (.int i), .d (.int j)] M Q = (rngOk i j ∧ Q (rngItems i j, fun _ => True) M) := rfl
/-- what a turn wants of its body -/
def GTurn (O : Outs) (I : Sto → Mem → Prop) : Outs := { O with nx := I, ct := I, bk := O.nx }
theorem turn_nx {I : Sto → Mem → Prop} : (GTurn O I).nx = I := rfl
theorem turn_ct {I : Sto → Mem → Prop} : (GTurn O I).ct = I := rfl
theorem turn_bk {I : Sto → Mem → Prop} : (GTurn O I).bk = O.nx := rfl
theorem turn_rt {I : Sto → Mem → Prop} : (GTurn O I).rt = O.rt := rfl
theorem turn_ex {I : Sto → Mem → Prop} : (GTurn O I).ex = O.ex := rfl
theorem ty_m {xs : List S} {t : Mem} : isTyS (M ++ .lst xs :: t) "list" (.l M.length) = some true := by
  unfold isTyS
  simp
theorem for_ix {items : List Itm} (mb : MonoS body) (P : Nat → Sto → Mem → Prop) (h0 : P 0 ρ M) (hok : ∀ i ρ M, P i ρ M → ok M) (hend : ∀ ρ M, P items.length ρ M → O.nx ρ M)
    (hs : ∀ i x ρ M, items[i]? = some x → P i ρ M → wTg t x ρ fun ρ1 => body ρ1 M (GTurn O (P (i + 1)))) : wFor (wTg t) ok body items ρ M O := by
  suffices h : ∀ (n i : Nat) (ρ : Sto) (M : Mem), i + n = items.length → P i ρ M → wFor (wTg t) ok body (items.drop i) ρ M O by
    have := h items.length 0 ρ M (by omega) h0
    rwa [List.drop_zero] at this
  intro n
  induction n with
  | zero =>
    intro i ρ M e p
    have : items.drop i = [] := List.drop_eq_nil_of_le (by omega)
    rw [this]
    simp only [wFor]
    refine ⟨hok _ _ _ p, hend _ _ ?_⟩
    have : i = items.length := by omega
    rwa [this] at p
  | succ n ih =>
    intro i ρ M e p
    have hi : i < items.length := by omega
    rw [List.drop_eq_getElem_cons hi]
    simp only [wFor]
    refine ⟨hok _ _ _ p, wTg_mo _ _ _ _ _ (fun ρ1 q => mb _ _ _ _ ?_ q) (hs i _ ρ M (List.getElem?_eq_getElem hi) p)⟩
    exact ⟨fun ρ2 M2 q => ih _ _ _ (by omega) q, fun _ _ q => q, fun _ _ q => q, fun ρ2 M2 q => ih _ _ _ (by omega) q, fun _ _ _ q => q⟩
theorem rngItems_length {lo hi : Int} : (rngItems lo hi).length = (hi - lo).toNat := by simp [rngItems]
theorem rngItems_get {lo hi : Int} {k : Nat} {x : Itm} (h : (rngItems lo hi)[k]? = some x) : k < (hi - lo).toNat ∧ x = .one (I (lo + (k : Nat))) := by
  unfold rngItems at h
  rw [List.getElem?_map] at h
  cases e : (List.range (hi - lo).toNat)[k]? with
  | none => rw [e] at h; cases h
  | some v =>
    rw [e] at h
    cases h
    obtain ⟨h1, h2⟩ := List.getElem?_eq_some_iff.mp e
    rw [List.length_range] at h1
    rw [List.getElem_range] at h2
    subst h2
    exact ⟨h1, rfl⟩
/-- for i in range(lo, hi) -/
theorem for_rng {s : Nat} {lo hi : Int} (n : Nat) (hn : (hi - lo).toNat = n) (mb : MonoS body) (P : Nat → Sto → Mem → Prop) (h0 : P 0 ρ M) (hend : ∀ ρ M, P n ρ M → O.nx ρ M)
    (hs : ∀ i ρ M, i < n → P i ρ M → body (ρ.set s (some (.d (.int (lo + (i : Nat)))))) M (GTurn O (P (i + 1)))) : wFor (wTg (.nm s)) (fun _ => True) body (rngItems lo hi) ρ M O := by
  refine for_ix mb P h0 (fun _ _ _ _ => trivial) (by rw [rngItems_length, hn]; exact hend) fun i x ρ M e p => ?_
  obtain ⟨h1, rfl⟩ := rngItems_get e
  rw [hn] at h1
  simp only [wTg]
  exact hs i ρ M h1 p
/-- for x in data -/
theorem for_dat {s : Nat} {xs : List PD} {ok : Mem → Prop} (hok : ∀ M, ok M) (mb : MonoS body) (P : Nat → Sto → Mem → Prop) (h0 : P 0 ρ M) (hend : ∀ ρ M, P xs.length ρ M → O.nx ρ M)
    (hs : ∀ i x ρ M, xs[i]? = some x → P i ρ M → body (ρ.set s (some (.d x))) M (GTurn O (P (i + 1)))) : wFor (wTg (.nm s)) ok body ((xs.map S.d).map Itm.one) ρ M O := by
  refine for_ix mb P h0 (fun _ _ _ _ => hok _) (by simpa using hend) fun i x ρ M e p => ?_
  rw [List.getElem?_map, List.getElem?_map] at e
  cases e2 : xs[i]? with
  | none => rw [e2] at e; cases e
  | some v =>
    rw [e2] at e
    cases e
    simp only [wTg]
    exact hs i v ρ M e2 p
end
end G
namespace G
theorem mapM_s {f : String → Bool} : ∀ ts : List String, ts.mapM (fun t => some (f t)) = some (ts.map f)
  | [] => rfl
  | t :: ts => by
    rw [List.mapM_cons, mapM_s ts]
    rfl
/-- a comprehension that leaves all as it is -/
theorem lc_gen {α : Type} {tg : Itm → (Sto → Prop) → Prop} {ok : Mem → Prop} {cond : Sto → Comp Bool} {e : Sto → Comp S} {it : α → Itm} {st : α → Sto} {p : α → Bool} {f : α → S} {M : Mem} {Q : List S → Mem → Prop} {E : Xc → Mem → Prop} (hok : ok M) : ∀ (ys : List α)
    (ht : ∀ y ∈ ys, ∀ K : Sto → Prop, K (st y) → tg (it y) K) (hc : ∀ y ∈ ys, ∀ Q : Bool → Mem → Prop, Q (p y) M → cond (st y) M Q E) (he : ∀ y ∈ ys, p y = true → ∀ Q : S → Mem → Prop, Q (f y) M → e (st y) M Q E) {acc : List S}
    (q : Q (acc ++ (ys.filter p).map f) M), wLc tg ok cond e (ys.map it) acc M Q E
  | [], _, _, _, acc, q => by
    simp only [List.map_nil, wLc]
    exact ⟨hok, by simpa using q⟩
  | y :: ys, ht, hc, he, acc, q => by
    simp only [List.map_cons, wLc]
    refine ⟨hok, ht y List.mem_cons_self _ (hc y List.mem_cons_self _ ?_)⟩
    have ih := fun (acc : List S) (q : Q (acc ++ (ys.filter p).map f) M) => lc_gen (acc := acc) (Q := Q) hok ys (fun z hz => ht z (List.mem_cons_of_mem _ hz)) (fun z hz => hc z (List.mem_cons_of_mem _ hz)) (fun z hz => he z (List.mem_cons_of_mem _ hz)) q
    cases h : p y with
    | true =>
      rw [if_pos rfl]
      refine he y List.mem_cons_self h _ (ih _ ?_)
      rw [List.filter_cons_of_pos h] at q
      simpa using q
    | false =>
      rw [if_neg (by simp)]
      refine ih _ ?_
      rw [List.filter_cons_of_neg (by simp [h])] at q
      exact q
/-- [e for x in data] -/
theorem lc_dat {s : Nat} {xs : List PD} {ok : Mem → Prop} {e : Sto → Comp S} {f : PD → S} {M : Mem} {ρ : Sto} {Q : List S → Mem → Prop} {E : Xc → Mem → Prop} (hok : ok M) (he : ∀ x ∈ xs, ∀ Q : S → Mem → Prop, Q (f x) M → e (ρ.set s (some (.d x))) M Q E) (q : Q (xs.map f) M) :
    wLc (tgAt (.nm s) ρ) ok (fun _ M Q _ => Q true M) e ((xs.map S.d).map Itm.one) [] M Q E := by
  have := lc_gen (α := PD) (tg := tgAt (.nm s) ρ) (ok := ok) (cond := fun _ M Q _ => Q true M) (e := e) (it := fun x => .one (.d x)) (st := fun x => ρ.set s (some (.d x))) (p := fun _ => true) (f := f) (M := M) (Q := Q) (E := E) hok xs
    (fun y _ K k => by simp only [tgAt, wTg]; exact k) (fun _ _ _ q => q) (fun y hy _ Q q => he y hy Q q) (acc := []) (by rw [List.filter_eq_self.mpr (fun _ _ => rfl)]; simpa using q)
  rwa [List.map_map]
end G
namespace G
open L2
section
variable {α : Type} {a b c : α} {xs : List α}
theorem at_0 : atI (a :: xs) 0 = some a := by
  unfold atI
  have : ixN (a :: xs).length 0 = some 0 := by
    unfold ixN
    rw [if_pos (by omega), if_pos (by simp)]
    rfl
  rw [this]
  rfl
theorem at_1 : atI (a :: b :: xs) 1 = some b := by
  unfold atI
  have : ixN (a :: b :: xs).length 1 = some 1 := by
    unfold ixN
    rw [if_pos (by omega), if_pos (by simp; omega)]
    rfl
  rw [this]
  rfl
end
end G

/-! Layer G, part 9f: what may be shown and compared. -/
namespace G
open PySem L2 PySem.PyData PySem.W PyProof.Rows
/-- data without dicts, its ints short, of some weight and depth -/
structure Rp (x : PD) (w d : Nat) : Prop where
  nd : x.hasDict = false
  pl : x.plain = true
  sh : x.showable = true
  ls : x.leavesShort 40 = true
  wt : x.weight ≤ w
  dp : x.depth ≤ d
theorem Rp.mo {x : PD} {w d w' d' : Nat} (h : Rp x w d) (hw : w ≤ w') (hd : d ≤ d') : Rp x w' d' := ⟨h.nd, h.pl, h.sh, h.ls, Nat.le_trans h.wt hw, Nat.le_trans h.dp hd⟩
theorem log12 {n : Nat} (h : n < 1000000000000) : n.log2 < 40 := by
  by_cases z : n = 0
  · subst z
    decide
  · rw [Nat.log2_lt z]
    have : (2 : Nat) ^ 40 = 1099511627776 := by decide
    omega
theorem Rp.big {i : Int} {d : Nat} (h : i.natAbs < 1000000000000000000000000000000000000) : Rp (.int i) 121 d := by
  have hl : i.natAbs.log2 < 120 := by
    by_cases z : i.natAbs = 0
    · rw [z]
      decide
    · rw [Nat.log2_lt z]
      have : (2 : Nat) ^ 120 = 1329227995784915872903807060280344576 := by decide
      omega
  refine ⟨rfl, rfl, ?_, ?_, ?_, Nat.zero_le _⟩
  · simp only [showable, decide_eq_true_eq]
    omega
  · have e := int_text_length_le10 (k := 36) (by decide) (show i.natAbs < 10 ^ 36 by
      have : (10 : Nat) ^ 36 = 1000000000000000000000000000000000000 := by decide
      omega)
    simp only [leavesShort, decide_eq_true_eq]
    show (Str.ofString (toString i)).length ≤ 40
    rw [PySem.ofString_length]
    omega
  · simp only [weight]
    split <;> omega
theorem Rp.int {i : Int} {d : Nat} (h : i.natAbs < 1000000000000) : Rp (.int i) 41 d := by
  have hl := log12 h
  refine ⟨rfl, rfl, ?_, ?_, ?_, Nat.zero_le _⟩
  · simp only [showable, decide_eq_true_eq]
    omega
  · have := shown_int_le (i := i) (by have : (10 : Nat) ^ 12 = 1000000000000 := by decide
                                      omega)
    simp only [leavesShort, decide_eq_true_eq]
    omega
  · simp only [weight]
    split <;> omega
theorem Rp.none {d : Nat} : Rp .none 0 d := ⟨rfl, rfl, rfl, rfl, Nat.le_refl _, Nat.zero_le _⟩
theorem Rp.bool {b : Bool} {d : Nat} : Rp (.bool b) 0 d := ⟨rfl, rfl, rfl, rfl, Nat.le_refl _, Nat.zero_le _⟩
theorem Rp.str {x : Str} {w d : Nat} (h : PyData.canLay0 (.str x) = true) (hl : x.cps.size ≤ w) : Rp (.str x) w d := ⟨rfl, rfl, rfl, leavesShort_of_canLay0 40 (.str x) h rfl, hl, Nat.zero_le _⟩
theorem mem_cut {α : Type} {xs : List α} {lo hi : Option Int} {x : α} (h : x ∈ cut xs lo hi) : x ∈ xs := List.mem_of_mem_drop (List.mem_of_mem_take h)
theorem Rp.all {w d : Nat} : ∀ {xs : List PD}, (∀ x ∈ xs, Rp x w d) → hasDictAll xs = false ∧ plainAll xs = true ∧ showableAll xs = true ∧ leavesShortAll 40 xs = true ∧ weightAll xs ≤ xs.length * (w + 1) ∧ depthAll xs ≤ d
  | [], _ => ⟨rfl, rfl, rfl, rfl, by simp [weightAll], Nat.zero_le _⟩
  | x :: xs, h => by
    obtain ⟨a1, a2, a3, a4, a5, a6⟩ := Rp.all (xs := xs) fun y hy => h y (List.mem_cons_of_mem _ hy)
    obtain ⟨b1, b2, b3, b4, b5, b6⟩ := h x List.mem_cons_self
    refine ⟨by simp only [hasDictAll, a1, b1]; rfl, by simp only [plainAll, a2, b2]; rfl, by simp only [showableAll, a3, b3]; rfl, by simp only [leavesShortAll, a4, b4]; rfl, ?_, ?_⟩
    · simp only [weightAll, List.length_cons]
      have : (xs.length + 1) * (w + 1) = xs.length * (w + 1) + (w + 1) := by rw [Nat.add_mul, Nat.one_mul]
      omega
    · simp only [depthAll]
      omega
theorem Rp.tup {xs : List PD} {w d n : Nat} (h : ∀ x ∈ xs, Rp x w d) (hn : xs.length ≤ n) : Rp (.tuple xs) (n * (w + 1)) (d + 1) := by
  obtain ⟨a1, a2, a3, a4, a5, a6⟩ := Rp.all h
  exact ⟨by simp only [hasDict]; exact a1, by simp only [PyData.plain]; exact a2, by simp only [showable]; exact a3, by simp only [leavesShort]; exact a4, by simp only [weight]; exact Nat.le_trans a5 (Nat.mul_le_mul_right _ hn), by simp only [depth]; omega⟩
theorem Rp.lst {xs : List PD} {w d n : Nat} (h : ∀ x ∈ xs, Rp x w d) (hn : xs.length ≤ n) : Rp (.list xs) (n * (w + 1)) (d + 1) := by
  obtain ⟨a1, a2, a3, a4, a5, a6⟩ := Rp.all h
  exact ⟨by simp only [hasDict]; exact a1, by simp only [PyData.plain]; exact a2, by simp only [showable]; exact a3, by simp only [leavesShort]; exact a4, by simp only [weight]; exact Nat.le_trans a5 (Nat.mul_le_mul_right _ hn), by simp only [depth]; omega⟩
/-- it may be shown -/
def RpOk (x : PD) : Prop := (x.hasDict = false ∨ x = .dict [] ∨ ∃ i j : Int, x = .dict [(.int i, .int j)]) ∧ x.showable = true ∧ x.shown.length ≤ sizeLine ∧ x.depth ≤ 60
theorem Rp.rep {x : PD} {w d : Nat} (h : Rp x w d) (hw : w ≤ 390000) (hd : d ≤ 60) : RpOk x := by
  refine ⟨.inl h.nd, h.sh, ?_, Nat.le_trans h.dp hd⟩
  have h1 := PyData.shown_le 40 (by decide) x h.ls
  have h2 := h.wt
  rw [sizeLine_eq]
  omega
theorem Rp.okd {x : PD} {w d : Nat} (h : Rp x w d) (hd : d ≤ 60) : okD x = true := by
  unfold okD
  rw [h.pl, Bool.true_and, decide_eq_true_eq]
  exact Nat.le_trans h.dp hd
theorem RpOk.empty : RpOk (.dict []) := ⟨.inr (.inl rfl), rfl, by decide, by decide⟩
/-! ### pairs of ints -/
theorem okd_pair {a b : Int} : okD (.tuple [.int a, .int b]) = true := by simp [okD, PyData.plain, PyData.plainAll, depth, depthAll]
theorem alike_pair {a b c d : Int} : PySem.W.alike (.tuple [.int a, .int b]) (.tuple [.int c, .int d]) = true := by simp [PySem.W.alike, PySem.W.alikeAll]
theorem eqv_int {a b : Int} : PyData.eqv (.int a) (.int b) = decide (a = b) := by simp [PyData.eqv]; rfl
theorem lt_pair {a b c d : Int} : PySem.W.dataLt (.tuple [.int a, .int b]) (.tuple [.int c, .int d]) = decide (a < c ∨ a = c ∧ b < d) := by
  have hi : ∀ i j : Int, PySem.W.alike (.int i) (.int j) = true := fun _ _ => rfl
  have base : PyProof.Rows.lexLt itemOrd (PySem.W.keyToksAll []) (PySem.W.keyToksAll []) = false := by decide
  have one : PyProof.Rows.lexLt itemOrd (PySem.W.keyToksAll [.int b]) (PySem.W.keyToksAll [.int d]) = decide (b < d) := by
    by_cases e : b = d
    · subst e
      rw [PySem.W.dataLt_all_yes (hi _ _) (by rw [eqv_int]; simp), base]
      simp
    · rw [PySem.W.dataLt_all_no (hi _ _) (by rw [eqv_int]; simp [e]), PySem.W.dataLt_int]
  rw [PySem.W.dataLt_tuple]
  by_cases e : a = c
  · subst e
    rw [PySem.W.dataLt_all_yes (hi _ _) (by rw [eqv_int]; simp), one]
    simp
  · rw [PySem.W.dataLt_all_no (hi _ _) (by rw [eqv_int]; simp [e]), PySem.W.dataLt_int]
    simp [e]
end G

/-! Layer G, part 9g: still more equations for walks. -/
namespace G
open PySem L2
def lstOf : Option MO → Option (List S)
  | some (.lst xs) => some xs
  | _ => none
def tyOf (t : String) : Option MO → Option Bool
  | some (.lst _) => some (t == "list")
  | some (.dct _) => some (t == "dict")
  | some (.tpl _) => none
  | some (.fz _ _) => none
  | none => none
section
variable {M : Mem} {Q : S → Mem → Prop} {i j : Int} {xs ys : List PD} {k : Nat} {x y : S} {a c : PD}
theorem c_inT : wCmp .In (.d a) (.d (.tuple ys)) M Q = ((okD a = true ∧ okD (.tuple ys) = true) ∧ Q (B (ys.any fun z => PyData.eqv z a)) M) := rfl
theorem c_inL : wCmp .In (.d a) (.d (.list ys)) M Q = ((okD a = true ∧ okD (.list ys) = true) ∧ Q (B (ys.any fun z => PyData.eqv z a)) M) := rfl
theorem c_ninT : wCmp .NotIn (.d a) (.d (.tuple ys)) M Q = ((okD a = true ∧ okD (.tuple ys) = true) ∧ Q (B (!ys.any fun z => PyData.eqv z a)) M) := rfl
theorem c_ninL : wCmp .NotIn (.d a) (.d (.list ys)) M Q = ((okD a = true ∧ okD (.list ys) = true) ∧ Q (B (!ys.any fun z => PyData.eqv z a)) M) := rfl
theorem c_ltT : wCmp .Lt (.d (.tuple xs)) (.d (.tuple ys)) M Q = ((okD (.tuple xs) = true ∧ okD (.tuple ys) = true ∧ PySem.W.alike (.tuple xs) (.tuple ys) = true) ∧ Q (B (PySem.W.dataLt (.tuple xs) (.tuple ys))) M) := rfl
theorem c_leT : wCmp .LtE (.d (.tuple xs)) (.d (.tuple ys)) M Q = ((okD (.tuple xs) = true ∧ okD (.tuple ys) = true ∧ PySem.W.alike (.tuple xs) (.tuple ys) = true) ∧ Q (B (!PySem.W.dataLt (.tuple ys) (.tuple xs))) M) := rfl
theorem c_gtT : wCmp .Gt (.d (.tuple xs)) (.d (.tuple ys)) M Q = ((okD (.tuple xs) = true ∧ okD (.tuple ys) = true ∧ PySem.W.alike (.tuple xs) (.tuple ys) = true) ∧ Q (B (PySem.W.dataLt (.tuple ys) (.tuple xs))) M) := rfl
theorem c_geT : wCmp .GtE (.d (.tuple xs)) (.d (.tuple ys)) M Q = ((okD (.tuple xs) = true ∧ okD (.tuple ys) = true ∧ PySem.W.alike (.tuple xs) (.tuple ys) = true) ∧ Q (B (!PySem.W.dataLt (.tuple xs) (.tuple ys))) M) := rfl
theorem eqv_str {a b : Str} : PyData.eqv (.str a) (.str b) = decide (a = b) := by
  simp [PyData.eqv]
  rfl
theorem okd_str {a : Str} : okD (.str a) = true := by simp [okD, PyData.plain, PyData.depth]
theorem c_eqS {a b : Str} : wCmp .Eq (.d (.str a)) (.d (.str b)) M Q = Q (B (decide (a = b))) M := by
  rw [c_eq_s, okd_str, okd_str, eqv_str]
  simp
theorem c_neS {a b : Str} : wCmp .NotEq (.d (.str a)) (.d (.str b)) M Q = Q (B (!decide (a = b))) M := by
  rw [c_ne, okd_str, okd_str, eqv_str]
  simp
theorem it_k {L : Mem} : items (M ++ L) (.l (M.length + k)) = lstOf L[k]? := by
  unfold items
  dsimp only
  rw [m_get]
  cases e : L[k]? with
  | none => rfl
  | some o => cases o <;> rfl
theorem it_k0 {L : Mem} : items (M ++ L) (.l M.length) = lstOf L[0]? := it_k (k := 0)
theorem ty_k {L : Mem} {t : String} : isTyS (M ++ L) t (.l (M.length + k)) = tyOf t L[k]? := by
  unfold isTyS
  dsimp only
  rw [m_get]
  cases e : L[k]? with
  | none => rfl
  | some o => cases o <;> rfl
theorem ty_k0 {L : Mem} {t : String} : isTyS (M ++ L) t (.l M.length) = tyOf t L[0]? := ty_k (k := 0)
theorem lo_1 {xs : List S} : lstOf (some (.lst xs)) = some xs := rfl
theorem to_1 {xs : List S} {t : String} : tyOf t (some (.lst xs)) = some (t == "list") := rfl
theorem to_2 {kvs} {t : String} : tyOf t (some (.dct kvs)) = some (t == "dict") := rfl
theorem sd_inj {xs ys : List PD} : (xs.map S.d = ys.map S.d) = (xs = ys) := by
  apply propext
  constructor
  · intro h
    have := congrArg dataAll h
    rw [dataAll_map, dataAll_map] at this
    exact Option.some.inj this
  · rintro rfl
    rfl
theorem da_nil : dataAll [] = some [] := rfl
theorem da_cons {r : List S} : dataAll (.d a :: r) = (dataAll r).map (a :: ·) := rfl
theorem da_map {xs : List PD} : dataAll (xs.map S.d) = some xs := dataAll_map xs
theorem p_put {v : S} {Q : Mem → Prop} : wPut (.l k) (.d (.int i)) v M Q = ∃ xs j, M[k]? = some (.lst xs) ∧ ixN xs.length i = some j ∧ Q (M.set k (.lst (xs.set j v))) := rfl
theorem sz_0 : (0 ≤ sizeLine) = True := eq_true (Nat.zero_le _)
theorem sz_1 : (1 ≤ sizeLine) = True := eq_true (by decide)
theorem sz_2 : (2 ≤ sizeLine) = True := eq_true (by decide)
theorem sz_3 : (3 ≤ sizeLine) = True := eq_true (by decide)
theorem sz_4 : (4 ≤ sizeLine) = True := eq_true (by decide)
theorem sz_5 : (5 ≤ sizeLine) = True := eq_true (by decide)
theorem sz_6 : (6 ≤ sizeLine) = True := eq_true (by decide)
theorem sz_7 : (7 ≤ sizeLine) = True := eq_true (by decide)
theorem sz_8 : (8 ≤ sizeLine) = True := eq_true (by decide)
theorem int?_d : int? (.d (.int i)) = some i := rfl
theorem ok_of_d {x : PD} {xs : List S} : okOf (.d x) xs = fun _ => True := rfl
theorem ex_self {α : Type} {v : α} {P : α → Prop} : (∃ w, some v = some w ∧ P w) = P v := by
  apply propext
  constructor
  · rintro ⟨w, e, h⟩; cases e; exact h
  · intro h; exact ⟨v, rfl, h⟩
theorem slS : sizeLine = 16777216 := by decide
end
section
variable {α : Type} {xs : List α} {v : α} {i : Int}
theorem at_of (h0 : 0 ≤ i) (e : xs[i.toNat]? = some v) : atI xs i = some v := by
  obtain ⟨h1, _⟩ := List.getElem?_eq_some_iff.mp e
  unfold atI
  have : ixN xs.length i = some i.toNat := by
    unfold ixN
    rw [if_pos h0, if_pos (by omega)]
  rw [this]
  exact e
theorem at_nat {k : Nat} (e : xs[k]? = some v) : atI xs (k : Int) = some v := at_of (by omega) (by simpa using e)
theorem ix_of (h0 : 0 ≤ i) (h : i < xs.length) : ixN xs.length i = some i.toNat := by
  unfold ixN
  rw [if_pos h0, if_pos (by omega)]
theorem ix_ofN {n : Nat} {i : Int} (h0 : 0 ≤ i) (h : i < n) : ixN n i = some i.toNat := by
  unfold ixN
  rw [if_pos h0, if_pos (by omega)]
end
section
variable {M : Mem} {ρ : Sto} {t : Tg} {ok : Mem → Prop} {body : Sto → Mem → Outs → Prop} {O : Outs}
/-- for targets in data -/
theorem for_tgs {xs : List PD} (hok : ∀ M, ok M) (mb : MonoS body) (P : Nat → Sto → Mem → Prop) (h0 : P 0 ρ M) (hend : ∀ ρ M, P xs.length ρ M → O.nx ρ M)
    (hs : ∀ i x ρ M, xs[i]? = some x → P i ρ M → wTg t (.one (.d x)) ρ fun ρ1 => body ρ1 M (GTurn O (P (i + 1)))) : wFor (wTg t) ok body ((xs.map S.d).map Itm.one) ρ M O := by
  refine for_ix mb P h0 (fun _ _ _ _ => hok _) (by simpa using hend) fun i x ρ M e p => ?_
  rw [List.getElem?_map, List.getElem?_map] at e
  cases e2 : xs[i]? with
  | none => rw [e2] at e; cases e
  | some v =>
    rw [e2] at e
    cases e
    exact hs i v ρ M e2 p
/-- [e for i in range(lo, hi)] -/
theorem lc_rng {s : Nat} {lo hi : Int} {ok : Mem → Prop} {e : Sto → Comp S} {f : Nat → S} {Q : List S → Mem → Prop} {E : Xc → Mem → Prop} (n : Nat) (hn : (hi - lo).toNat = n) (hok : ok M)
    (he : ∀ i, i < n → ∀ Q : S → Mem → Prop, Q (f i) M → e (ρ.set s (some (.d (.int (lo + (i : Nat)))))) M Q E) (q : Q ((List.range n).map f) M) :
    wLc (tgAt (.nm s) ρ) ok (fun _ M Q _ => Q true M) e (rngItems lo hi) [] M Q E := by
  unfold rngItems
  rw [hn]
  refine lc_gen (α := Nat) (tg := tgAt (.nm s) ρ) (cond := fun _ M Q _ => Q true M) (st := fun i => ρ.set s (some (.d (.int (lo + (i : Nat)))))) (p := fun _ => true) (f := f) hok (List.range n)
    (fun y _ K k => by simp only [tgAt, wTg]; exact k) (fun _ _ _ q => q) (fun y hy _ Q q => he y (List.mem_range.mp hy) Q q) (acc := []) ?_
  rw [List.filter_eq_self.mpr (fun _ _ => rfl)]
  simpa using q
/-- [x for x in data if c] -/
theorem lc_flt {s : Nat} {xs : List PD} {ok : Mem → Prop} {cond : Sto → Comp Bool} {e : Sto → Comp S} {p : PD → Bool} {f : PD → S} {Q : List S → Mem → Prop} {E : Xc → Mem → Prop} (hok : ok M)
    (hc : ∀ x ∈ xs, ∀ Q : Bool → Mem → Prop, Q (p x) M → cond (ρ.set s (some (.d x))) M Q E) (he : ∀ x ∈ xs, p x = true → ∀ Q : S → Mem → Prop, Q (f x) M → e (ρ.set s (some (.d x))) M Q E) (q : Q ((xs.filter p).map f) M) :
    wLc (tgAt (.nm s) ρ) ok cond e ((xs.map S.d).map Itm.one) [] M Q E := by
  rw [List.map_map]
  exact lc_gen (α := PD) (tg := tgAt (.nm s) ρ) (it := fun x => .one (.d x)) (st := fun x => ρ.set s (some (.d x))) (p := p) (f := f) hok xs
    (fun y _ K k => by simp only [tgAt, wTg]; exact k) hc he (acc := []) (by simpa using q)
end
/-- a row of ints by a function -/
def fL (n : Nat) (f : Nat → Int) : List S := (List.range n).map fun k => .d (.int (f k))
theorem fL_len {n f} : (fL n f).length = n := by simp [fL]
theorem fL_get {n f} {k : Nat} (h : k < n) : (fL n f)[k]? = some (.d (.int (f k))) := by simp [fL, h]
theorem fL_set {n f} {k : Nat} {v : Int} : (fL n f).set k (.d (.int v)) = fL n fun j => if j = k then v else f j := by
  apply List.ext_getElem?
  intro i
  rw [List.getElem?_set]
  unfold fL
  by_cases h : i < n
  · by_cases e : k = i
    · subst e
      simp [h]
    · have e' : ¬ i = k := fun z => e z.symm
      simp [h, e, e']
  · by_cases e : k = i
    · subst e
      simp [h]
    · simp [h, e]
theorem fL_data {n f} : fL n f = ((List.range n).map fun k => PyData.int (f k)).map S.d := by simp [fL]
theorem c_noneF {Γ : Env} : wC Γ .none = fun _ M Q _ => Q true M := by
  funext ρ M Q X
  simp only [wC]
theorem in_data {α : Type} {ys : List α} {g : α → PD} {R : List PD → Prop} (h : R (ys.map g)) : ∃ xs, dataAll (ys.map fun y => S.d (g y)) = some xs ∧ R xs := by
  refine ⟨ys.map g, ?_, h⟩
  have : (ys.map fun y => S.d (g y)) = (ys.map g).map S.d := by simp
  rw [this, dataAll_map]
theorem in_bools {α : Type} {ys : List α} {p : α → Bool} {R : List Bool → Prop} (h : R (ys.map p)) : ∃ xs, dataAll (ys.map fun y => S.d (.bool (p y))) = some xs ∧ ∃ bs : List Bool, xs.map S.d = bs.map B ∧ R bs :=
  in_data (g := fun y => .bool (p y)) ⟨ys.map p, by simp, h⟩
theorem in_ints {α : Type} {ys : List α} {p : α → Int} {R : List Int → Prop} (h : R (ys.map p)) : ∃ xs, dataAll (ys.map fun y => S.d (.int (p y))) = some xs ∧ ∃ bs : List Int, xs.map S.d = bs.map I ∧ R bs :=
  in_data (g := fun y => .int (p y)) ⟨ys.map p, by simp, h⟩
theorem pints_len {ns : List Int} : (pints ns).length = ns.length := by simp [pints]
theorem at_pints {ns : List Int} {k : Int} (h0 : 0 ≤ k) (h1 : k < ns.length) : ∃ v ∈ ns, atI (pints ns) k = some (.int v) := by
  have h : k.toNat < ns.length := by omega
  exact ⟨ns[k.toNat], List.getElem_mem h, at_of h0 (by simp [pints, h])⟩
theorem rng_len {lo hi : Int} {n : Nat} (h : (hi - lo).toNat ≤ n) (hn : n ≤ sizeLine) : (rngItems lo hi).length ≤ sizeLine := by
  rw [rngItems_length]
  omega
theorem itm_len {xs : List PD} : (List.map Itm.one (List.map S.d xs)).length = xs.length := by simp
end G

/-! Layer G, part 9h: rules that run from the head, so that what comes after is not looked at before its time. -/
namespace G
open PySem L2
section
variable {Γ : Env} {M : Mem} {L : List MO} {Q : S → Mem → Prop} {X : Xc → Mem → Prop} {i j : Int} {n k : Nat} {x y v : S} {a : Option S} {ρ : Sto} {O : Outs} {e b f : E} {t u : String}
theorem v_0 : wE Γ (.var 0) (some v :: ρ) M Q X = Q v M := by
  rw [e_var]
  simp only [List.getElem?_cons_zero]
  exact ex_v
theorem v_S : wE Γ (.var (n + 1)) (a :: ρ) M Q X = wE Γ (.var n) ρ M Q X := by
  rw [e_var, e_var]
  simp only [List.getElem?_cons_succ]
theorem n_0 {Q : Sto → Prop} : wTg (.nm 0) (.one v) (a :: ρ) Q = Q (some v :: ρ) := by
  rw [tg_nm]
  rfl
theorem n_S {Q : Sto → Prop} : wTg (.nm (n + 1)) (.one v) (a :: ρ) Q = wTg (.nm n) (.one v) ρ fun r => Q (a :: r) := by
  rw [tg_nm, tg_nm]
  rfl
/-- slot n holds nothing from now on -/
def wUn (n : Nat) (ρ : Sto) (Q : Sto → Prop) : Prop := Q (ρ.set n none)
theorem un_0 {Q : Sto → Prop} : wUn 0 (a :: ρ) Q = Q (none :: ρ) := rfl
theorem un_S {Q : Sto → Prop} : wUn (n + 1) (a :: ρ) Q = wUn n ρ fun r => Q (a :: r) := rfl
theorem s_aug' {o : Operator} : wS Γ (.aug n o e) ρ M O = wE Γ (.var n) ρ M (fun v M0 => wE Γ e ρ M (fun w M1 => wAug o v w fun r => wTg (.nm n) (.one r) ρ fun ρ1 => O.nx ρ1 M1) (fun x M1 => O.ex x ρ M1)) (fun _ _ => False) := by
  rw [s_aug, e_var]
  simp only [tg_nm]
theorem s_par' {m : Nat} : wS Γ (.par n m e b) ρ M O = wE Γ e ρ M (fun v M1 => wE Γ b ρ M1 (fun w M2 => wTg (.nm n) (.one v) ρ fun ρ1 => wTg (.nm m) (.one w) ρ1 fun ρ2 => O.nx ρ2 M2) (fun x M1 => O.ex x ρ M1)) (fun x M1 => O.ex x ρ M1) := by
  rw [s_par]
  simp only [tg_nm]
theorem h_cons' {c : Str} {s : Ss} {hs : Hs} {x : Xc} : wHs Γ (.cons c n s hs) x ρ M O = (∃ l, Γ.mro x.cls = some l ∧ if l.contains c = true then
        ∀ a dd, wTg (.nm n) (.one (.e a dd x.cls x.fld x.val)) ρ fun ρ0 => wSs { Γ with cur := some (.e a dd x.cls x.fld x.val) } s ρ0 M { nx := fun ρ1 M1 => wUn n ρ1 fun ρ2 => O.nx ρ2 M1, rt := O.rt, bk := fun ρ1 M1 => wUn n ρ1 fun ρ2 => O.bk ρ2 M1, ct := fun ρ1 M1 => wUn n ρ1 fun ρ2 => O.ct ρ2 M1, ex := fun _ _ _ => False }
      else wHs Γ hs x ρ M O) := by
  rw [h_cons]
  simp only [tg_nm, wUn]
/-! ### the memory -/
theorem xl_k {P : List S → Prop} : (∃ xs, (M ++ L)[M.length + n]? = some (.lst xs) ∧ P xs) = ∃ xs, L[n]? = some (.lst xs) ∧ P xs := by rw [m_get]
theorem xl_0 {P : List S → Prop} : (∃ xs, (M ++ L)[M.length]? = some (.lst xs) ∧ P xs) = ∃ xs, L[0]? = some (.lst xs) ∧ P xs := by rw [m_get0]
theorem xl_S {o : MO} {P : List S → Prop} : (∃ xs, (o :: L)[n + 1]? = some (.lst xs) ∧ P xs) = ∃ xs, L[n]? = some (.lst xs) ∧ P xs := by rw [List.getElem?_cons_succ]
theorem xl_z {ys : List S} {P : List S → Prop} : (∃ xs, (MO.lst ys :: L)[0]? = some (.lst xs) ∧ P xs) = P ys := by
  rw [List.getElem?_cons_zero]
  exact ex_lst
def wMod (k : Nat) (o : MO) (M : Mem) (P : Mem → Prop) : Prop := P (M.set k o)
def wMM (k : Nat) (o : MO) (L : List MO) (P : List MO → Prop) : Prop := P (L.set k o)
theorem md_k {o : MO} {P : Mem → Prop} : wMod (M.length + n) o (M ++ L) P = wMM n o L fun r => P (M ++ r) := by
  unfold wMod wMM
  rw [m_set]
theorem md_0 {o : MO} {P : Mem → Prop} : wMod M.length o (M ++ L) P = wMM 0 o L fun r => P (M ++ r) := by
  unfold wMod wMM
  rw [m_set0]
theorem mm_0 {o p : MO} {P : List MO → Prop} : wMM 0 o (p :: L) P = P (o :: L) := rfl
theorem mm_S {o p : MO} {P : List MO → Prop} : wMM (n + 1) o (p :: L) P = wMM n o L fun r => P (p :: r) := rfl
def wNew (M : Mem) (o : MO) (Q : S → Mem → Prop) : Prop := Q (.l M.length) (M ++ [o])
theorem nw_0 {o : MO} : wNew M o Q = Q (.l M.length) (M ++ [o]) := rfl
theorem nw_1 {o a1 : MO} : wNew (M ++ [a1]) o Q = Q (.l (M.length + 1)) (M ++ [a1, o]) := by simp [wNew]
theorem nw_2 {o a1 a2 : MO} : wNew (M ++ [a1, a2]) o Q = Q (.l (M.length + 2)) (M ++ [a1, a2, o]) := by simp [wNew]
theorem nw_3 {o a1 a2 a3 : MO} : wNew (M ++ [a1, a2, a3]) o Q = Q (.l (M.length + 3)) (M ++ [a1, a2, a3, o]) := by simp [wNew]
theorem nw_4 {o a1 a2 a3 a4 : MO} : wNew (M ++ [a1, a2, a3, a4]) o Q = Q (.l (M.length + 4)) (M ++ [a1, a2, a3, a4, o]) := by simp [wNew]
theorem nw_5 {o a1 a2 a3 a4 a5 : MO} : wNew (M ++ [a1, a2, a3, a4, a5]) o Q = Q (.l (M.length + 5)) (M ++ [a1, a2, a3, a4, a5, o]) := by simp [wNew]
theorem e_al' {g : F} : wE Γ (.al g) ρ M Q X = wF Γ g ρ M (fun vs M1 => wNew M1 (.lst vs) Q) X := e_al _ _ _ _ _
theorem ix_m' : wIx (.l k) (.d (.int i)) M Q = ∃ xs, M[k]? = some (.lst xs) ∧ ∃ v, atI xs i = some v ∧ Q v M := by
  rw [ix_m]
  simp only [exists_and_left]
theorem b_tupm' : wB1 .tuple (.l k) M Q = ∃ ys, M[k]? = some (.lst ys) ∧ ∃ xs : List PD, ys = xs.map .d ∧ Q (.d (.tuple xs)) M := by
  rw [b_tupm]
  apply propext
  constructor
  · rintro ⟨xs, h, q⟩; exact ⟨_, h, xs, rfl, q⟩
  · rintro ⟨_, h, xs, rfl, q⟩; exact ⟨xs, h, q⟩
theorem sl_m' {lo hi : Option Int} : wSl (.l k) lo hi M Q = ∃ ys, M[k]? = some (.lst ys) ∧ ∃ xs : List PD, ys = xs.map .d ∧ Q (.d (.list (cut xs lo hi))) M := by
  rw [sl_m]
  apply propext
  constructor
  · rintro ⟨xs, h, q⟩; exact ⟨_, h, xs, rfl, q⟩
  · rintro ⟨_, h, xs, rfl, q⟩; exact ⟨xs, h, q⟩
theorem ex_map {zs : List PD} {P : List PD → Prop} : (∃ xs : List PD, zs.map S.d = xs.map S.d ∧ P xs) = P zs := by
  simp only [sd_inj, exists_eq_left']
def wApp (x v : S) (M : Mem) (P : Mem → Prop) : Prop := ∃ k xs, x = .l k ∧ M[k]? = some (.lst xs) ∧ xs.length < sizeLine ∧ P (M.set k (.lst (xs ++ [v])))
theorem ap_l {P : Mem → Prop} : wApp (.l k) v M P = ∃ xs, M[k]? = some (.lst xs) ∧ xs.length < sizeLine ∧ wMod k (.lst (xs ++ [v])) M P := by
  unfold wApp wMod
  apply propext
  constructor
  · rintro ⟨j, xs, h, q⟩; cases h; exact ⟨xs, q⟩
  · rintro ⟨xs, q⟩; exact ⟨k, xs, rfl, q⟩
theorem s_app' : wS Γ (.app e b) ρ M O = wE Γ e ρ M (fun x M1 => isTyS M1 "list" x = some true ∧ wE Γ b ρ M1 (fun v M2 => wApp x v M2 fun M3 => O.nx ρ M3) (fun x M1 => O.ex x ρ M1)) (fun x M1 => O.ex x ρ M1) := s_app _ _ _ _ _
def wExt (x v : S) (M : Mem) (P : Mem → Prop) : Prop := ∃ k xs ys, x = .l k ∧ M[k]? = some (.lst xs) ∧ items M v = some ys ∧ isTyS M "list" v = some true ∧ xs.length + ys.length ≤ sizeLine ∧ P (M.set k (.lst (xs ++ ys)))
theorem xt_l {P : Mem → Prop} : wExt (.l k) v M P = ∃ xs, M[k]? = some (.lst xs) ∧ ∃ ys, items M v = some ys ∧ isTyS M "list" v = some true ∧ xs.length + ys.length ≤ sizeLine ∧ wMod k (.lst (xs ++ ys)) M P := by
  unfold wExt wMod
  apply propext
  constructor
  · rintro ⟨j, xs, ys, h, q1, q⟩; cases h; exact ⟨xs, q1, ys, q⟩
  · rintro ⟨xs, q1, ys, q⟩; exact ⟨k, xs, ys, rfl, q1, q⟩
theorem s_ext' : wS Γ (.ext e b) ρ M O = wE Γ e ρ M (fun x M1 => isTyS M1 "list" x = some true ∧ wE Γ b ρ M1 (fun v M2 => wExt x v M2 fun M3 => O.nx ρ M3) (fun x M1 => O.ex x ρ M1)) (fun x M1 => O.ex x ρ M1) := s_ext _ _ _ _ _
def wIns (x y v : S) (M : Mem) (P : Mem → Prop) : Prop := ∃ k xs j, x = .l k ∧ y = I (j : Nat) ∧ M[k]? = some (.lst xs) ∧ j ≤ xs.length ∧ xs.length < sizeLine ∧ P (M.set k (.lst (xs.take j ++ v :: xs.drop j)))
theorem in_l {P : Mem → Prop} : wIns (.l k) (.d (.int i)) v M P = ∃ xs, M[k]? = some (.lst xs) ∧ (0 ≤ i ∧ i ≤ xs.length) ∧ xs.length < sizeLine ∧ wMod k (.lst (xs.take i.toNat ++ v :: xs.drop i.toNat)) M P := by
  unfold wIns wMod
  apply propext
  constructor
  · rintro ⟨j, xs, m, h, h2, q1, q2, q3, q⟩
    cases h
    cases h2
    exact ⟨xs, q1, ⟨by omega, by omega⟩, q3, q⟩
  · rintro ⟨xs, q1, ⟨q2, q3⟩, q4, q⟩
    obtain ⟨m, rfl⟩ := Int.eq_ofNat_of_zero_le q2
    exact ⟨k, xs, m, rfl, rfl, q1, by omega, q4, q⟩
theorem s_ins' : wS Γ (.ins e b f) ρ M O = wE Γ e ρ M (fun x M1 => isTyS M1 "list" x = some true ∧ wE Γ b ρ M1 (fun y M2 => wE Γ f ρ M2 (fun v M3 => wIns x y v M3 fun M4 => O.nx ρ M4) (fun x M1 => O.ex x ρ M1)) (fun x M1 => O.ex x ρ M1)) (fun x M1 => O.ex x ρ M1) := s_ins _ _ _ _ _ _
theorem p_put' {P : Mem → Prop} : wPut (.l k) (.d (.int i)) v M P = ∃ xs, M[k]? = some (.lst xs) ∧ ∃ j, ixN xs.length i = some j ∧ wMod k (.lst (xs.set j v)) M P := by
  rw [p_put]
  simp only [exists_and_left, wMod]
theorem xv_0 {P : S → Prop} : (∃ w, (some v :: ρ)[0]? = some (some w) ∧ P w) = P v := by
  simp only [List.getElem?_cons_zero]
  exact ex_v
theorem xv_S {P : S → Prop} : (∃ w, (a :: ρ)[n + 1]? = some (some w) ∧ P w) = ∃ w, ρ[n]? = some (some w) ∧ P w := by
  simp only [List.getElem?_cons_succ]
theorem da_snoc {c : PD} {ys : List PD} {P : List PD → Prop} : (∃ xs, dataAll (ys.map S.d ++ [S.d c]) = some xs ∧ P xs) = P (ys ++ [c]) := by
  have : ys.map S.d ++ [S.d c] = (ys ++ [c]).map S.d := by simp
  rw [this, dataAll_map]
  exact ex_self
theorem da_app {zs ys : List PD} {P : List PD → Prop} : (∃ xs, dataAll (ys.map S.d ++ zs.map S.d) = some xs ∧ P xs) = P (ys ++ zs) := by
  have : ys.map S.d ++ zs.map S.d = (ys ++ zs).map S.d := by simp
  rw [this, dataAll_map]
  exact ex_self
/-! ### types, truth, data -/
def wTy (t : String) (x : S) (M : Mem) (Q : S → Mem → Prop) : Prop := ∃ c, isTyS M t x = some c ∧ Q (B c) M
theorem wt_d {x : PD} : wTy t (.d x) M Q = Q (B (isTy t x)) M := by
  unfold wTy
  rw [ty_d]
  exact ex_self
theorem wt_k : wTy t (.l (M.length + n)) (M ++ L) Q = ∃ c, tyOf t L[n]? = some c ∧ Q (B c) (M ++ L) := by
  unfold wTy
  rw [ty_k]
theorem wt_k0 : wTy t (.l M.length) (M ++ L) Q = ∃ c, tyOf t L[0]? = some c ∧ Q (B c) (M ++ L) := wt_k (n := 0)
theorem to_S {o : MO} {P : Bool → Prop} : (∃ c, tyOf t (o :: L)[n + 1]? = some c ∧ P c) = ∃ c, tyOf t L[n]? = some c ∧ P c := by rw [List.getElem?_cons_succ]
theorem to_z {ys : List S} {P : Bool → Prop} : (∃ c, tyOf t (MO.lst ys :: L)[0]? = some c ∧ P c) = P (t == "list") := by
  rw [List.getElem?_cons_zero, to_1]
  exact ex_self
theorem e_isI1 : wE Γ (.isI e [t]) ρ M Q X = wE Γ e ρ M (fun x M1 => wTy t x M1 Q) X := by
  rw [e_isI]
  congr 1
  funext x M1
  unfold wTy
  cases h : isTyS M1 t x <;> simp [h]
theorem e_isI2 : wE Γ (.isI e [t, u]) ρ M Q X = wE Γ e ρ M (fun x M1 => ∃ c d, isTyS M1 t x = some c ∧ isTyS M1 u x = some d ∧ Q (B (c || d)) M1) X := by
  rw [e_isI]
  congr 1
  funext x M1
  cases h : isTyS M1 t x <;> cases h2 : isTyS M1 u x <;> simp [h, h2]
theorem ex_tb {c : Bool} {P : Bool → Prop} : (∃ k, truth M (.d (.bool c)) = some k ∧ P k) = P c := ex_k
theorem ex_ti {P : Bool → Prop} : (∃ k, truth M (.d (.int i)) = some k ∧ P k) = P (i != 0) := ex_k
theorem ex_tn {P : Bool → Prop} : (∃ k, truth M (.d .none) = some k ∧ P k) = P false := ex_k
theorem ex_tt {xs : List PD} {P : Bool → Prop} : (∃ k, truth M (.d (.tuple xs)) = some k ∧ P k) = P (!xs.isEmpty) := ex_k
theorem ex_tl {xs : List PD} {P : Bool → Prop} : (∃ k, truth M (.d (.list xs)) = some k ∧ P k) = P (!xs.isEmpty) := ex_k
theorem ex_i {P : Int → Prop} : (∃ k, int? (.d (.int i)) = some k ∧ P k) = P i := ex_self
theorem ex_B {c : Bool} {P : Bool → Prop} : (∃ k, S.d (.bool c) = B k ∧ P k) = P c := by
  apply propext
  constructor
  · rintro ⟨k, h, q⟩; cases h; exact q
  · exact fun q => ⟨c, rfl, q⟩
theorem xd_nil {P : List PD → Prop} : (∃ xs, dataAll [] = some xs ∧ P xs) = P [] := ex_self
theorem xd_cons {c : PD} {r : List S} {P : List PD → Prop} : (∃ xs, dataAll (.d c :: r) = some xs ∧ P xs) = ∃ xs, dataAll r = some xs ∧ P (c :: xs) := by
  rw [da_cons]
  cases dataAll r <;> simp
theorem xd_map {ys : List PD} {P : List PD → Prop} : (∃ xs, dataAll (ys.map S.d) = some xs ∧ P xs) = P ys := by
  rw [da_map]
  exact ex_self
theorem xi_t {ys : List PD} {P : List S → Prop} : (∃ xs, items M (.d (.tuple ys)) = some xs ∧ P xs) = P (ys.map .d) := ex_self
theorem xi_l {ys : List PD} {P : List S → Prop} : (∃ xs, items M (.d (.list ys)) = some xs ∧ P xs) = P (ys.map .d) := ex_self
theorem xi_m {P : List S → Prop} : (∃ xs, items M (.l k) = some xs ∧ P xs) = ∃ xs, M[k]? = some (.lst xs) ∧ P xs := by
  unfold items
  dsimp only
  cases h : M[k]? with
  | none => simp
  | some o => cases o <;> simp
theorem f_cat' {Q : List S → Mem → Prop} : wF Γ (.cat e b) ρ M Q X = wE Γ e ρ M (fun x M1 => wE Γ b ρ M1 (fun y M2 => isTyS M2 "list" x = some true ∧ isTyS M2 "list" y = some true ∧ ∃ xs, items M2 x = some xs ∧ ∃ ys, items M2 y = some ys ∧ xs.length + ys.length ≤ sizeLine ∧ Q (xs ++ ys) M2) X) X := by
  rw [f_cat]
  simp only [exists_and_left]
theorem f_rep' {Q : List S → Mem → Prop} : wF Γ (.rep e b) ρ M Q X = wE Γ e ρ M (fun x M1 => wE Γ b ρ M1 (fun y M2 => isTyS M2 "list" x = some true ∧ ∃ xs, items M2 x = some xs ∧ ∃ j, int? y = some j ∧ (-(2 ^ 63) ≤ j ∧ j < 2 ^ 63 ∧ xs.length * j.toNat ≤ sizeLine) ∧ Q (List.replicate j.toNat xs).flatten M2) X) X := by
  rw [f_rep]
  have hy : ∀ (y : S) (j : Int), (y = I j) = (int? y = some j) := fun y j => by
    apply propext
    constructor
    · rintro rfl; rfl
    · intro h
      unfold int? at h
      split at h
      · cases h; rfl
      · cases h
  simp only [exists_and_left, hy]
theorem f_slice' {Q : List S → Mem → Prop} {lo hi : Oe} : wF Γ (.slice e lo hi) ρ M Q X = wE Γ e ρ M (fun x M1 => wO Γ lo ρ M1 (fun l M2 => wO Γ hi ρ M2 (fun h M3 => isTyS M3 "list" x = some true ∧ ∃ xs, items M3 x = some xs ∧ Q (cut xs l h) M3) X) X) X := by
  rw [f_slice]
  simp only [exists_and_left]
theorem b_repr' : wB1 .repr x M Q = ∃ z, pd M x = some z ∧ RpOk z ∧ Q (.d (.str z.shown)) M := rfl
theorem xp_d {z : PD} {P : PD → Prop} : (∃ y, pd M (.d z) = some y ∧ P y) = P z := ex_self
end
end G

/-! Layer G, part 9i: enumerate; rows whose neighbours are related. -/
namespace G
open PySem L2
section
variable {M : Mem} {ρ : Sto} {ok : Mem → Prop} {E : Xc → Mem → Prop}
theorem enum_map {xs : List PD} : enumItems (xs.map S.d) = xs.zipIdx.map fun p => .many [I (p.2 : Nat), .d p.1] := by
  unfold enumItems
  rw [List.zipIdx_map, List.map_map]
  rfl
/-- [e for i, x in enumerate(data)] -/
theorem lc_enum {s1 s2 : Nat} {xs : List PD} {e : Sto → Comp S} {f : Nat → PD → S} {Q : List S → Mem → Prop} (hok : ok M)
    (he : ∀ i x, xs[i]? = some x → ∀ Q : S → Mem → Prop, Q (f i x) M → e ((ρ.set s1 (some (.d (.int (i : Nat))))).set s2 (some (.d x))) M Q E) (q : Q (xs.zipIdx.map fun p => f p.2 p.1) M) :
    wLc (tgAt (.tp [.nm s1, .nm s2]) ρ) ok (fun _ M Q _ => Q true M) e (enumItems (xs.map S.d)) [] M Q E := by
  rw [enum_map]
  refine lc_gen (α := PD × Nat) (tg := tgAt (.tp [.nm s1, .nm s2]) ρ) (cond := fun _ M Q _ => Q true M) (st := fun p => (ρ.set s1 (some (.d (.int (p.2 : Nat))))).set s2 (some (.d p.1))) (p := fun _ => true) (f := fun p => f p.2 p.1) hok xs.zipIdx
    (fun y _ K k => ?_) (fun _ _ _ q => q) (fun y hy _ Q q => ?_) (acc := []) ?_
  · simp only [tgAt, wTg, wTgs]
    exact ⟨rfl, k⟩
  · obtain ⟨x, i⟩ := y
    have hm := List.mem_zipIdx_iff_getElem?.mp hy
    exact he i x hm Q q
  · rw [List.filter_eq_self.mpr (fun _ _ => rfl)]
    simpa using q
end
/-- each two neighbours are related -/
def nextB {α : Type} (f : α → α → Bool) : List α → Bool
  | a :: b :: r => f a b && nextB f (b :: r)
  | _ => true
theorem nextB_range {α : Type} (d : α) (f : α → α → Bool) : ∀ xs : List α, nextB f xs = (List.range (xs.length - 1)).all fun i => f (xs.getD i d) (xs.getD (i + 1) d)
  | [] => rfl
  | [a] => rfl
  | a :: b :: r => by
    rw [nextB, nextB_range d f (b :: r)]
    have e : (a :: b :: r).length - 1 = ((b :: r).length - 1) + 1 := by simp
    rw [e, List.range_succ_eq_map, List.all_cons, List.all_map]
    rfl
theorem nextB_iff {α : Type} {f : α → α → Bool} {xs : List α} : nextB f xs = true ↔ ∀ (i : Nat) (a b : α), xs[i]? = some a → xs[i + 1]? = some b → f a b = true := by
  induction xs with
  | nil => exact ⟨fun _ i a b h => by simp at h, fun _ => rfl⟩
  | cons x r ih =>
    cases r with
    | nil => exact ⟨fun _ i a b _ h => by simp at h, fun _ => rfl⟩
    | cons y r =>
      rw [nextB, Bool.and_eq_true, ih]
      constructor
      · rintro ⟨h1, h2⟩ i a b ha hb
        cases i with
        | zero =>
          simp at ha hb
          subst ha hb
          exact h1
        | succ i => exact h2 i a b (by simpa using ha) (by simpa using hb)
      · intro h
        exact ⟨h 0 x y rfl rfl, fun i a b ha hb => h (i + 1) a b (by simpa using ha) (by simpa using hb)⟩
theorem all_iff_get {α : Type} {p : α → Bool} {xs : List α} : xs.all p = true ↔ ∀ (i : Nat) (a : α), xs[i]? = some a → p a = true := by
  rw [List.all_eq_true]
  constructor
  · exact fun h i a e => h a (List.mem_of_getElem? e)
  · intro h a ha
    obtain ⟨i, hi⟩ := List.getElem?_of_mem ha
    exact h i a hi
theorem zip_all_iff {α β : Type} {f : α → β → Bool} {xs : List α} {ys : List β} : ((xs.zip ys).all fun p => f p.1 p.2) = true ↔ ∀ (i : Nat) (a : α) (b : β), xs[i]? = some a → ys[i]? = some b → f a b = true := by
  rw [all_iff_get]
  constructor
  · intro h i a b ha hb
    exact h i (a, b) (by rw [List.getElem?_zip_eq_some]; exact ⟨ha, hb⟩)
  · intro h i p hp
    rw [List.getElem?_zip_eq_some] at hp
    exact h i p.1 p.2 hp.1 hp.2
/-! ### kinds -/
theorem isT_int_none  : isTy "int" .none = false := rfl
theorem isT_int_bool {b : Bool} : isTy "int" (.bool b) = true := rfl
theorem isT_int_int {i : Int} : isTy "int" (.int i) = true := rfl
theorem isT_int_str {s : Str} : isTy "int" (.str s) = false := rfl
theorem isT_int_list {xs : List PD} : isTy "int" (.list xs) = false := rfl
theorem isT_int_tuple {xs : List PD} : isTy "int" (.tuple xs) = false := rfl
theorem isT_int_dict {kvs : List (PD × PD)} : isTy "int" (.dict kvs) = false := rfl
theorem isT_bool_none  : isTy "bool" .none = false := rfl
theorem isT_bool_bool {b : Bool} : isTy "bool" (.bool b) = true := rfl
theorem isT_bool_int {i : Int} : isTy "bool" (.int i) = false := rfl
theorem isT_bool_str {s : Str} : isTy "bool" (.str s) = false := rfl
theorem isT_bool_list {xs : List PD} : isTy "bool" (.list xs) = false := rfl
theorem isT_bool_tuple {xs : List PD} : isTy "bool" (.tuple xs) = false := rfl
theorem isT_bool_dict {kvs : List (PD × PD)} : isTy "bool" (.dict kvs) = false := rfl
theorem isT_str_none  : isTy "str" .none = false := rfl
theorem isT_str_bool {b : Bool} : isTy "str" (.bool b) = false := rfl
theorem isT_str_int {i : Int} : isTy "str" (.int i) = false := rfl
theorem isT_str_str {s : Str} : isTy "str" (.str s) = true := rfl
theorem isT_str_list {xs : List PD} : isTy "str" (.list xs) = false := rfl
theorem isT_str_tuple {xs : List PD} : isTy "str" (.tuple xs) = false := rfl
theorem isT_str_dict {kvs : List (PD × PD)} : isTy "str" (.dict kvs) = false := rfl
theorem isT_list_none  : isTy "list" .none = false := rfl
theorem isT_list_bool {b : Bool} : isTy "list" (.bool b) = false := rfl
theorem isT_list_int {i : Int} : isTy "list" (.int i) = false := rfl
theorem isT_list_str {s : Str} : isTy "list" (.str s) = false := rfl
theorem isT_list_list {xs : List PD} : isTy "list" (.list xs) = true := rfl
theorem isT_list_tuple {xs : List PD} : isTy "list" (.tuple xs) = false := rfl
theorem isT_list_dict {kvs : List (PD × PD)} : isTy "list" (.dict kvs) = false := rfl
theorem isT_tuple_none  : isTy "tuple" .none = false := rfl
theorem isT_tuple_bool {b : Bool} : isTy "tuple" (.bool b) = false := rfl
theorem isT_tuple_int {i : Int} : isTy "tuple" (.int i) = false := rfl
theorem isT_tuple_str {s : Str} : isTy "tuple" (.str s) = false := rfl
theorem isT_tuple_list {xs : List PD} : isTy "tuple" (.list xs) = false := rfl
theorem isT_tuple_tuple {xs : List PD} : isTy "tuple" (.tuple xs) = true := rfl
theorem isT_tuple_dict {kvs : List (PD × PD)} : isTy "tuple" (.dict kvs) = false := rfl
theorem isT_dict_none  : isTy "dict" .none = false := rfl
theorem isT_dict_bool {b : Bool} : isTy "dict" (.bool b) = false := rfl
theorem isT_dict_int {i : Int} : isTy "dict" (.int i) = false := rfl
theorem isT_dict_str {s : Str} : isTy "dict" (.str s) = false := rfl
theorem isT_dict_list {xs : List PD} : isTy "dict" (.list xs) = false := rfl
theorem isT_dict_tuple {xs : List PD} : isTy "dict" (.tuple xs) = false := rfl
theorem isT_dict_dict {kvs : List (PD × PD)} : isTy "dict" (.dict kvs) = true := rfl
theorem mm_t {t L : List MO} {o : MO} {P : List MO → Prop} : wMM t.length o (t ++ L) P = wMM 0 o L fun r => P (t ++ r) := by
  unfold wMM
  rw [m_set0]
theorem mm_tk {t L : List MO} {n : Nat} {o : MO} {P : List MO → Prop} : wMM (t.length + n) o (t ++ L) P = wMM n o L fun r => P (t ++ r) := by
  unfold wMM
  rw [m_set]
theorem gt_t {t L : List MO} : (t ++ L)[t.length]? = L[0]? := m_get0
theorem gt_tk {t L : List MO} {n : Nat} : (t ++ L)[t.length + n]? = L[n]? := m_get
theorem to_t {t L : List MO} {u : String} {P : Bool → Prop} : (∃ c, tyOf u (t ++ L)[t.length]? = some c ∧ P c) = ∃ c, tyOf u L[0]? = some c ∧ P c := by rw [gt_t]
/-- min of a row of small ints -/
theorem min_ints {M : Mem} {Q : S → Mem → Prop} {a : Int} {ns : List Int} (h : ∀ z ∈ a :: ns, z.natAbs < 1000000000000) (hl : ns.length ≤ 1000) (q : Q (I (ns.foldl min a)) M) : wB1 .min (.d (.list (.int a :: pints ns))) M Q := by
  refine ⟨.int a, pints ns, rfl, ⟨?_, ?_, ?_⟩, ?_⟩
  · refine (Rp.lst (w := 41) (d := 0) (n := 1001) (fun x hx => ?_) (by rw [List.length_cons, pints_len]; omega)).okd (by omega)
    rcases List.mem_cons.mp hx with rfl | hx
    · exact Rp.int (h a List.mem_cons_self)
    · obtain ⟨z, hz, rfl⟩ := List.mem_map.mp hx
      exact Rp.int (h z (List.mem_cons_of_mem _ hz))
  · have g : ∀ x ∈ PyData.int a :: pints ns, ∃ i, x = .int i := fun x hx => by
      rcases List.mem_cons.mp hx with rfl | hx
      · exact ⟨_, rfl⟩
      · obtain ⟨z, _, rfl⟩ := List.mem_map.mp hx
        exact ⟨z, rfl⟩
    intro x hx y hy
    obtain ⟨i, rfl⟩ := g x hx
    obtain ⟨j, rfl⟩ := g y hy
    rfl
  · intro x hx e
    subst e
    rcases List.mem_cons.mp hx with hx | hx
    · cases hx
    · obtain ⟨z, _, e⟩ := List.mem_map.mp hx
      cases e
  · have := PySem.W.minD_ints a ns
    unfold pints
    rw [this]
    exact q
theorem foldl_min : ∀ (ns : List Int) (a : Int), ns.foldl min a ≤ a ∧ (∀ z ∈ ns, ns.foldl min a ≤ z) ∧ ns.foldl min a ∈ a :: ns
  | [], a => ⟨Int.le_refl _, fun _ h => (nomatch h), by simp⟩
  | b :: ns, a => by
    obtain ⟨h1, h2, h3⟩ := foldl_min ns (min a b)
    rw [List.foldl_cons]
    refine ⟨by omega, fun z hz => ?_, ?_⟩
    · rcases List.mem_cons.mp hz with rfl | hz
      · omega
      · exact h2 z hz
    · rcases List.mem_cons.mp h3 with e | h3
      · rw [e]
        by_cases c : a ≤ b
        · rw [Int.min_eq_left c]
          exact List.mem_cons_self
        · rw [Int.min_eq_right (by omega)]
          exact List.mem_cons_of_mem _ List.mem_cons_self
      · exact List.mem_cons_of_mem _ (List.mem_cons_of_mem _ h3)
end G

/-! Layer G, part 9j: tuples that hold lists; what is read backwards. -/
namespace G
open PySem L2
section
variable {Γ : Env} {M : Mem} {L : List MO} {Q : S → Mem → Prop} {X : Xc → Mem → Prop} {i j : Int} {n k : Nat} {x y v : S} {ρ : Sto} {O : Outs} {e : E} {es : Es} {ts : List Tg}
theorem e_mtup' : wE Γ (.mtup es) ρ M Q X = wEs Γ es ρ M (fun vs M1 => vs.length ≤ sizeLine ∧ wNew M1 (.tpl vs) Q) X := e_mtup _ _ _ _ _
theorem ex_l {P : Nat → Prop} : (∃ m, S.l k = S.l m ∧ P m) = P k := by
  apply propext
  constructor
  · rintro ⟨m, e, h⟩
    cases e
    exact h
  · exact fun h => ⟨k, rfl, h⟩
theorem ex_tpl {xs : List S} {P : List S → Prop} : (∃ ss, some (MO.tpl xs) = some (MO.tpl ss) ∧ P ss) = P xs := by
  apply propext
  constructor
  · rintro ⟨m, e, h⟩
    cases e
    exact h
  · exact fun h => ⟨xs, rfl, h⟩
theorem xp_k {P : List S → Prop} : (∃ xs, (M ++ L)[M.length + n]? = some (.tpl xs) ∧ P xs) = ∃ xs, L[n]? = some (.tpl xs) ∧ P xs := by rw [m_get]
theorem xp_0 {P : List S → Prop} : (∃ xs, (M ++ L)[M.length]? = some (.tpl xs) ∧ P xs) = ∃ xs, L[0]? = some (.tpl xs) ∧ P xs := by rw [m_get0]
theorem xp_S {o : MO} {P : List S → Prop} : (∃ xs, (o :: L)[n + 1]? = some (.tpl xs) ∧ P xs) = ∃ xs, L[n]? = some (.tpl xs) ∧ P xs := by rw [List.getElem?_cons_succ]
theorem xp_z {ys : List S} {P : List S → Prop} : (∃ xs, (MO.tpl ys :: L)[0]? = some (.tpl xs) ∧ P xs) = P ys := by
  rw [List.getElem?_cons_zero]
  exact ex_tpl
theorem rv_t {xs : List PD} : wRev (.d (.tuple xs)) M Q = Q (.d (.tuple xs.reverse)) M := rfl
theorem rv_l {xs : List PD} : wRev (.d (.list xs)) M Q = Q (.d (.list xs.reverse)) M := rfl
theorem rv_m : wRev (.l k) M Q = ∃ xs, M[k]? = some (.lst xs) ∧ ∃ ds, dataAll xs = some ds ∧ Q (.d (.list ds.reverse)) M := by
  apply propext
  constructor
  · rintro ⟨xs, e, h⟩
    exact ⟨_, e, xs, dataAll_map xs, h⟩
  · rintro ⟨xs, e, ds, e2, h⟩
    exact ⟨ds, by rw [e, dataAll_some e2], h⟩
theorem po_m : wPop (.l k) M Q = ∃ xs, M[k]? = some (.lst xs) ∧ ∃ v, xs.getLast? = some v ∧ Q v (M.set k (.lst xs.dropLast)) := by
  unfold wPop
  simp only [exists_and_left, List.getLast?_eq_getElem?]
theorem c_isbb {a b : Bool} : wCmp .Is (.d (.bool a)) (.d (.bool b)) M Q = Q (B (a == b)) M := rfl
theorem c_isnbb {a b : Bool} : wCmp .IsNot (.d (.bool a)) (.d (.bool b)) M Q = Q (B (!(a == b))) M := rfl
end
end G

/-! Layer G, part 9k: slices by places, ranges that go down, comprehensions with two fors. -/
namespace G
open PySem L2
section
variable {α : Type} {xs : List α}
theorem cut_pre {k : Int} (h0 : 0 ≤ k) (h : k ≤ xs.length) : cut xs none (some k) = xs.take k.toNat := by
  obtain ⟨k, rfl⟩ := Int.eq_ofNat_of_zero_le h0
  unfold cut
  rw [HT.sIx_nat, HT.sIx_none, Int.toNat_natCast, List.drop_zero, Nat.sub_zero, Nat.min_eq_left (by omega)]
theorem cut_suf {k : Int} (h0 : 0 ≤ k) (h : k ≤ xs.length) : cut xs (some k) none = xs.drop k.toNat := by
  obtain ⟨k, rfl⟩ := Int.eq_ofNat_of_zero_le h0
  unfold cut
  rw [HT.sIx_nat, HT.sIx_none, Int.toNat_natCast, Nat.min_eq_left (by omega), List.take_of_length_le (by rw [List.length_drop]; omega)]
theorem cut_mid {i j : Int} (h0 : 0 ≤ i) (h1 : i ≤ j) (h : i ≤ xs.length) : cut xs (some i) (some j) = (xs.drop i.toNat).take (j - i).toNat := by
  obtain ⟨i, rfl⟩ := Int.eq_ofNat_of_zero_le h0
  obtain ⟨j, rfl⟩ := Int.eq_ofNat_of_zero_le (show 0 ≤ j by omega)
  unfold cut
  have e1 : min i xs.length = i := Nat.min_eq_left (by omega)
  have e : ((j : Int) - (i : Int)).toNat = j - i := by omega
  rw [HT.sIx_nat, HT.sIx_nat, Int.toNat_natCast, e1, e]
  by_cases c : j ≤ xs.length
  · rw [Nat.min_eq_left c]
  · rw [List.take_of_length_le (by rw [List.length_drop]; omega), List.take_of_length_le (by rw [List.length_drop]; omega)]
theorem pints_app {a b : List Int} : pints (a ++ b) = pints a ++ pints b := by simp [pints]
theorem pints_cons {a : Int} {b : List Int} : pints (a :: b) = .int a :: pints b := rfl
theorem pints_take {a : List Int} {k : Nat} : (pints a).take k = pints (a.take k) := by simp [pints]
theorem pints_drop {a : List Int} {k : Nat} : (pints a).drop k = pints (a.drop k) := by simp [pints]
theorem pints_rev {a : List Int} : (pints a).reverse = pints a.reverse := by simp [pints]
theorem pints_set {a : List Int} {k : Nat} {v : Int} : (pints a).set k (.int v) = pints (a.set k v) := by simp [pints, List.map_set]
theorem pints_inj {a b : List Int} : pints a = pints b ↔ a = b := by
  constructor
  · intro h
    unfold pints at h
    exact (List.map_inj_right fun x y e => by cases e; rfl).mp h
  · exact fun h => by rw [h]
theorem eqv_pints : ∀ {a b : List Int}, PyData.eqvAll (pints a) (pints b) = decide (a = b)
  | [], [] => by simp [pints, PyData.eqvAll]
  | [], b :: bs => by simp [pints, PyData.eqvAll]
  | a :: as, [] => by simp [pints, PyData.eqvAll]
  | a :: as, b :: bs => by
    rw [pints_cons, pints_cons, PyData.eqvAll, eqv_int, eqv_pints, Bool.eq_iff_iff]
    simp
theorem plain_pints : ∀ {a : List Int}, PyData.plainAll (pints a) = true ∧ PyData.depthAll (pints a) = 0
  | [] => ⟨rfl, rfl⟩
  | a :: as => by
    obtain ⟨h1, h2⟩ := plain_pints (a := as)
    rw [pints_cons]
    exact ⟨by simp [PyData.plainAll, PyData.plain, h1], by simp [PyData.depthAll, PyData.depth, h2]⟩
theorem okd_tints {a : List Int} : okD (.tuple (pints a)) = true := by
  obtain ⟨h1, h2⟩ := plain_pints (a := a)
  simp [okD, PyData.plain, PyData.depth, h1, h2]
theorem okd_lints {a : List Int} : okD (.list (pints a)) = true := by
  obtain ⟨h1, h2⟩ := plain_pints (a := a)
  simp [okD, PyData.plain, PyData.depth, h1, h2]
theorem c_eqT {M : Mem} {Q : S → Mem → Prop} {a b : List Int} : wCmp .Eq (.d (.tuple (pints a))) (.d (.tuple (pints b))) M Q = Q (B (decide (a = b))) M := by
  rw [c_eq_t, okd_tints, okd_tints]
  show (true = true ∧ true = true ∧ Q (B (PyData.eqvAll (pints a) (pints b))) M) = _
  rw [eqv_pints]
  simp
theorem c_neT {M : Mem} {Q : S → Mem → Prop} {a b : List Int} : wCmp .NotEq (.d (.tuple (pints a))) (.d (.tuple (pints b))) M Q = Q (B (!decide (a = b))) M := by
  rw [c_ne, okd_tints, okd_tints]
  show (true = true ∧ true = true ∧ Q (B (!PyData.eqvAll (pints a) (pints b))) M) = _
  rw [eqv_pints]
  simp
/-- lists that may change, compared -/
theorem c_neM {M : Mem} {Q : S → Mem → Prop} {j k : Nat} {a b : List Int} (h1 : M[j]? = some (.lst ((pints a).map .d))) (h2 : M[k]? = some (.lst ((pints b).map .d))) (q : Q (B (!decide (a = b))) M) : wCmp .NotEq (.l j) (.l k) M Q := by
  have e1 : pd M (.l j) = some (.list (pints a)) := by
    unfold pd
    dsimp only
    rw [h1]
    simp [dataAll_map]
  have e2 : pd M (.l k) = some (.list (pints b)) := by
    unfold pd
    dsimp only
    rw [h2]
    simp [dataAll_map]
  unfold wCmp
  simp only [e1, e2]
  refine ⟨okd_lints, okd_lints, ?_⟩
  show Q (B (!PyData.eqvAll (pints a) (pints b))) M
  rw [eqv_pints]
  exact q
theorem rng_3 {M : Mem} {Q : List Itm × (Mem → Prop) → Mem → Prop} {a b c : Int} : wRng [.d (.int a), .d (.int b), .d (.int c)] M Q = ((rngOk a b ∧ c ≠ 0 ∧ c.natAbs < 2 ^ 30) ∧ Q (rng3Items a c (rngLen a b c), fun _ => True) M) := rfl
/-- for i in range(hi, lo - 1, -1) -/
theorem for_rng3 {M : Mem} {ρ : Sto} {body : Sto → Mem → Outs → Prop} {O : Outs} {s : Nat} {lo c : Int} {n : Nat} (mb : MonoS body) (P : Nat → Sto → Mem → Prop) (h0 : P 0 ρ M) (hend : ∀ ρ M, P n ρ M → O.nx ρ M)
    (hs : ∀ i ρ M, i < n → P i ρ M → body (ρ.set s (some (.d (.int (lo + (i : Nat) * c))))) M (GTurn O (P (i + 1)))) : wFor (wTg (.nm s)) (fun _ => True) body (rng3Items lo c n) ρ M O := by
  have hl : (rng3Items lo c n).length = n := by simp [rng3Items]
  refine for_ix mb P h0 (fun _ _ _ _ => trivial) (by rw [hl]; exact hend) fun i x ρ M e p => ?_
  unfold rng3Items at e
  rw [List.getElem?_map] at e
  cases e2 : (List.range n)[i]? with
  | none => rw [e2] at e; cases e
  | some v =>
    rw [e2] at e
    cases e
    obtain ⟨h1, h2⟩ := List.getElem?_eq_some_iff.mp e2
    rw [List.length_range] at h1
    rw [List.getElem_range] at h2
    subst h2
    simp only [wTg]
    exact hs i ρ M h1 p
end
theorem lcK_gen {α : Type} {tg : Itm → (Sto → Prop) → Prop} {ok : Mem → Prop} {cond : Sto → Comp Bool} {e : Sto → Comp S} {it : α → Itm} {st : α → Sto} {p : α → Bool} {f : α → S} {M : Mem} {Q : List S → Mem → Prop} (hok : ok M) : ∀ (ys : List α)
    (ht : ∀ y ∈ ys, ∀ K : Sto → Prop, K (st y) → tg (it y) K) (hc : ∀ y ∈ ys, ∀ Q : Bool → Mem → Prop, Q (p y) M → cond (st y) M Q (fun _ _ => False)) (he : ∀ y ∈ ys, p y = true → ∀ Q : S → Mem → Prop, Q (f y) M → e (st y) M Q (fun _ _ => False)) {acc : List S}
    (hz : acc.length + ys.length ≤ sizeLine) (q : Q (acc ++ (ys.filter p).map f) M), wLcK tg ok cond e (ys.map it) acc M Q
  | [], _, _, _, acc, _, q => by
    simp only [List.map_nil, wLcK]
    exact ⟨hok, by simpa using q⟩
  | y :: ys, ht, hc, he, acc, hz, q => by
    simp only [List.map_cons, wLcK]
    rw [List.length_cons] at hz
    refine ⟨hok, ht y List.mem_cons_self _ (hc y List.mem_cons_self _ ?_)⟩
    have ih := fun (acc : List S) (hz : acc.length + ys.length ≤ sizeLine) (q : Q (acc ++ (ys.filter p).map f) M) => lcK_gen (acc := acc) (Q := Q) hok ys (fun z hz => ht z (List.mem_cons_of_mem _ hz)) (fun z hz => hc z (List.mem_cons_of_mem _ hz)) (fun z hz => he z (List.mem_cons_of_mem _ hz)) hz q
    cases h : p y with
    | true =>
      rw [if_pos rfl]
      refine he y List.mem_cons_self h _ ⟨by omega, ih _ (by rw [List.length_append, List.length_singleton]; omega) ?_⟩
      rw [List.filter_cons_of_pos h] at q
      simpa using q
    | false =>
      rw [if_neg (by simp)]
      refine ih _ (by omega) ?_
      rw [List.filter_cons_of_neg (by simp [h])] at q
      exact q
/-- [f x y for x in xs for y in ys x if p x y] -/
theorem lc2_gen {α β : Type} {tg : Itm → (Sto → Prop) → Prop} {ok : Mem → Prop} {src : Sto → Comp (List Itm × (Mem → Prop))} {tg2 : Sto → Itm → (Sto → Prop) → Prop} {cond : Sto → Comp Bool} {e : Sto → Comp S} {it : α → Itm} {st : α → Sto} {ys : α → List β} {it2 : α → β → Itm} {ok2 : α → Mem → Prop} {st2 : α → β → Sto} {p : α → β → Bool} {f : α → β → S} {M : Mem} {Q : List S → Mem → Prop} {N : Nat} (hok : ok M) : ∀ (xs : List α)
    (ht : ∀ x ∈ xs, ∀ K : Sto → Prop, K (st x) → tg (it x) K)
    (hsrc : ∀ x ∈ xs, ∀ Q : List Itm × (Mem → Prop) → Mem → Prop, Q ((ys x).map (it2 x), ok2 x) M → src (st x) M Q (fun _ _ => False)) (hok2 : ∀ x ∈ xs, ok2 x M) (hN : ∀ x ∈ xs, (ys x).length ≤ N)
    (ht2 : ∀ x ∈ xs, ∀ y ∈ ys x, ∀ K : Sto → Prop, K (st2 x y) → tg2 (st x) (it2 x y) K) (hc : ∀ x ∈ xs, ∀ y ∈ ys x, ∀ Q : Bool → Mem → Prop, Q (p x y) M → cond (st2 x y) M Q (fun _ _ => False)) (he : ∀ x ∈ xs, ∀ y ∈ ys x, p x y = true → ∀ Q : S → Mem → Prop, Q (f x y) M → e (st2 x y) M Q (fun _ _ => False)) {acc : List S}
    (hz : acc.length + xs.length * N ≤ sizeLine) (q : Q (acc ++ xs.flatMap fun x => ((ys x).filter (p x)).map (f x)) M), wLc2 tg ok src tg2 cond e (xs.map it) acc M Q
  | [], _, _, _, _, _, _, _, acc, _, q => by
    simp only [List.map_nil, wLc2]
    exact ⟨hok, by simpa using q⟩
  | x :: xs, ht, hsrc, hok2, hN, ht2, hc, he, acc, hz, q => by
    simp only [List.map_cons, wLc2]
    have m := List.mem_cons_self (a := x) (l := xs)
    have hl := hN x m
    rw [List.length_cons, Nat.add_mul, Nat.one_mul] at hz
    refine ⟨hok, ht x m _ (hsrc x m _ (lcK_gen (hok2 x m) (ys x) (ht2 x m) (hc x m) (he x m) (by omega) ?_))⟩
    refine lc2_gen hok xs (fun z hz => ht z (List.mem_cons_of_mem _ hz)) (fun z hz => hsrc z (List.mem_cons_of_mem _ hz)) (fun z hz => hok2 z (List.mem_cons_of_mem _ hz)) (fun z hz => hN z (List.mem_cons_of_mem _ hz)) (fun z hz => ht2 z (List.mem_cons_of_mem _ hz)) (fun z hz => hc z (List.mem_cons_of_mem _ hz)) (fun z hz => he z (List.mem_cons_of_mem _ hz)) ?_ ?_
    · have := List.length_filter_le (p x) (ys x)
      rw [List.length_append, List.length_map]
      omega
    · rw [List.flatMap_cons] at q
      rwa [List.append_assoc]
end G

/-! Layer G, part 9l: pairs that are put, rows of ints that may change. -/
namespace G
open PySem L2
theorem ex_pq {a b : PD} {P : PD → PD → Prop} : (∃ p q, S.d (.tuple [a, b]) = S.d (.tuple [p, q]) ∧ P p q) = P a b := by
  apply propext
  constructor
  · rintro ⟨p, q, e, h⟩
    cases e
    exact h
  · exact fun h => ⟨a, b, rfl, h⟩
/-- a row of ints that may change -/
@[reducible] def li (w : List Int) : MO := .lst ((pints w).map .d)
theorem li_len {w : List Int} : ((pints w).map S.d).length = w.length := by simp [pints]
theorem atM {a r : List Int} {p z : Int} (hz : z = a.length) : atI ((pints (a ++ p :: r)).map S.d) z = some (.d (.int p)) := by
  subst hz
  exact at_nat (by simp [pints])
theorem atM1 {a r : List Int} {p q z : Int} (hz : z = a.length + 1) : atI ((pints (a ++ p :: q :: r)).map S.d) z = some (.d (.int q)) := by
  have := atM (a := a ++ [p]) (p := q) (r := r) (z := z) (by simp; omega)
  simpa using this
theorem atM2 {a r : List Int} {p q s z : Int} (hz : z = a.length + 2) : atI ((pints (a ++ p :: q :: s :: r)).map S.d) z = some (.d (.int s)) := by
  have := atM (a := a ++ [p, q]) (p := s) (r := r) (z := z) (by simp; omega)
  simpa using this
theorem ixM {w : List Int} {z : Int} (h0 : 0 ≤ z) (h1 : z < w.length) : ixN ((pints w).map S.d).length z = some z.toNat := by
  rw [li_len]
  exact ix_ofN h0 h1
theorem setM {a r : List Int} {p x : Int} {j : Nat} (hj : j = a.length) : ((pints (a ++ p :: r)).map S.d).set j (.d (.int x)) = (pints (a ++ x :: r)).map S.d := by
  subst hj
  simp [pints]
theorem setM1 {a r : List Int} {p q x : Int} {j : Nat} (hj : j = a.length + 1) : ((pints (a ++ p :: q :: r)).map S.d).set j (.d (.int x)) = (pints (a ++ p :: x :: r)).map S.d := by
  have := setM (a := a ++ [p]) (p := q) (r := r) (x := x) (j := j) (by simp; omega)
  simpa using this
theorem setM2 {a r : List Int} {p q s x : Int} {j : Nat} (hj : j = a.length + 2) : ((pints (a ++ p :: q :: s :: r)).map S.d).set j (.d (.int x)) = (pints (a ++ p :: q :: x :: r)).map S.d := by
  have := setM (a := a ++ [p, q]) (p := s) (r := r) (x := x) (j := j) (by simp; omega)
  simpa using this
/-- the place of a member, from the end -/
theorem at_last {α : Type} {xs : List α} {x : α} : atI (xs ++ [x]) (-1) = some x := by
  unfold atI
  have : ixN (xs ++ [x]).length (-1) = some xs.length := by
    unfold ixN
    rw [if_neg (by omega), if_pos (by simp; omega)]
    simp
    omega
  rw [this]
  simp
theorem get_set {M : Mem} {m : Nat} {o : MO} (h : m < M.length) : (M.set m o)[m]? = some o := by simp [h]
theorem get_len {M : Mem} {m : Nat} {o : MO} (h : M[m]? = some o) : m < M.length := (List.getElem?_eq_some_iff.mp h).1
end G
namespace G
open PySem L2
theorem ixl {w : List Int} {z : Int} {j : Nat} (e : z = j) (h : j < w.length) : ixN ((pints w).map S.d).length z = some j := by
  subst e
  rw [li_len]
  exact ix_ofN (by omega) (by omega)
theorem szl {α : Type} {xs : List α} {n : Nat} (h : xs.length = n) (hn : n ≤ 1000) : xs.length ≤ sizeLine := by
  rw [slS, h]
  omega
end G
namespace G
open PySem L2
section
variable {M : Mem} {Q : S → Mem → Prop} {a b c d : Str}
theorem okd_SS : okD (.tuple [.str a, .str b]) = true := by simp [okD, PyData.plain, PyData.plainAll, PyData.depth, PyData.depthAll]
theorem eqv_SS : PyData.eqv (.tuple [.str a, .str b]) (.tuple [.str c, .str d]) = decide (a = c ∧ b = d) := by
  show (PyData.eqv (.str a) (.str c) && (PyData.eqv (.str b) (.str d) && true)) = _
  rw [eqv_str, eqv_str]
  simp
theorem c_eqSS : wCmp .Eq (.d (.tuple [.str a, .str b])) (.d (.tuple [.str c, .str d])) M Q = Q (B (decide (a = c ∧ b = d))) M := by
  rw [c_eq_t, okd_SS, okd_SS, eqv_SS]
  simp
theorem c_neSS : wCmp .NotEq (.d (.tuple [.str a, .str b])) (.d (.tuple [.str c, .str d])) M Q = Q (B (!decide (a = c ∧ b = d))) M := by
  rw [c_ne, okd_SS, okd_SS, eqv_SS]
  simp
end
end G
namespace G
open PySem L2
section
variable {M : Mem} {Q : S → Mem → Prop} {i : Int} {b : Bool} {s : Str} {xs : List PD} {k : Nat}
theorem c_isIN : wCmp .Is (.d (.int i)) (.d .none) M Q = Q (B false) M := rfl
theorem c_isBN : wCmp .Is (.d (.bool b)) (.d .none) M Q = Q (B false) M := rfl
theorem c_isSN : wCmp .Is (.d (.str s)) (.d .none) M Q = Q (B false) M := rfl
theorem c_isTN : wCmp .Is (.d (.tuple xs)) (.d .none) M Q = Q (B false) M := rfl
theorem c_isLN : wCmp .Is (.d (.list xs)) (.d .none) M Q = Q (B false) M := rfl
theorem c_isRN : wCmp .Is (.l k) (.d .none) M Q = Q (B false) M := rfl
theorem c_isnIN : wCmp .IsNot (.d (.int i)) (.d .none) M Q = Q (B true) M := rfl
theorem c_isnBN : wCmp .IsNot (.d (.bool b)) (.d .none) M Q = Q (B true) M := rfl
theorem c_isnSN : wCmp .IsNot (.d (.str s)) (.d .none) M Q = Q (B true) M := rfl
theorem c_isnTN : wCmp .IsNot (.d (.tuple xs)) (.d .none) M Q = Q (B true) M := rfl
theorem c_isnLN : wCmp .IsNot (.d (.list xs)) (.d .none) M Q = Q (B true) M := rfl
theorem c_isnRN : wCmp .IsNot (.l k) (.d .none) M Q = Q (B true) M := rfl
end
end G

/-! Layer G, part 9m: dicts that may change; loops over enumerate. -/
namespace G
open PySem L2
section
variable {Γ : Env} {M : Mem} {L : List MO} {Q : S → Mem → Prop} {X : Xc → Mem → Prop} {i : Int} {z : Str} {n k : Nat} {x v : S} {ρ : Sto} {es : Es} {ks : List Str} {kvs : List (Key × S)}
theorem e_dnew' : wE Γ .dnew ρ M Q X = wNew M (.dct []) Q := e_dnew _ _ _ _
theorem e_ddisp' : wE Γ (.ddisp ks es) ρ M Q X = wEs Γ es ρ M (fun vs M1 => wNew M1 (.dct ((ks.map Sum.inr).zip vs)) Q) (fun _ _ => False) := e_ddisp _ _ _ _ _ _
theorem dAt_i {R : List (Key × S) → Key → Nat → Prop} : dAt M (.l n) (.d (.int i)) R = ∃ kvs, M[n]? = some (.dct kvs) ∧ R kvs (.inl i) n := by
  apply propext
  constructor
  · rintro ⟨kvs, k, h1, h2, h3⟩
    cases h2
    exact ⟨kvs, h1, h3⟩
  · rintro ⟨kvs, h1, h3⟩
    exact ⟨kvs, _, h1, rfl, h3⟩
theorem dAt_s {R : List (Key × S) → Key → Nat → Prop} : dAt M (.l n) (.d (.str z)) R = ∃ kvs, M[n]? = some (.dct kvs) ∧ R kvs (.inr z) n := by
  apply propext
  constructor
  · rintro ⟨kvs, k, h1, h2, h3⟩
    cases h2
    exact ⟨kvs, h1, h3⟩
  · rintro ⟨kvs, h1, h3⟩
    exact ⟨kvs, _, h1, rfl, h3⟩
theorem dx_i : wDix (.l n) (.d (.int i)) M Q = ∃ kvs, M[n]? = some (.dct kvs) ∧ ∃ v, lookK kvs (.inl i) = some v ∧ Q v M := dAt_i
theorem dx_s : wDix (.l n) (.d (.str z)) M Q = ∃ kvs, M[n]? = some (.dct kvs) ∧ ∃ v, lookK kvs (.inr z) = some v ∧ Q v M := dAt_s
theorem dp_i {P : Mem → Prop} : wDput (.l n) (.d (.int i)) v M P = ∃ kvs, M[n]? = some (.dct kvs) ∧ kvs.length < sizeLine ∧ wMod n (.dct (setK kvs (.inl i) v)) M P := dAt_i
theorem dp_s {P : Mem → Prop} : wDput (.l n) (.d (.str z)) v M P = ∃ kvs, M[n]? = some (.dct kvs) ∧ kvs.length < sizeLine ∧ wMod n (.dct (setK kvs (.inr z) v)) M P := dAt_s
theorem pd_dct (h : M[k]? = some (.dct kvs)) : pd M (.l k) = none := by
  unfold pd
  simp [h]
theorem c_inD (h : M[k]? = some (.dct kvs)) : wCmp .In (.d (.int i)) (.l k) M Q = Q (B (lookK kvs (.inl i)).isSome) M := by
  unfold wCmp
  simp only [pd_dct h, pd_d]
  rw [dAt_i]
  simp [h]
theorem c_ninD (h : M[k]? = some (.dct kvs)) : wCmp .NotIn (.d (.int i)) (.l k) M Q = Q (B (!(lookK kvs (.inl i)).isSome)) M := by
  unfold wCmp
  simp only [pd_dct h, pd_d]
  rw [dAt_i]
  simp [h]
theorem c_inM {a : PD} {xs : List PD} (h : M[k]? = some (.lst (xs.map .d))) (h1 : okD a = true) (h2 : okD (.list xs) = true) : wCmp .In (.d a) (.l k) M Q = Q (B (xs.any fun z => PyData.eqv z a)) M := by
  have e : pd M (.l k) = some (.list xs) := by
    unfold pd
    simp [h, dataAll_map]
  unfold wCmp
  simp only [e, pd_d]
  simp [wIn, h1, h2]
theorem iteI {c : Prop} [Decidable c] {a b : Prop} (h1 : c → a) (h2 : ¬ c → b) : if c then a else b := by
  by_cases h : c
  · rw [if_pos h]
    exact h1 h
  · rw [if_neg h]
    exact h2 h
theorem ex_dct {xs : List (Key × S)} {P : List (Key × S) → Prop} : (∃ ss, some (MO.dct xs) = some (MO.dct ss) ∧ P ss) = P xs := by
  apply propext
  constructor
  · rintro ⟨m, e, h⟩
    cases e
    exact h
  · exact fun h => ⟨xs, rfl, h⟩
theorem yl_k {P : List (Key × S) → Prop} : (∃ xs, (M ++ L)[M.length + n]? = some (.dct xs) ∧ P xs) = ∃ xs, L[n]? = some (.dct xs) ∧ P xs := by rw [m_get]
theorem yl_0 {P : List (Key × S) → Prop} : (∃ xs, (M ++ L)[M.length]? = some (.dct xs) ∧ P xs) = ∃ xs, L[0]? = some (.dct xs) ∧ P xs := by rw [m_get0]
theorem yl_S {o : MO} {P : List (Key × S) → Prop} : (∃ xs, (o :: L)[n + 1]? = some (.dct xs) ∧ P xs) = ∃ xs, L[n]? = some (.dct xs) ∧ P xs := by rw [List.getElem?_cons_succ]
theorem yl_z {ys : List (Key × S)} {P : List (Key × S) → Prop} : (∃ xs, (MO.dct ys :: L)[0]? = some (.dct xs) ∧ P xs) = P ys := by
  rw [List.getElem?_cons_zero]
  exact ex_dct
end
section
variable {ρ : Sto} {M : Mem} {ok : Mem → Prop} {body : Sto → Mem → Outs → Prop} {O : Outs}
/-- for i, x in enumerate(data) -/
theorem for_enum {s1 s2 : Nat} {xs : List PD} (hok : ∀ M, ok M) (mb : MonoS body) (P : Nat → Sto → Mem → Prop) (h0 : P 0 ρ M) (hend : ∀ ρ M, P xs.length ρ M → O.nx ρ M)
    (hs : ∀ i x ρ M, xs[i]? = some x → P i ρ M → body ((ρ.set s1 (some (.d (.int (i : Nat))))).set s2 (some (.d x))) M (GTurn O (P (i + 1)))) : wFor (wTg (.tp [.nm s1, .nm s2])) ok body (enumItems (xs.map S.d)) ρ M O := by
  have hl : (enumItems (xs.map S.d)).length = xs.length := by simp [enumItems]
  refine for_ix mb P h0 (fun _ _ _ _ => hok _) (by rw [hl]; exact hend) fun i x ρ M e p => ?_
  rw [enum_map, List.getElem?_map] at e
  cases e2 : xs.zipIdx[i]? with
  | none => rw [e2] at e; cases e
  | some q =>
    rw [e2] at e
    cases e
    rw [List.getElem?_zipIdx] at e2
    cases e3 : xs[i]? with
    | none => rw [e3] at e2; cases e2
    | some y =>
      rw [e3] at e2
      cases e2
      simp only [wTg, wTgs]
      refine ⟨rfl, ?_⟩
      have := hs i y ρ M e3 p
      simpa using this
/-- for x in a list that may change but does not -/
theorem for_lst {s k : Nat} {xs : List S} (mb : MonoS body) (P : Nat → Sto → Mem → Prop) (h0 : P 0 ρ M) (hok : ∀ i ρ M, P i ρ M → M[k]? = some (.lst xs)) (hend : ∀ ρ M, P xs.length ρ M → O.nx ρ M)
    (hs : ∀ i x ρ M, xs[i]? = some x → P i ρ M → body (ρ.set s (some x)) M (GTurn O (P (i + 1)))) : wFor (wTg (.nm s)) (okOf (.l k) xs) body (xs.map Itm.one) ρ M O := by
  refine for_ix mb P h0 (fun i ρ M p => hok i ρ M p) (by simpa using hend) fun i x ρ M e p => ?_
  rw [List.getElem?_map] at e
  cases e2 : xs[i]? with
  | none => rw [e2] at e; cases e
  | some v =>
    rw [e2] at e
    cases e
    simp only [wTg]
    exact hs i v ρ M e2 p
end
/-- while, by a measure -/
theorem whl_inv {c : Sto → Comp Bool} {body : Sto → Mem → Outs → Prop} {O : Outs} (mc : ∀ ρ, Mono (c ρ)) (mb : MonoS body) (P : Nat → Sto → Mem → Prop)
    (hs : ∀ n ρ M, P n ρ M → c ρ M (fun b M1 => if b = true then body ρ M1 { O with nx := fun ρ2 M2 => ∃ m, m < n ∧ P m ρ2 M2, ct := fun ρ2 M2 => ∃ m, m < n ∧ P m ρ2 M2, bk := O.nx } else O.nx ρ M1) (fun x M1 => O.ex x ρ M1)) :
    ∀ n ρ M, P n ρ M → wWhl c body (n + 1) ρ M O := by
  have grow : ∀ n ρ M, wWhl c body n ρ M O → wWhl c body (n + 1) ρ M O := by
    intro n
    induction n with
    | zero => intro ρ M h; simp only [wWhl] at h
    | succ n ih =>
      intro ρ M h
      rw [wWhl] at h ⊢
      refine mc ρ _ _ _ _ _ (fun b M1 h => ?_) (fun _ _ h => h) h
      split
      · rename_i hb
        rw [if_pos hb] at h
        exact mb.go h ⟨fun ρ2 M2 => ih ρ2 M2, fun _ _ h => h, fun _ _ h => h, fun ρ2 M2 => ih ρ2 M2, fun _ _ _ h => h⟩
      · rename_i hb
        rw [if_neg hb] at h
        exact h
  have more : ∀ d n ρ M, wWhl c body n ρ M O → wWhl c body (n + d) ρ M O := by
    intro d
    induction d with
    | zero => exact fun n ρ M h => h
    | succ d ih => exact fun n ρ M h => grow _ _ _ (ih n ρ M h)
  intro n
  induction n using Nat.strongRecOn with
  | ind n ih =>
    intro ρ M h
    rw [wWhl]
    refine mc ρ _ _ _ _ _ (fun b M1 h => ?_) (fun _ _ h => h) (hs n ρ M h)
    split
    · rename_i hb
      rw [if_pos hb] at h
      have step : ∀ ρ2 M2, (∃ m, m < n ∧ P m ρ2 M2) → wWhl c body n ρ2 M2 O := by
        rintro ρ2 M2 ⟨m, hm, p⟩
        have := more (n - (m + 1)) (m + 1) ρ2 M2 (ih m hm ρ2 M2 p)
        have e : m + 1 + (n - (m + 1)) = n := by omega
        rwa [e] at this
      exact mb.go h ⟨step, fun _ _ h => h, fun _ _ h => h, step, fun _ _ _ h => h⟩
    · rename_i hb
      rw [if_neg hb] at h
      exact h
end G

/-! Layer G, part 9n: small things that many laws want. -/
namespace G
open PySem L2
theorem get_lt {α : Type} {l : List α} {i : Nat} {x : α} (h : l[i]? = some x) : i < l.length := (List.getElem?_eq_some_iff.mp h).1
theorem pints_get {ns : List Int} {i : Nat} {x : PD} : (pints ns)[i]? = some x ↔ ∃ z, ns[i]? = some z ∧ x = .int z := by
  unfold pints
  rw [List.getElem?_map]
  cases ns[i]? <;> simp [eq_comm]
section
variable {ρ : Sto} {M : Mem} {ok : Mem → Prop} {body : Sto → Mem → Outs → Prop} {O : Outs}
theorem lcf_rng {s : Nat} {lo hi : Int} {cond : Sto → Comp Bool} {e : Sto → Comp S} {p : Nat → Bool} {f : Nat → S} {Q : List S → Mem → Prop} {E : Xc → Mem → Prop} (n : Nat) (hn : (hi - lo).toNat = n) (hok : ok M)
    (hc : ∀ i, i < n → ∀ Q : Bool → Mem → Prop, Q (p i) M → cond (ρ.set s (some (.d (.int (lo + (i : Nat)))))) M Q E) (he : ∀ i, i < n → p i = true → ∀ Q : S → Mem → Prop, Q (f i) M → e (ρ.set s (some (.d (.int (lo + (i : Nat)))))) M Q E) (q : Q (((List.range n).filter p).map f) M) :
    wLc (tgAt (.nm s) ρ) ok cond e (rngItems lo hi) [] M Q E := by
  unfold rngItems
  rw [hn]
  exact lc_gen (α := Nat) (tg := tgAt (.nm s) ρ) (cond := cond) (st := fun i => ρ.set s (some (.d (.int (lo + (i : Nat)))))) (p := p) (f := f) hok (List.range n)
    (fun y _ K k => by simp only [tgAt, wTg]; exact k) (fun y hy Q q => hc y (List.mem_range.mp hy) Q q) (fun y hy hp Q q => he y (List.mem_range.mp hy) hp Q q) (acc := []) (by simpa using q)
/-- numbers that are no less than 0, as ints -/
def natI (l : List Nat) : List Int := l.map fun (k : Nat) => (k : Int)
theorem natI_len {l : List Nat} : (pints (natI l)).length = l.length := by simp [pints, natI]
theorem natI_map {l : List Nat} : (l.map fun (x : Nat) => S.d (.int x)) = (pints (natI l)).map .d := by simp [pints, natI, Function.comp_def]
/-- [x for x in L if ..], L numbers -/
theorem lc_natI {s : Nat} {L : List Nat} {cond : Sto → Comp Bool} {e : Sto → Comp S} {p : Nat → Bool} {Q : List S → Mem → Prop} {E : Xc → Mem → Prop} (hok : ok M)
    (hc : ∀ x ∈ L, ∀ Q : Bool → Mem → Prop, Q (p x) M → cond (ρ.set s (some (I (x : Nat)))) M Q E) (he : ∀ x ∈ L, p x = true → ∀ Q : S → Mem → Prop, Q (I (x : Nat)) M → e (ρ.set s (some (I (x : Nat)))) M Q E) (q : Q ((pints (natI (L.filter p))).map .d) M) :
    wLc (tgAt (.nm s) ρ) ok cond e (((pints (natI L)).map S.d).map Itm.one) [] M Q E := by
  have e1 : ((pints (natI L)).map S.d).map Itm.one = L.map fun (x : Nat) => Itm.one (I (x : Nat)) := by simp [pints, natI, Function.comp_def]
  rw [e1]
  refine lc_gen (α := Nat) (tg := tgAt (.nm s) ρ) (it := fun x => .one (I (x : Nat))) (st := fun x => ρ.set s (some (I (x : Nat)))) (p := p) (f := fun (x : Nat) => I (x : Nat)) hok L
    (fun y _ K k => by simp only [tgAt, wTg]; exact k) hc he (acc := []) ?_
  rw [List.nil_append]
  exact natI_map ▸ q
end
end G

namespace Lk76
open PySem L2 G PySem.Spec PyProof.Rows
local macro_rules | `(tactic| walk_at "g") => `(tactic| simp (maxSteps := 1000000) only [↓e_dnew', ↓e_ddisp', ↓dx_i, ↓dx_s, ↓dp_i, ↓dp_s, ↓yl_k, ↓yl_0, ↓yl_S, ↓yl_z, ↓c_isIN, ↓c_isBN, ↓c_isSN, ↓c_isTN, ↓c_isLN, ↓c_isRN, ↓c_isnIN, ↓c_isnBN, ↓c_isnSN, ↓c_isnTN, ↓c_isnLN, ↓c_isnRN, ↓c_eqSS, ↓c_neSS, ↓ex_pq, ↓c_eqT, ↓c_neT, ↓rng_3, ↓e_mtup', ↓ex_l, ↓xp_k, ↓xp_0, ↓xp_S, ↓xp_z, ↓s_unp, ↓rv_t, ↓rv_l, ↓rv_m, ↓po_m, ↓e_rev, ↓c_isbb, ↓c_isnbb, ↓f_lrng, ↓f_comp2, ↓s_parIx, ↓xv_0, ↓xv_S, ↓da_snoc, ↓da_app, ↓e_cst, ↓e_neg, ↓e_not, ↓e_and, ↓e_or, ↓e_ite, ↓e_bin, ↓e_cmp, ↓e_chain, ↓e_tup, ↓e_fr, ↓e_ix, ↓e_dix, ↓t_dix, ↓s_dput, ↓e_sl, ↓e_rev, ↓e_call, ↓e_callK, ↓e_b1, ↓e_b2, ↓e_isX, ↓e_xval, ↓e_get, ↓e_pop, ↓e_popAt, ↓e_index, ↓t_not, ↓t_and, ↓t_or, ↓a_nil, ↓a_cons, ↓o_none, ↓o_some, ↓c_none, ↓c_some, ↓f_disp, ↓f_comp, ↓f_comp2, ↓f_listOf, ↓i_of, ↓i_rng, ↓i_zip, ↓i_rev, ↓i_keys, i_keys, ↓t_var, ↓t_cst, ↓t_neg, ↓t_ite, ↓t_bin, ↓t_cmp, ↓t_chain, ↓t_tup, ↓t_fr, ↓t_al, ↓t_ddisp, ↓t_ix, ↓t_sl, ↓t_rev, ↓t_call, ↓t_callK, ↓t_b1, ↓t_b2, ↓t_isI, ↓t_isX, ↓t_xval, ↓t_get, ↓t_pop, ↓t_popAt, ↓t_index, ↓s_asg, ↓s_setIx, ↓s_augIx, ↓s_expr, ↓s_ret, ↓s_retN, ↓s_cond, ↓s_loop, ↓s_whl, ↓s_raise, ↓s_tryX, ↓s_pass, ↓s_brk, ↓s_cont, ↓b_nil, ↓b_cons, ↓h_nil, ↓r_add, ↓r_sub, ↓r_mul, ↓r_div, ↓r_mod, ↓r_pow, ↓r_shl, ↓r_cat, ↓r_cats, ↓r_rep, ↓r_lt, ↓r_le, ↓r_gt, ↓r_ge, ↓r_eqI, ↓r_neI, ↓r_augA, ↓r_augS, ↓r_augM, ↓tg_tpt, ↓tg_tpl, ↓tg_tpm, ↓tgs_nil, ↓tgs_cons, ↓turn_nx, ↓turn_ct, ↓turn_bk, ↓turn_rt, ↓turn_ex, ↓d_nil, ↓d_eq, ↓rng_1, ↓rng_2, ↓b_int, ↓b_intb, ↓b_bool, ↓b_boolb, ↓b_lent, ↓b_lenl, ↓b_tupt, ↓b_tupl, ↓b_str, ↓b_repr', ↓xp_d, ↓b_abs, ↓b_sum, ↓b_all, ↓b_any, ↓b_max, ↓b_min, ↓ix_t, ↓ix_l, ↓sl_t, ↓sl_l, ↓c_eqb, ↓c_neb, ↓c_isN, ↓c_isnN, ↓isx_eq, ↓xval_eq, ↓c_inT, ↓c_inL, ↓c_ninT, ↓c_ninL, ↓c_ltT, ↓c_leT, ↓c_gtT, ↓c_geT, ↓c_eqS, ↓c_neS, ↓b_lenm, ↓v_0, ↓v_S, ↓n_0, ↓n_S, ↓un_0, ↓un_S, ↓s_aug', ↓s_par', ↓h_cons', ↓xl_k, ↓xl_0, ↓xl_S, ↓xl_z, ↓mm_t, ↓mm_tk, ↓to_t, ↓md_k, ↓md_0, ↓mm_0, ↓mm_S, ↓nw_1, ↓nw_2, ↓nw_3, ↓nw_4, ↓nw_5, ↓e_al', ↓ix_m', ↓b_tupm', ↓sl_m', ↓ex_map, ↓ap_l, ↓s_app', ↓xt_l, ↓s_ext', ↓in_l, ↓s_ins', ↓p_put', ↓wt_d, ↓wt_k, ↓wt_k0, ↓to_S, ↓to_z, ↓e_isI1, ↓e_isI2, ↓ex_tb, ↓ex_ti, ↓ex_tn, ↓ex_tt, ↓ex_tl, ↓ex_i, ↓ex_B, ↓xd_nil, ↓xd_cons, ↓xd_map, ↓xi_t, ↓xi_l, ↓xi_m, ↓f_cat', ↓f_rep', ↓f_slice', nw_0, e_var, e_cst, e_neg, e_not, e_and, e_or, e_ite, e_bin, e_cmp, e_chain, e_tup, e_fr, e_al, e_ix, e_sl, e_rev, e_call, e_callK, e_b1, e_b2, e_isI, e_isX, e_xval, e_get, e_pop, e_popAt, e_index, t_not, t_and, t_or, a_nil, a_cons, o_none, o_some, c_none, c_some, f_disp, f_comp, f_comp2, f_listOf, f_cat, f_rep, f_slice, i_of, i_rng, i_enum, i_zip, i_rev, t_var, t_cst, t_neg, t_ite, t_bin, t_cmp, t_chain, t_tup, t_fr, t_al, t_ddisp, t_ix, t_sl, t_rev, t_call, t_callK, t_b1, t_b2, t_isI, t_isX, t_xval, t_get, t_pop, t_popAt, t_index, s_asg, s_setIx, e_dnew, e_dix, s_dput, t_dnew, t_dix, s_par, s_aug, s_augIx, s_expr, s_app, s_ext, s_ins, s_ret, s_retN, s_cond, s_loop, s_whl, s_raise, s_tryX, s_pass, s_brk, s_cont, b_nil, b_cons, h_nil, h_cons, r_add, r_sub, r_mul, r_div, r_mod, r_pow, r_shl, r_cat, r_cats, r_rep, r_lt, r_le, r_gt, r_ge, r_eqI, r_neI, tr_bool, tr_int, tr_none, tr_tuple, tr_list, r_augA, r_augS, r_augM, m_get, m_get0, m_set, m_set0, ex_v, ex_k, ex_lst, tg_nm, tg_tpt, tg_tpl, tg_tpm, tgs_nil, tgs_cons, tgAt_eq, List.getElem?_cons_succ, List.getElem?_cons_zero, List.set_cons_succ, List.set_cons_zero, List.length_append, List.length_cons, List.length_nil, List.append_assoc, List.cons_append, List.nil_append, decide_eq_true_eq, I, B, N0, S.l.injEq, S.d.injEq, Option.some.injEq, MO.lst.injEq, exists_eq_left', exists_and_left, mapM_d, Bool.false_eq_true, isT_int_none, isT_int_bool, isT_int_int, isT_int_str, isT_int_list, isT_int_tuple, isT_int_dict, isT_bool_none, isT_bool_bool, isT_bool_int, isT_bool_str, isT_bool_list, isT_bool_tuple, isT_bool_dict, isT_str_none, isT_str_bool, isT_str_int, isT_str_str, isT_str_list, isT_str_tuple, isT_str_dict, isT_list_none, isT_list_bool, isT_list_int, isT_list_str, isT_list_list, isT_list_tuple, isT_list_dict, isT_tuple_none, isT_tuple_bool, isT_tuple_int, isT_tuple_str, isT_tuple_list, isT_tuple_tuple, isT_tuple_dict, isT_dict_none, isT_dict_bool, isT_dict_int, isT_dict_str, isT_dict_list, isT_dict_tuple, isT_dict_dict, at_0, at_1, mapM_s, List.map_cons, List.map_nil, List.any_cons, List.any_nil, id_eq, Bool.or_false, Bool.not_true, Bool.not_false, ↓reduceIte, turn_nx, turn_ct, turn_bk, turn_rt, turn_ex, ty_m, Int.zero_add, d_nil, d_eq, rng_1, rng_2, b_int, b_intb, b_bool, b_boolb, b_lent, b_lenl, b_lenm, b_tupt, b_tupl, b_tupm, b_str, b_repr', b_abs, b_sum, b_all, b_any, b_max, b_min, ix_t, ix_l, ix_m, sl_t, sl_l, sl_m, ty_d, it_t, it_l, pd_d, c_eqb, c_neb, c_isN, c_isnN, isx_eq, xval_eq, true_and, and_true, List.append_nil, wipeS, tgSlots, tgSlotss, c_inT, c_inL, c_ninT, c_ninL, c_ltT, c_leT, c_gtT, c_geT, it_k, it_k0, ty_k, ty_k0, lo_1, to_1, to_2, beq_self_eq_true, sd_inj, da_nil, da_cons, da_map, Option.map_some, p_put, Nat.reduceAdd, Int.reduceEq, Int.reduceLT, Int.reduceLE, f_lrng, f_comp2, e_indexT, s_parIx, s_any, gt_t, gt_tk, c_noneF, c_eqS, c_neS, eq_self, decide_true, decide_false, pints_len, itm_len, sz_0, sz_1, sz_2, sz_3, sz_4, sz_5, sz_6, sz_7, sz_8, int?_d, ok_of_d, ex_self, Nat.zero_add])
def topS (i : Nat) : Stmt := PySem.Challenge.pw_stairworks_k76_fits_and_rests.main.body.getD i (.Pass ⟨0, 0, 0, 0⟩)
def kws : List (Str × Nat × List Str) := []
def cs : List Str := ["InvalidStair", "InvalidNumber", "Undefined"]
def hs : List Str := ["StairError", "Undefined", "InvalidNumber", "InvalidStair"]
def tab : List (Str × List Str) := [("InvalidStair", ["InvalidStair", "StairError", "ValueError"]), ("InvalidNumber", ["InvalidNumber", "StairError", "ValueError"]), ("Undefined", ["Undefined", "StairError", "ValueError"])]
theorem mro_InvalidStair : MroF tab "InvalidStair" = some (["InvalidStair", "StairError", "ValueError"] : List Str) := by rfl
theorem mro_InvalidNumber : MroF tab "InvalidNumber" = some (["InvalidNumber", "StairError", "ValueError"] : List Str) := by rfl
theorem mro_Undefined : MroF tab "Undefined" = some (["Undefined", "StairError", "ValueError"] : List Str) := by rfl
theorem cn_InvalidStair_StairError : (["InvalidStair", "StairError", "ValueError"] : List Str).contains "StairError" = true := by decide
theorem cn_InvalidStair_Undefined : (["InvalidStair", "StairError", "ValueError"] : List Str).contains "Undefined" = false := by decide
theorem cn_InvalidStair_InvalidNumber : (["InvalidStair", "StairError", "ValueError"] : List Str).contains "InvalidNumber" = false := by decide
theorem cn_InvalidStair_InvalidStair : (["InvalidStair", "StairError", "ValueError"] : List Str).contains "InvalidStair" = true := by decide
theorem cn_InvalidNumber_StairError : (["InvalidNumber", "StairError", "ValueError"] : List Str).contains "StairError" = true := by decide
theorem cn_InvalidNumber_Undefined : (["InvalidNumber", "StairError", "ValueError"] : List Str).contains "Undefined" = false := by decide
theorem cn_InvalidNumber_InvalidNumber : (["InvalidNumber", "StairError", "ValueError"] : List Str).contains "InvalidNumber" = true := by decide
theorem cn_InvalidNumber_InvalidStair : (["InvalidNumber", "StairError", "ValueError"] : List Str).contains "InvalidStair" = false := by decide
theorem cn_Undefined_StairError : (["Undefined", "StairError", "ValueError"] : List Str).contains "StairError" = true := by decide
theorem cn_Undefined_Undefined : (["Undefined", "StairError", "ValueError"] : List Str).contains "Undefined" = true := by decide
theorem cn_Undefined_InvalidNumber : (["Undefined", "StairError", "ValueError"] : List Str).contains "InvalidNumber" = false := by decide
theorem cn_Undefined_InvalidStair : (["Undefined", "StairError", "ValueError"] : List Str).contains "InvalidStair" = false := by decide
/-! ### stairs -/
/-- row i, 0 behind the end -/
def rowZ (l : List Int) (i : Nat) : Int := l.getD i 0
def Pos (l : List Int) : Prop := ∀ z ∈ l, 1 ≤ z
structure St (l : List Int) : Prop where
  pos : Pos l
  fall : l.Pairwise (· ≥ ·)
theorem rowZ_lt {l : List Int} {i : Nat} (h : i < l.length) : rowZ l i = l[i] := by simp [rowZ, h]
theorem rowZ_ge {l : List Int} {i : Nat} (h : l.length ≤ i) : rowZ l i = 0 := by simp [rowZ, h]
theorem Pos.one {l : List Int} (p : Pos l) {i : Nat} (h : i < l.length) : 1 ≤ rowZ l i := by
  rw [rowZ_lt h]
  exact p _ (List.getElem_mem h)
theorem Pos.nn {l : List Int} (p : Pos l) (i : Nat) : 0 ≤ rowZ l i := by
  by_cases h : i < l.length
  · have := p.one h
    omega
  · rw [rowZ_ge (by omega)]
    exact Int.le_refl _
theorem pos_eq {l l' : List Int} (p : Pos l) (p' : Pos l') (h : ∀ i, rowZ l i = rowZ l' i) : l = l' := by
  have e : l.length = l'.length := by
    rcases Nat.lt_trichotomy l.length l'.length with c | c | c
    · have h1 := h l.length
      have h2 := p'.one c
      rw [rowZ_ge (Nat.le_refl _)] at h1
      omega
    · exact c
    · have h1 := h l'.length
      have h2 := p.one c
      rw [rowZ_ge (l := l') (Nat.le_refl _)] at h1
      omega
  apply List.ext_getElem e
  intro i h1 h2
  have := h i
  rwa [rowZ_lt h1, rowZ_lt h2] at this
theorem St.down {l : List Int} (s : St l) (i : Nat) : rowZ l (i + 1) ≤ rowZ l i := by
  by_cases h : i + 1 < l.length
  · rw [rowZ_lt h, rowZ_lt (by omega)]
    exact List.pairwise_iff_getElem.mp s.fall i (i + 1) (by omega) h (by omega)
  · rw [rowZ_ge (by omega)]
    exact s.pos.nn i
theorem st_of {l : List Int} (p : Pos l) (h : ∀ i, rowZ l (i + 1) ≤ rowZ l i) : St l := by
  refine ⟨p, List.pairwise_iff_getElem.mpr fun i j hi hj ij => ?_⟩
  have key : ∀ d, rowZ l (i + d) ≤ rowZ l i := fun d => by
    induction d with
    | zero => exact Int.le_refl _
    | succ d ih => exact Int.le_trans (h (i + d)) ih
  have := key (j - i)
  rw [show i + (j - i) = j by omega, rowZ_lt hi, rowZ_lt hj] at this
  exact this
theorem St.mono {l : List Int} (s : St l) {i j : Nat} (h : i ≤ j) : rowZ l j ≤ rowZ l i := by
  obtain ⟨d, rfl⟩ : ∃ d, j = i + d := ⟨j - i, by omega⟩
  clear h
  induction d with
  | zero => exact Int.le_refl _
  | succ d ih => exact Int.le_trans (s.down (i + d)) ih
theorem st_nil : St [] := ⟨(fun _ h => nomatch h), List.Pairwise.nil⟩
/-- without the zeros at its end -/
def stripL (l : List Int) : List Int := (l.reverse.dropWhile (· == 0)).reverse
theorem stripL_snoc {l : List Int} {z : Int} : stripL (l ++ [z]) = if z = 0 then stripL l else l ++ [z] := by
  unfold stripL
  rw [List.reverse_append, List.reverse_singleton, List.singleton_append, List.dropWhile_cons]
  by_cases h : z = 0 <;> simp [h]
theorem snoc_or (l : List Int) : l = [] ∨ ∃ r x, l = r ++ [x] := by
  rcases List.eq_nil_or_concat l with h | ⟨r, x, h⟩
  · exact .inl h
  · exact .inr ⟨r, x, by rw [h, List.concat_eq_append]⟩
theorem stripL_take {l : List Int} {m : Nat} (hm : m ≤ l.length) (z : ∀ i, m ≤ i → rowZ l i = 0) (last : m ≠ 0 → rowZ l (m - 1) ≠ 0) : stripL l = l.take m := by
  obtain ⟨d, hd⟩ : ∃ d, l.length = m + d := ⟨l.length - m, by omega⟩
  induction d generalizing l with
  | zero =>
    rw [List.take_of_length_le (by omega)]
    rcases snoc_or l with rfl | ⟨r, x, rfl⟩
    · rfl
    · rw [stripL_snoc, if_neg]
      have := last (by simp at hd; omega)
      rw [List.length_append, List.length_singleton] at hd
      rw [rowZ_lt (by simp; omega)] at this
      have e : m - 1 = r.length := by omega
      simpa [e] using this
  | succ d ih =>
    rcases snoc_or l with rfl | ⟨r, x, rfl⟩
    · simp at hd
    · rw [List.length_append, List.length_singleton] at hd
      have zx := z r.length (by omega)
      rw [rowZ_lt (by simp)] at zx
      have zx : x = 0 := by simpa using zx
      have rr : ∀ i, rowZ (r ++ [x]) i = rowZ r i := fun i => by
        by_cases c : i < r.length
        · rw [rowZ_lt (by simp; omega), rowZ_lt c, List.getElem_append_left c]
        · rw [rowZ_ge (l := r) (by omega)]
          by_cases c2 : i = r.length
          · rw [c2, rowZ_lt (by simp)]
            simpa using zx
          · rw [rowZ_ge (by simp; omega)]
      rw [stripL_snoc, if_pos zx, ih (l := r) (by omega) (fun i hi => by rw [← rr]; exact z i hi) (fun h => by rw [← rr]; exact last h) (by omega), List.take_append_of_le_length (by omega)]
theorem rowZ_take {l : List Int} {m i : Nat} : rowZ (l.take m) i = if i < m then rowZ l i else 0 := by
  unfold rowZ
  rw [List.getD_eq_getElem?_getD, List.getElem?_take]
  by_cases c : i < m
  · rw [if_pos c, if_pos c, List.getD_eq_getElem?_getD]
  · rw [if_neg c, if_neg c]
    rfl
/-- where the zeros at the end begin -/
theorem strip_ex (l : List Int) : ∃ m, m ≤ l.length ∧ (∀ i, m ≤ i → rowZ l i = 0) ∧ (m ≠ 0 → rowZ l (m - 1) ≠ 0) := by
  suffices h : ∀ d m, m + d = l.length → (∀ i, l.length - d ≤ i → rowZ l i = 0) → ∃ m, m ≤ l.length ∧ (∀ i, m ≤ i → rowZ l i = 0) ∧ (m ≠ 0 → rowZ l (m - 1) ≠ 0) from h 0 l.length rfl fun i hi => rowZ_ge (by omega)
  intro d m
  induction m generalizing d with
  | zero => exact fun e z => ⟨0, by omega, fun i hi => z i (by omega), fun h => absurd rfl h⟩
  | succ m ih =>
    intro e z
    by_cases c : rowZ l m = 0
    · refine ih (d + 1) (by omega) fun i hi => ?_
      by_cases c2 : i = m
      · rw [c2]
        exact c
      · exact z i (by omega)
    · exact ⟨m + 1, by omega, fun i hi => z i (by omega), fun _ => by simpa using c⟩
theorem stripL_row {l : List Int} (i : Nat) : rowZ (stripL l) i = rowZ l i := by
  obtain ⟨m, hm, z, last⟩ := strip_ex l
  rw [stripL_take hm z last, rowZ_take]
  split
  · rfl
  · exact (z i (by omega)).symm
theorem stripL_len {l : List Int} : (stripL l).length ≤ l.length := by
  obtain ⟨m, hm, z, last⟩ := strip_ex l
  rw [stripL_take hm z last, List.length_take]
  omega
theorem stripL_st {l : List Int} (nn : ∀ i, 0 ≤ rowZ l i) (dn : ∀ i, rowZ l (i + 1) ≤ rowZ l i) : St (stripL l) := by
  refine st_of (fun z hz => ?_) fun i => by rw [stripL_row, stripL_row]; exact dn i
  obtain ⟨m, hm, zz, last⟩ := strip_ex l
  rw [stripL_take hm zz last] at hz
  obtain ⟨i, hi, e⟩ := List.getElem_of_mem hz
  rw [List.length_take] at hi
  rw [List.getElem_take, ← rowZ_lt (by omega)] at e
  have l1 := last (by omega)
  have l2 := nn (m - 1)
  have key : ∀ d, rowZ l (i + d) ≤ rowZ l i := fun d => by
    induction d with
    | zero => exact Int.le_refl _
    | succ d ih => exact Int.le_trans (dn (i + d)) ih
  have := key (m - 1 - i)
  rw [show i + (m - 1 - i) = m - 1 by omega] at this
  omega
/-! ### a stair, as a value -/
def stairGo : Option Int → List PD → Bool
  | _, [] => true
  | p, .int z :: r => decide (1 ≤ z) && (p.all fun a => decide (z ≤ a)) && stairGo (some z) r
  | _, _ :: _ => false
def isStairD : PD → Bool
  | .tuple xs => stairGo none xs
  | _ => false
theorem stairGo_st : ∀ {xs : List PD} {p : Option Int}, stairGo p xs = true → ∃ l, xs = pints l ∧ St l ∧ ∀ a z, p = some a → z ∈ l → z ≤ a
  | [], _, _ => ⟨[], rfl, st_nil, fun _ _ _ h => nomatch h⟩
  | .int z :: r, p, h => by
    simp only [stairGo, Bool.and_eq_true, decide_eq_true_eq] at h
    obtain ⟨⟨h1, h2⟩, h3⟩ := h
    obtain ⟨l, rfl, s, b⟩ := stairGo_st h3
    refine ⟨z :: l, rfl, ⟨fun x hx => ?_, List.pairwise_cons.mpr ⟨fun x hx => b z x rfl hx, s.fall⟩⟩, fun a x e hx => ?_⟩
    · rcases List.mem_cons.mp hx with rfl | hx
      · exact h1
      · exact s.pos x hx
    · subst e
      have za : z ≤ a := by simpa using h2
      rcases List.mem_cons.mp hx with rfl | hx
      · exact za
      · exact Int.le_trans (b z x rfl hx) za
  | .none :: _, _, h => nomatch h
  | .bool _ :: _, _, h => nomatch h
  | .str _ :: _, _, h => nomatch h
  | .list _ :: _, _, h => nomatch h
  | .tuple _ :: _, _, h => nomatch h
  | .dict _ :: _, _, h => nomatch h
theorem stairGo_of : ∀ {l : List Int} {p : Option Int}, St l → (∀ a z, p = some a → z ∈ l → z ≤ a) → stairGo p (pints l) = true
  | [], _, _, _ => rfl
  | z :: l, p, s, b => by
    have f := List.pairwise_cons.mp s.fall
    have ih := stairGo_of (l := l) (p := some z) ⟨fun x hx => s.pos x (List.mem_cons_of_mem _ hx), f.2⟩ fun a x e hx => by cases e; exact f.1 x hx
    show (decide (1 ≤ z) && (p.all fun a => decide (z ≤ a)) && stairGo (some z) (pints l)) = true
    rw [ih, decide_eq_true (s.pos z List.mem_cons_self)]
    cases p with
    | none => rfl
    | some a => simpa using b a z rfl List.mem_cons_self
theorem St.is {l : List Int} (s : St l) : isStairD (.tuple (pints l)) = true := stairGo_of s fun _ _ e => nomatch e
theorem isStair_some {v : PD} (h : isStairD v = true) : ∃ l, v = .tuple (pints l) ∧ St l := by
  cases v with
  | tuple xs =>
    obtain ⟨l, rfl, s, _⟩ := stairGo_st h
    exact ⟨l, rfl, s⟩
  | _ => exact nomatch h
theorem stairGo_step {ns : List Int} {r : List PD} (p : Option Int) (h : ∀ a, ns.getLast? = some a → p = some a) (h0 : ns.getLast? = none → p = none) : stairGo p r = stairGo ns.getLast? r := by
  cases e : ns.getLast? with
  | none => rw [h0 e]
  | some a => rw [h a e]
def tupLen (v : PD) : Prop := ∀ xs, v = .tuple xs → xs.length ≤ sizeLine
/-! ### the state that a law draws from -/
def drwL (ns : List Int) (a r m : Int) : List (Key × S) := [(.inr "cells", .d (.list (pints ns))), (.inr "at", I a), (.inr "row", I r), (.inr "mix", I m)]
def drw (ns : List Int) (a r m : Int) : MO := .dct (drwL ns a r m)
theorem dw_c {ns : List Int} {a r m : Int} : lookK (drwL ns a r m) (.inr (Str.ofString "cells")) = some (.d (.list (pints ns))) := rfl
theorem dw_a {ns : List Int} {a r m : Int} : lookK (drwL ns a r m) (.inr (Str.ofString "at")) = some (.d (.int a)) := rfl
theorem dw_r {ns : List Int} {a r m : Int} : lookK (drwL ns a r m) (.inr (Str.ofString "row")) = some (.d (.int r)) := rfl
theorem dw_m {ns : List Int} {a r m : Int} : lookK (drwL ns a r m) (.inr (Str.ofString "mix")) = some (.d (.int m)) := rfl
theorem dp_a {ns : List Int} {a r m x : Int} : setK (drwL ns a r m) (.inr (Str.ofString "at")) (.d (.int x)) = drwL ns x r m := rfl
theorem dp_r {ns : List Int} {a r m x : Int} : setK (drwL ns a r m) (.inr (Str.ofString "row")) (.d (.int x)) = drwL ns a x m := rfl
theorem dp_m {ns : List Int} {a r m x : Int} : setK (drwL ns a r m) (.inr (Str.ofString "mix")) (.d (.int x)) = drwL ns a r x := rfl
theorem set_at {M : Mem} {k : Nat} {o o' : MO} (h : M[k]? = some o) : (M.set k o')[k]? = some o' := by
  rw [List.getElem?_set_self (List.getElem?_eq_some_iff.mp h).1]
theorem set_same {M : Mem} {k : Nat} {o : MO} (h : M[k]? = some o) : M.set k o = M := by
  obtain ⟨h1, h2⟩ := List.getElem?_eq_some_iff.mp h
  rw [← h2, List.set_getElem_self]
section
variable {M t : Mem} {k : Nat} {o x y : MO}
theorem set_new : (M.set k o ++ x :: t)[M.length]? = some x := by simp
theorem set_old (h : k < M.length) : (M.set k o ++ t)[k]? = some o := by
  rw [List.getElem?_append_left (by rw [List.length_set]; exact h), List.getElem?_set_self h]
theorem set_again (h : k < M.length) {o' : MO} : (M.set k o ++ t).set k o' = M.set k o' ++ t := by
  rw [List.set_append_left _ _ (by rw [List.length_set]; exact h), List.set_set]
theorem set_newS : (M.set k o ++ x :: t).set M.length y = M.set k o ++ y :: t := by
  rw [List.set_append_right _ _ (by simp)]
  simp
theorem set_ty {xs : List S} : isTyS (M.set k o ++ .lst xs :: t) "list" (.l M.length) = some true := by
  have := ty_m (M := M.set k o) (xs := xs) (t := t)
  rwa [List.length_set] at this
theorem drw_blw {n : Nat} {ns : List Int} {a r m : Int} : (drw ns a r m).blw n := by
  intro p hp
  simp only [drwL, List.mem_cons, List.not_mem_nil, or_false] at hp
  rcases hp with rfl | rfl | rfl | rfl <;> trivial
theorem ex_drw {v : S} {ns : List Int} {a r m : Int} (hb : blw M.length v) : Ex M (M.set k (drw ns a r m) ++ t) v v (M.set k (drw ns a r m)) := by
  refine .inr ⟨by rw [← List.length_set (as := M) (i := k) (a := drw ns a r m), List.take_left], by simp, fun i o e => ?_, .inl ⟨rfl, hb⟩⟩
  rw [List.getElem?_set] at e
  split at e
  · split at e
    · cases e
      exact .inr drw_blw
    · cases e
  · exact .inl e
end
/-- [f(x) for x in ints if p] -/
theorem lc_int {s : Nat} {L : List Int} {ok : Mem → Prop} {cond : Sto → Comp Bool} {e : Sto → Comp S} {p : Int → Bool} {f : Int → S} {ρ : Sto} {M : Mem} {Q : List S → Mem → Prop} {E : Xc → Mem → Prop} (hok : ok M)
    (hc : ∀ x ∈ L, ∀ Q : Bool → Mem → Prop, Q (p x) M → cond (ρ.set s (some (I x))) M Q E) (he : ∀ x ∈ L, p x = true → ∀ Q : S → Mem → Prop, Q (f x) M → e (ρ.set s (some (I x))) M Q E) (q : Q ((L.filter p).map f) M) :
    wLc (tgAt (.nm s) ρ) ok cond e (((pints L).map S.d).map Itm.one) [] M Q E := by
  have e1 : ((pints L).map S.d).map Itm.one = L.map fun x => Itm.one (I x) := by simp [pints, Function.comp_def]
  rw [e1]
  exact lc_gen (α := Int) (tg := tgAt (.nm s) ρ) (it := fun x => .one (I x)) (st := fun x => ρ.set s (some (I x))) (p := p) (f := f) hok L
    (fun y _ K k => by simp only [tgAt, wTg]; exact k) hc he (acc := []) (by simpa using q)
theorem p18 : (10 : Int) ^ Int.toNat 18 = 1000000000000000000 := by decide
/-! ### stairs in boxes -/
/-! words of bits -/
def zs (n : Int) : List Int := List.replicate n.toNat 0
def V (a : Nat → Int) : Nat → List Int
  | 0 => zs (a 0)
  | n + 1 => V a n ++ 1 :: zs (a (n + 1))
theorem V_front (a : Nat → Int) : ∀ n, V a (n + 1) = zs (a 0) ++ 1 :: V (fun i => a (i + 1)) n
  | 0 => rfl
  | n + 1 => by
    show V a (n + 1) ++ 1 :: zs (a (n + 2)) = _
    rw [V_front a n]
    simp [V]
theorem zs_rev (n : Int) : (zs n).reverse = zs n := by simp [zs]
theorem V_rev : ∀ (n : Nat) (a : Nat → Int), (V a n).reverse = V (fun i => a (n - i)) n
  | 0, a => zs_rev _
  | n + 1, a => by
    conv => rhs; rw [V_front]
    show (V a n ++ 1 :: zs (a (n + 1))).reverse = _
    rw [List.reverse_append, List.reverse_cons, zs_rev, V_rev n a]
    simp
theorem V_congr {a b : Nat → Int} : ∀ {n : Nat}, (∀ i, i ≤ n → a i = b i) → V a n = V b n
  | 0, h => congrArg zs (h 0 (Nat.le_refl _))
  | n + 1, h => by
    show V a n ++ 1 :: zs (a (n + 1)) = V b n ++ 1 :: zs (b (n + 1))
    rw [V_congr (fun i hi => h i (by omega)), h (n + 1) (Nat.le_refl _)]
def ahead (l : List Int) (C : Int) : Nat → Int
  | 0 => C
  | i + 1 => rowZ l i
def gap (l : List Int) (C : Int) (i : Nat) : Int := ahead l C i - rowZ l i
def bitsUp (l : List Int) (C : Int) : Nat → List Int
  | 0 => []
  | i + 1 => bitsUp l C i ++ zs (gap l C i) ++ [1]
theorem bitsUp_V {l : List Int} {C : Int} : ∀ n, bitsUp l C n ++ zs (gap l C n) = V (gap l C) n
  | 0 => rfl
  | n + 1 => by
    show bitsUp l C n ++ zs (gap l C n) ++ [1] ++ zs (gap l C (n + 1)) = V (gap l C) n ++ 1 :: zs (gap l C (n + 1))
    rw [bitsUp_V n]
    simp
def bitsL (l : List Int) (R : Nat) (C : Int) : List Int := V (gap l C) R
/-- the word from its end -/
def wd (l : List Int) (R : Nat) : Nat → List Int
  | 0 => []
  | i + 1 => 1 :: (zs (rowZ l (R - 1 - i) - rowZ l (R - i)) ++ wd l R i)
theorem wd_V {l : List Int} {R : Nat} {C : Int} : ∀ i, i ≤ R → V (gap l C) (R - i) ++ wd l R i = bitsL l R C
  | 0, _ => by simp [wd, bitsL]
  | i + 1, h => by
    rw [← wd_V i (by omega)]
    obtain ⟨d, e⟩ : ∃ d, R - i = d + 1 := ⟨R - i - 1, by omega⟩
    rw [e, show R - (i + 1) = d by omega]
    show V (gap l C) d ++ 1 :: (zs (rowZ l (R - 1 - i) - rowZ l (R - i)) ++ wd l R i) = (V (gap l C) d ++ 1 :: zs (gap l C (d + 1))) ++ wd l R i
    rw [show gap l C (d + 1) = rowZ l (R - 1 - i) - rowZ l (R - i) by rw [e, show R - 1 - i = d by omega]; rfl]
    simp
theorem wd_end {l : List Int} {R : Nat} {C : Int} : zs (C - rowZ l 0) ++ wd l R R = bitsL l R C := by
  rw [← wd_V R (Nat.le_refl _), Nat.sub_self]
  rfl
theorem zs_len {n : Int} (h : 0 ≤ n) : ((zs n).length : Int) = n := by
  unfold zs
  rw [List.length_replicate]
  omega
theorem wd_len {l : List Int} {R : Nat} (s : St l) (hl : l.length ≤ R) : ∀ i, i ≤ R → ((wd l R i).length : Int) = i + rowZ l (R - i)
  | 0, _ => by
    rw [rowZ_ge (by omega)]
    rfl
  | i + 1, h => by
    have h1 := wd_len s hl i (by omega)
    have h2 : 0 ≤ rowZ l (R - 1 - i) - rowZ l (R - i) := by
      have := s.mono (i := R - 1 - i) (j := R - i) (by omega)
      omega
    have h3 := zs_len h2
    rw [show R - (i + 1) = R - 1 - i by omega]
    simp only [wd, List.length_cons, List.length_append]
    omega
/-! the rest -/
def restRow (l : List Int) (r c : Int) : List Int := (List.range r.toNat).map fun i => c - rowZ l (r.toNat - 1 - i)
def restL (l : List Int) (r c : Int) : List Int := stripL (restRow l r c)
theorem restRow_at {l : List Int} {R : Nat} {C : Int} {i : Nat} : rowZ (restRow l R C) i = if i < R then C - rowZ l (R - 1 - i) else 0 := by
  unfold restRow
  rw [Int.toNat_natCast]
  by_cases c : i < R
  · rw [if_pos c, rowZ_lt (by simp [c])]
    simp
  · rw [if_neg c, rowZ_ge (by simp; omega)]
theorem rest_at {l : List Int} {R : Nat} {C : Int} {i : Nat} : rowZ (restL l R C) i = if i < R then C - rowZ l (R - 1 - i) else 0 := by
  unfold restL
  rw [stripL_row, restRow_at]
structure Ins (l : List Int) (R : Nat) (C : Int) : Prop where
  st : St l
  len : l.length ≤ R
  le : rowZ l 0 ≤ C
theorem restRow_nn {l : List Int} {R : Nat} {C : Int} (h : Ins l R C) (i : Nat) : 0 ≤ rowZ (restRow l R C) i := by
  rw [restRow_at]
  have := h.st.mono (Nat.zero_le (R - 1 - i))
  have := h.le
  split <;> omega
theorem restRow_dn {l : List Int} {R : Nat} {C : Int} (h : Ins l R C) (i : Nat) : rowZ (restRow l R C) (i + 1) ≤ rowZ (restRow l R C) i := by
  have h0 := restRow_nn h i
  rw [restRow_at] at *
  rw [restRow_at]
  by_cases c : i + 1 < R
  · have := h.st.mono (i := R - 1 - (i + 1)) (j := R - 1 - i) (by omega)
    rw [if_pos c, if_pos (by omega)]
    omega
  · rw [if_neg c]
    exact h0
theorem rest_ins {l : List Int} {R : Nat} {C : Int} (h : Ins l R C) : Ins (restL l R C) R C := by
  refine ⟨stripL_st (restRow_nn h) (restRow_dn h), Nat.le_trans stripL_len (by simp [restRow]), ?_⟩
  rw [rest_at]
  have := h.st.pos.nn (R - 1 - 0)
  have := h.le
  have := h.st.pos.nn 0
  split <;> omega
theorem rest_rest {l : List Int} {R : Nat} {C : Int} (h : Ins l R C) : restL (restL l R C) R C = l := by
  have h1 := rest_ins h
  have h2 := rest_ins h1
  refine pos_eq h2.st.pos h.st.pos fun i => ?_
  rw [rest_at, rest_at]
  split
  · rw [if_pos (by omega), show R - 1 - (R - 1 - i) = i by omega]
    omega
  · rw [rowZ_ge]
    have := h.len
    omega
theorem rest_bits {l : List Int} {R : Nat} {C : Int} (h : Ins l R C) : bitsL (restL l R C) R C = (bitsL l R C).reverse := by
  unfold bitsL
  rw [V_rev]
  refine V_congr fun i hi => ?_
  unfold gap
  have e1 : ∀ i, rowZ l (R + i) = 0 := fun i => rowZ_ge (by have := h.len; omega)
  cases i with
  | zero =>
    rw [rest_at]
    cases R with
    | zero =>
      rw [if_neg (by omega)]
      show C - 0 = C - rowZ l 0
      rw [rowZ_ge (by have := h.len; omega)]
    | succ R =>
      rw [if_pos (by omega)]
      have := e1 0
      show C - (C - rowZ l R) = rowZ l R - rowZ l (R + 1)
      rw [show R + 1 + 0 = R + 1 by rfl] at this
      omega
  | succ i =>
    show rowZ (restL l R C) i - rowZ (restL l R C) (i + 1) = _
    rw [rest_at, rest_at, if_pos (by omega)]
    by_cases c : i + 1 < R
    · obtain ⟨d, e⟩ : ∃ d, R - (i + 1) = d + 1 := ⟨R - (i + 1) - 1, by omega⟩
      rw [if_pos c, e, show R - 1 - i = d + 1 by omega, show R - 1 - (i + 1) = d by omega]
      show _ = rowZ l d - rowZ l (d + 1)
      omega
    · have e : R - (i + 1) = 0 := by omega
      rw [if_neg c, e, show R - 1 - i = 0 by omega]
      show _ = C - rowZ l 0
      omega
theorem filter_strip {l : List Int} : (∀ z ∈ l, 0 ≤ z) → l.Pairwise (· ≥ ·) → l.filter (fun z => decide (0 < z)) = stripL l := by
  generalize hn : l.length = n
  induction n generalizing l with
  | zero => cases l with
    | nil => exact fun _ _ => rfl
    | cons => simp at hn
  | succ n ih =>
    intro nn pw
    rcases snoc_or l with rfl | ⟨r, x, rfl⟩
    · simp at hn
    · rw [List.length_append, List.length_singleton] at hn
      have pa := List.pairwise_append.mp pw
      rw [stripL_snoc, List.filter_append]
      by_cases c : x = 0
      · rw [if_pos c, ih (l := r) (by omega) (fun z hz => nn z (List.mem_append_left _ hz)) pa.1, c]
        simp
      · have x0 : 0 < x := by
          have := nn x (by simp)
          omega
        rw [if_neg c, List.filter_eq_self.mpr]
        · simp [x0]
        · intro z hz
          have := pa.2.2 z hz x (by simp)
          exact decide_eq_true (by omega)
theorem filter_st {l : List Int} (pw : l.Pairwise (· ≥ ·)) : St (l.filter fun z => decide (0 < z)) :=
  ⟨fun z hz => by have := of_decide_eq_true (List.mem_filter.mp hz).2; omega, pw.filter _⟩
theorem pw_of {l : List Int} (h : ∀ i, i + 1 < l.length → rowZ l (i + 1) ≤ rowZ l i) : l.Pairwise (· ≥ ·) := by
  refine List.pairwise_iff_getElem.mpr fun i j hi hj ij => ?_
  have key : ∀ d, i + d < l.length → rowZ l (i + d) ≤ rowZ l i := fun d => by
    induction d with
    | zero => exact fun _ => Int.le_refl _
    | succ d ih => exact fun hd => Int.le_trans (h (i + d) hd) (ih (by omega))
  have := key (j - i) (by omega)
  rw [show i + (j - i) = j by omega, rowZ_lt hi, rowZ_lt hj] at this
  exact this
/-! boxes -/
def boxesUp (l : List Int) : Nat → List (Nat × Nat)
  | 0 => []
  | n + 1 => boxesUp l n ++ (List.range (rowZ l n).toNat).map fun j => (n, j)
theorem mem_boxes {l : List Int} {i j : Nat} : ∀ {n}, (i, j) ∈ boxesUp l n ↔ i < n ∧ (j : Int) < rowZ l i
  | 0 => by simp [boxesUp]
  | n + 1 => by
    simp only [boxesUp, List.mem_append, mem_boxes (n := n), List.mem_map, List.mem_range, Prod.mk.injEq]
    constructor
    · rintro (⟨h1, h2⟩ | ⟨k, h1, rfl, rfl⟩)
      · exact ⟨by omega, h2⟩
      · exact ⟨by omega, by omega⟩
    · rintro ⟨h1, h2⟩
      by_cases c : i < n
      · exact .inl ⟨c, h2⟩
      · have : n = i := by omega
        subst this
        exact .inr ⟨j, by omega, rfl, rfl⟩
def insI (l : List Int) (r c : Int) : Bool := decide ((l.length : Int) ≤ r) && decide (rowZ l 0 ≤ c)
theorem good_ins {l : List Int} {R C : Nat} (s : St l) : ((boxesUp l l.length).all fun p => decide ((p.1 : Int) < R) && decide ((p.2 : Int) < C)) = insI l R C := by
  rw [Bool.eq_iff_iff, List.all_eq_true]
  simp only [insI, Bool.and_eq_true, decide_eq_true_eq]
  constructor
  · intro h
    have key : ∀ i j : Nat, i < l.length → (j : Int) < rowZ l i → i < R ∧ j < C := fun i j h1 h2 => by
      have := h (i, j) (mem_boxes.mpr ⟨h1, h2⟩)
      simp only at this
      omega
    by_cases c : l.length = 0
    · rw [rowZ_ge (by omega), c]
      omega
    · have p0 := s.pos.one (i := l.length - 1) (by omega)
      have h1 := key (l.length - 1) 0 (by omega) (by omega)
      have p1 := s.pos.one (i := 0) (by omega)
      have h2 := key 0 (rowZ l 0 - 1).toNat (by omega) (by omega)
      omega
  · rintro ⟨h1, h2⟩ ⟨i, j⟩ hp
    have := mem_boxes.mp hp
    have m := s.mono (Nat.zero_le i)
    simp only
    omega
theorem cnt_lt {k n : Nat} (p : Nat → Bool) (hp : ∀ j, j < n → (p j = true ↔ j < k)) (hk : k ≤ n) : ((List.range n).filter p).length = k := by
  have e : (List.range n).filter p = List.range k := by
    induction n with
    | zero =>
      have : k = 0 := by omega
      rw [this]
      rfl
    | succ n ih =>
      rw [List.range_succ, List.filter_append]
      by_cases c : k ≤ n
      · rw [ih (fun j hj => hp j (by omega)) c]
        have : ¬ p n = true := fun h => by have := (hp n (by omega)).mp h; omega
        simp [this]
      · have hk : k = n + 1 := by omega
        have : p n = true := (hp n (by omega)).mpr (by omega)
        rw [List.filter_eq_self.mpr (fun j hj => (hp j (by have := List.mem_range.mp hj; omega)).mpr (by have := List.mem_range.mp hj; omega)), hk, List.range_succ]
        simp [this]
  rw [e, List.length_range]
/-- a row of the rest, by counting -/
theorem cnt_rest {l : List Int} {R C at' : Nat} (h : Ins l R C) : ((List.range C).filter fun j => !decide ((at', C - 1 - j) ∈ boxesUp l l.length)).length = (C - rowZ l at').toNat := by
  have n0 := h.st.pos.nn at'
  have le := h.st.mono (Nat.zero_le at')
  have l2 := h.le
  refine cnt_lt _ (fun j hj => ?_) (by omega)
  rw [Bool.not_eq_true', decide_eq_false_iff_not, mem_boxes]
  by_cases c : at' < l.length
  · simp only [c, true_and]
    omega
  · have z : rowZ l at' = 0 := rowZ_ge (by omega)
    simp only [c, false_and, not_false_iff, true_iff]
    omega
theorem filter_restRow {l : List Int} {R C : Nat} (h : Ins l R C) : (restRow l R C).filter (fun z => decide (0 < z)) = restL l R C := by
  refine filter_strip (fun z hz => ?_) (pw_of fun i _ => restRow_dn h i)
  obtain ⟨i, hi, e⟩ := List.getElem_of_mem hz
  rw [← e, ← rowZ_lt hi]
  exact restRow_nn h i
def intsOf : List PD → List Int
  | [] => []
  | .int z :: r => z :: intsOf r
  | _ :: r => 0 :: intsOf r
theorem intsOf_pints (l : List Int) : intsOf (pints l) = l := by
  induction l with
  | nil => rfl
  | cons z r ih => exact congrArg (z :: ·) ih
def insD : PD → PD → PD → Bool
  | .tuple xs, .int r, .int c => insI (intsOf xs) r c
  | _, _, _ => false
def restD : PD → PD → PD → PD
  | .tuple xs, .int r, .int c => .tuple (pints (restL (intsOf xs) r c))
  | _, _, _ => .none
theorem num_some {v : PD} (h : isNumD v = true) : ∃ n : Nat, v = .int n := by
  cases v with
  | int i =>
    have : 0 ≤ i := by simpa [isNumD] using h
    exact ⟨i.toNat, by rw [Int.toNat_of_nonneg this]⟩
  | _ => exact nomatch h
def small (r : PD) : Prop := ∀ R, r = .int R → R ≤ 100

/-! _law_open -/
abbrev s_law_open : Stmt := topS 22
def N_law_open : List Str := ["script", "cell"]
theorem sc_law_open : FnScope N_law_open ["script"] (defScope s_law_open) := ⟨rfl, rfl, rfl, by decide +kernel, rfl, by decide +kernel, by decide +kernel⟩
def b_law_open : Ss := .cons (.ret (.ddisp ["cells", "at", "row", "mix"] (.cons (.fr (.comp (.b1 .int (.var 1)) (.nm 1) (.of (.sl (.var 0) .none (.some (.cst (.int 63))))) .none)) (.cons (.cst (.int 0)) (.cons (.cst (.int 0)) (.cons (.cst (.int 1683776)) .nil)))))) .nil
theorem ub_law_open : b_law_open = .cons (.ret (.ddisp ["cells", "at", "row", "mix"] (.cons (.fr (.comp (.b1 .int (.var 1)) (.nm 1) (.of (.sl (.var 0) .none (.some (.cst (.int 63))))) .none)) (.cons (.cst (.int 0)) (.cons (.cst (.int 0)) (.cons (.cst (.int 1683776)) .nil)))))) .nil := rfl
theorem st_law_open {x0 : S} : startS N_law_open [x0] = [some x0, none] := rfl
def lib_law_open : Lib := []
abbrev Γ_law_open : G.Env := lib_law_open.env (MroF tab)
local macro_rules | `(tactic| walk_at "law_open") => `(tactic| simp (maxSteps := 1000000) only [ub_law_open, st_law_open, exits, ↓e_dnew', ↓e_ddisp', ↓dx_i, ↓dx_s, ↓dp_i, ↓dp_s, ↓yl_k, ↓yl_0, ↓yl_S, ↓yl_z, ↓c_isIN, ↓c_isBN, ↓c_isSN, ↓c_isTN, ↓c_isLN, ↓c_isRN, ↓c_isnIN, ↓c_isnBN, ↓c_isnSN, ↓c_isnTN, ↓c_isnLN, ↓c_isnRN, ↓c_eqSS, ↓c_neSS, ↓ex_pq, ↓c_eqT, ↓c_neT, ↓rng_3, ↓e_mtup', ↓ex_l, ↓xp_k, ↓xp_0, ↓xp_S, ↓xp_z, ↓s_unp, ↓rv_t, ↓rv_l, ↓rv_m, ↓po_m, ↓e_rev, ↓c_isbb, ↓c_isnbb, ↓f_lrng, ↓f_comp2, ↓s_parIx, ↓xv_0, ↓xv_S, ↓da_snoc, ↓da_app, ↓e_cst, ↓e_neg, ↓e_not, ↓e_and, ↓e_or, ↓e_ite, ↓e_bin, ↓e_cmp, ↓e_chain, ↓e_tup, ↓e_fr, ↓e_ix, ↓e_dix, ↓t_dix, ↓s_dput, ↓e_sl, ↓e_rev, ↓e_call, ↓e_callK, ↓e_b1, ↓e_b2, ↓e_isX, ↓e_xval, ↓e_get, ↓e_pop, ↓e_popAt, ↓e_index, ↓t_not, ↓t_and, ↓t_or, ↓a_nil, ↓a_cons, ↓o_none, ↓o_some, ↓c_none, ↓c_some, ↓f_disp, ↓f_comp, ↓f_comp2, ↓f_listOf, ↓i_of, ↓i_rng, ↓i_zip, ↓i_rev, ↓i_keys, i_keys, ↓t_var, ↓t_cst, ↓t_neg, ↓t_ite, ↓t_bin, ↓t_cmp, ↓t_chain, ↓t_tup, ↓t_fr, ↓t_al, ↓t_ddisp, ↓t_ix, ↓t_sl, ↓t_rev, ↓t_call, ↓t_callK, ↓t_b1, ↓t_b2, ↓t_isI, ↓t_isX, ↓t_xval, ↓t_get, ↓t_pop, ↓t_popAt, ↓t_index, ↓s_asg, ↓s_setIx, ↓s_augIx, ↓s_expr, ↓s_ret, ↓s_retN, ↓s_cond, ↓s_loop, ↓s_whl, ↓s_raise, ↓s_tryX, ↓s_pass, ↓s_brk, ↓s_cont, ↓b_nil, ↓b_cons, ↓h_nil, ↓r_add, ↓r_sub, ↓r_mul, ↓r_div, ↓r_mod, ↓r_pow, ↓r_shl, ↓r_cat, ↓r_cats, ↓r_rep, ↓r_lt, ↓r_le, ↓r_gt, ↓r_ge, ↓r_eqI, ↓r_neI, ↓r_augA, ↓r_augS, ↓r_augM, ↓tg_tpt, ↓tg_tpl, ↓tg_tpm, ↓tgs_nil, ↓tgs_cons, ↓turn_nx, ↓turn_ct, ↓turn_bk, ↓turn_rt, ↓turn_ex, ↓d_nil, ↓d_eq, ↓rng_1, ↓rng_2, ↓b_int, ↓b_intb, ↓b_bool, ↓b_boolb, ↓b_lent, ↓b_lenl, ↓b_tupt, ↓b_tupl, ↓b_str, ↓b_repr', ↓xp_d, ↓b_abs, ↓b_sum, ↓b_all, ↓b_any, ↓b_max, ↓b_min, ↓ix_t, ↓ix_l, ↓sl_t, ↓sl_l, ↓c_eqb, ↓c_neb, ↓c_isN, ↓c_isnN, ↓isx_eq, ↓xval_eq, ↓c_inT, ↓c_inL, ↓c_ninT, ↓c_ninL, ↓c_ltT, ↓c_leT, ↓c_gtT, ↓c_geT, ↓c_eqS, ↓c_neS, ↓b_lenm, ↓v_0, ↓v_S, ↓n_0, ↓n_S, ↓un_0, ↓un_S, ↓s_aug', ↓s_par', ↓h_cons', ↓xl_k, ↓xl_0, ↓xl_S, ↓xl_z, ↓mm_t, ↓mm_tk, ↓to_t, ↓md_k, ↓md_0, ↓mm_0, ↓mm_S, ↓nw_1, ↓nw_2, ↓nw_3, ↓nw_4, ↓nw_5, ↓e_al', ↓ix_m', ↓b_tupm', ↓sl_m', ↓ex_map, ↓ap_l, ↓s_app', ↓xt_l, ↓s_ext', ↓in_l, ↓s_ins', ↓p_put', ↓wt_d, ↓wt_k, ↓wt_k0, ↓to_S, ↓to_z, ↓e_isI1, ↓e_isI2, ↓ex_tb, ↓ex_ti, ↓ex_tn, ↓ex_tt, ↓ex_tl, ↓ex_i, ↓ex_B, ↓xd_nil, ↓xd_cons, ↓xd_map, ↓xi_t, ↓xi_l, ↓xi_m, ↓f_cat', ↓f_rep', ↓f_slice', nw_0, e_var, e_cst, e_neg, e_not, e_and, e_or, e_ite, e_bin, e_cmp, e_chain, e_tup, e_fr, e_al, e_ix, e_sl, e_rev, e_call, e_callK, e_b1, e_b2, e_isI, e_isX, e_xval, e_get, e_pop, e_popAt, e_index, t_not, t_and, t_or, a_nil, a_cons, o_none, o_some, c_none, c_some, f_disp, f_comp, f_comp2, f_listOf, f_cat, f_rep, f_slice, i_of, i_rng, i_enum, i_zip, i_rev, t_var, t_cst, t_neg, t_ite, t_bin, t_cmp, t_chain, t_tup, t_fr, t_al, t_ddisp, t_ix, t_sl, t_rev, t_call, t_callK, t_b1, t_b2, t_isI, t_isX, t_xval, t_get, t_pop, t_popAt, t_index, s_asg, s_setIx, e_dnew, e_dix, s_dput, t_dnew, t_dix, s_par, s_aug, s_augIx, s_expr, s_app, s_ext, s_ins, s_ret, s_retN, s_cond, s_loop, s_whl, s_raise, s_tryX, s_pass, s_brk, s_cont, b_nil, b_cons, h_nil, h_cons, r_add, r_sub, r_mul, r_div, r_mod, r_pow, r_shl, r_cat, r_cats, r_rep, r_lt, r_le, r_gt, r_ge, r_eqI, r_neI, tr_bool, tr_int, tr_none, tr_tuple, tr_list, r_augA, r_augS, r_augM, m_get, m_get0, m_set, m_set0, ex_v, ex_k, ex_lst, tg_nm, tg_tpt, tg_tpl, tg_tpm, tgs_nil, tgs_cons, tgAt_eq, List.getElem?_cons_succ, List.getElem?_cons_zero, List.set_cons_succ, List.set_cons_zero, List.length_append, List.length_cons, List.length_nil, List.append_assoc, List.cons_append, List.nil_append, decide_eq_true_eq, I, B, N0, S.l.injEq, S.d.injEq, Option.some.injEq, MO.lst.injEq, exists_eq_left', exists_and_left, mapM_d, Bool.false_eq_true, isT_int_none, isT_int_bool, isT_int_int, isT_int_str, isT_int_list, isT_int_tuple, isT_int_dict, isT_bool_none, isT_bool_bool, isT_bool_int, isT_bool_str, isT_bool_list, isT_bool_tuple, isT_bool_dict, isT_str_none, isT_str_bool, isT_str_int, isT_str_str, isT_str_list, isT_str_tuple, isT_str_dict, isT_list_none, isT_list_bool, isT_list_int, isT_list_str, isT_list_list, isT_list_tuple, isT_list_dict, isT_tuple_none, isT_tuple_bool, isT_tuple_int, isT_tuple_str, isT_tuple_list, isT_tuple_tuple, isT_tuple_dict, isT_dict_none, isT_dict_bool, isT_dict_int, isT_dict_str, isT_dict_list, isT_dict_tuple, isT_dict_dict, at_0, at_1, mapM_s, List.map_cons, List.map_nil, List.any_cons, List.any_nil, id_eq, Bool.or_false, Bool.not_true, Bool.not_false, ↓reduceIte, turn_nx, turn_ct, turn_bk, turn_rt, turn_ex, ty_m, Int.zero_add, d_nil, d_eq, rng_1, rng_2, b_int, b_intb, b_bool, b_boolb, b_lent, b_lenl, b_lenm, b_tupt, b_tupl, b_tupm, b_str, b_repr', b_abs, b_sum, b_all, b_any, b_max, b_min, ix_t, ix_l, ix_m, sl_t, sl_l, sl_m, ty_d, it_t, it_l, pd_d, c_eqb, c_neb, c_isN, c_isnN, isx_eq, xval_eq, true_and, and_true, List.append_nil, wipeS, tgSlots, tgSlotss, c_inT, c_inL, c_ninT, c_ninL, c_ltT, c_leT, c_gtT, c_geT, it_k, it_k0, ty_k, ty_k0, lo_1, to_1, to_2, beq_self_eq_true, sd_inj, da_nil, da_cons, da_map, Option.map_some, p_put, Nat.reduceAdd, Int.reduceEq, Int.reduceLT, Int.reduceLE, f_lrng, f_comp2, e_indexT, s_parIx, s_any, gt_t, gt_tk, c_noneF, c_eqS, c_neS, eq_self, decide_true, decide_false, pints_len, itm_len, sz_0, sz_1, sz_2, sz_3, sz_4, sz_5, sz_6, sz_7, sz_8, int?_d, ok_of_d, ex_self, Nat.zero_add])
theorem lm_law_open : ∀ p ∈ lib_law_open, ∀ vs, Mono (p.2.2 vs) := fun p hp => by cases hp
theorem mb_law_open (s : Ss) : MonoS (wSs Γ_law_open s) := mSs s _ (Lib.mo lm_law_open)
theorem ck_law_open : kSs b_law_open ⟨N_law_open, defScope s_law_open, lib_law_open.fs, kws, cs, hs, true⟩ (defBody s_law_open) = true := by decide +kernel
theorem bd_law_open : Bd "_law_open" s_law_open ["script"] := fun _ _ _ _ _ _ us hl => match us, hl with | [_], _ => rfl
theorem kb_law_open : ∀ q ∈ kws, q.1 = "_law_open" → BdK "_law_open" s_law_open ["script"] q.2.1 q.2.2 := by
  intro q hq
  cases hq
theorem cut_pints {ns : List Int} {lo hi : Option Int} : cut (pints ns) lo hi = pints (cut ns lo hi) := by
  unfold cut pints
  rw [List.length_map, List.map_take, List.map_drop]
def sp_law_open : FSpec := fun vs M Q E => match vs with
  | [.d (.list xs)] => ∃ ns : List Int, (xs = pints ns) ∧ ∀ (cs : List Int) (m : Int), Q (.l M.length) (M ++ [drw cs 0 0 m])
  | _ => False
theorem mo_law_open : ∀ vs, Mono (sp_law_open vs) := by
  intro vs M Q Q' X X' hq hx
  unfold sp_law_open
  (try split) <;> (repeat' first | exact id | exact hq _ _ | exact hx _ _ | refine And.imp ?_ ?_ | refine Exists.imp (fun _ => ?_) | refine forall_imp (fun _ => ?_) | split)
theorem w_law_open : ∀ (ss : List S) (M : Mem) (Q : S → Mem → Prop) (E : Xc → Mem → Prop), ss.length = 1 → sp_law_open ss M Q E → wSs Γ_law_open b_law_open (startS N_law_open ss) M (exits M Q E) := by
  intro ss M Q E hl h
  unfold sp_law_open at h
  split at h
  case h_2 => exact h.elim
  rename_i xs
  obtain ⟨ns, rfl, h⟩ := h
  have sl := slS
  walk_at "law_open"
  rw [cut_pints]
  have cl : (cut ns none (some 63)).length ≤ 63 := by
    unfold cut
    rw [List.length_take]
    have : HT.sIx ns.length ns.length (some 63) ≤ 63 := by
      unfold HT.sIx
      simp only [Option.elim]
      first | (split <;> omega) | omega | (simp; omega)
    omega
  refine ⟨by simp [pints]; omega, ?_⟩
  refine lc_dat (f := fun x => S.d x) trivial (fun x hx Q q => ?_) ?_
  · obtain ⟨z, _, rfl⟩ := List.mem_map.mp hx
    walk_at "law_open"
    exact q
  · exact ⟨_, dataAll_map _, _, _, .inl ⟨rfl, rfl⟩, h (cut ns none (some 63)) 1683776⟩

theorem k_law_open {xs : List PD} {M : Mem} {Q : S → Mem → Prop} {E : Xc → Mem → Prop} : sp_law_open [.d (.list xs)] M Q E = (∃ ns : List Int, (xs = pints ns) ∧ ∀ (cs : List Int) (m : Int), Q (.l M.length) (M ++ [drw cs 0 0 m])) := rfl
/-! _law_pick -/
abbrev s_law_pick : Stmt := topS 23
def N_law_pick : List Str := ["draw", "many", "cell", "digit"]
theorem sc_law_pick : FnScope N_law_pick ["draw", "many"] (defScope s_law_pick) := ⟨rfl, rfl, rfl, by decide +kernel, rfl, by decide +kernel, by decide +kernel⟩
def b_law_pick_c2 : Ss := .cons (.dput (.var 0) (.cst (.str "mix")) (.bin .Mod (.b1 .int (.bin .Add (.bin .Mult (.dix (.var 0) (.cst (.str "mix"))) (.cst (.int 48271))) (.cst (.int 7)))) (.cst (.int 2147483629)))) (.cons (.ret (.bin .Mod (.bin .FloorDiv (.b1 .int (.dix (.var 0) (.cst (.str "mix")))) (.cst (.int 101))) (.var 1))) .nil)
def b_law_pick_c1 : Ss := .cons (.cond (.cmp .Gt (.dix (.var 0) (.cst (.str "row"))) (.cst (.int 0))) (.cons (.asg (.nm 3) (.bin .Mod (.b1 .int (.dix (.var 0) (.cst (.str "row")))) (.var 1))) (.cons (.dput (.var 0) (.cst (.str "row")) (.bin .FloorDiv (.dix (.var 0) (.cst (.str "row"))) (.var 1))) (.cons (.ret (.var 3)) .nil))) (.nil)) (b_law_pick_c2)
def b_law_pick : Ss := .cons (.cond (.and (.cmp .Eq (.dix (.var 0) (.cst (.str "row"))) (.cst (.int 0))) (.cmp .Lt (.dix (.var 0) (.cst (.str "at"))) (.b1 .len (.dix (.var 0) (.cst (.str "cells")))))) (.cons (.asg (.nm 2) (.ix (.dix (.var 0) (.cst (.str "cells"))) (.dix (.var 0) (.cst (.str "at"))))) (.cons (.dput (.var 0) (.cst (.str "at")) (.bin .Add (.dix (.var 0) (.cst (.str "at"))) (.cst (.int 1)))) (.cons (.cond (.cmp .GtE (.var 2) (.bin .Pow (.cst (.int 10)) (.cst (.int 18)))) (.cons (.dput (.var 0) (.cst (.str "row")) (.var 2)) .nil) (.cons (.dput (.var 0) (.cst (.str "mix")) (.bin .Mod (.b1 .int (.bin .Add (.bin .Add (.bin .Mult (.dix (.var 0) (.cst (.str "mix"))) (.cst (.int 69621))) (.bin .Mult (.var 2) (.cst (.int 40692)))) (.cst (.int 13)))) (.cst (.int 2147483563)))) .nil)) .nil))) (.nil)) (b_law_pick_c1)
theorem ub_law_pick_c2 : b_law_pick_c2 = .cons (.dput (.var 0) (.cst (.str "mix")) (.bin .Mod (.b1 .int (.bin .Add (.bin .Mult (.dix (.var 0) (.cst (.str "mix"))) (.cst (.int 48271))) (.cst (.int 7)))) (.cst (.int 2147483629)))) (.cons (.ret (.bin .Mod (.bin .FloorDiv (.b1 .int (.dix (.var 0) (.cst (.str "mix")))) (.cst (.int 101))) (.var 1))) .nil) := rfl
theorem ub_law_pick_c1 : b_law_pick_c1 = .cons (.cond (.cmp .Gt (.dix (.var 0) (.cst (.str "row"))) (.cst (.int 0))) (.cons (.asg (.nm 3) (.bin .Mod (.b1 .int (.dix (.var 0) (.cst (.str "row")))) (.var 1))) (.cons (.dput (.var 0) (.cst (.str "row")) (.bin .FloorDiv (.dix (.var 0) (.cst (.str "row"))) (.var 1))) (.cons (.ret (.var 3)) .nil))) (.nil)) (b_law_pick_c2) := rfl
theorem ub_law_pick : b_law_pick = .cons (.cond (.and (.cmp .Eq (.dix (.var 0) (.cst (.str "row"))) (.cst (.int 0))) (.cmp .Lt (.dix (.var 0) (.cst (.str "at"))) (.b1 .len (.dix (.var 0) (.cst (.str "cells")))))) (.cons (.asg (.nm 2) (.ix (.dix (.var 0) (.cst (.str "cells"))) (.dix (.var 0) (.cst (.str "at"))))) (.cons (.dput (.var 0) (.cst (.str "at")) (.bin .Add (.dix (.var 0) (.cst (.str "at"))) (.cst (.int 1)))) (.cons (.cond (.cmp .GtE (.var 2) (.bin .Pow (.cst (.int 10)) (.cst (.int 18)))) (.cons (.dput (.var 0) (.cst (.str "row")) (.var 2)) .nil) (.cons (.dput (.var 0) (.cst (.str "mix")) (.bin .Mod (.b1 .int (.bin .Add (.bin .Add (.bin .Mult (.dix (.var 0) (.cst (.str "mix"))) (.cst (.int 69621))) (.bin .Mult (.var 2) (.cst (.int 40692)))) (.cst (.int 13)))) (.cst (.int 2147483563)))) .nil)) .nil))) (.nil)) (b_law_pick_c1) := rfl
theorem st_law_pick {x0 x1 : S} : startS N_law_pick [x0, x1] = [some x0, some x1, none, none] := rfl
def lib_law_pick : Lib := []
abbrev Γ_law_pick : G.Env := lib_law_pick.env (MroF tab)
local macro_rules | `(tactic| walk_at "law_pick") => `(tactic| simp (maxSteps := 1000000) only [ub_law_pick, st_law_pick, exits, ↓e_dnew', ↓e_ddisp', ↓dx_i, ↓dx_s, ↓dp_i, ↓dp_s, ↓yl_k, ↓yl_0, ↓yl_S, ↓yl_z, ↓c_isIN, ↓c_isBN, ↓c_isSN, ↓c_isTN, ↓c_isLN, ↓c_isRN, ↓c_isnIN, ↓c_isnBN, ↓c_isnSN, ↓c_isnTN, ↓c_isnLN, ↓c_isnRN, ↓c_eqSS, ↓c_neSS, ↓ex_pq, ↓c_eqT, ↓c_neT, ↓rng_3, ↓e_mtup', ↓ex_l, ↓xp_k, ↓xp_0, ↓xp_S, ↓xp_z, ↓s_unp, ↓rv_t, ↓rv_l, ↓rv_m, ↓po_m, ↓e_rev, ↓c_isbb, ↓c_isnbb, ↓f_lrng, ↓f_comp2, ↓s_parIx, ↓xv_0, ↓xv_S, ↓da_snoc, ↓da_app, ↓e_cst, ↓e_neg, ↓e_not, ↓e_and, ↓e_or, ↓e_ite, ↓e_bin, ↓e_cmp, ↓e_chain, ↓e_tup, ↓e_fr, ↓e_ix, ↓e_dix, ↓t_dix, ↓s_dput, ↓e_sl, ↓e_rev, ↓e_call, ↓e_callK, ↓e_b1, ↓e_b2, ↓e_isX, ↓e_xval, ↓e_get, ↓e_pop, ↓e_popAt, ↓e_index, ↓t_not, ↓t_and, ↓t_or, ↓a_nil, ↓a_cons, ↓o_none, ↓o_some, ↓c_none, ↓c_some, ↓f_disp, ↓f_comp, ↓f_comp2, ↓f_listOf, ↓i_of, ↓i_rng, ↓i_zip, ↓i_rev, ↓i_keys, i_keys, ↓t_var, ↓t_cst, ↓t_neg, ↓t_ite, ↓t_bin, ↓t_cmp, ↓t_chain, ↓t_tup, ↓t_fr, ↓t_al, ↓t_ddisp, ↓t_ix, ↓t_sl, ↓t_rev, ↓t_call, ↓t_callK, ↓t_b1, ↓t_b2, ↓t_isI, ↓t_isX, ↓t_xval, ↓t_get, ↓t_pop, ↓t_popAt, ↓t_index, ↓s_asg, ↓s_setIx, ↓s_augIx, ↓s_expr, ↓s_ret, ↓s_retN, ↓s_cond, ↓s_loop, ↓s_whl, ↓s_raise, ↓s_tryX, ↓s_pass, ↓s_brk, ↓s_cont, ↓b_nil, ↓b_cons, ↓h_nil, ↓r_add, ↓r_sub, ↓r_mul, ↓r_div, ↓r_mod, ↓r_pow, ↓r_shl, ↓r_cat, ↓r_cats, ↓r_rep, ↓r_lt, ↓r_le, ↓r_gt, ↓r_ge, ↓r_eqI, ↓r_neI, ↓r_augA, ↓r_augS, ↓r_augM, ↓tg_tpt, ↓tg_tpl, ↓tg_tpm, ↓tgs_nil, ↓tgs_cons, ↓turn_nx, ↓turn_ct, ↓turn_bk, ↓turn_rt, ↓turn_ex, ↓d_nil, ↓d_eq, ↓rng_1, ↓rng_2, ↓b_int, ↓b_intb, ↓b_bool, ↓b_boolb, ↓b_lent, ↓b_lenl, ↓b_tupt, ↓b_tupl, ↓b_str, ↓b_repr', ↓xp_d, ↓b_abs, ↓b_sum, ↓b_all, ↓b_any, ↓b_max, ↓b_min, ↓ix_t, ↓ix_l, ↓sl_t, ↓sl_l, ↓c_eqb, ↓c_neb, ↓c_isN, ↓c_isnN, ↓isx_eq, ↓xval_eq, ↓c_inT, ↓c_inL, ↓c_ninT, ↓c_ninL, ↓c_ltT, ↓c_leT, ↓c_gtT, ↓c_geT, ↓c_eqS, ↓c_neS, ↓b_lenm, ↓v_0, ↓v_S, ↓n_0, ↓n_S, ↓un_0, ↓un_S, ↓s_aug', ↓s_par', ↓h_cons', ↓xl_k, ↓xl_0, ↓xl_S, ↓xl_z, ↓mm_t, ↓mm_tk, ↓to_t, ↓md_k, ↓md_0, ↓mm_0, ↓mm_S, ↓nw_1, ↓nw_2, ↓nw_3, ↓nw_4, ↓nw_5, ↓e_al', ↓ix_m', ↓b_tupm', ↓sl_m', ↓ex_map, ↓ap_l, ↓s_app', ↓xt_l, ↓s_ext', ↓in_l, ↓s_ins', ↓p_put', ↓wt_d, ↓wt_k, ↓wt_k0, ↓to_S, ↓to_z, ↓e_isI1, ↓e_isI2, ↓ex_tb, ↓ex_ti, ↓ex_tn, ↓ex_tt, ↓ex_tl, ↓ex_i, ↓ex_B, ↓xd_nil, ↓xd_cons, ↓xd_map, ↓xi_t, ↓xi_l, ↓xi_m, ↓f_cat', ↓f_rep', ↓f_slice', nw_0, e_var, e_cst, e_neg, e_not, e_and, e_or, e_ite, e_bin, e_cmp, e_chain, e_tup, e_fr, e_al, e_ix, e_sl, e_rev, e_call, e_callK, e_b1, e_b2, e_isI, e_isX, e_xval, e_get, e_pop, e_popAt, e_index, t_not, t_and, t_or, a_nil, a_cons, o_none, o_some, c_none, c_some, f_disp, f_comp, f_comp2, f_listOf, f_cat, f_rep, f_slice, i_of, i_rng, i_enum, i_zip, i_rev, t_var, t_cst, t_neg, t_ite, t_bin, t_cmp, t_chain, t_tup, t_fr, t_al, t_ddisp, t_ix, t_sl, t_rev, t_call, t_callK, t_b1, t_b2, t_isI, t_isX, t_xval, t_get, t_pop, t_popAt, t_index, s_asg, s_setIx, e_dnew, e_dix, s_dput, t_dnew, t_dix, s_par, s_aug, s_augIx, s_expr, s_app, s_ext, s_ins, s_ret, s_retN, s_cond, s_loop, s_whl, s_raise, s_tryX, s_pass, s_brk, s_cont, b_nil, b_cons, h_nil, h_cons, r_add, r_sub, r_mul, r_div, r_mod, r_pow, r_shl, r_cat, r_cats, r_rep, r_lt, r_le, r_gt, r_ge, r_eqI, r_neI, tr_bool, tr_int, tr_none, tr_tuple, tr_list, r_augA, r_augS, r_augM, m_get, m_get0, m_set, m_set0, ex_v, ex_k, ex_lst, tg_nm, tg_tpt, tg_tpl, tg_tpm, tgs_nil, tgs_cons, tgAt_eq, List.getElem?_cons_succ, List.getElem?_cons_zero, List.set_cons_succ, List.set_cons_zero, List.length_append, List.length_cons, List.length_nil, List.append_assoc, List.cons_append, List.nil_append, decide_eq_true_eq, I, B, N0, S.l.injEq, S.d.injEq, Option.some.injEq, MO.lst.injEq, exists_eq_left', exists_and_left, mapM_d, Bool.false_eq_true, isT_int_none, isT_int_bool, isT_int_int, isT_int_str, isT_int_list, isT_int_tuple, isT_int_dict, isT_bool_none, isT_bool_bool, isT_bool_int, isT_bool_str, isT_bool_list, isT_bool_tuple, isT_bool_dict, isT_str_none, isT_str_bool, isT_str_int, isT_str_str, isT_str_list, isT_str_tuple, isT_str_dict, isT_list_none, isT_list_bool, isT_list_int, isT_list_str, isT_list_list, isT_list_tuple, isT_list_dict, isT_tuple_none, isT_tuple_bool, isT_tuple_int, isT_tuple_str, isT_tuple_list, isT_tuple_tuple, isT_tuple_dict, isT_dict_none, isT_dict_bool, isT_dict_int, isT_dict_str, isT_dict_list, isT_dict_tuple, isT_dict_dict, at_0, at_1, mapM_s, List.map_cons, List.map_nil, List.any_cons, List.any_nil, id_eq, Bool.or_false, Bool.not_true, Bool.not_false, ↓reduceIte, turn_nx, turn_ct, turn_bk, turn_rt, turn_ex, ty_m, Int.zero_add, d_nil, d_eq, rng_1, rng_2, b_int, b_intb, b_bool, b_boolb, b_lent, b_lenl, b_lenm, b_tupt, b_tupl, b_tupm, b_str, b_repr', b_abs, b_sum, b_all, b_any, b_max, b_min, ix_t, ix_l, ix_m, sl_t, sl_l, sl_m, ty_d, it_t, it_l, pd_d, c_eqb, c_neb, c_isN, c_isnN, isx_eq, xval_eq, true_and, and_true, List.append_nil, wipeS, tgSlots, tgSlotss, c_inT, c_inL, c_ninT, c_ninL, c_ltT, c_leT, c_gtT, c_geT, it_k, it_k0, ty_k, ty_k0, lo_1, to_1, to_2, beq_self_eq_true, sd_inj, da_nil, da_cons, da_map, Option.map_some, p_put, Nat.reduceAdd, Int.reduceEq, Int.reduceLT, Int.reduceLE, f_lrng, f_comp2, e_indexT, s_parIx, s_any, gt_t, gt_tk, c_noneF, c_eqS, c_neS, eq_self, decide_true, decide_false, pints_len, itm_len, sz_0, sz_1, sz_2, sz_3, sz_4, sz_5, sz_6, sz_7, sz_8, int?_d, ok_of_d, ex_self, Nat.zero_add])
theorem lm_law_pick : ∀ p ∈ lib_law_pick, ∀ vs, Mono (p.2.2 vs) := fun p hp => by cases hp
theorem mb_law_pick (s : Ss) : MonoS (wSs Γ_law_pick s) := mSs s _ (Lib.mo lm_law_pick)
theorem ck_law_pick : kSs b_law_pick ⟨N_law_pick, defScope s_law_pick, lib_law_pick.fs, kws, cs, hs, true⟩ (defBody s_law_pick) = true := by decide +kernel
theorem bd_law_pick : Bd "_law_pick" s_law_pick ["draw", "many"] := fun _ _ _ _ _ _ us hl => match us, hl with | [_, _], _ => rfl
theorem kb_law_pick : ∀ q ∈ kws, q.1 = "_law_pick" → BdK "_law_pick" s_law_pick ["draw", "many"] q.2.1 q.2.2 := by
  intro q hq
  cases hq
--cut 1 2
theorem pick_2 {M : Mem} {O : Outs} {k : Nat} {n : Int} {s2 s3 : Option S} {ns : List Int} {a r m : Int} (hk : M[k]? = some (.dct (drwL ns a r m))) (n1 : 1 ≤ n) (n2 : n < 1073741824) (h : ∀ d m' : Int, 0 ≤ d → d < n → O.rt (.d (.int d)) (M.set k (drw ns a r m'))) :
    wSs Γ_law_pick b_law_pick_c2 [some (.l k), some (.d (.int n)), s2, s3] M O := by
  have sl := slS
  simp only [ub_law_pick_c2]
  walk_at "law_pick"
  refine ⟨_, hk, _, dw_m, ?_⟩
  walk_at "law_pick"
  refine ⟨mul_r (by decide), _, hk, by rw [sl]; simp [drwL], ?_⟩
  rw [dp_m]
  unfold wMod
  refine ⟨_, set_at hk, _, dw_m, ?_⟩
  walk_at "law_pick"
  refine ⟨div_ok (by decide), by omega, h _ _ (Int.emod_nonneg _ (by omega)) (Int.emod_lt_of_pos _ (by omega))⟩
theorem pick_1 {M : Mem} {O : Outs} {k : Nat} {n : Int} {s2 s3 : Option S} {ns : List Int} {a r m : Int} (hk : M[k]? = some (.dct (drwL ns a r m))) (n1 : 1 ≤ n) (n2 : n < 1073741824) (h : ∀ d r' m' : Int, 0 ≤ d → d < n → O.rt (.d (.int d)) (M.set k (drw ns a r' m'))) :
    wSs Γ_law_pick b_law_pick_c1 [some (.l k), some (.d (.int n)), s2, s3] M O := by
  have sl := slS
  simp only [ub_law_pick_c1]
  walk_at "law_pick"
  refine ⟨_, hk, _, dw_r, ?_⟩
  walk_at "law_pick"
  refine iteI (fun c => ?_) (fun c => ?_)
  · refine ⟨_, hk, _, dw_r, ?_⟩
    walk_at "law_pick"
    refine ⟨by omega, _, hk, _, dw_r, ?_⟩
    walk_at "law_pick"
    refine ⟨div_ok (by omega), _, hk, by rw [sl]; simp [drwL], ?_⟩
    rw [dp_r]
    unfold wMod
    exact h _ _ _ (Int.emod_nonneg _ (by omega)) (Int.emod_lt_of_pos _ (by omega))
  · exact pick_2 hk n1 n2 fun d m' => h d r m'
def sp_law_pick : FSpec := fun vs M Q E => match vs with
  | [.l k, .d (.int n)] => ∃ (ns : List Int) (a r m : Int), (M[k]? = some (drw ns a r m) ∧ 0 ≤ a ∧ 1 ≤ n ∧ n < 1073741824) ∧ ∀ d a' r' m' : Int, 0 ≤ a' → 0 ≤ d → d < n → Q (.d (.int d)) (M.set k (drw ns a' r' m'))
  | _ => False
theorem mo_law_pick : ∀ vs, Mono (sp_law_pick vs) := by
  intro vs M Q Q' X X' hq hx
  unfold sp_law_pick
  (try split) <;> (repeat' first | exact id | exact hq _ _ | exact hx _ _ | refine And.imp ?_ ?_ | refine Exists.imp (fun _ => ?_) | refine forall_imp (fun _ => ?_) | split)
theorem w_law_pick : ∀ (ss : List S) (M : Mem) (Q : S → Mem → Prop) (E : Xc → Mem → Prop), ss.length = 2 → sp_law_pick ss M Q E → wSs Γ_law_pick b_law_pick (startS N_law_pick ss) M (exits M Q E) := by
  intro ss M Q E hl h
  unfold sp_law_pick at h
  split at h
  case h_2 => exact h.elim
  rename_i k n
  obtain ⟨ns, a, r, m, ⟨hk, a0, n1, n2⟩, h⟩ := h
  have sl := slS
  unfold drw at hk
  walk_at "law_pick"
  refine ⟨_, hk, _, dw_r, ?_⟩
  walk_at "law_pick"
  refine iteI (fun c => ?_) (fun c => pick_1 hk n1 n2 fun d r' m' h0 h1 => ⟨_, _, .inl ⟨rfl, rfl⟩, h d a r' m' a0 h0 h1⟩)
  refine ⟨_, hk, _, dw_a, _, hk, _, dw_c, ?_⟩
  walk_at "law_pick"
  refine iteI (fun c2 => ?_) (fun c2 => pick_1 hk n1 n2 fun d r' m' h0 h1 => ⟨_, _, .inl ⟨rfl, rfl⟩, h d a r' m' a0 h0 h1⟩)
  refine ⟨_, hk, _, dw_c, _, hk, _, dw_a, ?_⟩
  obtain ⟨v, _, hv⟩ := at_pints (ns := ns) a0 (by simpa [pints] using c2)
  walk_at "law_pick"
  refine ⟨_, hv, _, hk, _, dw_a, ?_⟩
  walk_at "law_pick"
  refine ⟨_, hk, by rw [sl]; simp [drwL], ?_⟩
  rw [dp_a]
  unfold wMod
  have hk2 : (M.set k (.dct (drwL ns (a + 1) r m)))[k]? = some (.dct (drwL ns (a + 1) r m)) := set_at hk
  refine ⟨⟨by decide, by decide, by decide⟩, ?_⟩
  rw [p18]
  refine iteI (fun c3 => ?_) (fun c3 => ?_)
  · refine ⟨_, hk2, by rw [sl]; simp [drwL], ?_⟩
    rw [dp_r, List.set_set]
    exact pick_1 (set_at hk) n1 n2 fun d r' m' h0 h1 => ⟨_, _, .inl ⟨rfl, rfl⟩, by rw [List.set_set]; exact h d _ r' m' (by omega) h0 h1⟩
  · refine ⟨_, hk2, _, dw_m, ?_⟩
    walk_at "law_pick"
    refine ⟨mul_r (by decide), mul_r (by decide), _, hk2, by rw [sl]; simp [drwL], ?_⟩
    rw [dp_m, List.set_set]
    exact pick_1 (set_at hk) n1 n2 fun d r' m' h0 h1 => ⟨_, _, .inl ⟨rfl, rfl⟩, by rw [List.set_set]; exact h d _ r' m' (by omega) h0 h1⟩

theorem k_law_pick {k : Nat} {n : Int} {M : Mem} {Q : S → Mem → Prop} {E : Xc → Mem → Prop} : sp_law_pick [.l k, .d (.int n)] M Q E = (∃ (ns : List Int) (a r m : Int), (M[k]? = some (drw ns a r m) ∧ 0 ≤ a ∧ 1 ≤ n ∧ n < 1073741824) ∧ ∀ d a' r' m' : Int, 0 ≤ a' → 0 ≤ d → d < n → Q (.d (.int d)) (M.set k (drw ns a' r' m'))) := rfl
/-! _law_stair -/
abbrev s_law_stair : Stmt := topS 24
def N_law_stair : List Str := ["draw", "rows", "columns", "told", "i", "row"]
theorem sc_law_stair : FnScope N_law_stair ["draw", "rows", "columns"] (defScope s_law_stair) := ⟨rfl, rfl, rfl, by decide +kernel, rfl, by decide +kernel, by decide +kernel⟩
def b_law_stair_1 : Ss := .cons (.app (.var 3) (.call "_law_pick" (.cons (.var 0) (.cons (.bin .Add (.ite (.cmp .Eq (.var 4) (.cst (.int 0))) (.var 2) (.ix (.var 3) (.bin .Sub (.var 4) (.cst (.int 1))))) (.cst (.int 1))) .nil)))) .nil
def b_law_stair : Ss := .cons (.asg (.nm 3) (.al (.disp (.nil)))) (.cons (.loop (.nm 4) (.rng (.cons (.var 1) .nil)) b_law_stair_1) (.cons (.ret (.b1 .tuple (.fr (.comp (.var 5) (.nm 5) (.of (.var 3)) (.some (.cmp .Gt (.var 5) (.cst (.int 0)))))))) .nil))
theorem ub_law_stair_1 : b_law_stair_1 = .cons (.app (.var 3) (.call "_law_pick" (.cons (.var 0) (.cons (.bin .Add (.ite (.cmp .Eq (.var 4) (.cst (.int 0))) (.var 2) (.ix (.var 3) (.bin .Sub (.var 4) (.cst (.int 1))))) (.cst (.int 1))) .nil)))) .nil := rfl
theorem ub_law_stair : b_law_stair = .cons (.asg (.nm 3) (.al (.disp (.nil)))) (.cons (.loop (.nm 4) (.rng (.cons (.var 1) .nil)) b_law_stair_1) (.cons (.ret (.b1 .tuple (.fr (.comp (.var 5) (.nm 5) (.of (.var 3)) (.some (.cmp .Gt (.var 5) (.cst (.int 0)))))))) .nil)) := rfl
theorem st_law_stair {x0 x1 x2 : S} : startS N_law_stair [x0, x1, x2] = [some x0, some x1, some x2, none, none, none] := rfl
def lib_law_stair : Lib := [("_law_pick", ["draw", "many"], sp_law_pick)]
abbrev Γ_law_stair : G.Env := lib_law_stair.env (MroF tab)
theorem Φ_law_stair_law_pick : Γ_law_stair.Φ "_law_pick" = some sp_law_pick := by rfl
theorem φ_law_stair_law_pick {P : FSpec → Prop} : (∃ φ, Γ_law_stair.Φ "_law_pick" = some φ ∧ P φ) = P sp_law_pick := by rw [Φ_law_stair_law_pick]; exact ex_self
local macro_rules | `(tactic| walk_at "law_stair") => `(tactic| simp (maxSteps := 1000000) only [ub_law_stair, st_law_stair, exits, Φ_law_stair_law_pick, ↓φ_law_stair_law_pick, ↓k_law_pick, ↓e_dnew', ↓e_ddisp', ↓dx_i, ↓dx_s, ↓dp_i, ↓dp_s, ↓yl_k, ↓yl_0, ↓yl_S, ↓yl_z, ↓c_isIN, ↓c_isBN, ↓c_isSN, ↓c_isTN, ↓c_isLN, ↓c_isRN, ↓c_isnIN, ↓c_isnBN, ↓c_isnSN, ↓c_isnTN, ↓c_isnLN, ↓c_isnRN, ↓c_eqSS, ↓c_neSS, ↓ex_pq, ↓c_eqT, ↓c_neT, ↓rng_3, ↓e_mtup', ↓ex_l, ↓xp_k, ↓xp_0, ↓xp_S, ↓xp_z, ↓s_unp, ↓rv_t, ↓rv_l, ↓rv_m, ↓po_m, ↓e_rev, ↓c_isbb, ↓c_isnbb, ↓f_lrng, ↓f_comp2, ↓s_parIx, ↓xv_0, ↓xv_S, ↓da_snoc, ↓da_app, ↓e_cst, ↓e_neg, ↓e_not, ↓e_and, ↓e_or, ↓e_ite, ↓e_bin, ↓e_cmp, ↓e_chain, ↓e_tup, ↓e_fr, ↓e_ix, ↓e_dix, ↓t_dix, ↓s_dput, ↓e_sl, ↓e_rev, ↓e_call, ↓e_callK, ↓e_b1, ↓e_b2, ↓e_isX, ↓e_xval, ↓e_get, ↓e_pop, ↓e_popAt, ↓e_index, ↓t_not, ↓t_and, ↓t_or, ↓a_nil, ↓a_cons, ↓o_none, ↓o_some, ↓c_none, ↓c_some, ↓f_disp, ↓f_comp, ↓f_comp2, ↓f_listOf, ↓i_of, ↓i_rng, ↓i_zip, ↓i_rev, ↓i_keys, i_keys, ↓t_var, ↓t_cst, ↓t_neg, ↓t_ite, ↓t_bin, ↓t_cmp, ↓t_chain, ↓t_tup, ↓t_fr, ↓t_al, ↓t_ddisp, ↓t_ix, ↓t_sl, ↓t_rev, ↓t_call, ↓t_callK, ↓t_b1, ↓t_b2, ↓t_isI, ↓t_isX, ↓t_xval, ↓t_get, ↓t_pop, ↓t_popAt, ↓t_index, ↓s_asg, ↓s_setIx, ↓s_augIx, ↓s_expr, ↓s_ret, ↓s_retN, ↓s_cond, ↓s_loop, ↓s_whl, ↓s_raise, ↓s_tryX, ↓s_pass, ↓s_brk, ↓s_cont, ↓b_nil, ↓b_cons, ↓h_nil, ↓r_add, ↓r_sub, ↓r_mul, ↓r_div, ↓r_mod, ↓r_pow, ↓r_shl, ↓r_cat, ↓r_cats, ↓r_rep, ↓r_lt, ↓r_le, ↓r_gt, ↓r_ge, ↓r_eqI, ↓r_neI, ↓r_augA, ↓r_augS, ↓r_augM, ↓tg_tpt, ↓tg_tpl, ↓tg_tpm, ↓tgs_nil, ↓tgs_cons, ↓turn_nx, ↓turn_ct, ↓turn_bk, ↓turn_rt, ↓turn_ex, ↓d_nil, ↓d_eq, ↓rng_1, ↓rng_2, ↓b_int, ↓b_intb, ↓b_bool, ↓b_boolb, ↓b_lent, ↓b_lenl, ↓b_tupt, ↓b_tupl, ↓b_str, ↓b_repr', ↓xp_d, ↓b_abs, ↓b_sum, ↓b_all, ↓b_any, ↓b_max, ↓b_min, ↓ix_t, ↓ix_l, ↓sl_t, ↓sl_l, ↓c_eqb, ↓c_neb, ↓c_isN, ↓c_isnN, ↓isx_eq, ↓xval_eq, ↓c_inT, ↓c_inL, ↓c_ninT, ↓c_ninL, ↓c_ltT, ↓c_leT, ↓c_gtT, ↓c_geT, ↓c_eqS, ↓c_neS, ↓b_lenm, ↓v_0, ↓v_S, ↓n_0, ↓n_S, ↓un_0, ↓un_S, ↓s_aug', ↓s_par', ↓h_cons', ↓xl_k, ↓xl_0, ↓xl_S, ↓xl_z, ↓mm_t, ↓mm_tk, ↓to_t, ↓md_k, ↓md_0, ↓mm_0, ↓mm_S, ↓nw_1, ↓nw_2, ↓nw_3, ↓nw_4, ↓nw_5, ↓e_al', ↓ix_m', ↓b_tupm', ↓sl_m', ↓ex_map, ↓ap_l, ↓s_app', ↓xt_l, ↓s_ext', ↓in_l, ↓s_ins', ↓p_put', ↓wt_d, ↓wt_k, ↓wt_k0, ↓to_S, ↓to_z, ↓e_isI1, ↓e_isI2, ↓ex_tb, ↓ex_ti, ↓ex_tn, ↓ex_tt, ↓ex_tl, ↓ex_i, ↓ex_B, ↓xd_nil, ↓xd_cons, ↓xd_map, ↓xi_t, ↓xi_l, ↓xi_m, ↓f_cat', ↓f_rep', ↓f_slice', nw_0, e_var, e_cst, e_neg, e_not, e_and, e_or, e_ite, e_bin, e_cmp, e_chain, e_tup, e_fr, e_al, e_ix, e_sl, e_rev, e_call, e_callK, e_b1, e_b2, e_isI, e_isX, e_xval, e_get, e_pop, e_popAt, e_index, t_not, t_and, t_or, a_nil, a_cons, o_none, o_some, c_none, c_some, f_disp, f_comp, f_comp2, f_listOf, f_cat, f_rep, f_slice, i_of, i_rng, i_enum, i_zip, i_rev, t_var, t_cst, t_neg, t_ite, t_bin, t_cmp, t_chain, t_tup, t_fr, t_al, t_ddisp, t_ix, t_sl, t_rev, t_call, t_callK, t_b1, t_b2, t_isI, t_isX, t_xval, t_get, t_pop, t_popAt, t_index, s_asg, s_setIx, e_dnew, e_dix, s_dput, t_dnew, t_dix, s_par, s_aug, s_augIx, s_expr, s_app, s_ext, s_ins, s_ret, s_retN, s_cond, s_loop, s_whl, s_raise, s_tryX, s_pass, s_brk, s_cont, b_nil, b_cons, h_nil, h_cons, r_add, r_sub, r_mul, r_div, r_mod, r_pow, r_shl, r_cat, r_cats, r_rep, r_lt, r_le, r_gt, r_ge, r_eqI, r_neI, tr_bool, tr_int, tr_none, tr_tuple, tr_list, r_augA, r_augS, r_augM, m_get, m_get0, m_set, m_set0, ex_v, ex_k, ex_lst, tg_nm, tg_tpt, tg_tpl, tg_tpm, tgs_nil, tgs_cons, tgAt_eq, List.getElem?_cons_succ, List.getElem?_cons_zero, List.set_cons_succ, List.set_cons_zero, List.length_append, List.length_cons, List.length_nil, List.append_assoc, List.cons_append, List.nil_append, decide_eq_true_eq, I, B, N0, S.l.injEq, S.d.injEq, Option.some.injEq, MO.lst.injEq, exists_eq_left', exists_and_left, mapM_d, Bool.false_eq_true, isT_int_none, isT_int_bool, isT_int_int, isT_int_str, isT_int_list, isT_int_tuple, isT_int_dict, isT_bool_none, isT_bool_bool, isT_bool_int, isT_bool_str, isT_bool_list, isT_bool_tuple, isT_bool_dict, isT_str_none, isT_str_bool, isT_str_int, isT_str_str, isT_str_list, isT_str_tuple, isT_str_dict, isT_list_none, isT_list_bool, isT_list_int, isT_list_str, isT_list_list, isT_list_tuple, isT_list_dict, isT_tuple_none, isT_tuple_bool, isT_tuple_int, isT_tuple_str, isT_tuple_list, isT_tuple_tuple, isT_tuple_dict, isT_dict_none, isT_dict_bool, isT_dict_int, isT_dict_str, isT_dict_list, isT_dict_tuple, isT_dict_dict, at_0, at_1, mapM_s, List.map_cons, List.map_nil, List.any_cons, List.any_nil, id_eq, Bool.or_false, Bool.not_true, Bool.not_false, ↓reduceIte, turn_nx, turn_ct, turn_bk, turn_rt, turn_ex, ty_m, Int.zero_add, d_nil, d_eq, rng_1, rng_2, b_int, b_intb, b_bool, b_boolb, b_lent, b_lenl, b_lenm, b_tupt, b_tupl, b_tupm, b_str, b_repr', b_abs, b_sum, b_all, b_any, b_max, b_min, ix_t, ix_l, ix_m, sl_t, sl_l, sl_m, ty_d, it_t, it_l, pd_d, c_eqb, c_neb, c_isN, c_isnN, isx_eq, xval_eq, true_and, and_true, List.append_nil, wipeS, tgSlots, tgSlotss, c_inT, c_inL, c_ninT, c_ninL, c_ltT, c_leT, c_gtT, c_geT, it_k, it_k0, ty_k, ty_k0, lo_1, to_1, to_2, beq_self_eq_true, sd_inj, da_nil, da_cons, da_map, Option.map_some, p_put, Nat.reduceAdd, Int.reduceEq, Int.reduceLT, Int.reduceLE, f_lrng, f_comp2, e_indexT, s_parIx, s_any, gt_t, gt_tk, c_noneF, c_eqS, c_neS, eq_self, decide_true, decide_false, pints_len, itm_len, sz_0, sz_1, sz_2, sz_3, sz_4, sz_5, sz_6, sz_7, sz_8, int?_d, ok_of_d, ex_self, Nat.zero_add])
theorem lm_law_stair : ∀ p ∈ lib_law_stair, ∀ vs, Mono (p.2.2 vs) := by
  intro p hp
  simp only [lib_law_stair, List.mem_cons, List.not_mem_nil, or_false] at hp
  subst hp
  exact mo_law_pick
theorem mb_law_stair (s : Ss) : MonoS (wSs Γ_law_stair s) := mSs s _ (Lib.mo lm_law_stair)
theorem ck_law_stair : kSs b_law_stair ⟨N_law_stair, defScope s_law_stair, lib_law_stair.fs, kws, cs, hs, true⟩ (defBody s_law_stair) = true := by decide +kernel
theorem bd_law_stair : Bd "_law_stair" s_law_stair ["draw", "rows", "columns"] := fun _ _ _ _ _ _ us hl => match us, hl with | [_, _, _], _ => rfl
theorem kb_law_stair : ∀ q ∈ kws, q.1 = "_law_stair" → BdK "_law_stair" s_law_stair ["draw", "rows", "columns"] q.2.1 q.2.2 := by
  intro q hq
  cases hq
def sp_law_stair : FSpec := fun vs M Q E => match vs with
  | [.l k, .d (.int r), .d (.int c)] => ∃ (ns : List Int) (a r' m : Int) (R C : Nat), (M[k]? = some (drw ns a r' m) ∧ 0 ≤ a ∧ r = R ∧ c = C ∧ R ≤ 10 ∧ C ≤ 10) ∧ ∀ (l : List Int) (a' r' m' : Int), 0 ≤ a' → St l → l.length ≤ R → rowZ l 0 ≤ C → Q (.d (.tuple (pints l))) (M.set k (drw ns a' r' m'))
  | _ => False
theorem mo_law_stair : ∀ vs, Mono (sp_law_stair vs) := by
  intro vs M Q Q' X X' hq hx
  unfold sp_law_stair
  (try split) <;> (repeat' first | exact id | exact hq _ _ | exact hx _ _ | refine And.imp ?_ ?_ | refine Exists.imp (fun _ => ?_) | refine forall_imp (fun _ => ?_) | split)
theorem w_law_stair : ∀ (ss : List S) (M : Mem) (Q : S → Mem → Prop) (E : Xc → Mem → Prop), ss.length = 3 → sp_law_stair ss M Q E → wSs Γ_law_stair b_law_stair (startS N_law_stair ss) M (exits M Q E) := by
  intro ss M Q E hl h
  unfold sp_law_stair at h
  split at h
  case h_2 => exact h.elim
  rename_i k r c
  obtain ⟨ns, a, r', m, R, C, ⟨hk, a0, rfl, rfl, hR, hC⟩, h⟩ := h
  have sl := slS
  walk_at "law_stair"
  refine ⟨by unfold rngOk; omega, ?_⟩
  have kl := get_len hk
  refine for_rng R (by omega) (mb_law_stair _) (fun i ρ M' => ∃ (row : List Int) (a r m : Int) (s4 s5 : Option S), ρ = [some (.l k), some (I R), some (I C), some (.l M.length), s4, s5] ∧ M' = M.set k (drw ns a r m) ++ [.lst ((pints row).map .d)] ∧ 0 ≤ a ∧ row.length = i ∧ row.Pairwise (· ≥ ·) ∧ ∀ z ∈ row, 0 ≤ z ∧ z ≤ C) ⟨[], a, r', m, _, _, rfl, by rw [set_same hk]; rfl, a0, rfl, List.Pairwise.nil, fun _ h => nomatch h⟩ ?_ ?_
  · rintro ρ M' ⟨row, a, r, m, s4, s5, rfl, rfl, a0, ln, pw, bd⟩
    walk_at "law_stair"
    refine ⟨_, set_new, by simp [pints]; omega, ?_⟩
    refine lc_int (p := fun z => decide (0 < z)) (f := fun z => I z) set_new (fun z hz Q q => ?_) (fun z hz hp Q q => ?_) ?_
    · walk_at "law_stair"
      simpa using q
    · walk_at "law_stair"
      exact q
    · have e1 : ∀ L : List Int, (L.map fun z => I z) = (pints L).map S.d := fun L => by simp [pints, Function.comp_def]
      rw [e1]
      refine ⟨_, dataAll_map _, _, _, ex_drw trivial, h _ a r m a0 (filter_st pw) ?_ ?_⟩
      · rw [← ln]
        exact List.length_filter_le _ _
      · by_cases c : 0 < (row.filter fun z => decide (0 < z)).length
        · rw [rowZ_lt c]
          exact (bd _ (List.mem_filter.mp (List.getElem_mem c)).1).2
        · rw [rowZ_ge (by omega)]
          omega
  · rintro i ρ M' hi ⟨row, a, r, m, s4, s5, rfl, rfl, a0, ln, pw, bd⟩
    have fin : ∀ (d a' r' m' : Int), 0 ≤ a' → 0 ≤ d → d ≤ C → (∀ z ∈ row, d ≤ z) → ∃ xs, ((M.set k (drw ns a r m) ++ [MO.lst ((pints row).map .d)]).set k (drw ns a' r' m'))[M.length]? = some (MO.lst xs) ∧ xs.length < sizeLine ∧
        wMod M.length (MO.lst (xs ++ [S.d (PyData.int d)])) ((M.set k (drw ns a r m) ++ [MO.lst ((pints row).map .d)]).set k (drw ns a' r' m')) fun M3 => ∃ (row : List Int) (a r m : Int) (s4' s5' : Option S), [some (.l k), some (I R), some (I C), some (.l M.length), some (I i), s5] = [some (.l k), some (I R), some (I C), some (.l M.length), s4', s5'] ∧ M3 = M.set k (drw ns a r m) ++ [MO.lst ((pints row).map .d)] ∧ 0 ≤ a ∧ row.length = i + 1 ∧ row.Pairwise (· ≥ ·) ∧ ∀ z ∈ row, 0 ≤ z ∧ z ≤ C := fun d a' r' m' a1 d0 d1 dz => by
      rw [set_again kl]
      refine ⟨_, set_new, by simp [pints]; omega, ?_⟩
      unfold wMod
      rw [set_newS]
      refine ⟨row ++ [d], a', r', m', _, _, rfl, by simp [pints], a1, by simp [ln], ?_, fun z hz => ?_⟩
      · refine List.pairwise_append.mpr ⟨pw, List.pairwise_singleton _ _, fun x hx y hy => ?_⟩
        rw [List.mem_singleton.mp hy]
        exact dz x hx
      · rcases List.mem_append.mp hz with hz | hz
        · exact bd z hz
        · rw [List.mem_singleton.mp hz]
          exact ⟨d0, d1⟩
    simp only [ub_law_stair_1]
    walk_at "law_stair"
    refine ⟨set_ty, iteI (fun c => ?_) (fun c => ?_)⟩
    · refine ⟨ns, a, r, m, ⟨set_old kl, a0, by omega, by omega⟩, fun d a' r' m' a1 d0 d1 => fin d a' r' m' a1 d0 (by omega) fun z hz => ?_⟩
      have : row = [] := List.eq_nil_of_length_eq_zero (by omega)
      rw [this] at hz
      cases hz
    · rcases snoc_or row with rfl | ⟨row', x, rfl⟩
      · exact absurd ln.symm (by simp; omega)
      · rw [List.length_append, List.length_singleton] at ln
        refine ⟨_, set_new, I x, ?_, ?_⟩
        · rw [show (i : Int) - 1 = (row'.length : Nat) by omega]
          exact at_nat (by simp [pints])
        have bx := bd x (by simp)
        walk_at "law_stair"
        refine ⟨ns, a, r, m, ⟨set_old kl, a0, by omega, by omega⟩, fun d a' r' m' a1 d0 d1 => fin d a' r' m' a1 d0 (by omega) fun z hz => ?_⟩
        rcases List.mem_append.mp hz with hz | hz
        · have := (List.pairwise_append.mp pw).2.2 z hz x (by simp)
          omega
        · rw [List.mem_singleton.mp hz]
          omega

theorem k_law_stair {k : Nat} {r : Int} {c : Int} {M : Mem} {Q : S → Mem → Prop} {E : Xc → Mem → Prop} : sp_law_stair [.l k, .d (.int r), .d (.int c)] M Q E = (∃ (ns : List Int) (a r' m : Int) (R C : Nat), (M[k]? = some (drw ns a r' m) ∧ 0 ≤ a ∧ r = R ∧ c = C ∧ R ≤ 10 ∧ C ≤ 10) ∧ ∀ (l : List Int) (a' r' m' : Int), 0 ≤ a' → St l → l.length ≤ R → rowZ l 0 ≤ C → Q (.d (.tuple (pints l))) (M.set k (drw ns a' r' m'))) := rfl
/-! _law_boxes -/
abbrev s_law_boxes : Stmt := topS 25
def N_law_boxes : List Str := ["stair", "places", "i", "j"]
theorem sc_law_boxes : FnScope N_law_boxes ["stair"] (defScope s_law_boxes) := ⟨rfl, rfl, rfl, by decide +kernel, rfl, by decide +kernel, by decide +kernel⟩
def b_law_boxes_1 : Ss := .cons (.asg (.nm 1) (.fr (.cat (.var 1) (.fr (.comp (.tup (.cons (.var 2) (.cons (.var 3) .nil))) (.nm 3) (.rng (.cons (.ix (.var 0) (.var 2)) .nil)) .none))))) .nil
def b_law_boxes : Ss := .cons (.asg (.nm 1) (.fr (.disp (.nil)))) (.cons (.loop (.nm 2) (.rng (.cons (.b1 .len (.var 0)) .nil)) b_law_boxes_1) (.cons (.ret (.var 1)) .nil))
theorem ub_law_boxes_1 : b_law_boxes_1 = .cons (.asg (.nm 1) (.fr (.cat (.var 1) (.fr (.comp (.tup (.cons (.var 2) (.cons (.var 3) .nil))) (.nm 3) (.rng (.cons (.ix (.var 0) (.var 2)) .nil)) .none))))) .nil := rfl
theorem ub_law_boxes : b_law_boxes = .cons (.asg (.nm 1) (.fr (.disp (.nil)))) (.cons (.loop (.nm 2) (.rng (.cons (.b1 .len (.var 0)) .nil)) b_law_boxes_1) (.cons (.ret (.var 1)) .nil)) := rfl
theorem st_law_boxes {x0 : S} : startS N_law_boxes [x0] = [some x0, none, none, none] := rfl
def lib_law_boxes : Lib := []
abbrev Γ_law_boxes : G.Env := lib_law_boxes.env (MroF tab)
local macro_rules | `(tactic| walk_at "law_boxes") => `(tactic| simp (maxSteps := 1000000) only [ub_law_boxes, st_law_boxes, exits, ↓e_dnew', ↓e_ddisp', ↓dx_i, ↓dx_s, ↓dp_i, ↓dp_s, ↓yl_k, ↓yl_0, ↓yl_S, ↓yl_z, ↓c_isIN, ↓c_isBN, ↓c_isSN, ↓c_isTN, ↓c_isLN, ↓c_isRN, ↓c_isnIN, ↓c_isnBN, ↓c_isnSN, ↓c_isnTN, ↓c_isnLN, ↓c_isnRN, ↓c_eqSS, ↓c_neSS, ↓ex_pq, ↓c_eqT, ↓c_neT, ↓rng_3, ↓e_mtup', ↓ex_l, ↓xp_k, ↓xp_0, ↓xp_S, ↓xp_z, ↓s_unp, ↓rv_t, ↓rv_l, ↓rv_m, ↓po_m, ↓e_rev, ↓c_isbb, ↓c_isnbb, ↓f_lrng, ↓f_comp2, ↓s_parIx, ↓xv_0, ↓xv_S, ↓da_snoc, ↓da_app, ↓e_cst, ↓e_neg, ↓e_not, ↓e_and, ↓e_or, ↓e_ite, ↓e_bin, ↓e_cmp, ↓e_chain, ↓e_tup, ↓e_fr, ↓e_ix, ↓e_dix, ↓t_dix, ↓s_dput, ↓e_sl, ↓e_rev, ↓e_call, ↓e_callK, ↓e_b1, ↓e_b2, ↓e_isX, ↓e_xval, ↓e_get, ↓e_pop, ↓e_popAt, ↓e_index, ↓t_not, ↓t_and, ↓t_or, ↓a_nil, ↓a_cons, ↓o_none, ↓o_some, ↓c_none, ↓c_some, ↓f_disp, ↓f_comp, ↓f_comp2, ↓f_listOf, ↓i_of, ↓i_rng, ↓i_zip, ↓i_rev, ↓i_keys, i_keys, ↓t_var, ↓t_cst, ↓t_neg, ↓t_ite, ↓t_bin, ↓t_cmp, ↓t_chain, ↓t_tup, ↓t_fr, ↓t_al, ↓t_ddisp, ↓t_ix, ↓t_sl, ↓t_rev, ↓t_call, ↓t_callK, ↓t_b1, ↓t_b2, ↓t_isI, ↓t_isX, ↓t_xval, ↓t_get, ↓t_pop, ↓t_popAt, ↓t_index, ↓s_asg, ↓s_setIx, ↓s_augIx, ↓s_expr, ↓s_ret, ↓s_retN, ↓s_cond, ↓s_loop, ↓s_whl, ↓s_raise, ↓s_tryX, ↓s_pass, ↓s_brk, ↓s_cont, ↓b_nil, ↓b_cons, ↓h_nil, ↓r_add, ↓r_sub, ↓r_mul, ↓r_div, ↓r_mod, ↓r_pow, ↓r_shl, ↓r_cat, ↓r_cats, ↓r_rep, ↓r_lt, ↓r_le, ↓r_gt, ↓r_ge, ↓r_eqI, ↓r_neI, ↓r_augA, ↓r_augS, ↓r_augM, ↓tg_tpt, ↓tg_tpl, ↓tg_tpm, ↓tgs_nil, ↓tgs_cons, ↓turn_nx, ↓turn_ct, ↓turn_bk, ↓turn_rt, ↓turn_ex, ↓d_nil, ↓d_eq, ↓rng_1, ↓rng_2, ↓b_int, ↓b_intb, ↓b_bool, ↓b_boolb, ↓b_lent, ↓b_lenl, ↓b_tupt, ↓b_tupl, ↓b_str, ↓b_repr', ↓xp_d, ↓b_abs, ↓b_sum, ↓b_all, ↓b_any, ↓b_max, ↓b_min, ↓ix_t, ↓ix_l, ↓sl_t, ↓sl_l, ↓c_eqb, ↓c_neb, ↓c_isN, ↓c_isnN, ↓isx_eq, ↓xval_eq, ↓c_inT, ↓c_inL, ↓c_ninT, ↓c_ninL, ↓c_ltT, ↓c_leT, ↓c_gtT, ↓c_geT, ↓c_eqS, ↓c_neS, ↓b_lenm, ↓v_0, ↓v_S, ↓n_0, ↓n_S, ↓un_0, ↓un_S, ↓s_aug', ↓s_par', ↓h_cons', ↓xl_k, ↓xl_0, ↓xl_S, ↓xl_z, ↓mm_t, ↓mm_tk, ↓to_t, ↓md_k, ↓md_0, ↓mm_0, ↓mm_S, ↓nw_1, ↓nw_2, ↓nw_3, ↓nw_4, ↓nw_5, ↓e_al', ↓ix_m', ↓b_tupm', ↓sl_m', ↓ex_map, ↓ap_l, ↓s_app', ↓xt_l, ↓s_ext', ↓in_l, ↓s_ins', ↓p_put', ↓wt_d, ↓wt_k, ↓wt_k0, ↓to_S, ↓to_z, ↓e_isI1, ↓e_isI2, ↓ex_tb, ↓ex_ti, ↓ex_tn, ↓ex_tt, ↓ex_tl, ↓ex_i, ↓ex_B, ↓xd_nil, ↓xd_cons, ↓xd_map, ↓xi_t, ↓xi_l, ↓xi_m, ↓f_cat', ↓f_rep', ↓f_slice', nw_0, e_var, e_cst, e_neg, e_not, e_and, e_or, e_ite, e_bin, e_cmp, e_chain, e_tup, e_fr, e_al, e_ix, e_sl, e_rev, e_call, e_callK, e_b1, e_b2, e_isI, e_isX, e_xval, e_get, e_pop, e_popAt, e_index, t_not, t_and, t_or, a_nil, a_cons, o_none, o_some, c_none, c_some, f_disp, f_comp, f_comp2, f_listOf, f_cat, f_rep, f_slice, i_of, i_rng, i_enum, i_zip, i_rev, t_var, t_cst, t_neg, t_ite, t_bin, t_cmp, t_chain, t_tup, t_fr, t_al, t_ddisp, t_ix, t_sl, t_rev, t_call, t_callK, t_b1, t_b2, t_isI, t_isX, t_xval, t_get, t_pop, t_popAt, t_index, s_asg, s_setIx, e_dnew, e_dix, s_dput, t_dnew, t_dix, s_par, s_aug, s_augIx, s_expr, s_app, s_ext, s_ins, s_ret, s_retN, s_cond, s_loop, s_whl, s_raise, s_tryX, s_pass, s_brk, s_cont, b_nil, b_cons, h_nil, h_cons, r_add, r_sub, r_mul, r_div, r_mod, r_pow, r_shl, r_cat, r_cats, r_rep, r_lt, r_le, r_gt, r_ge, r_eqI, r_neI, tr_bool, tr_int, tr_none, tr_tuple, tr_list, r_augA, r_augS, r_augM, m_get, m_get0, m_set, m_set0, ex_v, ex_k, ex_lst, tg_nm, tg_tpt, tg_tpl, tg_tpm, tgs_nil, tgs_cons, tgAt_eq, List.getElem?_cons_succ, List.getElem?_cons_zero, List.set_cons_succ, List.set_cons_zero, List.length_append, List.length_cons, List.length_nil, List.append_assoc, List.cons_append, List.nil_append, decide_eq_true_eq, I, B, N0, S.l.injEq, S.d.injEq, Option.some.injEq, MO.lst.injEq, exists_eq_left', exists_and_left, mapM_d, Bool.false_eq_true, isT_int_none, isT_int_bool, isT_int_int, isT_int_str, isT_int_list, isT_int_tuple, isT_int_dict, isT_bool_none, isT_bool_bool, isT_bool_int, isT_bool_str, isT_bool_list, isT_bool_tuple, isT_bool_dict, isT_str_none, isT_str_bool, isT_str_int, isT_str_str, isT_str_list, isT_str_tuple, isT_str_dict, isT_list_none, isT_list_bool, isT_list_int, isT_list_str, isT_list_list, isT_list_tuple, isT_list_dict, isT_tuple_none, isT_tuple_bool, isT_tuple_int, isT_tuple_str, isT_tuple_list, isT_tuple_tuple, isT_tuple_dict, isT_dict_none, isT_dict_bool, isT_dict_int, isT_dict_str, isT_dict_list, isT_dict_tuple, isT_dict_dict, at_0, at_1, mapM_s, List.map_cons, List.map_nil, List.any_cons, List.any_nil, id_eq, Bool.or_false, Bool.not_true, Bool.not_false, ↓reduceIte, turn_nx, turn_ct, turn_bk, turn_rt, turn_ex, ty_m, Int.zero_add, d_nil, d_eq, rng_1, rng_2, b_int, b_intb, b_bool, b_boolb, b_lent, b_lenl, b_lenm, b_tupt, b_tupl, b_tupm, b_str, b_repr', b_abs, b_sum, b_all, b_any, b_max, b_min, ix_t, ix_l, ix_m, sl_t, sl_l, sl_m, ty_d, it_t, it_l, pd_d, c_eqb, c_neb, c_isN, c_isnN, isx_eq, xval_eq, true_and, and_true, List.append_nil, wipeS, tgSlots, tgSlotss, c_inT, c_inL, c_ninT, c_ninL, c_ltT, c_leT, c_gtT, c_geT, it_k, it_k0, ty_k, ty_k0, lo_1, to_1, to_2, beq_self_eq_true, sd_inj, da_nil, da_cons, da_map, Option.map_some, p_put, Nat.reduceAdd, Int.reduceEq, Int.reduceLT, Int.reduceLE, f_lrng, f_comp2, e_indexT, s_parIx, s_any, gt_t, gt_tk, c_noneF, c_eqS, c_neS, eq_self, decide_true, decide_false, pints_len, itm_len, sz_0, sz_1, sz_2, sz_3, sz_4, sz_5, sz_6, sz_7, sz_8, int?_d, ok_of_d, ex_self, Nat.zero_add])
theorem lm_law_boxes : ∀ p ∈ lib_law_boxes, ∀ vs, Mono (p.2.2 vs) := fun p hp => by cases hp
theorem mb_law_boxes (s : Ss) : MonoS (wSs Γ_law_boxes s) := mSs s _ (Lib.mo lm_law_boxes)
theorem ck_law_boxes : kSs b_law_boxes ⟨N_law_boxes, defScope s_law_boxes, lib_law_boxes.fs, kws, cs, hs, true⟩ (defBody s_law_boxes) = true := by decide +kernel
theorem bd_law_boxes : Bd "_law_boxes" s_law_boxes ["stair"] := fun _ _ _ _ _ _ us hl => match us, hl with | [_], _ => rfl
theorem kb_law_boxes : ∀ q ∈ kws, q.1 = "_law_boxes" → BdK "_law_boxes" s_law_boxes ["stair"] q.2.1 q.2.2 := by
  intro q hq
  cases hq
def boxesD (l : List Int) (n : Nat) : List PD := (boxesUp l n).map fun p => .tuple [.int p.1, .int p.2]
theorem boxesD_len {l : List Int} (wd : ∀ i, rowZ l i ≤ 30) : ∀ n, (boxesD l n).length ≤ 30 * n
  | 0 => by simp [boxesD, boxesUp]
  | n + 1 => by
    have := boxesD_len wd n
    have := wd n
    simp only [boxesD, boxesUp, List.map_append, List.length_append, List.length_map, List.length_range] at *
    omega
def sp_law_boxes : FSpec := fun vs M Q E => match vs with
  | [.d (.tuple xs)] => ∃ l : List Int, (xs = pints l ∧ Pos l ∧ l.length ≤ 30 ∧ ∀ i, rowZ l i ≤ 30) ∧ Q (.d (.list (boxesD l l.length))) M
  | _ => False
theorem mo_law_boxes : ∀ vs, Mono (sp_law_boxes vs) := by
  intro vs M Q Q' X X' hq hx
  unfold sp_law_boxes
  (try split) <;> (repeat' first | exact id | exact hq _ _ | exact hx _ _ | refine And.imp ?_ ?_ | refine Exists.imp (fun _ => ?_) | refine forall_imp (fun _ => ?_) | split)
theorem w_law_boxes : ∀ (ss : List S) (M : Mem) (Q : S → Mem → Prop) (E : Xc → Mem → Prop), ss.length = 1 → sp_law_boxes ss M Q E → wSs Γ_law_boxes b_law_boxes (startS N_law_boxes ss) M (exits M Q E) := by
  intro ss M Q E hl h
  unfold sp_law_boxes at h
  split at h
  case h_2 => exact h.elim
  rename_i xs
  obtain ⟨l, ⟨rfl, ps, ln, wd⟩, h⟩ := h
  have sl := slS
  walk_at "law_boxes"
  refine ⟨by unfold rngOk; omega, ?_⟩
  refine for_rng l.length (by omega) (mb_law_boxes _) (fun i ρ M' => ∃ (s2 s3 : Option S), ρ = [some (.d (.tuple (pints l))), some (.d (.list (boxesD l i))), s2, s3] ∧ M' = M) ⟨_, _, rfl, rfl⟩ ?_ ?_
  · rintro ρ M' ⟨s2, s3, rfl, rfl⟩
    walk_at "law_boxes"
    exact ret_here h
  · rintro i ρ M' hi ⟨s2, s3, rfl, rfl⟩
    simp only [ub_law_boxes_1]
    walk_at "law_boxes"
    have w1 := wd i
    have w0 := ps.nn i
    refine ⟨.int (rowZ l i), at_nat (by simp [pints, hi, rowZ_lt hi]), ?_⟩
    walk_at "law_boxes"
    refine ⟨by unfold rngOk; omega, by simp [rngItems]; omega, ?_⟩
    refine lc_rng (f := fun j => S.d (.tuple [.int i, .int j])) (rowZ l i).toNat (by omega) trivial (fun j hj Q q => ?_) ?_
    · walk_at "law_boxes"
      exact q
    · have e1 : ((List.range (rowZ l i).toNat).map fun j => S.d (.tuple [.int i, .int (j : Nat)])) = ((List.range (rowZ l i).toNat).map fun (j : Nat) => PyData.tuple [.int i, .int j]).map S.d := by simp [Function.comp_def]
      have e2 : boxesD l i ++ ((List.range (rowZ l i).toNat).map fun (j : Nat) => PyData.tuple [.int i, .int j]) = boxesD l (i + 1) := by simp [boxesD, boxesUp, Function.comp_def]
      have bl := boxesD_len wd i
      rw [e1]
      refine ⟨_, dataAll_map _, by rw [List.length_map, List.length_map, List.length_map, List.length_range]; omega, ?_⟩
      rw [e2]
      exact ⟨_, _, rfl, rfl⟩

theorem k_law_boxes {xs : List PD} {M : Mem} {Q : S → Mem → Prop} {E : Xc → Mem → Prop} : sp_law_boxes [.d (.tuple xs)] M Q E = (∃ l : List Int, (xs = pints l ∧ Pos l ∧ l.length ≤ 30 ∧ ∀ i, rowZ l i ≤ 30) ∧ Q (.d (.list (boxesD l l.length))) M) := rfl
/-! is_integer -/
abbrev s_is_integer : Stmt := topS 1
def N_is_integer : List Str := ["value"]
theorem sc_is_integer : FnScope N_is_integer ["value"] (defScope s_is_integer) := ⟨rfl, rfl, rfl, by decide +kernel, rfl, by decide +kernel, by decide +kernel⟩
def b_is_integer : Ss := .cons (.ret (.and (.isI (.var 0) ["int"]) (.not (.isI (.var 0) ["bool"])))) .nil
theorem ub_is_integer : b_is_integer = .cons (.ret (.and (.isI (.var 0) ["int"]) (.not (.isI (.var 0) ["bool"])))) .nil := rfl
theorem st_is_integer {x0 : S} : startS N_is_integer [x0] = [some x0] := rfl
def lib_is_integer : Lib := []
abbrev Γ_is_integer : G.Env := lib_is_integer.env (MroF tab)
local macro_rules | `(tactic| walk_at "is_integer") => `(tactic| simp (maxSteps := 1000000) only [ub_is_integer, st_is_integer, exits, ↓e_dnew', ↓e_ddisp', ↓dx_i, ↓dx_s, ↓dp_i, ↓dp_s, ↓yl_k, ↓yl_0, ↓yl_S, ↓yl_z, ↓c_isIN, ↓c_isBN, ↓c_isSN, ↓c_isTN, ↓c_isLN, ↓c_isRN, ↓c_isnIN, ↓c_isnBN, ↓c_isnSN, ↓c_isnTN, ↓c_isnLN, ↓c_isnRN, ↓c_eqSS, ↓c_neSS, ↓ex_pq, ↓c_eqT, ↓c_neT, ↓rng_3, ↓e_mtup', ↓ex_l, ↓xp_k, ↓xp_0, ↓xp_S, ↓xp_z, ↓s_unp, ↓rv_t, ↓rv_l, ↓rv_m, ↓po_m, ↓e_rev, ↓c_isbb, ↓c_isnbb, ↓f_lrng, ↓f_comp2, ↓s_parIx, ↓xv_0, ↓xv_S, ↓da_snoc, ↓da_app, ↓e_cst, ↓e_neg, ↓e_not, ↓e_and, ↓e_or, ↓e_ite, ↓e_bin, ↓e_cmp, ↓e_chain, ↓e_tup, ↓e_fr, ↓e_ix, ↓e_dix, ↓t_dix, ↓s_dput, ↓e_sl, ↓e_rev, ↓e_call, ↓e_callK, ↓e_b1, ↓e_b2, ↓e_isX, ↓e_xval, ↓e_get, ↓e_pop, ↓e_popAt, ↓e_index, ↓t_not, ↓t_and, ↓t_or, ↓a_nil, ↓a_cons, ↓o_none, ↓o_some, ↓c_none, ↓c_some, ↓f_disp, ↓f_comp, ↓f_comp2, ↓f_listOf, ↓i_of, ↓i_rng, ↓i_zip, ↓i_rev, ↓i_keys, i_keys, ↓t_var, ↓t_cst, ↓t_neg, ↓t_ite, ↓t_bin, ↓t_cmp, ↓t_chain, ↓t_tup, ↓t_fr, ↓t_al, ↓t_ddisp, ↓t_ix, ↓t_sl, ↓t_rev, ↓t_call, ↓t_callK, ↓t_b1, ↓t_b2, ↓t_isI, ↓t_isX, ↓t_xval, ↓t_get, ↓t_pop, ↓t_popAt, ↓t_index, ↓s_asg, ↓s_setIx, ↓s_augIx, ↓s_expr, ↓s_ret, ↓s_retN, ↓s_cond, ↓s_loop, ↓s_whl, ↓s_raise, ↓s_tryX, ↓s_pass, ↓s_brk, ↓s_cont, ↓b_nil, ↓b_cons, ↓h_nil, ↓r_add, ↓r_sub, ↓r_mul, ↓r_div, ↓r_mod, ↓r_pow, ↓r_shl, ↓r_cat, ↓r_cats, ↓r_rep, ↓r_lt, ↓r_le, ↓r_gt, ↓r_ge, ↓r_eqI, ↓r_neI, ↓r_augA, ↓r_augS, ↓r_augM, ↓tg_tpt, ↓tg_tpl, ↓tg_tpm, ↓tgs_nil, ↓tgs_cons, ↓turn_nx, ↓turn_ct, ↓turn_bk, ↓turn_rt, ↓turn_ex, ↓d_nil, ↓d_eq, ↓rng_1, ↓rng_2, ↓b_int, ↓b_intb, ↓b_bool, ↓b_boolb, ↓b_lent, ↓b_lenl, ↓b_tupt, ↓b_tupl, ↓b_str, ↓b_repr', ↓xp_d, ↓b_abs, ↓b_sum, ↓b_all, ↓b_any, ↓b_max, ↓b_min, ↓ix_t, ↓ix_l, ↓sl_t, ↓sl_l, ↓c_eqb, ↓c_neb, ↓c_isN, ↓c_isnN, ↓isx_eq, ↓xval_eq, ↓c_inT, ↓c_inL, ↓c_ninT, ↓c_ninL, ↓c_ltT, ↓c_leT, ↓c_gtT, ↓c_geT, ↓c_eqS, ↓c_neS, ↓b_lenm, ↓v_0, ↓v_S, ↓n_0, ↓n_S, ↓un_0, ↓un_S, ↓s_aug', ↓s_par', ↓h_cons', ↓xl_k, ↓xl_0, ↓xl_S, ↓xl_z, ↓mm_t, ↓mm_tk, ↓to_t, ↓md_k, ↓md_0, ↓mm_0, ↓mm_S, ↓nw_1, ↓nw_2, ↓nw_3, ↓nw_4, ↓nw_5, ↓e_al', ↓ix_m', ↓b_tupm', ↓sl_m', ↓ex_map, ↓ap_l, ↓s_app', ↓xt_l, ↓s_ext', ↓in_l, ↓s_ins', ↓p_put', ↓wt_d, ↓wt_k, ↓wt_k0, ↓to_S, ↓to_z, ↓e_isI1, ↓e_isI2, ↓ex_tb, ↓ex_ti, ↓ex_tn, ↓ex_tt, ↓ex_tl, ↓ex_i, ↓ex_B, ↓xd_nil, ↓xd_cons, ↓xd_map, ↓xi_t, ↓xi_l, ↓xi_m, ↓f_cat', ↓f_rep', ↓f_slice', nw_0, e_var, e_cst, e_neg, e_not, e_and, e_or, e_ite, e_bin, e_cmp, e_chain, e_tup, e_fr, e_al, e_ix, e_sl, e_rev, e_call, e_callK, e_b1, e_b2, e_isI, e_isX, e_xval, e_get, e_pop, e_popAt, e_index, t_not, t_and, t_or, a_nil, a_cons, o_none, o_some, c_none, c_some, f_disp, f_comp, f_comp2, f_listOf, f_cat, f_rep, f_slice, i_of, i_rng, i_enum, i_zip, i_rev, t_var, t_cst, t_neg, t_ite, t_bin, t_cmp, t_chain, t_tup, t_fr, t_al, t_ddisp, t_ix, t_sl, t_rev, t_call, t_callK, t_b1, t_b2, t_isI, t_isX, t_xval, t_get, t_pop, t_popAt, t_index, s_asg, s_setIx, e_dnew, e_dix, s_dput, t_dnew, t_dix, s_par, s_aug, s_augIx, s_expr, s_app, s_ext, s_ins, s_ret, s_retN, s_cond, s_loop, s_whl, s_raise, s_tryX, s_pass, s_brk, s_cont, b_nil, b_cons, h_nil, h_cons, r_add, r_sub, r_mul, r_div, r_mod, r_pow, r_shl, r_cat, r_cats, r_rep, r_lt, r_le, r_gt, r_ge, r_eqI, r_neI, tr_bool, tr_int, tr_none, tr_tuple, tr_list, r_augA, r_augS, r_augM, m_get, m_get0, m_set, m_set0, ex_v, ex_k, ex_lst, tg_nm, tg_tpt, tg_tpl, tg_tpm, tgs_nil, tgs_cons, tgAt_eq, List.getElem?_cons_succ, List.getElem?_cons_zero, List.set_cons_succ, List.set_cons_zero, List.length_append, List.length_cons, List.length_nil, List.append_assoc, List.cons_append, List.nil_append, decide_eq_true_eq, I, B, N0, S.l.injEq, S.d.injEq, Option.some.injEq, MO.lst.injEq, exists_eq_left', exists_and_left, mapM_d, Bool.false_eq_true, isT_int_none, isT_int_bool, isT_int_int, isT_int_str, isT_int_list, isT_int_tuple, isT_int_dict, isT_bool_none, isT_bool_bool, isT_bool_int, isT_bool_str, isT_bool_list, isT_bool_tuple, isT_bool_dict, isT_str_none, isT_str_bool, isT_str_int, isT_str_str, isT_str_list, isT_str_tuple, isT_str_dict, isT_list_none, isT_list_bool, isT_list_int, isT_list_str, isT_list_list, isT_list_tuple, isT_list_dict, isT_tuple_none, isT_tuple_bool, isT_tuple_int, isT_tuple_str, isT_tuple_list, isT_tuple_tuple, isT_tuple_dict, isT_dict_none, isT_dict_bool, isT_dict_int, isT_dict_str, isT_dict_list, isT_dict_tuple, isT_dict_dict, at_0, at_1, mapM_s, List.map_cons, List.map_nil, List.any_cons, List.any_nil, id_eq, Bool.or_false, Bool.not_true, Bool.not_false, ↓reduceIte, turn_nx, turn_ct, turn_bk, turn_rt, turn_ex, ty_m, Int.zero_add, d_nil, d_eq, rng_1, rng_2, b_int, b_intb, b_bool, b_boolb, b_lent, b_lenl, b_lenm, b_tupt, b_tupl, b_tupm, b_str, b_repr', b_abs, b_sum, b_all, b_any, b_max, b_min, ix_t, ix_l, ix_m, sl_t, sl_l, sl_m, ty_d, it_t, it_l, pd_d, c_eqb, c_neb, c_isN, c_isnN, isx_eq, xval_eq, true_and, and_true, List.append_nil, wipeS, tgSlots, tgSlotss, c_inT, c_inL, c_ninT, c_ninL, c_ltT, c_leT, c_gtT, c_geT, it_k, it_k0, ty_k, ty_k0, lo_1, to_1, to_2, beq_self_eq_true, sd_inj, da_nil, da_cons, da_map, Option.map_some, p_put, Nat.reduceAdd, Int.reduceEq, Int.reduceLT, Int.reduceLE, f_lrng, f_comp2, e_indexT, s_parIx, s_any, gt_t, gt_tk, c_noneF, c_eqS, c_neS, eq_self, decide_true, decide_false, pints_len, itm_len, sz_0, sz_1, sz_2, sz_3, sz_4, sz_5, sz_6, sz_7, sz_8, int?_d, ok_of_d, ex_self, Nat.zero_add])
theorem lm_is_integer : ∀ p ∈ lib_is_integer, ∀ vs, Mono (p.2.2 vs) := fun p hp => by cases hp
theorem mb_is_integer (s : Ss) : MonoS (wSs Γ_is_integer s) := mSs s _ (Lib.mo lm_is_integer)
theorem ck_is_integer : kSs b_is_integer ⟨N_is_integer, defScope s_is_integer, lib_is_integer.fs, kws, cs, hs, true⟩ (defBody s_is_integer) = true := by decide +kernel
theorem bd_is_integer : Bd "is_integer" s_is_integer ["value"] := fun _ _ _ _ _ _ us hl => match us, hl with | [_], _ => rfl
theorem kb_is_integer : ∀ q ∈ kws, q.1 = "is_integer" → BdK "is_integer" s_is_integer ["value"] q.2.1 q.2.2 := by
  intro q hq
  cases hq
def sp_is_integer : FSpec := Fn fun vs _ r => ∃ x, vs = [.d x] ∧ r = .inr (B (isIntD x))
theorem mo_is_integer : ∀ vs, Mono (sp_is_integer vs) := Fn_mo
theorem w_is_integer : ∀ (ss : List S) (M : Mem) (Q : S → Mem → Prop) (E : Xc → Mem → Prop), ss.length = 1 → sp_is_integer ss M Q E → wSs Γ_is_integer b_is_integer (startS N_is_integer ss) M (exits M Q E) := by
  rintro ss M Q E hl ⟨r, ⟨x, rfl, rfl⟩, q⟩
  walk_at "is_integer"
  have q' := ret_here q
  cases x <;> simpa [isTy, isIntD] using q'
theorem k_is_integer {x : PD} {M : Mem} {Q : S → Mem → Prop} {E : Xc → Mem → Prop} : sp_is_integer [.d x] M Q E ↔ Q (B (isIntD x)) M :=
  ⟨fun ⟨r, ⟨y, e, er⟩, q⟩ => by cases e; subst er; exact q, fun q => ⟨_, ⟨x, rfl, rfl⟩, q⟩⟩
/-! is_positive -/
abbrev s_is_positive : Stmt := topS 3
def N_is_positive : List Str := ["value"]
theorem sc_is_positive : FnScope N_is_positive ["value"] (defScope s_is_positive) := ⟨rfl, rfl, rfl, by decide +kernel, rfl, by decide +kernel, by decide +kernel⟩
def b_is_positive : Ss := .cons (.ret (.and (.call "is_integer" (.cons (.var 0) .nil)) (.cmp .GtE (.var 0) (.cst (.int 1))))) .nil
theorem ub_is_positive : b_is_positive = .cons (.ret (.and (.call "is_integer" (.cons (.var 0) .nil)) (.cmp .GtE (.var 0) (.cst (.int 1))))) .nil := rfl
theorem st_is_positive {x0 : S} : startS N_is_positive [x0] = [some x0] := rfl
def lib_is_positive : Lib := [("is_integer", ["value"], sp_is_integer)]
abbrev Γ_is_positive : G.Env := lib_is_positive.env (MroF tab)
theorem Φ_is_positive_is_integer : Γ_is_positive.Φ "is_integer" = some sp_is_integer := by rfl
theorem φ_is_positive_is_integer {P : FSpec → Prop} : (∃ φ, Γ_is_positive.Φ "is_integer" = some φ ∧ P φ) = P sp_is_integer := by rw [Φ_is_positive_is_integer]; exact ex_self
local macro_rules | `(tactic| walk_at "is_positive") => `(tactic| simp (maxSteps := 1000000) only [ub_is_positive, st_is_positive, exits, Φ_is_positive_is_integer, ↓φ_is_positive_is_integer, ↓k_is_integer, ↓e_dnew', ↓e_ddisp', ↓dx_i, ↓dx_s, ↓dp_i, ↓dp_s, ↓yl_k, ↓yl_0, ↓yl_S, ↓yl_z, ↓c_isIN, ↓c_isBN, ↓c_isSN, ↓c_isTN, ↓c_isLN, ↓c_isRN, ↓c_isnIN, ↓c_isnBN, ↓c_isnSN, ↓c_isnTN, ↓c_isnLN, ↓c_isnRN, ↓c_eqSS, ↓c_neSS, ↓ex_pq, ↓c_eqT, ↓c_neT, ↓rng_3, ↓e_mtup', ↓ex_l, ↓xp_k, ↓xp_0, ↓xp_S, ↓xp_z, ↓s_unp, ↓rv_t, ↓rv_l, ↓rv_m, ↓po_m, ↓e_rev, ↓c_isbb, ↓c_isnbb, ↓f_lrng, ↓f_comp2, ↓s_parIx, ↓xv_0, ↓xv_S, ↓da_snoc, ↓da_app, ↓e_cst, ↓e_neg, ↓e_not, ↓e_and, ↓e_or, ↓e_ite, ↓e_bin, ↓e_cmp, ↓e_chain, ↓e_tup, ↓e_fr, ↓e_ix, ↓e_dix, ↓t_dix, ↓s_dput, ↓e_sl, ↓e_rev, ↓e_call, ↓e_callK, ↓e_b1, ↓e_b2, ↓e_isX, ↓e_xval, ↓e_get, ↓e_pop, ↓e_popAt, ↓e_index, ↓t_not, ↓t_and, ↓t_or, ↓a_nil, ↓a_cons, ↓o_none, ↓o_some, ↓c_none, ↓c_some, ↓f_disp, ↓f_comp, ↓f_comp2, ↓f_listOf, ↓i_of, ↓i_rng, ↓i_zip, ↓i_rev, ↓i_keys, i_keys, ↓t_var, ↓t_cst, ↓t_neg, ↓t_ite, ↓t_bin, ↓t_cmp, ↓t_chain, ↓t_tup, ↓t_fr, ↓t_al, ↓t_ddisp, ↓t_ix, ↓t_sl, ↓t_rev, ↓t_call, ↓t_callK, ↓t_b1, ↓t_b2, ↓t_isI, ↓t_isX, ↓t_xval, ↓t_get, ↓t_pop, ↓t_popAt, ↓t_index, ↓s_asg, ↓s_setIx, ↓s_augIx, ↓s_expr, ↓s_ret, ↓s_retN, ↓s_cond, ↓s_loop, ↓s_whl, ↓s_raise, ↓s_tryX, ↓s_pass, ↓s_brk, ↓s_cont, ↓b_nil, ↓b_cons, ↓h_nil, ↓r_add, ↓r_sub, ↓r_mul, ↓r_div, ↓r_mod, ↓r_pow, ↓r_shl, ↓r_cat, ↓r_cats, ↓r_rep, ↓r_lt, ↓r_le, ↓r_gt, ↓r_ge, ↓r_eqI, ↓r_neI, ↓r_augA, ↓r_augS, ↓r_augM, ↓tg_tpt, ↓tg_tpl, ↓tg_tpm, ↓tgs_nil, ↓tgs_cons, ↓turn_nx, ↓turn_ct, ↓turn_bk, ↓turn_rt, ↓turn_ex, ↓d_nil, ↓d_eq, ↓rng_1, ↓rng_2, ↓b_int, ↓b_intb, ↓b_bool, ↓b_boolb, ↓b_lent, ↓b_lenl, ↓b_tupt, ↓b_tupl, ↓b_str, ↓b_repr', ↓xp_d, ↓b_abs, ↓b_sum, ↓b_all, ↓b_any, ↓b_max, ↓b_min, ↓ix_t, ↓ix_l, ↓sl_t, ↓sl_l, ↓c_eqb, ↓c_neb, ↓c_isN, ↓c_isnN, ↓isx_eq, ↓xval_eq, ↓c_inT, ↓c_inL, ↓c_ninT, ↓c_ninL, ↓c_ltT, ↓c_leT, ↓c_gtT, ↓c_geT, ↓c_eqS, ↓c_neS, ↓b_lenm, ↓v_0, ↓v_S, ↓n_0, ↓n_S, ↓un_0, ↓un_S, ↓s_aug', ↓s_par', ↓h_cons', ↓xl_k, ↓xl_0, ↓xl_S, ↓xl_z, ↓mm_t, ↓mm_tk, ↓to_t, ↓md_k, ↓md_0, ↓mm_0, ↓mm_S, ↓nw_1, ↓nw_2, ↓nw_3, ↓nw_4, ↓nw_5, ↓e_al', ↓ix_m', ↓b_tupm', ↓sl_m', ↓ex_map, ↓ap_l, ↓s_app', ↓xt_l, ↓s_ext', ↓in_l, ↓s_ins', ↓p_put', ↓wt_d, ↓wt_k, ↓wt_k0, ↓to_S, ↓to_z, ↓e_isI1, ↓e_isI2, ↓ex_tb, ↓ex_ti, ↓ex_tn, ↓ex_tt, ↓ex_tl, ↓ex_i, ↓ex_B, ↓xd_nil, ↓xd_cons, ↓xd_map, ↓xi_t, ↓xi_l, ↓xi_m, ↓f_cat', ↓f_rep', ↓f_slice', nw_0, e_var, e_cst, e_neg, e_not, e_and, e_or, e_ite, e_bin, e_cmp, e_chain, e_tup, e_fr, e_al, e_ix, e_sl, e_rev, e_call, e_callK, e_b1, e_b2, e_isI, e_isX, e_xval, e_get, e_pop, e_popAt, e_index, t_not, t_and, t_or, a_nil, a_cons, o_none, o_some, c_none, c_some, f_disp, f_comp, f_comp2, f_listOf, f_cat, f_rep, f_slice, i_of, i_rng, i_enum, i_zip, i_rev, t_var, t_cst, t_neg, t_ite, t_bin, t_cmp, t_chain, t_tup, t_fr, t_al, t_ddisp, t_ix, t_sl, t_rev, t_call, t_callK, t_b1, t_b2, t_isI, t_isX, t_xval, t_get, t_pop, t_popAt, t_index, s_asg, s_setIx, e_dnew, e_dix, s_dput, t_dnew, t_dix, s_par, s_aug, s_augIx, s_expr, s_app, s_ext, s_ins, s_ret, s_retN, s_cond, s_loop, s_whl, s_raise, s_tryX, s_pass, s_brk, s_cont, b_nil, b_cons, h_nil, h_cons, r_add, r_sub, r_mul, r_div, r_mod, r_pow, r_shl, r_cat, r_cats, r_rep, r_lt, r_le, r_gt, r_ge, r_eqI, r_neI, tr_bool, tr_int, tr_none, tr_tuple, tr_list, r_augA, r_augS, r_augM, m_get, m_get0, m_set, m_set0, ex_v, ex_k, ex_lst, tg_nm, tg_tpt, tg_tpl, tg_tpm, tgs_nil, tgs_cons, tgAt_eq, List.getElem?_cons_succ, List.getElem?_cons_zero, List.set_cons_succ, List.set_cons_zero, List.length_append, List.length_cons, List.length_nil, List.append_assoc, List.cons_append, List.nil_append, decide_eq_true_eq, I, B, N0, S.l.injEq, S.d.injEq, Option.some.injEq, MO.lst.injEq, exists_eq_left', exists_and_left, mapM_d, Bool.false_eq_true, isT_int_none, isT_int_bool, isT_int_int, isT_int_str, isT_int_list, isT_int_tuple, isT_int_dict, isT_bool_none, isT_bool_bool, isT_bool_int, isT_bool_str, isT_bool_list, isT_bool_tuple, isT_bool_dict, isT_str_none, isT_str_bool, isT_str_int, isT_str_str, isT_str_list, isT_str_tuple, isT_str_dict, isT_list_none, isT_list_bool, isT_list_int, isT_list_str, isT_list_list, isT_list_tuple, isT_list_dict, isT_tuple_none, isT_tuple_bool, isT_tuple_int, isT_tuple_str, isT_tuple_list, isT_tuple_tuple, isT_tuple_dict, isT_dict_none, isT_dict_bool, isT_dict_int, isT_dict_str, isT_dict_list, isT_dict_tuple, isT_dict_dict, at_0, at_1, mapM_s, List.map_cons, List.map_nil, List.any_cons, List.any_nil, id_eq, Bool.or_false, Bool.not_true, Bool.not_false, ↓reduceIte, turn_nx, turn_ct, turn_bk, turn_rt, turn_ex, ty_m, Int.zero_add, d_nil, d_eq, rng_1, rng_2, b_int, b_intb, b_bool, b_boolb, b_lent, b_lenl, b_lenm, b_tupt, b_tupl, b_tupm, b_str, b_repr', b_abs, b_sum, b_all, b_any, b_max, b_min, ix_t, ix_l, ix_m, sl_t, sl_l, sl_m, ty_d, it_t, it_l, pd_d, c_eqb, c_neb, c_isN, c_isnN, isx_eq, xval_eq, true_and, and_true, List.append_nil, wipeS, tgSlots, tgSlotss, c_inT, c_inL, c_ninT, c_ninL, c_ltT, c_leT, c_gtT, c_geT, it_k, it_k0, ty_k, ty_k0, lo_1, to_1, to_2, beq_self_eq_true, sd_inj, da_nil, da_cons, da_map, Option.map_some, p_put, Nat.reduceAdd, Int.reduceEq, Int.reduceLT, Int.reduceLE, f_lrng, f_comp2, e_indexT, s_parIx, s_any, gt_t, gt_tk, c_noneF, c_eqS, c_neS, eq_self, decide_true, decide_false, pints_len, itm_len, sz_0, sz_1, sz_2, sz_3, sz_4, sz_5, sz_6, sz_7, sz_8, int?_d, ok_of_d, ex_self, Nat.zero_add])
theorem lm_is_positive : ∀ p ∈ lib_is_positive, ∀ vs, Mono (p.2.2 vs) := by
  intro p hp
  simp only [lib_is_positive, List.mem_cons, List.not_mem_nil, or_false] at hp
  subst hp
  exact mo_is_integer
theorem mb_is_positive (s : Ss) : MonoS (wSs Γ_is_positive s) := mSs s _ (Lib.mo lm_is_positive)
theorem ck_is_positive : kSs b_is_positive ⟨N_is_positive, defScope s_is_positive, lib_is_positive.fs, kws, cs, hs, true⟩ (defBody s_is_positive) = true := by decide +kernel
theorem bd_is_positive : Bd "is_positive" s_is_positive ["value"] := fun _ _ _ _ _ _ us hl => match us, hl with | [_], _ => rfl
theorem kb_is_positive : ∀ q ∈ kws, q.1 = "is_positive" → BdK "is_positive" s_is_positive ["value"] q.2.1 q.2.2 := by
  intro q hq
  cases hq
def isPosD : PD → Bool
  | .int i => decide (1 ≤ i)
  | _ => false
def sp_is_positive : FSpec := fun vs M Q E => match vs with
  | [.d x] => Q (B (isPosD x)) M
  | _ => False
theorem mo_is_positive : ∀ vs, Mono (sp_is_positive vs) := by
  intro vs M Q Q' X X' hq hx
  unfold sp_is_positive
  (try split) <;> (repeat' first | exact id | exact hq _ _ | exact hx _ _ | refine And.imp ?_ ?_ | refine Exists.imp (fun _ => ?_) | refine forall_imp (fun _ => ?_) | split)
theorem w_is_positive : ∀ (ss : List S) (M : Mem) (Q : S → Mem → Prop) (E : Xc → Mem → Prop), ss.length = 1 → sp_is_positive ss M Q E → wSs Γ_is_positive b_is_positive (startS N_is_positive ss) M (exits M Q E) := by
  intro ss M Q E hl h
  unfold sp_is_positive at h
  split at h
  case h_2 => exact h.elim
  rename_i x
  walk_at "is_positive"
  cases x <;> simp [isPosD, isIntD, G.wCmp, G.wOrd] at h ⊢ <;> exact ret_here h

theorem k_is_positive {x : PD} {M : Mem} {Q : S → Mem → Prop} {E : Xc → Mem → Prop} : sp_is_positive [.d x] M Q E = (Q (B (isPosD x)) M) := rfl
/-! is_stair -/
abbrev s_is_stair : Stmt := topS 12
def N_is_stair : List Str := ["value", "i", "row"]
theorem sc_is_stair : FnScope N_is_stair ["value"] (defScope s_is_stair) := ⟨rfl, rfl, rfl, by decide +kernel, rfl, by decide +kernel, by decide +kernel⟩
def b_is_stair_1 : Ss := .cons (.cond (.not (.call "is_positive" (.cons (.var 2) .nil))) (.cons (.ret (.cst (.bool false))) .nil) (.nil)) (.cons (.cond (.and (.cmp .Gt (.var 1) (.cst (.int 0))) (.cmp .Gt (.var 2) (.ix (.var 0) (.bin .Sub (.var 1) (.cst (.int 1)))))) (.cons (.ret (.cst (.bool false))) .nil) (.nil)) .nil)
def b_is_stair : Ss := .cons (.cond (.not (.isI (.var 0) ["tuple"])) (.cons (.ret (.cst (.bool false))) .nil) (.nil)) (.cons (.loop (.tp [.nm 1, .nm 2]) (.enum (.var 0)) b_is_stair_1) (.cons (.ret (.cst (.bool true))) .nil))
theorem ub_is_stair_1 : b_is_stair_1 = .cons (.cond (.not (.call "is_positive" (.cons (.var 2) .nil))) (.cons (.ret (.cst (.bool false))) .nil) (.nil)) (.cons (.cond (.and (.cmp .Gt (.var 1) (.cst (.int 0))) (.cmp .Gt (.var 2) (.ix (.var 0) (.bin .Sub (.var 1) (.cst (.int 1)))))) (.cons (.ret (.cst (.bool false))) .nil) (.nil)) .nil) := rfl
theorem ub_is_stair : b_is_stair = .cons (.cond (.not (.isI (.var 0) ["tuple"])) (.cons (.ret (.cst (.bool false))) .nil) (.nil)) (.cons (.loop (.tp [.nm 1, .nm 2]) (.enum (.var 0)) b_is_stair_1) (.cons (.ret (.cst (.bool true))) .nil)) := rfl
theorem st_is_stair {x0 : S} : startS N_is_stair [x0] = [some x0, none, none] := rfl
def lib_is_stair : Lib := [("is_positive", ["value"], sp_is_positive)]
abbrev Γ_is_stair : G.Env := lib_is_stair.env (MroF tab)
theorem Φ_is_stair_is_positive : Γ_is_stair.Φ "is_positive" = some sp_is_positive := by rfl
theorem φ_is_stair_is_positive {P : FSpec → Prop} : (∃ φ, Γ_is_stair.Φ "is_positive" = some φ ∧ P φ) = P sp_is_positive := by rw [Φ_is_stair_is_positive]; exact ex_self
local macro_rules | `(tactic| walk_at "is_stair") => `(tactic| simp (maxSteps := 1000000) only [ub_is_stair, st_is_stair, exits, Φ_is_stair_is_positive, ↓φ_is_stair_is_positive, ↓k_is_positive, ↓e_dnew', ↓e_ddisp', ↓dx_i, ↓dx_s, ↓dp_i, ↓dp_s, ↓yl_k, ↓yl_0, ↓yl_S, ↓yl_z, ↓c_isIN, ↓c_isBN, ↓c_isSN, ↓c_isTN, ↓c_isLN, ↓c_isRN, ↓c_isnIN, ↓c_isnBN, ↓c_isnSN, ↓c_isnTN, ↓c_isnLN, ↓c_isnRN, ↓c_eqSS, ↓c_neSS, ↓ex_pq, ↓c_eqT, ↓c_neT, ↓rng_3, ↓e_mtup', ↓ex_l, ↓xp_k, ↓xp_0, ↓xp_S, ↓xp_z, ↓s_unp, ↓rv_t, ↓rv_l, ↓rv_m, ↓po_m, ↓e_rev, ↓c_isbb, ↓c_isnbb, ↓f_lrng, ↓f_comp2, ↓s_parIx, ↓xv_0, ↓xv_S, ↓da_snoc, ↓da_app, ↓e_cst, ↓e_neg, ↓e_not, ↓e_and, ↓e_or, ↓e_ite, ↓e_bin, ↓e_cmp, ↓e_chain, ↓e_tup, ↓e_fr, ↓e_ix, ↓e_dix, ↓t_dix, ↓s_dput, ↓e_sl, ↓e_rev, ↓e_call, ↓e_callK, ↓e_b1, ↓e_b2, ↓e_isX, ↓e_xval, ↓e_get, ↓e_pop, ↓e_popAt, ↓e_index, ↓t_not, ↓t_and, ↓t_or, ↓a_nil, ↓a_cons, ↓o_none, ↓o_some, ↓c_none, ↓c_some, ↓f_disp, ↓f_comp, ↓f_comp2, ↓f_listOf, ↓i_of, ↓i_rng, ↓i_zip, ↓i_rev, ↓i_keys, i_keys, ↓t_var, ↓t_cst, ↓t_neg, ↓t_ite, ↓t_bin, ↓t_cmp, ↓t_chain, ↓t_tup, ↓t_fr, ↓t_al, ↓t_ddisp, ↓t_ix, ↓t_sl, ↓t_rev, ↓t_call, ↓t_callK, ↓t_b1, ↓t_b2, ↓t_isI, ↓t_isX, ↓t_xval, ↓t_get, ↓t_pop, ↓t_popAt, ↓t_index, ↓s_asg, ↓s_setIx, ↓s_augIx, ↓s_expr, ↓s_ret, ↓s_retN, ↓s_cond, ↓s_loop, ↓s_whl, ↓s_raise, ↓s_tryX, ↓s_pass, ↓s_brk, ↓s_cont, ↓b_nil, ↓b_cons, ↓h_nil, ↓r_add, ↓r_sub, ↓r_mul, ↓r_div, ↓r_mod, ↓r_pow, ↓r_shl, ↓r_cat, ↓r_cats, ↓r_rep, ↓r_lt, ↓r_le, ↓r_gt, ↓r_ge, ↓r_eqI, ↓r_neI, ↓r_augA, ↓r_augS, ↓r_augM, ↓tg_tpt, ↓tg_tpl, ↓tg_tpm, ↓tgs_nil, ↓tgs_cons, ↓turn_nx, ↓turn_ct, ↓turn_bk, ↓turn_rt, ↓turn_ex, ↓d_nil, ↓d_eq, ↓rng_1, ↓rng_2, ↓b_int, ↓b_intb, ↓b_bool, ↓b_boolb, ↓b_lent, ↓b_lenl, ↓b_tupt, ↓b_tupl, ↓b_str, ↓b_repr', ↓xp_d, ↓b_abs, ↓b_sum, ↓b_all, ↓b_any, ↓b_max, ↓b_min, ↓ix_t, ↓ix_l, ↓sl_t, ↓sl_l, ↓c_eqb, ↓c_neb, ↓c_isN, ↓c_isnN, ↓isx_eq, ↓xval_eq, ↓c_inT, ↓c_inL, ↓c_ninT, ↓c_ninL, ↓c_ltT, ↓c_leT, ↓c_gtT, ↓c_geT, ↓c_eqS, ↓c_neS, ↓b_lenm, ↓v_0, ↓v_S, ↓n_0, ↓n_S, ↓un_0, ↓un_S, ↓s_aug', ↓s_par', ↓h_cons', ↓xl_k, ↓xl_0, ↓xl_S, ↓xl_z, ↓mm_t, ↓mm_tk, ↓to_t, ↓md_k, ↓md_0, ↓mm_0, ↓mm_S, ↓nw_1, ↓nw_2, ↓nw_3, ↓nw_4, ↓nw_5, ↓e_al', ↓ix_m', ↓b_tupm', ↓sl_m', ↓ex_map, ↓ap_l, ↓s_app', ↓xt_l, ↓s_ext', ↓in_l, ↓s_ins', ↓p_put', ↓wt_d, ↓wt_k, ↓wt_k0, ↓to_S, ↓to_z, ↓e_isI1, ↓e_isI2, ↓ex_tb, ↓ex_ti, ↓ex_tn, ↓ex_tt, ↓ex_tl, ↓ex_i, ↓ex_B, ↓xd_nil, ↓xd_cons, ↓xd_map, ↓xi_t, ↓xi_l, ↓xi_m, ↓f_cat', ↓f_rep', ↓f_slice', nw_0, e_var, e_cst, e_neg, e_not, e_and, e_or, e_ite, e_bin, e_cmp, e_chain, e_tup, e_fr, e_al, e_ix, e_sl, e_rev, e_call, e_callK, e_b1, e_b2, e_isI, e_isX, e_xval, e_get, e_pop, e_popAt, e_index, t_not, t_and, t_or, a_nil, a_cons, o_none, o_some, c_none, c_some, f_disp, f_comp, f_comp2, f_listOf, f_cat, f_rep, f_slice, i_of, i_rng, i_enum, i_zip, i_rev, t_var, t_cst, t_neg, t_ite, t_bin, t_cmp, t_chain, t_tup, t_fr, t_al, t_ddisp, t_ix, t_sl, t_rev, t_call, t_callK, t_b1, t_b2, t_isI, t_isX, t_xval, t_get, t_pop, t_popAt, t_index, s_asg, s_setIx, e_dnew, e_dix, s_dput, t_dnew, t_dix, s_par, s_aug, s_augIx, s_expr, s_app, s_ext, s_ins, s_ret, s_retN, s_cond, s_loop, s_whl, s_raise, s_tryX, s_pass, s_brk, s_cont, b_nil, b_cons, h_nil, h_cons, r_add, r_sub, r_mul, r_div, r_mod, r_pow, r_shl, r_cat, r_cats, r_rep, r_lt, r_le, r_gt, r_ge, r_eqI, r_neI, tr_bool, tr_int, tr_none, tr_tuple, tr_list, r_augA, r_augS, r_augM, m_get, m_get0, m_set, m_set0, ex_v, ex_k, ex_lst, tg_nm, tg_tpt, tg_tpl, tg_tpm, tgs_nil, tgs_cons, tgAt_eq, List.getElem?_cons_succ, List.getElem?_cons_zero, List.set_cons_succ, List.set_cons_zero, List.length_append, List.length_cons, List.length_nil, List.append_assoc, List.cons_append, List.nil_append, decide_eq_true_eq, I, B, N0, S.l.injEq, S.d.injEq, Option.some.injEq, MO.lst.injEq, exists_eq_left', exists_and_left, mapM_d, Bool.false_eq_true, isT_int_none, isT_int_bool, isT_int_int, isT_int_str, isT_int_list, isT_int_tuple, isT_int_dict, isT_bool_none, isT_bool_bool, isT_bool_int, isT_bool_str, isT_bool_list, isT_bool_tuple, isT_bool_dict, isT_str_none, isT_str_bool, isT_str_int, isT_str_str, isT_str_list, isT_str_tuple, isT_str_dict, isT_list_none, isT_list_bool, isT_list_int, isT_list_str, isT_list_list, isT_list_tuple, isT_list_dict, isT_tuple_none, isT_tuple_bool, isT_tuple_int, isT_tuple_str, isT_tuple_list, isT_tuple_tuple, isT_tuple_dict, isT_dict_none, isT_dict_bool, isT_dict_int, isT_dict_str, isT_dict_list, isT_dict_tuple, isT_dict_dict, at_0, at_1, mapM_s, List.map_cons, List.map_nil, List.any_cons, List.any_nil, id_eq, Bool.or_false, Bool.not_true, Bool.not_false, ↓reduceIte, turn_nx, turn_ct, turn_bk, turn_rt, turn_ex, ty_m, Int.zero_add, d_nil, d_eq, rng_1, rng_2, b_int, b_intb, b_bool, b_boolb, b_lent, b_lenl, b_lenm, b_tupt, b_tupl, b_tupm, b_str, b_repr', b_abs, b_sum, b_all, b_any, b_max, b_min, ix_t, ix_l, ix_m, sl_t, sl_l, sl_m, ty_d, it_t, it_l, pd_d, c_eqb, c_neb, c_isN, c_isnN, isx_eq, xval_eq, true_and, and_true, List.append_nil, wipeS, tgSlots, tgSlotss, c_inT, c_inL, c_ninT, c_ninL, c_ltT, c_leT, c_gtT, c_geT, it_k, it_k0, ty_k, ty_k0, lo_1, to_1, to_2, beq_self_eq_true, sd_inj, da_nil, da_cons, da_map, Option.map_some, p_put, Nat.reduceAdd, Int.reduceEq, Int.reduceLT, Int.reduceLE, f_lrng, f_comp2, e_indexT, s_parIx, s_any, gt_t, gt_tk, c_noneF, c_eqS, c_neS, eq_self, decide_true, decide_false, pints_len, itm_len, sz_0, sz_1, sz_2, sz_3, sz_4, sz_5, sz_6, sz_7, sz_8, int?_d, ok_of_d, ex_self, Nat.zero_add])
theorem lm_is_stair : ∀ p ∈ lib_is_stair, ∀ vs, Mono (p.2.2 vs) := by
  intro p hp
  simp only [lib_is_stair, List.mem_cons, List.not_mem_nil, or_false] at hp
  subst hp
  exact mo_is_positive
theorem mb_is_stair (s : Ss) : MonoS (wSs Γ_is_stair s) := mSs s _ (Lib.mo lm_is_stair)
theorem ck_is_stair : kSs b_is_stair ⟨N_is_stair, defScope s_is_stair, lib_is_stair.fs, kws, cs, hs, true⟩ (defBody s_is_stair) = true := by decide +kernel
theorem bd_is_stair : Bd "is_stair" s_is_stair ["value"] := fun _ _ _ _ _ _ us hl => match us, hl with | [_], _ => rfl
theorem kb_is_stair : ∀ q ∈ kws, q.1 = "is_stair" → BdK "is_stair" s_is_stair ["value"] q.2.1 q.2.2 := by
  intro q hq
  cases hq
def sp_is_stair : FSpec := fun vs M Q E => match vs with
  | [.d v] => tupLen v ∧ Q (B (isStairD v)) M
  | _ => False
theorem mo_is_stair : ∀ vs, Mono (sp_is_stair vs) := by
  intro vs M Q Q' X X' hq hx
  unfold sp_is_stair
  (try split) <;> (repeat' first | exact id | exact hq _ _ | exact hx _ _ | refine And.imp ?_ ?_ | refine Exists.imp (fun _ => ?_) | refine forall_imp (fun _ => ?_) | split)
theorem w_is_stair : ∀ (ss : List S) (M : Mem) (Q : S → Mem → Prop) (E : Xc → Mem → Prop), ss.length = 1 → sp_is_stair ss M Q E → wSs Γ_is_stair b_is_stair (startS N_is_stair ss) M (exits M Q E) := by
  intro ss M Q E hl h
  unfold sp_is_stair at h
  split at h
  case h_2 => exact h.elim
  rename_i v
  obtain ⟨ht, h⟩ := h
  cases v with
  | tuple xs =>
    have sl := slS
    have hx := ht _ rfl
    walk_at "is_stair"
    have fin : ∀ b, isStairD (.tuple xs) = b → ∃ r M2, Ex M M (S.d (.bool b)) r M2 ∧ Q r M2 := fun b e => by
      rw [e] at h
      exact ret_here h
    refine for_enum (fun _ => trivial) (mb_is_stair _) (fun i ρ M' => ∃ (ns : List Int) (s1 s2 : Option S), ns.length = i ∧ xs = pints ns ++ xs.drop i ∧ stairGo none xs = stairGo ns.getLast? (xs.drop i) ∧ ρ = [some (S.d (PyData.tuple xs)), s1, s2] ∧ M' = M) ⟨[], none, none, rfl, by simp [pints], by simp, rfl, rfl⟩ ?_ ?_
    · rintro ρ M' ⟨ns, s1, s2, ln, ex, e, rfl, rfl⟩
      refine fin true ?_
      show stairGo none xs = true
      rw [e, List.drop_length]
      simp [stairGo]
    · rintro i x ρ M' hx ⟨ns, s1, s2, ln, ex, e, rfl, rfl⟩
      have hi := get_lt hx
      have dr : xs.drop i = x :: xs.drop (i + 1) := by
        rw [List.drop_eq_getElem_cons hi]
        congr 1
        rw [List.getElem?_eq_getElem hi] at hx
        cases hx
        rfl
      rw [dr] at ex e
      have e' : ∀ b, stairGo ns.getLast? (x :: xs.drop (i + 1)) = b → isStairD (.tuple xs) = b := fun b eb => e.trans eb
      simp only [ub_is_stair_1]
      walk_at "is_stair"
      cases x with
      | int z =>
        by_cases hz : 1 ≤ z
        · refine (if_neg (by simp [isPosD, hz])).mpr ?_
          rcases snoc_or ns with rfl | ⟨r, a, rfl⟩
          · have i0 : i = 0 := ln.symm
            subst i0
            refine (if_neg (by simp)).mpr ⟨[z], rfl, ?_, ?_, _, _, rfl⟩
            · exact ex.trans (by simp [pints])
            · rw [e]
              simp [stairGo, hz]
          · rw [List.length_append, List.length_singleton] at ln
            refine (if_pos (by simp; omega)).mpr ⟨.int a, ?_, ?_⟩
            · rw [show (i : Int) - 1 = (r.length : Nat) by omega]
              refine at_nat ?_
              rw [ex]
              simp [pints]
            walk_at "is_stair"
            refine iteI (fun c => ?_) (fun c => ?_)
            · exact fin false (e' _ (by simp [stairGo]; omega))
            · refine ⟨r ++ [a] ++ [z], by simp; omega, ?_, ?_, _, _, rfl⟩
              · exact ex.trans (by simp [pints])
              · rw [e]
                simp only [List.getLast?_concat]
                simp [stairGo, hz]
                omega
        · exact (if_pos (by simp [isPosD]; omega)).mpr (fin false (e' _ (by simp [stairGo, hz])))
      | _ => exact (if_pos (by simp [isPosD])).mpr (fin false (e' _ (by simp [stairGo])))
  | _ =>
    walk_at "is_stair"
    exact ret_here h

theorem k_is_stair {v : PD} {M : Mem} {Q : S → Mem → Prop} {E : Xc → Mem → Prop} : sp_is_stair [.d v] M Q E = (tupLen v ∧ Q (B (isStairD v)) M) := rfl
/-! need_stair -/
abbrev s_need_stair : Stmt := topS 13
def N_need_stair : List Str := ["value"]
theorem sc_need_stair : FnScope N_need_stair ["value"] (defScope s_need_stair) := ⟨rfl, rfl, rfl, by decide +kernel, rfl, by decide +kernel, by decide +kernel⟩
def b_need_stair : Ss := .cons (.cond (.not (.call "is_stair" (.cons (.var 0) .nil))) (.cons (.raise "InvalidStair" (.var 0)) .nil) (.nil)) .nil
theorem ub_need_stair : b_need_stair = .cons (.cond (.not (.call "is_stair" (.cons (.var 0) .nil))) (.cons (.raise "InvalidStair" (.var 0)) .nil) (.nil)) .nil := rfl
theorem st_need_stair {x0 : S} : startS N_need_stair [x0] = [some x0] := rfl
def lib_need_stair : Lib := [("is_stair", ["value"], sp_is_stair)]
abbrev Γ_need_stair : G.Env := lib_need_stair.env (MroF tab)
theorem Φ_need_stair_is_stair : Γ_need_stair.Φ "is_stair" = some sp_is_stair := by rfl
theorem φ_need_stair_is_stair {P : FSpec → Prop} : (∃ φ, Γ_need_stair.Φ "is_stair" = some φ ∧ P φ) = P sp_is_stair := by rw [Φ_need_stair_is_stair]; exact ex_self
local macro_rules | `(tactic| walk_at "need_stair") => `(tactic| simp (maxSteps := 1000000) only [ub_need_stair, st_need_stair, exits, Φ_need_stair_is_stair, ↓φ_need_stair_is_stair, ↓k_is_stair, ↓e_dnew', ↓e_ddisp', ↓dx_i, ↓dx_s, ↓dp_i, ↓dp_s, ↓yl_k, ↓yl_0, ↓yl_S, ↓yl_z, ↓c_isIN, ↓c_isBN, ↓c_isSN, ↓c_isTN, ↓c_isLN, ↓c_isRN, ↓c_isnIN, ↓c_isnBN, ↓c_isnSN, ↓c_isnTN, ↓c_isnLN, ↓c_isnRN, ↓c_eqSS, ↓c_neSS, ↓ex_pq, ↓c_eqT, ↓c_neT, ↓rng_3, ↓e_mtup', ↓ex_l, ↓xp_k, ↓xp_0, ↓xp_S, ↓xp_z, ↓s_unp, ↓rv_t, ↓rv_l, ↓rv_m, ↓po_m, ↓e_rev, ↓c_isbb, ↓c_isnbb, ↓f_lrng, ↓f_comp2, ↓s_parIx, ↓xv_0, ↓xv_S, ↓da_snoc, ↓da_app, ↓e_cst, ↓e_neg, ↓e_not, ↓e_and, ↓e_or, ↓e_ite, ↓e_bin, ↓e_cmp, ↓e_chain, ↓e_tup, ↓e_fr, ↓e_ix, ↓e_dix, ↓t_dix, ↓s_dput, ↓e_sl, ↓e_rev, ↓e_call, ↓e_callK, ↓e_b1, ↓e_b2, ↓e_isX, ↓e_xval, ↓e_get, ↓e_pop, ↓e_popAt, ↓e_index, ↓t_not, ↓t_and, ↓t_or, ↓a_nil, ↓a_cons, ↓o_none, ↓o_some, ↓c_none, ↓c_some, ↓f_disp, ↓f_comp, ↓f_comp2, ↓f_listOf, ↓i_of, ↓i_rng, ↓i_zip, ↓i_rev, ↓i_keys, i_keys, ↓t_var, ↓t_cst, ↓t_neg, ↓t_ite, ↓t_bin, ↓t_cmp, ↓t_chain, ↓t_tup, ↓t_fr, ↓t_al, ↓t_ddisp, ↓t_ix, ↓t_sl, ↓t_rev, ↓t_call, ↓t_callK, ↓t_b1, ↓t_b2, ↓t_isI, ↓t_isX, ↓t_xval, ↓t_get, ↓t_pop, ↓t_popAt, ↓t_index, ↓s_asg, ↓s_setIx, ↓s_augIx, ↓s_expr, ↓s_ret, ↓s_retN, ↓s_cond, ↓s_loop, ↓s_whl, ↓s_raise, ↓s_tryX, ↓s_pass, ↓s_brk, ↓s_cont, ↓b_nil, ↓b_cons, ↓h_nil, ↓r_add, ↓r_sub, ↓r_mul, ↓r_div, ↓r_mod, ↓r_pow, ↓r_shl, ↓r_cat, ↓r_cats, ↓r_rep, ↓r_lt, ↓r_le, ↓r_gt, ↓r_ge, ↓r_eqI, ↓r_neI, ↓r_augA, ↓r_augS, ↓r_augM, ↓tg_tpt, ↓tg_tpl, ↓tg_tpm, ↓tgs_nil, ↓tgs_cons, ↓turn_nx, ↓turn_ct, ↓turn_bk, ↓turn_rt, ↓turn_ex, ↓d_nil, ↓d_eq, ↓rng_1, ↓rng_2, ↓b_int, ↓b_intb, ↓b_bool, ↓b_boolb, ↓b_lent, ↓b_lenl, ↓b_tupt, ↓b_tupl, ↓b_str, ↓b_repr', ↓xp_d, ↓b_abs, ↓b_sum, ↓b_all, ↓b_any, ↓b_max, ↓b_min, ↓ix_t, ↓ix_l, ↓sl_t, ↓sl_l, ↓c_eqb, ↓c_neb, ↓c_isN, ↓c_isnN, ↓isx_eq, ↓xval_eq, ↓c_inT, ↓c_inL, ↓c_ninT, ↓c_ninL, ↓c_ltT, ↓c_leT, ↓c_gtT, ↓c_geT, ↓c_eqS, ↓c_neS, ↓b_lenm, ↓v_0, ↓v_S, ↓n_0, ↓n_S, ↓un_0, ↓un_S, ↓s_aug', ↓s_par', ↓h_cons', ↓xl_k, ↓xl_0, ↓xl_S, ↓xl_z, ↓mm_t, ↓mm_tk, ↓to_t, ↓md_k, ↓md_0, ↓mm_0, ↓mm_S, ↓nw_1, ↓nw_2, ↓nw_3, ↓nw_4, ↓nw_5, ↓e_al', ↓ix_m', ↓b_tupm', ↓sl_m', ↓ex_map, ↓ap_l, ↓s_app', ↓xt_l, ↓s_ext', ↓in_l, ↓s_ins', ↓p_put', ↓wt_d, ↓wt_k, ↓wt_k0, ↓to_S, ↓to_z, ↓e_isI1, ↓e_isI2, ↓ex_tb, ↓ex_ti, ↓ex_tn, ↓ex_tt, ↓ex_tl, ↓ex_i, ↓ex_B, ↓xd_nil, ↓xd_cons, ↓xd_map, ↓xi_t, ↓xi_l, ↓xi_m, ↓f_cat', ↓f_rep', ↓f_slice', nw_0, e_var, e_cst, e_neg, e_not, e_and, e_or, e_ite, e_bin, e_cmp, e_chain, e_tup, e_fr, e_al, e_ix, e_sl, e_rev, e_call, e_callK, e_b1, e_b2, e_isI, e_isX, e_xval, e_get, e_pop, e_popAt, e_index, t_not, t_and, t_or, a_nil, a_cons, o_none, o_some, c_none, c_some, f_disp, f_comp, f_comp2, f_listOf, f_cat, f_rep, f_slice, i_of, i_rng, i_enum, i_zip, i_rev, t_var, t_cst, t_neg, t_ite, t_bin, t_cmp, t_chain, t_tup, t_fr, t_al, t_ddisp, t_ix, t_sl, t_rev, t_call, t_callK, t_b1, t_b2, t_isI, t_isX, t_xval, t_get, t_pop, t_popAt, t_index, s_asg, s_setIx, e_dnew, e_dix, s_dput, t_dnew, t_dix, s_par, s_aug, s_augIx, s_expr, s_app, s_ext, s_ins, s_ret, s_retN, s_cond, s_loop, s_whl, s_raise, s_tryX, s_pass, s_brk, s_cont, b_nil, b_cons, h_nil, h_cons, r_add, r_sub, r_mul, r_div, r_mod, r_pow, r_shl, r_cat, r_cats, r_rep, r_lt, r_le, r_gt, r_ge, r_eqI, r_neI, tr_bool, tr_int, tr_none, tr_tuple, tr_list, r_augA, r_augS, r_augM, m_get, m_get0, m_set, m_set0, ex_v, ex_k, ex_lst, tg_nm, tg_tpt, tg_tpl, tg_tpm, tgs_nil, tgs_cons, tgAt_eq, List.getElem?_cons_succ, List.getElem?_cons_zero, List.set_cons_succ, List.set_cons_zero, List.length_append, List.length_cons, List.length_nil, List.append_assoc, List.cons_append, List.nil_append, decide_eq_true_eq, I, B, N0, S.l.injEq, S.d.injEq, Option.some.injEq, MO.lst.injEq, exists_eq_left', exists_and_left, mapM_d, Bool.false_eq_true, isT_int_none, isT_int_bool, isT_int_int, isT_int_str, isT_int_list, isT_int_tuple, isT_int_dict, isT_bool_none, isT_bool_bool, isT_bool_int, isT_bool_str, isT_bool_list, isT_bool_tuple, isT_bool_dict, isT_str_none, isT_str_bool, isT_str_int, isT_str_str, isT_str_list, isT_str_tuple, isT_str_dict, isT_list_none, isT_list_bool, isT_list_int, isT_list_str, isT_list_list, isT_list_tuple, isT_list_dict, isT_tuple_none, isT_tuple_bool, isT_tuple_int, isT_tuple_str, isT_tuple_list, isT_tuple_tuple, isT_tuple_dict, isT_dict_none, isT_dict_bool, isT_dict_int, isT_dict_str, isT_dict_list, isT_dict_tuple, isT_dict_dict, at_0, at_1, mapM_s, List.map_cons, List.map_nil, List.any_cons, List.any_nil, id_eq, Bool.or_false, Bool.not_true, Bool.not_false, ↓reduceIte, turn_nx, turn_ct, turn_bk, turn_rt, turn_ex, ty_m, Int.zero_add, d_nil, d_eq, rng_1, rng_2, b_int, b_intb, b_bool, b_boolb, b_lent, b_lenl, b_lenm, b_tupt, b_tupl, b_tupm, b_str, b_repr', b_abs, b_sum, b_all, b_any, b_max, b_min, ix_t, ix_l, ix_m, sl_t, sl_l, sl_m, ty_d, it_t, it_l, pd_d, c_eqb, c_neb, c_isN, c_isnN, isx_eq, xval_eq, true_and, and_true, List.append_nil, wipeS, tgSlots, tgSlotss, c_inT, c_inL, c_ninT, c_ninL, c_ltT, c_leT, c_gtT, c_geT, it_k, it_k0, ty_k, ty_k0, lo_1, to_1, to_2, beq_self_eq_true, sd_inj, da_nil, da_cons, da_map, Option.map_some, p_put, Nat.reduceAdd, Int.reduceEq, Int.reduceLT, Int.reduceLE, f_lrng, f_comp2, e_indexT, s_parIx, s_any, gt_t, gt_tk, c_noneF, c_eqS, c_neS, eq_self, decide_true, decide_false, pints_len, itm_len, sz_0, sz_1, sz_2, sz_3, sz_4, sz_5, sz_6, sz_7, sz_8, int?_d, ok_of_d, ex_self, Nat.zero_add])
theorem lm_need_stair : ∀ p ∈ lib_need_stair, ∀ vs, Mono (p.2.2 vs) := by
  intro p hp
  simp only [lib_need_stair, List.mem_cons, List.not_mem_nil, or_false] at hp
  subst hp
  exact mo_is_stair
theorem mb_need_stair (s : Ss) : MonoS (wSs Γ_need_stair s) := mSs s _ (Lib.mo lm_need_stair)
theorem ck_need_stair : kSs b_need_stair ⟨N_need_stair, defScope s_need_stair, lib_need_stair.fs, kws, cs, hs, true⟩ (defBody s_need_stair) = true := by decide +kernel
theorem bd_need_stair : Bd "need_stair" s_need_stair ["value"] := fun _ _ _ _ _ _ us hl => match us, hl with | [_], _ => rfl
theorem kb_need_stair : ∀ q ∈ kws, q.1 = "need_stair" → BdK "need_stair" s_need_stair ["value"] q.2.1 q.2.2 := by
  intro q hq
  cases hq
def sp_need_stair : FSpec := fun vs M Q E => match vs with
  | [.d v] => tupLen v ∧ (if isStairD v = true then Q N0 M else E ⟨"InvalidStair", "value", .d v⟩ M)
  | _ => False
theorem mo_need_stair : ∀ vs, Mono (sp_need_stair vs) := by
  intro vs M Q Q' X X' hq hx
  unfold sp_need_stair
  (try split) <;> (repeat' first | exact id | exact hq _ _ | exact hx _ _ | refine And.imp ?_ ?_ | refine Exists.imp (fun _ => ?_) | refine forall_imp (fun _ => ?_) | split)
theorem w_need_stair : ∀ (ss : List S) (M : Mem) (Q : S → Mem → Prop) (E : Xc → Mem → Prop), ss.length = 1 → sp_need_stair ss M Q E → wSs Γ_need_stair b_need_stair (startS N_need_stair ss) M (exits M Q E) := by
  intro ss M Q E hl h
  unfold sp_need_stair at h
  split at h
  case h_2 => exact h.elim
  rename_i v
  obtain ⟨ht, h⟩ := h
  walk_at "need_stair"
  refine ⟨ht, ?_⟩
  cases c : isStairD v with
  | true =>
    rw [if_pos c] at h
    exact (if_neg (by decide)).mpr (ret_here h)
  | false =>
    rw [if_neg (by rw [c]; decide)] at h
    exact (if_pos (by decide)).mpr (ret_here h)

theorem k_need_stair {v : PD} {M : Mem} {Q : S → Mem → Prop} {E : Xc → Mem → Prop} : sp_need_stair [.d v] M Q E = (tupLen v ∧ (if isStairD v = true then Q N0 M else E ⟨"InvalidStair", "value", .d v⟩ M)) := rfl
/-! is_number -/
abbrev s_is_number : Stmt := topS 2
def N_is_number : List Str := ["value"]
theorem sc_is_number : FnScope N_is_number ["value"] (defScope s_is_number) := ⟨rfl, rfl, rfl, by decide +kernel, rfl, by decide +kernel, by decide +kernel⟩
def b_is_number : Ss := .cons (.ret (.and (.call "is_integer" (.cons (.var 0) .nil)) (.cmp .GtE (.var 0) (.cst (.int 0))))) .nil
theorem ub_is_number : b_is_number = .cons (.ret (.and (.call "is_integer" (.cons (.var 0) .nil)) (.cmp .GtE (.var 0) (.cst (.int 0))))) .nil := rfl
theorem st_is_number {x0 : S} : startS N_is_number [x0] = [some x0] := rfl
def lib_is_number : Lib := [("is_integer", ["value"], sp_is_integer)]
abbrev Γ_is_number : G.Env := lib_is_number.env (MroF tab)
theorem Φ_is_number_is_integer : Γ_is_number.Φ "is_integer" = some sp_is_integer := by rfl
theorem φ_is_number_is_integer {P : FSpec → Prop} : (∃ φ, Γ_is_number.Φ "is_integer" = some φ ∧ P φ) = P sp_is_integer := by rw [Φ_is_number_is_integer]; exact ex_self
local macro_rules | `(tactic| walk_at "is_number") => `(tactic| simp (maxSteps := 1000000) only [ub_is_number, st_is_number, exits, Φ_is_number_is_integer, ↓φ_is_number_is_integer, ↓k_is_integer, ↓e_dnew', ↓e_ddisp', ↓dx_i, ↓dx_s, ↓dp_i, ↓dp_s, ↓yl_k, ↓yl_0, ↓yl_S, ↓yl_z, ↓c_isIN, ↓c_isBN, ↓c_isSN, ↓c_isTN, ↓c_isLN, ↓c_isRN, ↓c_isnIN, ↓c_isnBN, ↓c_isnSN, ↓c_isnTN, ↓c_isnLN, ↓c_isnRN, ↓c_eqSS, ↓c_neSS, ↓ex_pq, ↓c_eqT, ↓c_neT, ↓rng_3, ↓e_mtup', ↓ex_l, ↓xp_k, ↓xp_0, ↓xp_S, ↓xp_z, ↓s_unp, ↓rv_t, ↓rv_l, ↓rv_m, ↓po_m, ↓e_rev, ↓c_isbb, ↓c_isnbb, ↓f_lrng, ↓f_comp2, ↓s_parIx, ↓xv_0, ↓xv_S, ↓da_snoc, ↓da_app, ↓e_cst, ↓e_neg, ↓e_not, ↓e_and, ↓e_or, ↓e_ite, ↓e_bin, ↓e_cmp, ↓e_chain, ↓e_tup, ↓e_fr, ↓e_ix, ↓e_dix, ↓t_dix, ↓s_dput, ↓e_sl, ↓e_rev, ↓e_call, ↓e_callK, ↓e_b1, ↓e_b2, ↓e_isX, ↓e_xval, ↓e_get, ↓e_pop, ↓e_popAt, ↓e_index, ↓t_not, ↓t_and, ↓t_or, ↓a_nil, ↓a_cons, ↓o_none, ↓o_some, ↓c_none, ↓c_some, ↓f_disp, ↓f_comp, ↓f_comp2, ↓f_listOf, ↓i_of, ↓i_rng, ↓i_zip, ↓i_rev, ↓i_keys, i_keys, ↓t_var, ↓t_cst, ↓t_neg, ↓t_ite, ↓t_bin, ↓t_cmp, ↓t_chain, ↓t_tup, ↓t_fr, ↓t_al, ↓t_ddisp, ↓t_ix, ↓t_sl, ↓t_rev, ↓t_call, ↓t_callK, ↓t_b1, ↓t_b2, ↓t_isI, ↓t_isX, ↓t_xval, ↓t_get, ↓t_pop, ↓t_popAt, ↓t_index, ↓s_asg, ↓s_setIx, ↓s_augIx, ↓s_expr, ↓s_ret, ↓s_retN, ↓s_cond, ↓s_loop, ↓s_whl, ↓s_raise, ↓s_tryX, ↓s_pass, ↓s_brk, ↓s_cont, ↓b_nil, ↓b_cons, ↓h_nil, ↓r_add, ↓r_sub, ↓r_mul, ↓r_div, ↓r_mod, ↓r_pow, ↓r_shl, ↓r_cat, ↓r_cats, ↓r_rep, ↓r_lt, ↓r_le, ↓r_gt, ↓r_ge, ↓r_eqI, ↓r_neI, ↓r_augA, ↓r_augS, ↓r_augM, ↓tg_tpt, ↓tg_tpl, ↓tg_tpm, ↓tgs_nil, ↓tgs_cons, ↓turn_nx, ↓turn_ct, ↓turn_bk, ↓turn_rt, ↓turn_ex, ↓d_nil, ↓d_eq, ↓rng_1, ↓rng_2, ↓b_int, ↓b_intb, ↓b_bool, ↓b_boolb, ↓b_lent, ↓b_lenl, ↓b_tupt, ↓b_tupl, ↓b_str, ↓b_repr', ↓xp_d, ↓b_abs, ↓b_sum, ↓b_all, ↓b_any, ↓b_max, ↓b_min, ↓ix_t, ↓ix_l, ↓sl_t, ↓sl_l, ↓c_eqb, ↓c_neb, ↓c_isN, ↓c_isnN, ↓isx_eq, ↓xval_eq, ↓c_inT, ↓c_inL, ↓c_ninT, ↓c_ninL, ↓c_ltT, ↓c_leT, ↓c_gtT, ↓c_geT, ↓c_eqS, ↓c_neS, ↓b_lenm, ↓v_0, ↓v_S, ↓n_0, ↓n_S, ↓un_0, ↓un_S, ↓s_aug', ↓s_par', ↓h_cons', ↓xl_k, ↓xl_0, ↓xl_S, ↓xl_z, ↓mm_t, ↓mm_tk, ↓to_t, ↓md_k, ↓md_0, ↓mm_0, ↓mm_S, ↓nw_1, ↓nw_2, ↓nw_3, ↓nw_4, ↓nw_5, ↓e_al', ↓ix_m', ↓b_tupm', ↓sl_m', ↓ex_map, ↓ap_l, ↓s_app', ↓xt_l, ↓s_ext', ↓in_l, ↓s_ins', ↓p_put', ↓wt_d, ↓wt_k, ↓wt_k0, ↓to_S, ↓to_z, ↓e_isI1, ↓e_isI2, ↓ex_tb, ↓ex_ti, ↓ex_tn, ↓ex_tt, ↓ex_tl, ↓ex_i, ↓ex_B, ↓xd_nil, ↓xd_cons, ↓xd_map, ↓xi_t, ↓xi_l, ↓xi_m, ↓f_cat', ↓f_rep', ↓f_slice', nw_0, e_var, e_cst, e_neg, e_not, e_and, e_or, e_ite, e_bin, e_cmp, e_chain, e_tup, e_fr, e_al, e_ix, e_sl, e_rev, e_call, e_callK, e_b1, e_b2, e_isI, e_isX, e_xval, e_get, e_pop, e_popAt, e_index, t_not, t_and, t_or, a_nil, a_cons, o_none, o_some, c_none, c_some, f_disp, f_comp, f_comp2, f_listOf, f_cat, f_rep, f_slice, i_of, i_rng, i_enum, i_zip, i_rev, t_var, t_cst, t_neg, t_ite, t_bin, t_cmp, t_chain, t_tup, t_fr, t_al, t_ddisp, t_ix, t_sl, t_rev, t_call, t_callK, t_b1, t_b2, t_isI, t_isX, t_xval, t_get, t_pop, t_popAt, t_index, s_asg, s_setIx, e_dnew, e_dix, s_dput, t_dnew, t_dix, s_par, s_aug, s_augIx, s_expr, s_app, s_ext, s_ins, s_ret, s_retN, s_cond, s_loop, s_whl, s_raise, s_tryX, s_pass, s_brk, s_cont, b_nil, b_cons, h_nil, h_cons, r_add, r_sub, r_mul, r_div, r_mod, r_pow, r_shl, r_cat, r_cats, r_rep, r_lt, r_le, r_gt, r_ge, r_eqI, r_neI, tr_bool, tr_int, tr_none, tr_tuple, tr_list, r_augA, r_augS, r_augM, m_get, m_get0, m_set, m_set0, ex_v, ex_k, ex_lst, tg_nm, tg_tpt, tg_tpl, tg_tpm, tgs_nil, tgs_cons, tgAt_eq, List.getElem?_cons_succ, List.getElem?_cons_zero, List.set_cons_succ, List.set_cons_zero, List.length_append, List.length_cons, List.length_nil, List.append_assoc, List.cons_append, List.nil_append, decide_eq_true_eq, I, B, N0, S.l.injEq, S.d.injEq, Option.some.injEq, MO.lst.injEq, exists_eq_left', exists_and_left, mapM_d, Bool.false_eq_true, isT_int_none, isT_int_bool, isT_int_int, isT_int_str, isT_int_list, isT_int_tuple, isT_int_dict, isT_bool_none, isT_bool_bool, isT_bool_int, isT_bool_str, isT_bool_list, isT_bool_tuple, isT_bool_dict, isT_str_none, isT_str_bool, isT_str_int, isT_str_str, isT_str_list, isT_str_tuple, isT_str_dict, isT_list_none, isT_list_bool, isT_list_int, isT_list_str, isT_list_list, isT_list_tuple, isT_list_dict, isT_tuple_none, isT_tuple_bool, isT_tuple_int, isT_tuple_str, isT_tuple_list, isT_tuple_tuple, isT_tuple_dict, isT_dict_none, isT_dict_bool, isT_dict_int, isT_dict_str, isT_dict_list, isT_dict_tuple, isT_dict_dict, at_0, at_1, mapM_s, List.map_cons, List.map_nil, List.any_cons, List.any_nil, id_eq, Bool.or_false, Bool.not_true, Bool.not_false, ↓reduceIte, turn_nx, turn_ct, turn_bk, turn_rt, turn_ex, ty_m, Int.zero_add, d_nil, d_eq, rng_1, rng_2, b_int, b_intb, b_bool, b_boolb, b_lent, b_lenl, b_lenm, b_tupt, b_tupl, b_tupm, b_str, b_repr', b_abs, b_sum, b_all, b_any, b_max, b_min, ix_t, ix_l, ix_m, sl_t, sl_l, sl_m, ty_d, it_t, it_l, pd_d, c_eqb, c_neb, c_isN, c_isnN, isx_eq, xval_eq, true_and, and_true, List.append_nil, wipeS, tgSlots, tgSlotss, c_inT, c_inL, c_ninT, c_ninL, c_ltT, c_leT, c_gtT, c_geT, it_k, it_k0, ty_k, ty_k0, lo_1, to_1, to_2, beq_self_eq_true, sd_inj, da_nil, da_cons, da_map, Option.map_some, p_put, Nat.reduceAdd, Int.reduceEq, Int.reduceLT, Int.reduceLE, f_lrng, f_comp2, e_indexT, s_parIx, s_any, gt_t, gt_tk, c_noneF, c_eqS, c_neS, eq_self, decide_true, decide_false, pints_len, itm_len, sz_0, sz_1, sz_2, sz_3, sz_4, sz_5, sz_6, sz_7, sz_8, int?_d, ok_of_d, ex_self, Nat.zero_add])
theorem lm_is_number : ∀ p ∈ lib_is_number, ∀ vs, Mono (p.2.2 vs) := by
  intro p hp
  simp only [lib_is_number, List.mem_cons, List.not_mem_nil, or_false] at hp
  subst hp
  exact mo_is_integer
theorem mb_is_number (s : Ss) : MonoS (wSs Γ_is_number s) := mSs s _ (Lib.mo lm_is_number)
theorem ck_is_number : kSs b_is_number ⟨N_is_number, defScope s_is_number, lib_is_number.fs, kws, cs, hs, true⟩ (defBody s_is_number) = true := by decide +kernel
theorem bd_is_number : Bd "is_number" s_is_number ["value"] := fun _ _ _ _ _ _ us hl => match us, hl with | [_], _ => rfl
theorem kb_is_number : ∀ q ∈ kws, q.1 = "is_number" → BdK "is_number" s_is_number ["value"] q.2.1 q.2.2 := by
  intro q hq
  cases hq
def sp_is_number : FSpec := Fn fun vs _ r => ∃ x, vs = [.d x] ∧ r = .inr (B (isNumD x))
theorem mo_is_number : ∀ vs, Mono (sp_is_number vs) := Fn_mo
theorem w_is_number : ∀ (ss : List S) (M : Mem) (Q : S → Mem → Prop) (E : Xc → Mem → Prop), ss.length = 1 → sp_is_number ss M Q E → wSs Γ_is_number b_is_number (startS N_is_number ss) M (exits M Q E) := by
  rintro ss M Q E hl ⟨r, ⟨x, rfl, rfl⟩, q⟩
  walk_at "is_number"
  have q' := ret_here q
  cases x <;> simp [isNumD, isIntD, G.wCmp, G.wOrd] at q' ⊢ <;> exact q'
theorem k_is_number {x : PD} {M : Mem} {Q : S → Mem → Prop} {E : Xc → Mem → Prop} : sp_is_number [.d x] M Q E ↔ Q (B (isNumD x)) M :=
  ⟨fun ⟨r, ⟨y, e, er⟩, q⟩ => by cases e; subst er; exact q, fun q => ⟨_, ⟨x, rfl, rfl⟩, q⟩⟩
/-! _need_box -/
abbrev s_need_box : Stmt := topS 15
def N_need_box : List Str := ["rows", "columns", "value"]
theorem sc_need_box : FnScope N_need_box ["rows", "columns"] (defScope s_need_box) := ⟨rfl, rfl, rfl, by decide +kernel, rfl, by decide +kernel, by decide +kernel⟩
def b_need_box_1 : Ss := .cons (.cond (.not (.call "is_number" (.cons (.var 2) .nil))) (.cons (.raise "InvalidNumber" (.var 2)) .nil) (.nil)) .nil
def b_need_box : Ss := .cons (.loop (.nm 2) (.of (.tup (.cons (.var 0) (.cons (.var 1) .nil)))) b_need_box_1) .nil
theorem ub_need_box_1 : b_need_box_1 = .cons (.cond (.not (.call "is_number" (.cons (.var 2) .nil))) (.cons (.raise "InvalidNumber" (.var 2)) .nil) (.nil)) .nil := rfl
theorem ub_need_box : b_need_box = .cons (.loop (.nm 2) (.of (.tup (.cons (.var 0) (.cons (.var 1) .nil)))) b_need_box_1) .nil := rfl
theorem st_need_box {x0 x1 : S} : startS N_need_box [x0, x1] = [some x0, some x1, none] := rfl
def lib_need_box : Lib := [("is_number", ["value"], sp_is_number)]
abbrev Γ_need_box : G.Env := lib_need_box.env (MroF tab)
theorem Φ_need_box_is_number : Γ_need_box.Φ "is_number" = some sp_is_number := by rfl
theorem φ_need_box_is_number {P : FSpec → Prop} : (∃ φ, Γ_need_box.Φ "is_number" = some φ ∧ P φ) = P sp_is_number := by rw [Φ_need_box_is_number]; exact ex_self
local macro_rules | `(tactic| walk_at "need_box") => `(tactic| simp (maxSteps := 1000000) only [ub_need_box, st_need_box, exits, Φ_need_box_is_number, ↓φ_need_box_is_number, ↓k_is_number, ↓e_dnew', ↓e_ddisp', ↓dx_i, ↓dx_s, ↓dp_i, ↓dp_s, ↓yl_k, ↓yl_0, ↓yl_S, ↓yl_z, ↓c_isIN, ↓c_isBN, ↓c_isSN, ↓c_isTN, ↓c_isLN, ↓c_isRN, ↓c_isnIN, ↓c_isnBN, ↓c_isnSN, ↓c_isnTN, ↓c_isnLN, ↓c_isnRN, ↓c_eqSS, ↓c_neSS, ↓ex_pq, ↓c_eqT, ↓c_neT, ↓rng_3, ↓e_mtup', ↓ex_l, ↓xp_k, ↓xp_0, ↓xp_S, ↓xp_z, ↓s_unp, ↓rv_t, ↓rv_l, ↓rv_m, ↓po_m, ↓e_rev, ↓c_isbb, ↓c_isnbb, ↓f_lrng, ↓f_comp2, ↓s_parIx, ↓xv_0, ↓xv_S, ↓da_snoc, ↓da_app, ↓e_cst, ↓e_neg, ↓e_not, ↓e_and, ↓e_or, ↓e_ite, ↓e_bin, ↓e_cmp, ↓e_chain, ↓e_tup, ↓e_fr, ↓e_ix, ↓e_dix, ↓t_dix, ↓s_dput, ↓e_sl, ↓e_rev, ↓e_call, ↓e_callK, ↓e_b1, ↓e_b2, ↓e_isX, ↓e_xval, ↓e_get, ↓e_pop, ↓e_popAt, ↓e_index, ↓t_not, ↓t_and, ↓t_or, ↓a_nil, ↓a_cons, ↓o_none, ↓o_some, ↓c_none, ↓c_some, ↓f_disp, ↓f_comp, ↓f_comp2, ↓f_listOf, ↓i_of, ↓i_rng, ↓i_zip, ↓i_rev, ↓i_keys, i_keys, ↓t_var, ↓t_cst, ↓t_neg, ↓t_ite, ↓t_bin, ↓t_cmp, ↓t_chain, ↓t_tup, ↓t_fr, ↓t_al, ↓t_ddisp, ↓t_ix, ↓t_sl, ↓t_rev, ↓t_call, ↓t_callK, ↓t_b1, ↓t_b2, ↓t_isI, ↓t_isX, ↓t_xval, ↓t_get, ↓t_pop, ↓t_popAt, ↓t_index, ↓s_asg, ↓s_setIx, ↓s_augIx, ↓s_expr, ↓s_ret, ↓s_retN, ↓s_cond, ↓s_loop, ↓s_whl, ↓s_raise, ↓s_tryX, ↓s_pass, ↓s_brk, ↓s_cont, ↓b_nil, ↓b_cons, ↓h_nil, ↓r_add, ↓r_sub, ↓r_mul, ↓r_div, ↓r_mod, ↓r_pow, ↓r_shl, ↓r_cat, ↓r_cats, ↓r_rep, ↓r_lt, ↓r_le, ↓r_gt, ↓r_ge, ↓r_eqI, ↓r_neI, ↓r_augA, ↓r_augS, ↓r_augM, ↓tg_tpt, ↓tg_tpl, ↓tg_tpm, ↓tgs_nil, ↓tgs_cons, ↓turn_nx, ↓turn_ct, ↓turn_bk, ↓turn_rt, ↓turn_ex, ↓d_nil, ↓d_eq, ↓rng_1, ↓rng_2, ↓b_int, ↓b_intb, ↓b_bool, ↓b_boolb, ↓b_lent, ↓b_lenl, ↓b_tupt, ↓b_tupl, ↓b_str, ↓b_repr', ↓xp_d, ↓b_abs, ↓b_sum, ↓b_all, ↓b_any, ↓b_max, ↓b_min, ↓ix_t, ↓ix_l, ↓sl_t, ↓sl_l, ↓c_eqb, ↓c_neb, ↓c_isN, ↓c_isnN, ↓isx_eq, ↓xval_eq, ↓c_inT, ↓c_inL, ↓c_ninT, ↓c_ninL, ↓c_ltT, ↓c_leT, ↓c_gtT, ↓c_geT, ↓c_eqS, ↓c_neS, ↓b_lenm, ↓v_0, ↓v_S, ↓n_0, ↓n_S, ↓un_0, ↓un_S, ↓s_aug', ↓s_par', ↓h_cons', ↓xl_k, ↓xl_0, ↓xl_S, ↓xl_z, ↓mm_t, ↓mm_tk, ↓to_t, ↓md_k, ↓md_0, ↓mm_0, ↓mm_S, ↓nw_1, ↓nw_2, ↓nw_3, ↓nw_4, ↓nw_5, ↓e_al', ↓ix_m', ↓b_tupm', ↓sl_m', ↓ex_map, ↓ap_l, ↓s_app', ↓xt_l, ↓s_ext', ↓in_l, ↓s_ins', ↓p_put', ↓wt_d, ↓wt_k, ↓wt_k0, ↓to_S, ↓to_z, ↓e_isI1, ↓e_isI2, ↓ex_tb, ↓ex_ti, ↓ex_tn, ↓ex_tt, ↓ex_tl, ↓ex_i, ↓ex_B, ↓xd_nil, ↓xd_cons, ↓xd_map, ↓xi_t, ↓xi_l, ↓xi_m, ↓f_cat', ↓f_rep', ↓f_slice', nw_0, e_var, e_cst, e_neg, e_not, e_and, e_or, e_ite, e_bin, e_cmp, e_chain, e_tup, e_fr, e_al, e_ix, e_sl, e_rev, e_call, e_callK, e_b1, e_b2, e_isI, e_isX, e_xval, e_get, e_pop, e_popAt, e_index, t_not, t_and, t_or, a_nil, a_cons, o_none, o_some, c_none, c_some, f_disp, f_comp, f_comp2, f_listOf, f_cat, f_rep, f_slice, i_of, i_rng, i_enum, i_zip, i_rev, t_var, t_cst, t_neg, t_ite, t_bin, t_cmp, t_chain, t_tup, t_fr, t_al, t_ddisp, t_ix, t_sl, t_rev, t_call, t_callK, t_b1, t_b2, t_isI, t_isX, t_xval, t_get, t_pop, t_popAt, t_index, s_asg, s_setIx, e_dnew, e_dix, s_dput, t_dnew, t_dix, s_par, s_aug, s_augIx, s_expr, s_app, s_ext, s_ins, s_ret, s_retN, s_cond, s_loop, s_whl, s_raise, s_tryX, s_pass, s_brk, s_cont, b_nil, b_cons, h_nil, h_cons, r_add, r_sub, r_mul, r_div, r_mod, r_pow, r_shl, r_cat, r_cats, r_rep, r_lt, r_le, r_gt, r_ge, r_eqI, r_neI, tr_bool, tr_int, tr_none, tr_tuple, tr_list, r_augA, r_augS, r_augM, m_get, m_get0, m_set, m_set0, ex_v, ex_k, ex_lst, tg_nm, tg_tpt, tg_tpl, tg_tpm, tgs_nil, tgs_cons, tgAt_eq, List.getElem?_cons_succ, List.getElem?_cons_zero, List.set_cons_succ, List.set_cons_zero, List.length_append, List.length_cons, List.length_nil, List.append_assoc, List.cons_append, List.nil_append, decide_eq_true_eq, I, B, N0, S.l.injEq, S.d.injEq, Option.some.injEq, MO.lst.injEq, exists_eq_left', exists_and_left, mapM_d, Bool.false_eq_true, isT_int_none, isT_int_bool, isT_int_int, isT_int_str, isT_int_list, isT_int_tuple, isT_int_dict, isT_bool_none, isT_bool_bool, isT_bool_int, isT_bool_str, isT_bool_list, isT_bool_tuple, isT_bool_dict, isT_str_none, isT_str_bool, isT_str_int, isT_str_str, isT_str_list, isT_str_tuple, isT_str_dict, isT_list_none, isT_list_bool, isT_list_int, isT_list_str, isT_list_list, isT_list_tuple, isT_list_dict, isT_tuple_none, isT_tuple_bool, isT_tuple_int, isT_tuple_str, isT_tuple_list, isT_tuple_tuple, isT_tuple_dict, isT_dict_none, isT_dict_bool, isT_dict_int, isT_dict_str, isT_dict_list, isT_dict_tuple, isT_dict_dict, at_0, at_1, mapM_s, List.map_cons, List.map_nil, List.any_cons, List.any_nil, id_eq, Bool.or_false, Bool.not_true, Bool.not_false, ↓reduceIte, turn_nx, turn_ct, turn_bk, turn_rt, turn_ex, ty_m, Int.zero_add, d_nil, d_eq, rng_1, rng_2, b_int, b_intb, b_bool, b_boolb, b_lent, b_lenl, b_lenm, b_tupt, b_tupl, b_tupm, b_str, b_repr', b_abs, b_sum, b_all, b_any, b_max, b_min, ix_t, ix_l, ix_m, sl_t, sl_l, sl_m, ty_d, it_t, it_l, pd_d, c_eqb, c_neb, c_isN, c_isnN, isx_eq, xval_eq, true_and, and_true, List.append_nil, wipeS, tgSlots, tgSlotss, c_inT, c_inL, c_ninT, c_ninL, c_ltT, c_leT, c_gtT, c_geT, it_k, it_k0, ty_k, ty_k0, lo_1, to_1, to_2, beq_self_eq_true, sd_inj, da_nil, da_cons, da_map, Option.map_some, p_put, Nat.reduceAdd, Int.reduceEq, Int.reduceLT, Int.reduceLE, f_lrng, f_comp2, e_indexT, s_parIx, s_any, gt_t, gt_tk, c_noneF, c_eqS, c_neS, eq_self, decide_true, decide_false, pints_len, itm_len, sz_0, sz_1, sz_2, sz_3, sz_4, sz_5, sz_6, sz_7, sz_8, int?_d, ok_of_d, ex_self, Nat.zero_add])
theorem lm_need_box : ∀ p ∈ lib_need_box, ∀ vs, Mono (p.2.2 vs) := by
  intro p hp
  simp only [lib_need_box, List.mem_cons, List.not_mem_nil, or_false] at hp
  subst hp
  exact mo_is_number
theorem mb_need_box (s : Ss) : MonoS (wSs Γ_need_box s) := mSs s _ (Lib.mo lm_need_box)
theorem ck_need_box : kSs b_need_box ⟨N_need_box, defScope s_need_box, lib_need_box.fs, kws, cs, hs, true⟩ (defBody s_need_box) = true := by decide +kernel
theorem bd_need_box : Bd "_need_box" s_need_box ["rows", "columns"] := fun _ _ _ _ _ _ us hl => match us, hl with | [_, _], _ => rfl
theorem kb_need_box : ∀ q ∈ kws, q.1 = "_need_box" → BdK "_need_box" s_need_box ["rows", "columns"] q.2.1 q.2.2 := by
  intro q hq
  cases hq
def sp_need_box : FSpec := fun vs M Q E => match vs with
  | [.d v, .d w] => (if isNumD v = false then E ⟨"InvalidNumber", "value", .d v⟩ M else if isNumD w = false then E ⟨"InvalidNumber", "value", .d w⟩ M else Q N0 M)
  | _ => False
theorem mo_need_box : ∀ vs, Mono (sp_need_box vs) := by
  intro vs M Q Q' X X' hq hx
  unfold sp_need_box
  (try split) <;> (repeat' first | exact id | exact hq _ _ | exact hx _ _ | refine And.imp ?_ ?_ | refine Exists.imp (fun _ => ?_) | refine forall_imp (fun _ => ?_) | split)
theorem w_need_box : ∀ (ss : List S) (M : Mem) (Q : S → Mem → Prop) (E : Xc → Mem → Prop), ss.length = 2 → sp_need_box ss M Q E → wSs Γ_need_box b_need_box (startS N_need_box ss) M (exits M Q E) := by
  intro ss M Q E hl h
  unfold sp_need_box at h
  split at h
  case h_2 => exact h.elim
  rename_i v w
  walk_at "need_box"
  simp only [wFor, wTg, ub_need_box_1]
  walk_at "need_box"
  cases c1 : isNumD v with
  | false =>
    rw [if_pos c1] at h
    exact (if_pos (by decide)).mpr ⟨_, _, .inl ⟨rfl, rfl⟩, h⟩
  | true =>
    rw [if_neg (by rw [c1]; decide)] at h
    refine (if_neg (by decide)).mpr ?_
    cases c2 : isNumD w with
    | false =>
      rw [if_pos c2] at h
      exact (if_pos (by decide)).mpr ⟨_, _, .inl ⟨rfl, rfl⟩, h⟩
    | true =>
      rw [if_neg (by rw [c2]; decide)] at h
      exact (if_neg (by decide)).mpr (ret_here h)

theorem k_need_box {v : PD} {w : PD} {M : Mem} {Q : S → Mem → Prop} {E : Xc → Mem → Prop} : sp_need_box [.d v, .d w] M Q E = ((if isNumD v = false then E ⟨"InvalidNumber", "value", .d v⟩ M else if isNumD w = false then E ⟨"InvalidNumber", "value", .d w⟩ M else Q N0 M)) := rfl
/-! row_of -/
abbrev s_row_of : Stmt := topS 5
def N_row_of : List Str := ["stair", "i"]
theorem sc_row_of : FnScope N_row_of ["stair", "i"] (defScope s_row_of) := ⟨rfl, rfl, rfl, by decide +kernel, rfl, by decide +kernel, by decide +kernel⟩
def b_row_of : Ss := .cons (.cond (.cmp .Lt (.var 1) (.b1 .len (.var 0))) (.cons (.ret (.ix (.var 0) (.var 1))) .nil) (.nil)) (.cons (.ret (.cst (.int 0))) .nil)
theorem ub_row_of : b_row_of = .cons (.cond (.cmp .Lt (.var 1) (.b1 .len (.var 0))) (.cons (.ret (.ix (.var 0) (.var 1))) .nil) (.nil)) (.cons (.ret (.cst (.int 0))) .nil) := rfl
theorem st_row_of {x0 x1 : S} : startS N_row_of [x0, x1] = [some x0, some x1] := rfl
def lib_row_of : Lib := []
abbrev Γ_row_of : G.Env := lib_row_of.env (MroF tab)
local macro_rules | `(tactic| walk_at "row_of") => `(tactic| simp (maxSteps := 1000000) only [ub_row_of, st_row_of, exits, ↓e_dnew', ↓e_ddisp', ↓dx_i, ↓dx_s, ↓dp_i, ↓dp_s, ↓yl_k, ↓yl_0, ↓yl_S, ↓yl_z, ↓c_isIN, ↓c_isBN, ↓c_isSN, ↓c_isTN, ↓c_isLN, ↓c_isRN, ↓c_isnIN, ↓c_isnBN, ↓c_isnSN, ↓c_isnTN, ↓c_isnLN, ↓c_isnRN, ↓c_eqSS, ↓c_neSS, ↓ex_pq, ↓c_eqT, ↓c_neT, ↓rng_3, ↓e_mtup', ↓ex_l, ↓xp_k, ↓xp_0, ↓xp_S, ↓xp_z, ↓s_unp, ↓rv_t, ↓rv_l, ↓rv_m, ↓po_m, ↓e_rev, ↓c_isbb, ↓c_isnbb, ↓f_lrng, ↓f_comp2, ↓s_parIx, ↓xv_0, ↓xv_S, ↓da_snoc, ↓da_app, ↓e_cst, ↓e_neg, ↓e_not, ↓e_and, ↓e_or, ↓e_ite, ↓e_bin, ↓e_cmp, ↓e_chain, ↓e_tup, ↓e_fr, ↓e_ix, ↓e_dix, ↓t_dix, ↓s_dput, ↓e_sl, ↓e_rev, ↓e_call, ↓e_callK, ↓e_b1, ↓e_b2, ↓e_isX, ↓e_xval, ↓e_get, ↓e_pop, ↓e_popAt, ↓e_index, ↓t_not, ↓t_and, ↓t_or, ↓a_nil, ↓a_cons, ↓o_none, ↓o_some, ↓c_none, ↓c_some, ↓f_disp, ↓f_comp, ↓f_comp2, ↓f_listOf, ↓i_of, ↓i_rng, ↓i_zip, ↓i_rev, ↓i_keys, i_keys, ↓t_var, ↓t_cst, ↓t_neg, ↓t_ite, ↓t_bin, ↓t_cmp, ↓t_chain, ↓t_tup, ↓t_fr, ↓t_al, ↓t_ddisp, ↓t_ix, ↓t_sl, ↓t_rev, ↓t_call, ↓t_callK, ↓t_b1, ↓t_b2, ↓t_isI, ↓t_isX, ↓t_xval, ↓t_get, ↓t_pop, ↓t_popAt, ↓t_index, ↓s_asg, ↓s_setIx, ↓s_augIx, ↓s_expr, ↓s_ret, ↓s_retN, ↓s_cond, ↓s_loop, ↓s_whl, ↓s_raise, ↓s_tryX, ↓s_pass, ↓s_brk, ↓s_cont, ↓b_nil, ↓b_cons, ↓h_nil, ↓r_add, ↓r_sub, ↓r_mul, ↓r_div, ↓r_mod, ↓r_pow, ↓r_shl, ↓r_cat, ↓r_cats, ↓r_rep, ↓r_lt, ↓r_le, ↓r_gt, ↓r_ge, ↓r_eqI, ↓r_neI, ↓r_augA, ↓r_augS, ↓r_augM, ↓tg_tpt, ↓tg_tpl, ↓tg_tpm, ↓tgs_nil, ↓tgs_cons, ↓turn_nx, ↓turn_ct, ↓turn_bk, ↓turn_rt, ↓turn_ex, ↓d_nil, ↓d_eq, ↓rng_1, ↓rng_2, ↓b_int, ↓b_intb, ↓b_bool, ↓b_boolb, ↓b_lent, ↓b_lenl, ↓b_tupt, ↓b_tupl, ↓b_str, ↓b_repr', ↓xp_d, ↓b_abs, ↓b_sum, ↓b_all, ↓b_any, ↓b_max, ↓b_min, ↓ix_t, ↓ix_l, ↓sl_t, ↓sl_l, ↓c_eqb, ↓c_neb, ↓c_isN, ↓c_isnN, ↓isx_eq, ↓xval_eq, ↓c_inT, ↓c_inL, ↓c_ninT, ↓c_ninL, ↓c_ltT, ↓c_leT, ↓c_gtT, ↓c_geT, ↓c_eqS, ↓c_neS, ↓b_lenm, ↓v_0, ↓v_S, ↓n_0, ↓n_S, ↓un_0, ↓un_S, ↓s_aug', ↓s_par', ↓h_cons', ↓xl_k, ↓xl_0, ↓xl_S, ↓xl_z, ↓mm_t, ↓mm_tk, ↓to_t, ↓md_k, ↓md_0, ↓mm_0, ↓mm_S, ↓nw_1, ↓nw_2, ↓nw_3, ↓nw_4, ↓nw_5, ↓e_al', ↓ix_m', ↓b_tupm', ↓sl_m', ↓ex_map, ↓ap_l, ↓s_app', ↓xt_l, ↓s_ext', ↓in_l, ↓s_ins', ↓p_put', ↓wt_d, ↓wt_k, ↓wt_k0, ↓to_S, ↓to_z, ↓e_isI1, ↓e_isI2, ↓ex_tb, ↓ex_ti, ↓ex_tn, ↓ex_tt, ↓ex_tl, ↓ex_i, ↓ex_B, ↓xd_nil, ↓xd_cons, ↓xd_map, ↓xi_t, ↓xi_l, ↓xi_m, ↓f_cat', ↓f_rep', ↓f_slice', nw_0, e_var, e_cst, e_neg, e_not, e_and, e_or, e_ite, e_bin, e_cmp, e_chain, e_tup, e_fr, e_al, e_ix, e_sl, e_rev, e_call, e_callK, e_b1, e_b2, e_isI, e_isX, e_xval, e_get, e_pop, e_popAt, e_index, t_not, t_and, t_or, a_nil, a_cons, o_none, o_some, c_none, c_some, f_disp, f_comp, f_comp2, f_listOf, f_cat, f_rep, f_slice, i_of, i_rng, i_enum, i_zip, i_rev, t_var, t_cst, t_neg, t_ite, t_bin, t_cmp, t_chain, t_tup, t_fr, t_al, t_ddisp, t_ix, t_sl, t_rev, t_call, t_callK, t_b1, t_b2, t_isI, t_isX, t_xval, t_get, t_pop, t_popAt, t_index, s_asg, s_setIx, e_dnew, e_dix, s_dput, t_dnew, t_dix, s_par, s_aug, s_augIx, s_expr, s_app, s_ext, s_ins, s_ret, s_retN, s_cond, s_loop, s_whl, s_raise, s_tryX, s_pass, s_brk, s_cont, b_nil, b_cons, h_nil, h_cons, r_add, r_sub, r_mul, r_div, r_mod, r_pow, r_shl, r_cat, r_cats, r_rep, r_lt, r_le, r_gt, r_ge, r_eqI, r_neI, tr_bool, tr_int, tr_none, tr_tuple, tr_list, r_augA, r_augS, r_augM, m_get, m_get0, m_set, m_set0, ex_v, ex_k, ex_lst, tg_nm, tg_tpt, tg_tpl, tg_tpm, tgs_nil, tgs_cons, tgAt_eq, List.getElem?_cons_succ, List.getElem?_cons_zero, List.set_cons_succ, List.set_cons_zero, List.length_append, List.length_cons, List.length_nil, List.append_assoc, List.cons_append, List.nil_append, decide_eq_true_eq, I, B, N0, S.l.injEq, S.d.injEq, Option.some.injEq, MO.lst.injEq, exists_eq_left', exists_and_left, mapM_d, Bool.false_eq_true, isT_int_none, isT_int_bool, isT_int_int, isT_int_str, isT_int_list, isT_int_tuple, isT_int_dict, isT_bool_none, isT_bool_bool, isT_bool_int, isT_bool_str, isT_bool_list, isT_bool_tuple, isT_bool_dict, isT_str_none, isT_str_bool, isT_str_int, isT_str_str, isT_str_list, isT_str_tuple, isT_str_dict, isT_list_none, isT_list_bool, isT_list_int, isT_list_str, isT_list_list, isT_list_tuple, isT_list_dict, isT_tuple_none, isT_tuple_bool, isT_tuple_int, isT_tuple_str, isT_tuple_list, isT_tuple_tuple, isT_tuple_dict, isT_dict_none, isT_dict_bool, isT_dict_int, isT_dict_str, isT_dict_list, isT_dict_tuple, isT_dict_dict, at_0, at_1, mapM_s, List.map_cons, List.map_nil, List.any_cons, List.any_nil, id_eq, Bool.or_false, Bool.not_true, Bool.not_false, ↓reduceIte, turn_nx, turn_ct, turn_bk, turn_rt, turn_ex, ty_m, Int.zero_add, d_nil, d_eq, rng_1, rng_2, b_int, b_intb, b_bool, b_boolb, b_lent, b_lenl, b_lenm, b_tupt, b_tupl, b_tupm, b_str, b_repr', b_abs, b_sum, b_all, b_any, b_max, b_min, ix_t, ix_l, ix_m, sl_t, sl_l, sl_m, ty_d, it_t, it_l, pd_d, c_eqb, c_neb, c_isN, c_isnN, isx_eq, xval_eq, true_and, and_true, List.append_nil, wipeS, tgSlots, tgSlotss, c_inT, c_inL, c_ninT, c_ninL, c_ltT, c_leT, c_gtT, c_geT, it_k, it_k0, ty_k, ty_k0, lo_1, to_1, to_2, beq_self_eq_true, sd_inj, da_nil, da_cons, da_map, Option.map_some, p_put, Nat.reduceAdd, Int.reduceEq, Int.reduceLT, Int.reduceLE, f_lrng, f_comp2, e_indexT, s_parIx, s_any, gt_t, gt_tk, c_noneF, c_eqS, c_neS, eq_self, decide_true, decide_false, pints_len, itm_len, sz_0, sz_1, sz_2, sz_3, sz_4, sz_5, sz_6, sz_7, sz_8, int?_d, ok_of_d, ex_self, Nat.zero_add])
theorem lm_row_of : ∀ p ∈ lib_row_of, ∀ vs, Mono (p.2.2 vs) := fun p hp => by cases hp
theorem mb_row_of (s : Ss) : MonoS (wSs Γ_row_of s) := mSs s _ (Lib.mo lm_row_of)
theorem ck_row_of : kSs b_row_of ⟨N_row_of, defScope s_row_of, lib_row_of.fs, kws, cs, hs, true⟩ (defBody s_row_of) = true := by decide +kernel
theorem bd_row_of : Bd "row_of" s_row_of ["stair", "i"] := fun _ _ _ _ _ _ us hl => match us, hl with | [_, _], _ => rfl
theorem kb_row_of : ∀ q ∈ kws, q.1 = "row_of" → BdK "row_of" s_row_of ["stair", "i"] q.2.1 q.2.2 := by
  intro q hq
  cases hq
def sp_row_of : FSpec := fun vs M Q E => match vs with
  | [.d (.tuple xs), .d (.int i)] => ∃ (l : List Int) (k : Nat), (xs = pints l ∧ i = k) ∧ Q (.d (.int (rowZ l k))) M
  | _ => False
theorem mo_row_of : ∀ vs, Mono (sp_row_of vs) := by
  intro vs M Q Q' X X' hq hx
  unfold sp_row_of
  (try split) <;> (repeat' first | exact id | exact hq _ _ | exact hx _ _ | refine And.imp ?_ ?_ | refine Exists.imp (fun _ => ?_) | refine forall_imp (fun _ => ?_) | split)
theorem w_row_of : ∀ (ss : List S) (M : Mem) (Q : S → Mem → Prop) (E : Xc → Mem → Prop), ss.length = 2 → sp_row_of ss M Q E → wSs Γ_row_of b_row_of (startS N_row_of ss) M (exits M Q E) := by
  intro ss M Q E hl h
  unfold sp_row_of at h
  split at h
  case h_2 => exact h.elim
  rename_i xs i
  obtain ⟨l, k, ⟨rfl, rfl⟩, h⟩ := h
  walk_at "row_of"
  refine iteI (fun c => ?_) (fun c => ?_)
  · have hk : k < l.length := by omega
    refine ⟨.int l[k], at_nat (by simp [pints, hk]), ?_⟩
    rw [rowZ_lt hk] at h
    exact ret_here h
  · rw [rowZ_ge (by omega)] at h
    exact ret_here h

theorem k_row_of {xs : List PD} {i : Int} {M : Mem} {Q : S → Mem → Prop} {E : Xc → Mem → Prop} : sp_row_of [.d (.tuple xs), .d (.int i)] M Q E = (∃ (l : List Int) (k : Nat), (xs = pints l ∧ i = k) ∧ Q (.d (.int (rowZ l k))) M) := rfl
/-! is_inside -/
abbrev s_is_inside : Stmt := topS 16
def N_is_inside : List Str := ["stair", "rows", "columns"]
theorem sc_is_inside : FnScope N_is_inside ["stair", "rows", "columns"] (defScope s_is_inside) := ⟨rfl, rfl, rfl, by decide +kernel, rfl, by decide +kernel, by decide +kernel⟩
def b_is_inside : Ss := .cons (.ret (.and (.cmp .LtE (.b1 .len (.var 0)) (.var 1)) (.cmp .LtE (.call "row_of" (.cons (.var 0) (.cons (.cst (.int 0)) .nil))) (.var 2)))) .nil
theorem ub_is_inside : b_is_inside = .cons (.ret (.and (.cmp .LtE (.b1 .len (.var 0)) (.var 1)) (.cmp .LtE (.call "row_of" (.cons (.var 0) (.cons (.cst (.int 0)) .nil))) (.var 2)))) .nil := rfl
theorem st_is_inside {x0 x1 x2 : S} : startS N_is_inside [x0, x1, x2] = [some x0, some x1, some x2] := rfl
def lib_is_inside : Lib := [("row_of", ["stair", "i"], sp_row_of)]
abbrev Γ_is_inside : G.Env := lib_is_inside.env (MroF tab)
theorem Φ_is_inside_row_of : Γ_is_inside.Φ "row_of" = some sp_row_of := by rfl
theorem φ_is_inside_row_of {P : FSpec → Prop} : (∃ φ, Γ_is_inside.Φ "row_of" = some φ ∧ P φ) = P sp_row_of := by rw [Φ_is_inside_row_of]; exact ex_self
local macro_rules | `(tactic| walk_at "is_inside") => `(tactic| simp (maxSteps := 1000000) only [ub_is_inside, st_is_inside, exits, Φ_is_inside_row_of, ↓φ_is_inside_row_of, ↓k_row_of, ↓e_dnew', ↓e_ddisp', ↓dx_i, ↓dx_s, ↓dp_i, ↓dp_s, ↓yl_k, ↓yl_0, ↓yl_S, ↓yl_z, ↓c_isIN, ↓c_isBN, ↓c_isSN, ↓c_isTN, ↓c_isLN, ↓c_isRN, ↓c_isnIN, ↓c_isnBN, ↓c_isnSN, ↓c_isnTN, ↓c_isnLN, ↓c_isnRN, ↓c_eqSS, ↓c_neSS, ↓ex_pq, ↓c_eqT, ↓c_neT, ↓rng_3, ↓e_mtup', ↓ex_l, ↓xp_k, ↓xp_0, ↓xp_S, ↓xp_z, ↓s_unp, ↓rv_t, ↓rv_l, ↓rv_m, ↓po_m, ↓e_rev, ↓c_isbb, ↓c_isnbb, ↓f_lrng, ↓f_comp2, ↓s_parIx, ↓xv_0, ↓xv_S, ↓da_snoc, ↓da_app, ↓e_cst, ↓e_neg, ↓e_not, ↓e_and, ↓e_or, ↓e_ite, ↓e_bin, ↓e_cmp, ↓e_chain, ↓e_tup, ↓e_fr, ↓e_ix, ↓e_dix, ↓t_dix, ↓s_dput, ↓e_sl, ↓e_rev, ↓e_call, ↓e_callK, ↓e_b1, ↓e_b2, ↓e_isX, ↓e_xval, ↓e_get, ↓e_pop, ↓e_popAt, ↓e_index, ↓t_not, ↓t_and, ↓t_or, ↓a_nil, ↓a_cons, ↓o_none, ↓o_some, ↓c_none, ↓c_some, ↓f_disp, ↓f_comp, ↓f_comp2, ↓f_listOf, ↓i_of, ↓i_rng, ↓i_zip, ↓i_rev, ↓i_keys, i_keys, ↓t_var, ↓t_cst, ↓t_neg, ↓t_ite, ↓t_bin, ↓t_cmp, ↓t_chain, ↓t_tup, ↓t_fr, ↓t_al, ↓t_ddisp, ↓t_ix, ↓t_sl, ↓t_rev, ↓t_call, ↓t_callK, ↓t_b1, ↓t_b2, ↓t_isI, ↓t_isX, ↓t_xval, ↓t_get, ↓t_pop, ↓t_popAt, ↓t_index, ↓s_asg, ↓s_setIx, ↓s_augIx, ↓s_expr, ↓s_ret, ↓s_retN, ↓s_cond, ↓s_loop, ↓s_whl, ↓s_raise, ↓s_tryX, ↓s_pass, ↓s_brk, ↓s_cont, ↓b_nil, ↓b_cons, ↓h_nil, ↓r_add, ↓r_sub, ↓r_mul, ↓r_div, ↓r_mod, ↓r_pow, ↓r_shl, ↓r_cat, ↓r_cats, ↓r_rep, ↓r_lt, ↓r_le, ↓r_gt, ↓r_ge, ↓r_eqI, ↓r_neI, ↓r_augA, ↓r_augS, ↓r_augM, ↓tg_tpt, ↓tg_tpl, ↓tg_tpm, ↓tgs_nil, ↓tgs_cons, ↓turn_nx, ↓turn_ct, ↓turn_bk, ↓turn_rt, ↓turn_ex, ↓d_nil, ↓d_eq, ↓rng_1, ↓rng_2, ↓b_int, ↓b_intb, ↓b_bool, ↓b_boolb, ↓b_lent, ↓b_lenl, ↓b_tupt, ↓b_tupl, ↓b_str, ↓b_repr', ↓xp_d, ↓b_abs, ↓b_sum, ↓b_all, ↓b_any, ↓b_max, ↓b_min, ↓ix_t, ↓ix_l, ↓sl_t, ↓sl_l, ↓c_eqb, ↓c_neb, ↓c_isN, ↓c_isnN, ↓isx_eq, ↓xval_eq, ↓c_inT, ↓c_inL, ↓c_ninT, ↓c_ninL, ↓c_ltT, ↓c_leT, ↓c_gtT, ↓c_geT, ↓c_eqS, ↓c_neS, ↓b_lenm, ↓v_0, ↓v_S, ↓n_0, ↓n_S, ↓un_0, ↓un_S, ↓s_aug', ↓s_par', ↓h_cons', ↓xl_k, ↓xl_0, ↓xl_S, ↓xl_z, ↓mm_t, ↓mm_tk, ↓to_t, ↓md_k, ↓md_0, ↓mm_0, ↓mm_S, ↓nw_1, ↓nw_2, ↓nw_3, ↓nw_4, ↓nw_5, ↓e_al', ↓ix_m', ↓b_tupm', ↓sl_m', ↓ex_map, ↓ap_l, ↓s_app', ↓xt_l, ↓s_ext', ↓in_l, ↓s_ins', ↓p_put', ↓wt_d, ↓wt_k, ↓wt_k0, ↓to_S, ↓to_z, ↓e_isI1, ↓e_isI2, ↓ex_tb, ↓ex_ti, ↓ex_tn, ↓ex_tt, ↓ex_tl, ↓ex_i, ↓ex_B, ↓xd_nil, ↓xd_cons, ↓xd_map, ↓xi_t, ↓xi_l, ↓xi_m, ↓f_cat', ↓f_rep', ↓f_slice', nw_0, e_var, e_cst, e_neg, e_not, e_and, e_or, e_ite, e_bin, e_cmp, e_chain, e_tup, e_fr, e_al, e_ix, e_sl, e_rev, e_call, e_callK, e_b1, e_b2, e_isI, e_isX, e_xval, e_get, e_pop, e_popAt, e_index, t_not, t_and, t_or, a_nil, a_cons, o_none, o_some, c_none, c_some, f_disp, f_comp, f_comp2, f_listOf, f_cat, f_rep, f_slice, i_of, i_rng, i_enum, i_zip, i_rev, t_var, t_cst, t_neg, t_ite, t_bin, t_cmp, t_chain, t_tup, t_fr, t_al, t_ddisp, t_ix, t_sl, t_rev, t_call, t_callK, t_b1, t_b2, t_isI, t_isX, t_xval, t_get, t_pop, t_popAt, t_index, s_asg, s_setIx, e_dnew, e_dix, s_dput, t_dnew, t_dix, s_par, s_aug, s_augIx, s_expr, s_app, s_ext, s_ins, s_ret, s_retN, s_cond, s_loop, s_whl, s_raise, s_tryX, s_pass, s_brk, s_cont, b_nil, b_cons, h_nil, h_cons, r_add, r_sub, r_mul, r_div, r_mod, r_pow, r_shl, r_cat, r_cats, r_rep, r_lt, r_le, r_gt, r_ge, r_eqI, r_neI, tr_bool, tr_int, tr_none, tr_tuple, tr_list, r_augA, r_augS, r_augM, m_get, m_get0, m_set, m_set0, ex_v, ex_k, ex_lst, tg_nm, tg_tpt, tg_tpl, tg_tpm, tgs_nil, tgs_cons, tgAt_eq, List.getElem?_cons_succ, List.getElem?_cons_zero, List.set_cons_succ, List.set_cons_zero, List.length_append, List.length_cons, List.length_nil, List.append_assoc, List.cons_append, List.nil_append, decide_eq_true_eq, I, B, N0, S.l.injEq, S.d.injEq, Option.some.injEq, MO.lst.injEq, exists_eq_left', exists_and_left, mapM_d, Bool.false_eq_true, isT_int_none, isT_int_bool, isT_int_int, isT_int_str, isT_int_list, isT_int_tuple, isT_int_dict, isT_bool_none, isT_bool_bool, isT_bool_int, isT_bool_str, isT_bool_list, isT_bool_tuple, isT_bool_dict, isT_str_none, isT_str_bool, isT_str_int, isT_str_str, isT_str_list, isT_str_tuple, isT_str_dict, isT_list_none, isT_list_bool, isT_list_int, isT_list_str, isT_list_list, isT_list_tuple, isT_list_dict, isT_tuple_none, isT_tuple_bool, isT_tuple_int, isT_tuple_str, isT_tuple_list, isT_tuple_tuple, isT_tuple_dict, isT_dict_none, isT_dict_bool, isT_dict_int, isT_dict_str, isT_dict_list, isT_dict_tuple, isT_dict_dict, at_0, at_1, mapM_s, List.map_cons, List.map_nil, List.any_cons, List.any_nil, id_eq, Bool.or_false, Bool.not_true, Bool.not_false, ↓reduceIte, turn_nx, turn_ct, turn_bk, turn_rt, turn_ex, ty_m, Int.zero_add, d_nil, d_eq, rng_1, rng_2, b_int, b_intb, b_bool, b_boolb, b_lent, b_lenl, b_lenm, b_tupt, b_tupl, b_tupm, b_str, b_repr', b_abs, b_sum, b_all, b_any, b_max, b_min, ix_t, ix_l, ix_m, sl_t, sl_l, sl_m, ty_d, it_t, it_l, pd_d, c_eqb, c_neb, c_isN, c_isnN, isx_eq, xval_eq, true_and, and_true, List.append_nil, wipeS, tgSlots, tgSlotss, c_inT, c_inL, c_ninT, c_ninL, c_ltT, c_leT, c_gtT, c_geT, it_k, it_k0, ty_k, ty_k0, lo_1, to_1, to_2, beq_self_eq_true, sd_inj, da_nil, da_cons, da_map, Option.map_some, p_put, Nat.reduceAdd, Int.reduceEq, Int.reduceLT, Int.reduceLE, f_lrng, f_comp2, e_indexT, s_parIx, s_any, gt_t, gt_tk, c_noneF, c_eqS, c_neS, eq_self, decide_true, decide_false, pints_len, itm_len, sz_0, sz_1, sz_2, sz_3, sz_4, sz_5, sz_6, sz_7, sz_8, int?_d, ok_of_d, ex_self, Nat.zero_add])
theorem lm_is_inside : ∀ p ∈ lib_is_inside, ∀ vs, Mono (p.2.2 vs) := by
  intro p hp
  simp only [lib_is_inside, List.mem_cons, List.not_mem_nil, or_false] at hp
  subst hp
  exact mo_row_of
theorem mb_is_inside (s : Ss) : MonoS (wSs Γ_is_inside s) := mSs s _ (Lib.mo lm_is_inside)
theorem ck_is_inside : kSs b_is_inside ⟨N_is_inside, defScope s_is_inside, lib_is_inside.fs, kws, cs, hs, true⟩ (defBody s_is_inside) = true := by decide +kernel
theorem bd_is_inside : Bd "is_inside" s_is_inside ["stair", "rows", "columns"] := fun _ _ _ _ _ _ us hl => match us, hl with | [_, _, _], _ => rfl
theorem kb_is_inside : ∀ q ∈ kws, q.1 = "is_inside" → BdK "is_inside" s_is_inside ["stair", "rows", "columns"] q.2.1 q.2.2 := by
  intro q hq
  cases hq
def sp_is_inside : FSpec := fun vs M Q E => match vs with
  | [.d (.tuple xs), .d (.int r), .d (.int c)] => ∃ l : List Int, (xs = pints l) ∧ Q (B (insI l r c)) M
  | _ => False
theorem mo_is_inside : ∀ vs, Mono (sp_is_inside vs) := by
  intro vs M Q Q' X X' hq hx
  unfold sp_is_inside
  (try split) <;> (repeat' first | exact id | exact hq _ _ | exact hx _ _ | refine And.imp ?_ ?_ | refine Exists.imp (fun _ => ?_) | refine forall_imp (fun _ => ?_) | split)
theorem w_is_inside : ∀ (ss : List S) (M : Mem) (Q : S → Mem → Prop) (E : Xc → Mem → Prop), ss.length = 3 → sp_is_inside ss M Q E → wSs Γ_is_inside b_is_inside (startS N_is_inside ss) M (exits M Q E) := by
  intro ss M Q E hl h
  unfold sp_is_inside at h
  split at h
  case h_2 => exact h.elim
  rename_i xs r c
  obtain ⟨l, rfl, h⟩ := h
  walk_at "is_inside"
  have e : ∀ b, insI l r c = b → ∃ r M2, Ex M M (S.d (PyData.bool b)) r M2 ∧ Q r M2 := fun b e => by
    rw [e] at h
    exact ret_here h
  refine iteI (fun d => ⟨l, 0, ⟨rfl, rfl⟩, e _ (by simp [insI, d])⟩) (fun d => e _ (by simp [insI, d]))

theorem k_is_inside {xs : List PD} {r : Int} {c : Int} {M : Mem} {Q : S → Mem → Prop} {E : Xc → Mem → Prop} : sp_is_inside [.d (.tuple xs), .d (.int r), .d (.int c)] M Q E = (∃ l : List Int, (xs = pints l) ∧ Q (B (insI l r c)) M) := rfl
/-! fits -/
abbrev s_fits : Stmt := topS 17
def N_fits : List Str := ["stair", "rows", "columns"]
theorem sc_fits : FnScope N_fits ["stair", "rows", "columns"] (defScope s_fits) := ⟨rfl, rfl, rfl, by decide +kernel, rfl, by decide +kernel, by decide +kernel⟩
def b_fits : Ss := .cons (.expr (.call "need_stair" (.cons (.var 0) .nil))) (.cons (.expr (.call "_need_box" (.cons (.var 1) (.cons (.var 2) .nil)))) (.cons (.ret (.call "is_inside" (.cons (.var 0) (.cons (.var 1) (.cons (.var 2) .nil))))) .nil))
theorem ub_fits : b_fits = .cons (.expr (.call "need_stair" (.cons (.var 0) .nil))) (.cons (.expr (.call "_need_box" (.cons (.var 1) (.cons (.var 2) .nil)))) (.cons (.ret (.call "is_inside" (.cons (.var 0) (.cons (.var 1) (.cons (.var 2) .nil))))) .nil)) := rfl
theorem st_fits {x0 x1 x2 : S} : startS N_fits [x0, x1, x2] = [some x0, some x1, some x2] := rfl
def lib_fits : Lib := [("need_stair", ["value"], sp_need_stair), ("_need_box", ["rows", "columns"], sp_need_box), ("is_inside", ["stair", "rows", "columns"], sp_is_inside)]
abbrev Γ_fits : G.Env := lib_fits.env (MroF tab)
theorem Φ_fits_need_stair : Γ_fits.Φ "need_stair" = some sp_need_stair := by rfl
theorem φ_fits_need_stair {P : FSpec → Prop} : (∃ φ, Γ_fits.Φ "need_stair" = some φ ∧ P φ) = P sp_need_stair := by rw [Φ_fits_need_stair]; exact ex_self
theorem Φ_fits_need_box : Γ_fits.Φ "_need_box" = some sp_need_box := by rfl
theorem φ_fits_need_box {P : FSpec → Prop} : (∃ φ, Γ_fits.Φ "_need_box" = some φ ∧ P φ) = P sp_need_box := by rw [Φ_fits_need_box]; exact ex_self
theorem Φ_fits_is_inside : Γ_fits.Φ "is_inside" = some sp_is_inside := by rfl
theorem φ_fits_is_inside {P : FSpec → Prop} : (∃ φ, Γ_fits.Φ "is_inside" = some φ ∧ P φ) = P sp_is_inside := by rw [Φ_fits_is_inside]; exact ex_self
local macro_rules | `(tactic| walk_at "fits") => `(tactic| simp (maxSteps := 1000000) only [ub_fits, st_fits, exits, Φ_fits_need_stair, Φ_fits_need_box, Φ_fits_is_inside, ↓φ_fits_need_stair, ↓φ_fits_need_box, ↓φ_fits_is_inside, ↓k_need_stair, ↓k_need_box, ↓k_is_inside, ↓e_dnew', ↓e_ddisp', ↓dx_i, ↓dx_s, ↓dp_i, ↓dp_s, ↓yl_k, ↓yl_0, ↓yl_S, ↓yl_z, ↓c_isIN, ↓c_isBN, ↓c_isSN, ↓c_isTN, ↓c_isLN, ↓c_isRN, ↓c_isnIN, ↓c_isnBN, ↓c_isnSN, ↓c_isnTN, ↓c_isnLN, ↓c_isnRN, ↓c_eqSS, ↓c_neSS, ↓ex_pq, ↓c_eqT, ↓c_neT, ↓rng_3, ↓e_mtup', ↓ex_l, ↓xp_k, ↓xp_0, ↓xp_S, ↓xp_z, ↓s_unp, ↓rv_t, ↓rv_l, ↓rv_m, ↓po_m, ↓e_rev, ↓c_isbb, ↓c_isnbb, ↓f_lrng, ↓f_comp2, ↓s_parIx, ↓xv_0, ↓xv_S, ↓da_snoc, ↓da_app, ↓e_cst, ↓e_neg, ↓e_not, ↓e_and, ↓e_or, ↓e_ite, ↓e_bin, ↓e_cmp, ↓e_chain, ↓e_tup, ↓e_fr, ↓e_ix, ↓e_dix, ↓t_dix, ↓s_dput, ↓e_sl, ↓e_rev, ↓e_call, ↓e_callK, ↓e_b1, ↓e_b2, ↓e_isX, ↓e_xval, ↓e_get, ↓e_pop, ↓e_popAt, ↓e_index, ↓t_not, ↓t_and, ↓t_or, ↓a_nil, ↓a_cons, ↓o_none, ↓o_some, ↓c_none, ↓c_some, ↓f_disp, ↓f_comp, ↓f_comp2, ↓f_listOf, ↓i_of, ↓i_rng, ↓i_zip, ↓i_rev, ↓i_keys, i_keys, ↓t_var, ↓t_cst, ↓t_neg, ↓t_ite, ↓t_bin, ↓t_cmp, ↓t_chain, ↓t_tup, ↓t_fr, ↓t_al, ↓t_ddisp, ↓t_ix, ↓t_sl, ↓t_rev, ↓t_call, ↓t_callK, ↓t_b1, ↓t_b2, ↓t_isI, ↓t_isX, ↓t_xval, ↓t_get, ↓t_pop, ↓t_popAt, ↓t_index, ↓s_asg, ↓s_setIx, ↓s_augIx, ↓s_expr, ↓s_ret, ↓s_retN, ↓s_cond, ↓s_loop, ↓s_whl, ↓s_raise, ↓s_tryX, ↓s_pass, ↓s_brk, ↓s_cont, ↓b_nil, ↓b_cons, ↓h_nil, ↓r_add, ↓r_sub, ↓r_mul, ↓r_div, ↓r_mod, ↓r_pow, ↓r_shl, ↓r_cat, ↓r_cats, ↓r_rep, ↓r_lt, ↓r_le, ↓r_gt, ↓r_ge, ↓r_eqI, ↓r_neI, ↓r_augA, ↓r_augS, ↓r_augM, ↓tg_tpt, ↓tg_tpl, ↓tg_tpm, ↓tgs_nil, ↓tgs_cons, ↓turn_nx, ↓turn_ct, ↓turn_bk, ↓turn_rt, ↓turn_ex, ↓d_nil, ↓d_eq, ↓rng_1, ↓rng_2, ↓b_int, ↓b_intb, ↓b_bool, ↓b_boolb, ↓b_lent, ↓b_lenl, ↓b_tupt, ↓b_tupl, ↓b_str, ↓b_repr', ↓xp_d, ↓b_abs, ↓b_sum, ↓b_all, ↓b_any, ↓b_max, ↓b_min, ↓ix_t, ↓ix_l, ↓sl_t, ↓sl_l, ↓c_eqb, ↓c_neb, ↓c_isN, ↓c_isnN, ↓isx_eq, ↓xval_eq, ↓c_inT, ↓c_inL, ↓c_ninT, ↓c_ninL, ↓c_ltT, ↓c_leT, ↓c_gtT, ↓c_geT, ↓c_eqS, ↓c_neS, ↓b_lenm, ↓v_0, ↓v_S, ↓n_0, ↓n_S, ↓un_0, ↓un_S, ↓s_aug', ↓s_par', ↓h_cons', ↓xl_k, ↓xl_0, ↓xl_S, ↓xl_z, ↓mm_t, ↓mm_tk, ↓to_t, ↓md_k, ↓md_0, ↓mm_0, ↓mm_S, ↓nw_1, ↓nw_2, ↓nw_3, ↓nw_4, ↓nw_5, ↓e_al', ↓ix_m', ↓b_tupm', ↓sl_m', ↓ex_map, ↓ap_l, ↓s_app', ↓xt_l, ↓s_ext', ↓in_l, ↓s_ins', ↓p_put', ↓wt_d, ↓wt_k, ↓wt_k0, ↓to_S, ↓to_z, ↓e_isI1, ↓e_isI2, ↓ex_tb, ↓ex_ti, ↓ex_tn, ↓ex_tt, ↓ex_tl, ↓ex_i, ↓ex_B, ↓xd_nil, ↓xd_cons, ↓xd_map, ↓xi_t, ↓xi_l, ↓xi_m, ↓f_cat', ↓f_rep', ↓f_slice', nw_0, e_var, e_cst, e_neg, e_not, e_and, e_or, e_ite, e_bin, e_cmp, e_chain, e_tup, e_fr, e_al, e_ix, e_sl, e_rev, e_call, e_callK, e_b1, e_b2, e_isI, e_isX, e_xval, e_get, e_pop, e_popAt, e_index, t_not, t_and, t_or, a_nil, a_cons, o_none, o_some, c_none, c_some, f_disp, f_comp, f_comp2, f_listOf, f_cat, f_rep, f_slice, i_of, i_rng, i_enum, i_zip, i_rev, t_var, t_cst, t_neg, t_ite, t_bin, t_cmp, t_chain, t_tup, t_fr, t_al, t_ddisp, t_ix, t_sl, t_rev, t_call, t_callK, t_b1, t_b2, t_isI, t_isX, t_xval, t_get, t_pop, t_popAt, t_index, s_asg, s_setIx, e_dnew, e_dix, s_dput, t_dnew, t_dix, s_par, s_aug, s_augIx, s_expr, s_app, s_ext, s_ins, s_ret, s_retN, s_cond, s_loop, s_whl, s_raise, s_tryX, s_pass, s_brk, s_cont, b_nil, b_cons, h_nil, h_cons, r_add, r_sub, r_mul, r_div, r_mod, r_pow, r_shl, r_cat, r_cats, r_rep, r_lt, r_le, r_gt, r_ge, r_eqI, r_neI, tr_bool, tr_int, tr_none, tr_tuple, tr_list, r_augA, r_augS, r_augM, m_get, m_get0, m_set, m_set0, ex_v, ex_k, ex_lst, tg_nm, tg_tpt, tg_tpl, tg_tpm, tgs_nil, tgs_cons, tgAt_eq, List.getElem?_cons_succ, List.getElem?_cons_zero, List.set_cons_succ, List.set_cons_zero, List.length_append, List.length_cons, List.length_nil, List.append_assoc, List.cons_append, List.nil_append, decide_eq_true_eq, I, B, N0, S.l.injEq, S.d.injEq, Option.some.injEq, MO.lst.injEq, exists_eq_left', exists_and_left, mapM_d, Bool.false_eq_true, isT_int_none, isT_int_bool, isT_int_int, isT_int_str, isT_int_list, isT_int_tuple, isT_int_dict, isT_bool_none, isT_bool_bool, isT_bool_int, isT_bool_str, isT_bool_list, isT_bool_tuple, isT_bool_dict, isT_str_none, isT_str_bool, isT_str_int, isT_str_str, isT_str_list, isT_str_tuple, isT_str_dict, isT_list_none, isT_list_bool, isT_list_int, isT_list_str, isT_list_list, isT_list_tuple, isT_list_dict, isT_tuple_none, isT_tuple_bool, isT_tuple_int, isT_tuple_str, isT_tuple_list, isT_tuple_tuple, isT_tuple_dict, isT_dict_none, isT_dict_bool, isT_dict_int, isT_dict_str, isT_dict_list, isT_dict_tuple, isT_dict_dict, at_0, at_1, mapM_s, List.map_cons, List.map_nil, List.any_cons, List.any_nil, id_eq, Bool.or_false, Bool.not_true, Bool.not_false, ↓reduceIte, turn_nx, turn_ct, turn_bk, turn_rt, turn_ex, ty_m, Int.zero_add, d_nil, d_eq, rng_1, rng_2, b_int, b_intb, b_bool, b_boolb, b_lent, b_lenl, b_lenm, b_tupt, b_tupl, b_tupm, b_str, b_repr', b_abs, b_sum, b_all, b_any, b_max, b_min, ix_t, ix_l, ix_m, sl_t, sl_l, sl_m, ty_d, it_t, it_l, pd_d, c_eqb, c_neb, c_isN, c_isnN, isx_eq, xval_eq, true_and, and_true, List.append_nil, wipeS, tgSlots, tgSlotss, c_inT, c_inL, c_ninT, c_ninL, c_ltT, c_leT, c_gtT, c_geT, it_k, it_k0, ty_k, ty_k0, lo_1, to_1, to_2, beq_self_eq_true, sd_inj, da_nil, da_cons, da_map, Option.map_some, p_put, Nat.reduceAdd, Int.reduceEq, Int.reduceLT, Int.reduceLE, f_lrng, f_comp2, e_indexT, s_parIx, s_any, gt_t, gt_tk, c_noneF, c_eqS, c_neS, eq_self, decide_true, decide_false, pints_len, itm_len, sz_0, sz_1, sz_2, sz_3, sz_4, sz_5, sz_6, sz_7, sz_8, int?_d, ok_of_d, ex_self, Nat.zero_add])
theorem lm_fits : ∀ p ∈ lib_fits, ∀ vs, Mono (p.2.2 vs) := by
  intro p hp
  simp only [lib_fits, List.mem_cons, List.not_mem_nil, or_false] at hp
  rcases hp with rfl | rfl | rfl
  · exact mo_need_stair
  · exact mo_need_box
  · exact mo_is_inside
theorem mb_fits (s : Ss) : MonoS (wSs Γ_fits s) := mSs s _ (Lib.mo lm_fits)
theorem ck_fits : kSs b_fits ⟨N_fits, defScope s_fits, lib_fits.fs, kws, cs, hs, true⟩ (defBody s_fits) = true := by decide +kernel
theorem bd_fits : Bd "fits" s_fits ["stair", "rows", "columns"] := fun _ _ _ _ _ _ us hl => match us, hl with | [_, _, _], _ => rfl
theorem kb_fits : ∀ q ∈ kws, q.1 = "fits" → BdK "fits" s_fits ["stair", "rows", "columns"] q.2.1 q.2.2 := by
  intro q hq
  cases hq
def sp_fits : FSpec := fun vs M Q E => match vs with
  | [.d v, .d r, .d c] => tupLen v ∧ (if isStairD v = false then E ⟨"InvalidStair", "value", .d v⟩ M else if isNumD r = false then E ⟨"InvalidNumber", "value", .d r⟩ M else if isNumD c = false then E ⟨"InvalidNumber", "value", .d c⟩ M else Q (B (insD v r c)) M)
  | _ => False
theorem mo_fits : ∀ vs, Mono (sp_fits vs) := by
  intro vs M Q Q' X X' hq hx
  unfold sp_fits
  (try split) <;> (repeat' first | exact id | exact hq _ _ | exact hx _ _ | refine And.imp ?_ ?_ | refine Exists.imp (fun _ => ?_) | refine forall_imp (fun _ => ?_) | split)
theorem w_fits : ∀ (ss : List S) (M : Mem) (Q : S → Mem → Prop) (E : Xc → Mem → Prop), ss.length = 3 → sp_fits ss M Q E → wSs Γ_fits b_fits (startS N_fits ss) M (exits M Q E) := by
  intro ss M Q E hl h
  unfold sp_fits at h
  split at h
  case h_2 => exact h.elim
  rename_i v r c
  obtain ⟨ht, h⟩ := h
  walk_at "fits"
  refine ⟨ht, ?_⟩
  cases c0 : isStairD v with
  | false =>
    rw [if_pos c0] at h
    exact (if_neg (by decide)).mpr ⟨_, _, .inl ⟨rfl, rfl⟩, h⟩
  | true =>
  rw [if_neg (by rw [c0]; decide)] at h
  refine (if_pos rfl).mpr ?_
  obtain ⟨l, rfl, st⟩ := isStair_some c0
  cases c1 : isNumD r with
  | false =>
    rw [if_pos c1] at h
    exact (if_pos rfl).mpr ⟨_, _, .inl ⟨rfl, rfl⟩, h⟩
  | true =>
  rw [if_neg (by rw [c1]; decide)] at h
  refine (if_neg (by decide)).mpr ?_
  cases c2 : isNumD c with
  | false =>
    rw [if_pos c2] at h
    exact (if_pos rfl).mpr ⟨_, _, .inl ⟨rfl, rfl⟩, h⟩
  | true =>
  rw [if_neg (by rw [c2]; decide)] at h
  refine (if_neg (by decide)).mpr ?_
  obtain ⟨R, rfl⟩ := num_some c1
  obtain ⟨C, rfl⟩ := num_some c2
  have ei : insD (.tuple (pints l)) (.int R) (.int C) = insI l R C := by simp only [insD, intsOf_pints]
  rw [ei] at h
  rw [k_is_inside]
  exact ⟨l, rfl, ret_here h⟩

theorem k_fits {v : PD} {r : PD} {c : PD} {M : Mem} {Q : S → Mem → Prop} {E : Xc → Mem → Prop} : sp_fits [.d v, .d r, .d c] M Q E = (tupLen v ∧ (if isStairD v = false then E ⟨"InvalidStair", "value", .d v⟩ M else if isNumD r = false then E ⟨"InvalidNumber", "value", .d r⟩ M else if isNumD c = false then E ⟨"InvalidNumber", "value", .d c⟩ M else Q (B (insD v r c)) M)) := rfl
/-! _law_rest -/
abbrev s_law_rest : Stmt := topS 26
def N_law_rest : List Str := ["stair", "rows", "columns", "taken", "told", "i", "at", "row", "j"]
theorem sc_law_rest : FnScope N_law_rest ["stair", "rows", "columns"] (defScope s_law_rest) := ⟨rfl, rfl, rfl, by decide +kernel, rfl, by decide +kernel, by decide +kernel⟩
def b_law_rest_1 : Ss := .cons (.asg (.nm 6) (.bin .Sub (.bin .Sub (.var 1) (.cst (.int 1))) (.var 5))) (.cons (.app (.var 4) (.b1 .len (.fr (.comp (.var 8) (.nm 8) (.rng (.cons (.var 2) .nil)) (.some (.cmp .NotIn (.tup (.cons (.var 6) (.cons (.bin .Sub (.bin .Sub (.var 2) (.cst (.int 1))) (.var 8)) .nil))) (.var 3))))))) .nil)
def b_law_rest : Ss := .cons (.asg (.nm 3) (.call "_law_boxes" (.cons (.var 0) .nil))) (.cons (.asg (.nm 4) (.al (.disp (.nil)))) (.cons (.loop (.nm 5) (.rng (.cons (.var 1) .nil)) b_law_rest_1) (.cons (.ret (.b1 .tuple (.fr (.comp (.var 7) (.nm 7) (.of (.var 4)) (.some (.cmp .Gt (.var 7) (.cst (.int 0)))))))) .nil)))
theorem ub_law_rest_1 : b_law_rest_1 = .cons (.asg (.nm 6) (.bin .Sub (.bin .Sub (.var 1) (.cst (.int 1))) (.var 5))) (.cons (.app (.var 4) (.b1 .len (.fr (.comp (.var 8) (.nm 8) (.rng (.cons (.var 2) .nil)) (.some (.cmp .NotIn (.tup (.cons (.var 6) (.cons (.bin .Sub (.bin .Sub (.var 2) (.cst (.int 1))) (.var 8)) .nil))) (.var 3))))))) .nil) := rfl
theorem ub_law_rest : b_law_rest = .cons (.asg (.nm 3) (.call "_law_boxes" (.cons (.var 0) .nil))) (.cons (.asg (.nm 4) (.al (.disp (.nil)))) (.cons (.loop (.nm 5) (.rng (.cons (.var 1) .nil)) b_law_rest_1) (.cons (.ret (.b1 .tuple (.fr (.comp (.var 7) (.nm 7) (.of (.var 4)) (.some (.cmp .Gt (.var 7) (.cst (.int 0)))))))) .nil))) := rfl
theorem st_law_rest {x0 x1 x2 : S} : startS N_law_rest [x0, x1, x2] = [some x0, some x1, some x2, none, none, none, none, none, none] := rfl
def lib_law_rest : Lib := [("_law_boxes", ["stair"], sp_law_boxes)]
abbrev Γ_law_rest : G.Env := lib_law_rest.env (MroF tab)
theorem Φ_law_rest_law_boxes : Γ_law_rest.Φ "_law_boxes" = some sp_law_boxes := by rfl
theorem φ_law_rest_law_boxes {P : FSpec → Prop} : (∃ φ, Γ_law_rest.Φ "_law_boxes" = some φ ∧ P φ) = P sp_law_boxes := by rw [Φ_law_rest_law_boxes]; exact ex_self
local macro_rules | `(tactic| walk_at "law_rest") => `(tactic| simp (maxSteps := 1000000) only [ub_law_rest, st_law_rest, exits, Φ_law_rest_law_boxes, ↓φ_law_rest_law_boxes, ↓k_law_boxes, ↓e_dnew', ↓e_ddisp', ↓dx_i, ↓dx_s, ↓dp_i, ↓dp_s, ↓yl_k, ↓yl_0, ↓yl_S, ↓yl_z, ↓c_isIN, ↓c_isBN, ↓c_isSN, ↓c_isTN, ↓c_isLN, ↓c_isRN, ↓c_isnIN, ↓c_isnBN, ↓c_isnSN, ↓c_isnTN, ↓c_isnLN, ↓c_isnRN, ↓c_eqSS, ↓c_neSS, ↓ex_pq, ↓c_eqT, ↓c_neT, ↓rng_3, ↓e_mtup', ↓ex_l, ↓xp_k, ↓xp_0, ↓xp_S, ↓xp_z, ↓s_unp, ↓rv_t, ↓rv_l, ↓rv_m, ↓po_m, ↓e_rev, ↓c_isbb, ↓c_isnbb, ↓f_lrng, ↓f_comp2, ↓s_parIx, ↓xv_0, ↓xv_S, ↓da_snoc, ↓da_app, ↓e_cst, ↓e_neg, ↓e_not, ↓e_and, ↓e_or, ↓e_ite, ↓e_bin, ↓e_cmp, ↓e_chain, ↓e_tup, ↓e_fr, ↓e_ix, ↓e_dix, ↓t_dix, ↓s_dput, ↓e_sl, ↓e_rev, ↓e_call, ↓e_callK, ↓e_b1, ↓e_b2, ↓e_isX, ↓e_xval, ↓e_get, ↓e_pop, ↓e_popAt, ↓e_index, ↓t_not, ↓t_and, ↓t_or, ↓a_nil, ↓a_cons, ↓o_none, ↓o_some, ↓c_none, ↓c_some, ↓f_disp, ↓f_comp, ↓f_comp2, ↓f_listOf, ↓i_of, ↓i_rng, ↓i_zip, ↓i_rev, ↓i_keys, i_keys, ↓t_var, ↓t_cst, ↓t_neg, ↓t_ite, ↓t_bin, ↓t_cmp, ↓t_chain, ↓t_tup, ↓t_fr, ↓t_al, ↓t_ddisp, ↓t_ix, ↓t_sl, ↓t_rev, ↓t_call, ↓t_callK, ↓t_b1, ↓t_b2, ↓t_isI, ↓t_isX, ↓t_xval, ↓t_get, ↓t_pop, ↓t_popAt, ↓t_index, ↓s_asg, ↓s_setIx, ↓s_augIx, ↓s_expr, ↓s_ret, ↓s_retN, ↓s_cond, ↓s_loop, ↓s_whl, ↓s_raise, ↓s_tryX, ↓s_pass, ↓s_brk, ↓s_cont, ↓b_nil, ↓b_cons, ↓h_nil, ↓r_add, ↓r_sub, ↓r_mul, ↓r_div, ↓r_mod, ↓r_pow, ↓r_shl, ↓r_cat, ↓r_cats, ↓r_rep, ↓r_lt, ↓r_le, ↓r_gt, ↓r_ge, ↓r_eqI, ↓r_neI, ↓r_augA, ↓r_augS, ↓r_augM, ↓tg_tpt, ↓tg_tpl, ↓tg_tpm, ↓tgs_nil, ↓tgs_cons, ↓turn_nx, ↓turn_ct, ↓turn_bk, ↓turn_rt, ↓turn_ex, ↓d_nil, ↓d_eq, ↓rng_1, ↓rng_2, ↓b_int, ↓b_intb, ↓b_bool, ↓b_boolb, ↓b_lent, ↓b_lenl, ↓b_tupt, ↓b_tupl, ↓b_str, ↓b_repr', ↓xp_d, ↓b_abs, ↓b_sum, ↓b_all, ↓b_any, ↓b_max, ↓b_min, ↓ix_t, ↓ix_l, ↓sl_t, ↓sl_l, ↓c_eqb, ↓c_neb, ↓c_isN, ↓c_isnN, ↓isx_eq, ↓xval_eq, ↓c_inT, ↓c_inL, ↓c_ninT, ↓c_ninL, ↓c_ltT, ↓c_leT, ↓c_gtT, ↓c_geT, ↓c_eqS, ↓c_neS, ↓b_lenm, ↓v_0, ↓v_S, ↓n_0, ↓n_S, ↓un_0, ↓un_S, ↓s_aug', ↓s_par', ↓h_cons', ↓xl_k, ↓xl_0, ↓xl_S, ↓xl_z, ↓mm_t, ↓mm_tk, ↓to_t, ↓md_k, ↓md_0, ↓mm_0, ↓mm_S, ↓nw_1, ↓nw_2, ↓nw_3, ↓nw_4, ↓nw_5, ↓e_al', ↓ix_m', ↓b_tupm', ↓sl_m', ↓ex_map, ↓ap_l, ↓s_app', ↓xt_l, ↓s_ext', ↓in_l, ↓s_ins', ↓p_put', ↓wt_d, ↓wt_k, ↓wt_k0, ↓to_S, ↓to_z, ↓e_isI1, ↓e_isI2, ↓ex_tb, ↓ex_ti, ↓ex_tn, ↓ex_tt, ↓ex_tl, ↓ex_i, ↓ex_B, ↓xd_nil, ↓xd_cons, ↓xd_map, ↓xi_t, ↓xi_l, ↓xi_m, ↓f_cat', ↓f_rep', ↓f_slice', nw_0, e_var, e_cst, e_neg, e_not, e_and, e_or, e_ite, e_bin, e_cmp, e_chain, e_tup, e_fr, e_al, e_ix, e_sl, e_rev, e_call, e_callK, e_b1, e_b2, e_isI, e_isX, e_xval, e_get, e_pop, e_popAt, e_index, t_not, t_and, t_or, a_nil, a_cons, o_none, o_some, c_none, c_some, f_disp, f_comp, f_comp2, f_listOf, f_cat, f_rep, f_slice, i_of, i_rng, i_enum, i_zip, i_rev, t_var, t_cst, t_neg, t_ite, t_bin, t_cmp, t_chain, t_tup, t_fr, t_al, t_ddisp, t_ix, t_sl, t_rev, t_call, t_callK, t_b1, t_b2, t_isI, t_isX, t_xval, t_get, t_pop, t_popAt, t_index, s_asg, s_setIx, e_dnew, e_dix, s_dput, t_dnew, t_dix, s_par, s_aug, s_augIx, s_expr, s_app, s_ext, s_ins, s_ret, s_retN, s_cond, s_loop, s_whl, s_raise, s_tryX, s_pass, s_brk, s_cont, b_nil, b_cons, h_nil, h_cons, r_add, r_sub, r_mul, r_div, r_mod, r_pow, r_shl, r_cat, r_cats, r_rep, r_lt, r_le, r_gt, r_ge, r_eqI, r_neI, tr_bool, tr_int, tr_none, tr_tuple, tr_list, r_augA, r_augS, r_augM, m_get, m_get0, m_set, m_set0, ex_v, ex_k, ex_lst, tg_nm, tg_tpt, tg_tpl, tg_tpm, tgs_nil, tgs_cons, tgAt_eq, List.getElem?_cons_succ, List.getElem?_cons_zero, List.set_cons_succ, List.set_cons_zero, List.length_append, List.length_cons, List.length_nil, List.append_assoc, List.cons_append, List.nil_append, decide_eq_true_eq, I, B, N0, S.l.injEq, S.d.injEq, Option.some.injEq, MO.lst.injEq, exists_eq_left', exists_and_left, mapM_d, Bool.false_eq_true, isT_int_none, isT_int_bool, isT_int_int, isT_int_str, isT_int_list, isT_int_tuple, isT_int_dict, isT_bool_none, isT_bool_bool, isT_bool_int, isT_bool_str, isT_bool_list, isT_bool_tuple, isT_bool_dict, isT_str_none, isT_str_bool, isT_str_int, isT_str_str, isT_str_list, isT_str_tuple, isT_str_dict, isT_list_none, isT_list_bool, isT_list_int, isT_list_str, isT_list_list, isT_list_tuple, isT_list_dict, isT_tuple_none, isT_tuple_bool, isT_tuple_int, isT_tuple_str, isT_tuple_list, isT_tuple_tuple, isT_tuple_dict, isT_dict_none, isT_dict_bool, isT_dict_int, isT_dict_str, isT_dict_list, isT_dict_tuple, isT_dict_dict, at_0, at_1, mapM_s, List.map_cons, List.map_nil, List.any_cons, List.any_nil, id_eq, Bool.or_false, Bool.not_true, Bool.not_false, ↓reduceIte, turn_nx, turn_ct, turn_bk, turn_rt, turn_ex, ty_m, Int.zero_add, d_nil, d_eq, rng_1, rng_2, b_int, b_intb, b_bool, b_boolb, b_lent, b_lenl, b_lenm, b_tupt, b_tupl, b_tupm, b_str, b_repr', b_abs, b_sum, b_all, b_any, b_max, b_min, ix_t, ix_l, ix_m, sl_t, sl_l, sl_m, ty_d, it_t, it_l, pd_d, c_eqb, c_neb, c_isN, c_isnN, isx_eq, xval_eq, true_and, and_true, List.append_nil, wipeS, tgSlots, tgSlotss, c_inT, c_inL, c_ninT, c_ninL, c_ltT, c_leT, c_gtT, c_geT, it_k, it_k0, ty_k, ty_k0, lo_1, to_1, to_2, beq_self_eq_true, sd_inj, da_nil, da_cons, da_map, Option.map_some, p_put, Nat.reduceAdd, Int.reduceEq, Int.reduceLT, Int.reduceLE, f_lrng, f_comp2, e_indexT, s_parIx, s_any, gt_t, gt_tk, c_noneF, c_eqS, c_neS, eq_self, decide_true, decide_false, pints_len, itm_len, sz_0, sz_1, sz_2, sz_3, sz_4, sz_5, sz_6, sz_7, sz_8, int?_d, ok_of_d, ex_self, Nat.zero_add])
theorem lm_law_rest : ∀ p ∈ lib_law_rest, ∀ vs, Mono (p.2.2 vs) := by
  intro p hp
  simp only [lib_law_rest, List.mem_cons, List.not_mem_nil, or_false] at hp
  subst hp
  exact mo_law_boxes
theorem mb_law_rest (s : Ss) : MonoS (wSs Γ_law_rest s) := mSs s _ (Lib.mo lm_law_rest)
theorem ck_law_rest : kSs b_law_rest ⟨N_law_rest, defScope s_law_rest, lib_law_rest.fs, kws, cs, hs, true⟩ (defBody s_law_rest) = true := by decide +kernel
theorem bd_law_rest : Bd "_law_rest" s_law_rest ["stair", "rows", "columns"] := fun _ _ _ _ _ _ us hl => match us, hl with | [_, _, _], _ => rfl
theorem kb_law_rest : ∀ q ∈ kws, q.1 = "_law_rest" → BdK "_law_rest" s_law_rest ["stair", "rows", "columns"] q.2.1 q.2.2 := by
  intro q hq
  cases hq
theorem boxes_plain : ∀ L : List (Nat × Nat), PyData.plainAll (L.map fun p => PyData.tuple [.int p.1, .int p.2]) = true ∧ PyData.depthAll (L.map fun p => PyData.tuple [.int p.1, .int p.2]) ≤ 1
  | [] => ⟨rfl, Nat.zero_le _⟩
  | p :: L => by
    have := boxes_plain L
    simp only [List.map_cons, PyData.plainAll, PyData.depthAll, PyData.plain, PyData.depth] at *
    simp [this]
theorem boxes_okd {l : List Int} {n : Nat} : okD (.list (boxesD l n)) = true := by
  obtain ⟨h1, h2⟩ := boxes_plain (boxesUp l n)
  unfold boxesD
  generalize ((boxesUp l n).map fun p => PyData.tuple [.int p.1, .int p.2]) = X at *
  simp [okD, PyData.plain, PyData.depth, h1]
  omega
theorem boxes_any {l : List Int} {n a b : Nat} : ((boxesD l n).any fun z => PyData.eqv z (.tuple [.int a, .int b])) = decide ((a, b) ∈ boxesUp l n) := by
  unfold boxesD
  rw [List.any_map, Bool.eq_iff_iff, List.any_eq_true, decide_eq_true_eq]
  constructor
  · rintro ⟨⟨x, y⟩, hp, e⟩
    simp [PyData.eqv, PyData.eqvAll] at e
    obtain ⟨e1, e2⟩ := e
    have e1 : x = a := by omega
    have e2 : y = b := by omega
    rw [← e1, ← e2]
    exact hp
  · exact fun h => ⟨_, h, by simp [PyData.eqv, PyData.eqvAll]⟩
def sp_law_rest : FSpec := fun vs M Q E => match vs with
  | [.d (.tuple xs), .d (.int r), .d (.int c)] => ∃ (l : List Int) (R C : Nat), (xs = pints l ∧ r = R ∧ c = C ∧ Ins l R C ∧ R ≤ 10 ∧ C ≤ 10) ∧ Q (.d (.tuple (pints (restL l R C)))) M
  | _ => False
theorem mo_law_rest : ∀ vs, Mono (sp_law_rest vs) := by
  intro vs M Q Q' X X' hq hx
  unfold sp_law_rest
  (try split) <;> (repeat' first | exact id | exact hq _ _ | exact hx _ _ | refine And.imp ?_ ?_ | refine Exists.imp (fun _ => ?_) | refine forall_imp (fun _ => ?_) | split)
theorem w_law_rest : ∀ (ss : List S) (M : Mem) (Q : S → Mem → Prop) (E : Xc → Mem → Prop), ss.length = 3 → sp_law_rest ss M Q E → wSs Γ_law_rest b_law_rest (startS N_law_rest ss) M (exits M Q E) := by
  intro ss M Q E hl h
  unfold sp_law_rest at h
  split at h
  case h_2 => exact h.elim
  rename_i xs r c
  obtain ⟨l, R, C, ⟨rfl, rfl, rfl, ins, hR, hC⟩, h⟩ := h
  have sl := slS
  walk_at "law_rest"
  have b30 : ∀ i, rowZ l i ≤ 30 := fun i => by
    have := ins.st.mono (Nat.zero_le i)
    have := ins.le
    omega
  refine ⟨l, ⟨rfl, ins.st.pos, by have := ins.len; omega, b30⟩, by unfold rngOk; omega, ?_⟩
  refine for_rng R (by omega) (mb_law_rest _) (fun i ρ M' => ∃ (s5 s6 s7 s8 : Option S), ρ = [some (.d (.tuple (pints l))), some (I R), some (I C), some (.d (.list (boxesD l l.length))), some (.l M.length), s5, s6, s7, s8] ∧ M' = M ++ [.lst ((pints ((restRow l R C).take i)).map .d)]) ⟨_, _, _, _, rfl, rfl⟩ ?_ ?_
  · rintro ρ M' ⟨s5, s6, s7, s8, rfl, rfl⟩
    walk_at "law_rest"
    have lr : (restRow l (R : Int) C).length = R := by simp [restRow]
    rw [List.take_of_length_le (by omega)]
    refine ⟨by omega, ?_⟩
    refine lc_int (p := fun z => decide (0 < z)) (f := fun z => I z) (by simp [okOf]) (fun z hz Q q => ?_) (fun z hz hp Q q => ?_) ?_
    · walk_at "law_rest"
      simpa using q
    · walk_at "law_rest"
      exact q
    · have e1 : ∀ L : List Int, (L.map fun z => I z) = (pints L).map S.d := fun L => by simp [pints, Function.comp_def]
      rw [e1, filter_restRow ins]
      exact ⟨_, dataAll_map _, _, _, Ex.drop trivial, h⟩
  · rintro i ρ M' hi ⟨s5, s6, s7, s8, rfl, rfl⟩
    simp only [ub_law_rest_1]
    walk_at "law_rest"
    refine ⟨by unfold rngOk; omega, by simp [rngItems]; omega, ?_⟩
    refine lcf_rng (p := fun j => !decide ((R - 1 - i, C - 1 - j) ∈ boxesUp l l.length)) (f := fun j => I (j : Nat)) C (by omega) trivial (fun j hj Q q => ?_) (fun j hj hp Q q => ?_) ?_
    · walk_at "law_rest"
      have e1 : (R : Int) - 1 - i = (R - 1 - i : Nat) := by omega
      have e2 : (C : Int) - 1 - j = (C - 1 - j : Nat) := by omega
      rw [e1, e2]
      refine ⟨⟨okd_pair, boxes_okd⟩, ?_⟩
      rw [boxes_any]
      exact q
    · walk_at "law_rest"
      exact q
    · have e1 : ∀ L : List Nat, (L.map fun j => I (j : Nat)) = (pints (natI L)).map S.d := fun L => natI_map
      rw [e1]
      have lr : (restRow l (R : Int) C).length = R := by simp [restRow]
      refine ⟨_, dataAll_map _, ?_⟩
      rw [natI_len, cnt_rest ins]
      walk_at "law_rest"
      have le1 := ins.st.mono (Nat.zero_le (R - 1 - i))
      have le2 := ins.le
      refine ⟨by simp [pints]; omega, _, _, _, _, rfl, ?_⟩
      have hz : (restRow l (R : Int) C)[i]? = some (C - rowZ l (R - 1 - i)) := by simp [restRow, hi]
      rw [List.take_succ, hz, Int.toNat_of_nonneg (by omega)]
      simp [pints]

theorem k_law_rest {xs : List PD} {r : Int} {c : Int} {M : Mem} {Q : S → Mem → Prop} {E : Xc → Mem → Prop} : sp_law_rest [.d (.tuple xs), .d (.int r), .d (.int c)] M Q E = (∃ (l : List Int) (R C : Nat), (xs = pints l ∧ r = R ∧ c = C ∧ Ins l R C ∧ R ≤ 10 ∧ C ≤ 10) ∧ Q (.d (.tuple (pints (restL l R C)))) M) := rfl
/-! strip -/
abbrev s_strip : Stmt := topS 4
def N_strip : List Str := ["numbers", "many"]
theorem sc_strip : FnScope N_strip ["numbers"] (defScope s_strip) := ⟨rfl, rfl, rfl, by decide +kernel, rfl, by decide +kernel, by decide +kernel⟩
def b_strip_1 : Ss := .cons (.aug 1 .Sub (.cst (.int 1))) .nil
def b_strip : Ss := .cons (.asg (.nm 1) (.b1 .len (.var 0))) (.cons (.whl (.and (.cmp .Gt (.var 1) (.cst (.int 0))) (.cmp .Eq (.ix (.var 0) (.bin .Sub (.var 1) (.cst (.int 1)))) (.cst (.int 0)))) b_strip_1) (.cons (.ret (.b1 .tuple (.sl (.var 0) .none (.some (.var 1))))) .nil))
theorem ub_strip_1 : b_strip_1 = .cons (.aug 1 .Sub (.cst (.int 1))) .nil := rfl
theorem ub_strip : b_strip = .cons (.asg (.nm 1) (.b1 .len (.var 0))) (.cons (.whl (.and (.cmp .Gt (.var 1) (.cst (.int 0))) (.cmp .Eq (.ix (.var 0) (.bin .Sub (.var 1) (.cst (.int 1)))) (.cst (.int 0)))) b_strip_1) (.cons (.ret (.b1 .tuple (.sl (.var 0) .none (.some (.var 1))))) .nil)) := rfl
theorem st_strip {x0 : S} : startS N_strip [x0] = [some x0, none] := rfl
def lib_strip : Lib := []
abbrev Γ_strip : G.Env := lib_strip.env (MroF tab)
local macro_rules | `(tactic| walk_at "strip") => `(tactic| simp (maxSteps := 1000000) only [ub_strip, st_strip, exits, ↓e_dnew', ↓e_ddisp', ↓dx_i, ↓dx_s, ↓dp_i, ↓dp_s, ↓yl_k, ↓yl_0, ↓yl_S, ↓yl_z, ↓c_isIN, ↓c_isBN, ↓c_isSN, ↓c_isTN, ↓c_isLN, ↓c_isRN, ↓c_isnIN, ↓c_isnBN, ↓c_isnSN, ↓c_isnTN, ↓c_isnLN, ↓c_isnRN, ↓c_eqSS, ↓c_neSS, ↓ex_pq, ↓c_eqT, ↓c_neT, ↓rng_3, ↓e_mtup', ↓ex_l, ↓xp_k, ↓xp_0, ↓xp_S, ↓xp_z, ↓s_unp, ↓rv_t, ↓rv_l, ↓rv_m, ↓po_m, ↓e_rev, ↓c_isbb, ↓c_isnbb, ↓f_lrng, ↓f_comp2, ↓s_parIx, ↓xv_0, ↓xv_S, ↓da_snoc, ↓da_app, ↓e_cst, ↓e_neg, ↓e_not, ↓e_and, ↓e_or, ↓e_ite, ↓e_bin, ↓e_cmp, ↓e_chain, ↓e_tup, ↓e_fr, ↓e_ix, ↓e_dix, ↓t_dix, ↓s_dput, ↓e_sl, ↓e_rev, ↓e_call, ↓e_callK, ↓e_b1, ↓e_b2, ↓e_isX, ↓e_xval, ↓e_get, ↓e_pop, ↓e_popAt, ↓e_index, ↓t_not, ↓t_and, ↓t_or, ↓a_nil, ↓a_cons, ↓o_none, ↓o_some, ↓c_none, ↓c_some, ↓f_disp, ↓f_comp, ↓f_comp2, ↓f_listOf, ↓i_of, ↓i_rng, ↓i_zip, ↓i_rev, ↓i_keys, i_keys, ↓t_var, ↓t_cst, ↓t_neg, ↓t_ite, ↓t_bin, ↓t_cmp, ↓t_chain, ↓t_tup, ↓t_fr, ↓t_al, ↓t_ddisp, ↓t_ix, ↓t_sl, ↓t_rev, ↓t_call, ↓t_callK, ↓t_b1, ↓t_b2, ↓t_isI, ↓t_isX, ↓t_xval, ↓t_get, ↓t_pop, ↓t_popAt, ↓t_index, ↓s_asg, ↓s_setIx, ↓s_augIx, ↓s_expr, ↓s_ret, ↓s_retN, ↓s_cond, ↓s_loop, ↓s_whl, ↓s_raise, ↓s_tryX, ↓s_pass, ↓s_brk, ↓s_cont, ↓b_nil, ↓b_cons, ↓h_nil, ↓r_add, ↓r_sub, ↓r_mul, ↓r_div, ↓r_mod, ↓r_pow, ↓r_shl, ↓r_cat, ↓r_cats, ↓r_rep, ↓r_lt, ↓r_le, ↓r_gt, ↓r_ge, ↓r_eqI, ↓r_neI, ↓r_augA, ↓r_augS, ↓r_augM, ↓tg_tpt, ↓tg_tpl, ↓tg_tpm, ↓tgs_nil, ↓tgs_cons, ↓turn_nx, ↓turn_ct, ↓turn_bk, ↓turn_rt, ↓turn_ex, ↓d_nil, ↓d_eq, ↓rng_1, ↓rng_2, ↓b_int, ↓b_intb, ↓b_bool, ↓b_boolb, ↓b_lent, ↓b_lenl, ↓b_tupt, ↓b_tupl, ↓b_str, ↓b_repr', ↓xp_d, ↓b_abs, ↓b_sum, ↓b_all, ↓b_any, ↓b_max, ↓b_min, ↓ix_t, ↓ix_l, ↓sl_t, ↓sl_l, ↓c_eqb, ↓c_neb, ↓c_isN, ↓c_isnN, ↓isx_eq, ↓xval_eq, ↓c_inT, ↓c_inL, ↓c_ninT, ↓c_ninL, ↓c_ltT, ↓c_leT, ↓c_gtT, ↓c_geT, ↓c_eqS, ↓c_neS, ↓b_lenm, ↓v_0, ↓v_S, ↓n_0, ↓n_S, ↓un_0, ↓un_S, ↓s_aug', ↓s_par', ↓h_cons', ↓xl_k, ↓xl_0, ↓xl_S, ↓xl_z, ↓mm_t, ↓mm_tk, ↓to_t, ↓md_k, ↓md_0, ↓mm_0, ↓mm_S, ↓nw_1, ↓nw_2, ↓nw_3, ↓nw_4, ↓nw_5, ↓e_al', ↓ix_m', ↓b_tupm', ↓sl_m', ↓ex_map, ↓ap_l, ↓s_app', ↓xt_l, ↓s_ext', ↓in_l, ↓s_ins', ↓p_put', ↓wt_d, ↓wt_k, ↓wt_k0, ↓to_S, ↓to_z, ↓e_isI1, ↓e_isI2, ↓ex_tb, ↓ex_ti, ↓ex_tn, ↓ex_tt, ↓ex_tl, ↓ex_i, ↓ex_B, ↓xd_nil, ↓xd_cons, ↓xd_map, ↓xi_t, ↓xi_l, ↓xi_m, ↓f_cat', ↓f_rep', ↓f_slice', nw_0, e_var, e_cst, e_neg, e_not, e_and, e_or, e_ite, e_bin, e_cmp, e_chain, e_tup, e_fr, e_al, e_ix, e_sl, e_rev, e_call, e_callK, e_b1, e_b2, e_isI, e_isX, e_xval, e_get, e_pop, e_popAt, e_index, t_not, t_and, t_or, a_nil, a_cons, o_none, o_some, c_none, c_some, f_disp, f_comp, f_comp2, f_listOf, f_cat, f_rep, f_slice, i_of, i_rng, i_enum, i_zip, i_rev, t_var, t_cst, t_neg, t_ite, t_bin, t_cmp, t_chain, t_tup, t_fr, t_al, t_ddisp, t_ix, t_sl, t_rev, t_call, t_callK, t_b1, t_b2, t_isI, t_isX, t_xval, t_get, t_pop, t_popAt, t_index, s_asg, s_setIx, e_dnew, e_dix, s_dput, t_dnew, t_dix, s_par, s_aug, s_augIx, s_expr, s_app, s_ext, s_ins, s_ret, s_retN, s_cond, s_loop, s_whl, s_raise, s_tryX, s_pass, s_brk, s_cont, b_nil, b_cons, h_nil, h_cons, r_add, r_sub, r_mul, r_div, r_mod, r_pow, r_shl, r_cat, r_cats, r_rep, r_lt, r_le, r_gt, r_ge, r_eqI, r_neI, tr_bool, tr_int, tr_none, tr_tuple, tr_list, r_augA, r_augS, r_augM, m_get, m_get0, m_set, m_set0, ex_v, ex_k, ex_lst, tg_nm, tg_tpt, tg_tpl, tg_tpm, tgs_nil, tgs_cons, tgAt_eq, List.getElem?_cons_succ, List.getElem?_cons_zero, List.set_cons_succ, List.set_cons_zero, List.length_append, List.length_cons, List.length_nil, List.append_assoc, List.cons_append, List.nil_append, decide_eq_true_eq, I, B, N0, S.l.injEq, S.d.injEq, Option.some.injEq, MO.lst.injEq, exists_eq_left', exists_and_left, mapM_d, Bool.false_eq_true, isT_int_none, isT_int_bool, isT_int_int, isT_int_str, isT_int_list, isT_int_tuple, isT_int_dict, isT_bool_none, isT_bool_bool, isT_bool_int, isT_bool_str, isT_bool_list, isT_bool_tuple, isT_bool_dict, isT_str_none, isT_str_bool, isT_str_int, isT_str_str, isT_str_list, isT_str_tuple, isT_str_dict, isT_list_none, isT_list_bool, isT_list_int, isT_list_str, isT_list_list, isT_list_tuple, isT_list_dict, isT_tuple_none, isT_tuple_bool, isT_tuple_int, isT_tuple_str, isT_tuple_list, isT_tuple_tuple, isT_tuple_dict, isT_dict_none, isT_dict_bool, isT_dict_int, isT_dict_str, isT_dict_list, isT_dict_tuple, isT_dict_dict, at_0, at_1, mapM_s, List.map_cons, List.map_nil, List.any_cons, List.any_nil, id_eq, Bool.or_false, Bool.not_true, Bool.not_false, ↓reduceIte, turn_nx, turn_ct, turn_bk, turn_rt, turn_ex, ty_m, Int.zero_add, d_nil, d_eq, rng_1, rng_2, b_int, b_intb, b_bool, b_boolb, b_lent, b_lenl, b_lenm, b_tupt, b_tupl, b_tupm, b_str, b_repr', b_abs, b_sum, b_all, b_any, b_max, b_min, ix_t, ix_l, ix_m, sl_t, sl_l, sl_m, ty_d, it_t, it_l, pd_d, c_eqb, c_neb, c_isN, c_isnN, isx_eq, xval_eq, true_and, and_true, List.append_nil, wipeS, tgSlots, tgSlotss, c_inT, c_inL, c_ninT, c_ninL, c_ltT, c_leT, c_gtT, c_geT, it_k, it_k0, ty_k, ty_k0, lo_1, to_1, to_2, beq_self_eq_true, sd_inj, da_nil, da_cons, da_map, Option.map_some, p_put, Nat.reduceAdd, Int.reduceEq, Int.reduceLT, Int.reduceLE, f_lrng, f_comp2, e_indexT, s_parIx, s_any, gt_t, gt_tk, c_noneF, c_eqS, c_neS, eq_self, decide_true, decide_false, pints_len, itm_len, sz_0, sz_1, sz_2, sz_3, sz_4, sz_5, sz_6, sz_7, sz_8, int?_d, ok_of_d, ex_self, Nat.zero_add])
theorem lm_strip : ∀ p ∈ lib_strip, ∀ vs, Mono (p.2.2 vs) := fun p hp => by cases hp
theorem mb_strip (s : Ss) : MonoS (wSs Γ_strip s) := mSs s _ (Lib.mo lm_strip)
theorem ck_strip : kSs b_strip ⟨N_strip, defScope s_strip, lib_strip.fs, kws, cs, hs, true⟩ (defBody s_strip) = true := by decide +kernel
theorem bd_strip : Bd "strip" s_strip ["numbers"] := fun _ _ _ _ _ _ us hl => match us, hl with | [_], _ => rfl
theorem kb_strip : ∀ q ∈ kws, q.1 = "strip" → BdK "strip" s_strip ["numbers"] q.2.1 q.2.2 := by
  intro q hq
  cases hq
def sp_strip : FSpec := fun vs M Q E => match vs with
  | [.d (.list xs)] => ∃ l : List Int, (xs = pints l ∧ l.length ≤ 1000) ∧ Q (.d (.tuple (pints (stripL l)))) M
  | [.l k] => ∃ l : List Int, (M[k]? = some (li l) ∧ l.length ≤ 1000) ∧ Q (.d (.tuple (pints (stripL l)))) M
  | _ => False
theorem mo_strip : ∀ vs, Mono (sp_strip vs) := by
  intro vs M Q Q' X X' hq hx
  unfold sp_strip
  (try split) <;> (repeat' first | exact id | exact hq _ _ | exact hx _ _ | refine And.imp ?_ ?_ | refine Exists.imp (fun _ => ?_) | refine forall_imp (fun _ => ?_) | split)
theorem w_strip : ∀ (ss : List S) (M : Mem) (Q : S → Mem → Prop) (E : Xc → Mem → Prop), ss.length = 1 → sp_strip ss M Q E → wSs Γ_strip b_strip (startS N_strip ss) M (exits M Q E) := by
  intro ss M Q E hl h
  unfold sp_strip at h
  have cutS : ∀ {l : List Int} {m : Nat}, m ≤ l.length → (∀ i, m ≤ i → rowZ l i = 0) → (m ≠ 0 → rowZ l (m - 1) ≠ 0) → cut (pints l) none (some (m : Int)) = pints (stripL l) := fun {l m} ml z last => by
    rw [cut_pre (by omega) (by rw [pints_len]; omega), Int.toNat_natCast, stripL_take ml z last]
    simp [pints, List.map_take]
  split at h
  case h_3 => exact h.elim
  · rename_i xs
    obtain ⟨l, ⟨rfl, l2⟩, h⟩ := h
    have sl := slS
    walk_at "strip"
    refine ⟨l.length + 1, ?_⟩
    refine whl_inv (fun ρ => mT (Lib.mo lm_strip) _ ρ) (mb_strip _) (fun m ρ M' => ρ = [some (S.d (PyData.list (pints l))), some (I m)] ∧ M' = M ∧ m ≤ l.length ∧ ∀ i, m ≤ i → rowZ l i = 0) ?_ l.length _ _ ⟨rfl, rfl, Nat.le_refl _, fun i hi => rowZ_ge hi⟩
    rintro m ρ M' ⟨rfl, rfl, ml, z⟩
    walk_at "strip"
    cases m with
    | zero =>
      refine (if_neg (by omega)).mpr ?_
      rw [cutS ml z (fun h => absurd rfl h)]
      exact ret_here h
    | succ m =>
      have e : ((m + 1 : Nat) : Int) - 1 = (m : Int) := by omega
      have hm : m < l.length := by omega
      rw [e]
      refine (if_pos (by omega)).mpr ⟨.int l[m], at_nat (by simp [pints, hm]), ?_⟩
      walk_at "strip"
      refine iteI (fun c => ?_) (fun c => ?_)
      · simp only [ub_strip_1]
        walk_at "strip"
        rw [e]
        refine ⟨m, by omega, rfl, by omega, fun i hi => ?_⟩
        by_cases c2 : i = m
        · rw [c2, rowZ_lt hm]
          exact c
        · exact z i (by omega)
      · rw [cutS ml z (fun _ => by rw [Nat.add_sub_cancel, rowZ_lt hm]; exact c)]
        exact ret_here h
  · rename_i k
    obtain ⟨l, ⟨hk, l2⟩, h⟩ := h
    have sl := slS
    walk_at "strip"
    refine ⟨_, hk, l.length + 1, ?_⟩
    rw [li_len]
    refine whl_inv (fun ρ => mT (Lib.mo lm_strip) _ ρ) (mb_strip _) (fun m ρ M' => ρ = [some (S.l k), some (I m)] ∧ M' = M ∧ m ≤ l.length ∧ ∀ i, m ≤ i → rowZ l i = 0) ?_ l.length _ _ ⟨rfl, rfl, Nat.le_refl _, fun i hi => rowZ_ge hi⟩
    have fin : ∀ {m : Nat}, m ≤ l.length → (∀ i, m ≤ i → rowZ l i = 0) → (m ≠ 0 → rowZ l (m - 1) ≠ 0) → ∃ ys, M[k]? = some (MO.lst ys) ∧ ∃ xs : List PD, ys = xs.map S.d ∧ ∃ r M2, Ex M M (S.d (PyData.tuple (cut xs none (some (m : Int))))) r M2 ∧ Q r M2 := fun {m} ml z last => ⟨_, hk, _, rfl, by
      rw [cutS ml z last]
      exact ret_here h⟩
    rintro m ρ M' ⟨rfl, rfl, ml, z⟩
    walk_at "strip"
    cases m with
    | zero =>
      exact (if_neg (by omega)).mpr (fin ml z (fun h => absurd rfl h))
    | succ m =>
      have e : ((m + 1 : Nat) : Int) - 1 = (m : Int) := by omega
      have hm : m < l.length := by omega
      rw [e]
      refine (if_pos (by omega)).mpr ⟨_, hk, I l[m], at_nat (by simp [pints, hm]), ?_⟩
      walk_at "strip"
      refine iteI (fun c => ?_) (fun c => ?_)
      · simp only [ub_strip_1]
        walk_at "strip"
        rw [e]
        refine ⟨m, by omega, rfl, by omega, fun i hi => ?_⟩
        by_cases c2 : i = m
        · rw [c2, rowZ_lt hm]
          exact c
        · exact z i (by omega)
      · exact fin ml z (fun _ => by rw [Nat.add_sub_cancel, rowZ_lt hm]; exact c)

theorem k_strip__1 {xs : List PD} {M : Mem} {Q : S → Mem → Prop} {E : Xc → Mem → Prop} : sp_strip [.d (.list xs)] M Q E = (∃ l : List Int, (xs = pints l ∧ l.length ≤ 1000) ∧ Q (.d (.tuple (pints (stripL l)))) M) := rfl
theorem k_strip__2 {k : Nat} {M : Mem} {Q : S → Mem → Prop} {E : Xc → Mem → Prop} : sp_strip [.l k] M Q E = (∃ l : List Int, (M[k]? = some (li l) ∧ l.length ≤ 1000) ∧ Q (.d (.tuple (pints (stripL l)))) M) := rfl
/-! rest -/
abbrev s_rest : Stmt := topS 18
def N_rest : List Str := ["stair", "rows", "columns", "i"]
theorem sc_rest : FnScope N_rest ["stair", "rows", "columns"] (defScope s_rest) := ⟨rfl, rfl, rfl, by decide +kernel, rfl, by decide +kernel, by decide +kernel⟩
def b_rest : Ss := .cons (.expr (.call "need_stair" (.cons (.var 0) .nil))) (.cons (.expr (.call "_need_box" (.cons (.var 1) (.cons (.var 2) .nil)))) (.cons (.cond (.not (.call "is_inside" (.cons (.var 0) (.cons (.var 1) (.cons (.var 2) .nil))))) (.cons (.raise "Undefined" (.cst (.str "box"))) .nil) (.nil)) (.cons (.ret (.call "strip" (.cons (.fr (.comp (.bin .Sub (.var 2) (.call "row_of" (.cons (.var 0) (.cons (.bin .Sub (.bin .Sub (.var 1) (.cst (.int 1))) (.var 3)) .nil)))) (.nm 3) (.rng (.cons (.var 1) .nil)) .none)) .nil))) .nil)))
theorem ub_rest : b_rest = .cons (.expr (.call "need_stair" (.cons (.var 0) .nil))) (.cons (.expr (.call "_need_box" (.cons (.var 1) (.cons (.var 2) .nil)))) (.cons (.cond (.not (.call "is_inside" (.cons (.var 0) (.cons (.var 1) (.cons (.var 2) .nil))))) (.cons (.raise "Undefined" (.cst (.str "box"))) .nil) (.nil)) (.cons (.ret (.call "strip" (.cons (.fr (.comp (.bin .Sub (.var 2) (.call "row_of" (.cons (.var 0) (.cons (.bin .Sub (.bin .Sub (.var 1) (.cst (.int 1))) (.var 3)) .nil)))) (.nm 3) (.rng (.cons (.var 1) .nil)) .none)) .nil))) .nil))) := rfl
theorem st_rest {x0 x1 x2 : S} : startS N_rest [x0, x1, x2] = [some x0, some x1, some x2, none] := rfl
def lib_rest : Lib := [("need_stair", ["value"], sp_need_stair), ("_need_box", ["rows", "columns"], sp_need_box), ("strip", ["numbers"], sp_strip), ("is_inside", ["stair", "rows", "columns"], sp_is_inside), ("row_of", ["stair", "i"], sp_row_of)]
abbrev Γ_rest : G.Env := lib_rest.env (MroF tab)
theorem Φ_rest_need_stair : Γ_rest.Φ "need_stair" = some sp_need_stair := by rfl
theorem φ_rest_need_stair {P : FSpec → Prop} : (∃ φ, Γ_rest.Φ "need_stair" = some φ ∧ P φ) = P sp_need_stair := by rw [Φ_rest_need_stair]; exact ex_self
theorem Φ_rest_need_box : Γ_rest.Φ "_need_box" = some sp_need_box := by rfl
theorem φ_rest_need_box {P : FSpec → Prop} : (∃ φ, Γ_rest.Φ "_need_box" = some φ ∧ P φ) = P sp_need_box := by rw [Φ_rest_need_box]; exact ex_self
theorem Φ_rest_strip : Γ_rest.Φ "strip" = some sp_strip := by rfl
theorem φ_rest_strip {P : FSpec → Prop} : (∃ φ, Γ_rest.Φ "strip" = some φ ∧ P φ) = P sp_strip := by rw [Φ_rest_strip]; exact ex_self
theorem Φ_rest_is_inside : Γ_rest.Φ "is_inside" = some sp_is_inside := by rfl
theorem φ_rest_is_inside {P : FSpec → Prop} : (∃ φ, Γ_rest.Φ "is_inside" = some φ ∧ P φ) = P sp_is_inside := by rw [Φ_rest_is_inside]; exact ex_self
theorem Φ_rest_row_of : Γ_rest.Φ "row_of" = some sp_row_of := by rfl
theorem φ_rest_row_of {P : FSpec → Prop} : (∃ φ, Γ_rest.Φ "row_of" = some φ ∧ P φ) = P sp_row_of := by rw [Φ_rest_row_of]; exact ex_self
local macro_rules | `(tactic| walk_at "rest") => `(tactic| simp (maxSteps := 1000000) only [ub_rest, st_rest, exits, Φ_rest_need_stair, Φ_rest_need_box, Φ_rest_strip, Φ_rest_is_inside, Φ_rest_row_of, ↓φ_rest_need_stair, ↓φ_rest_need_box, ↓φ_rest_strip, ↓φ_rest_is_inside, ↓φ_rest_row_of, ↓k_need_stair, ↓k_need_box, ↓k_strip__1, ↓k_strip__2, ↓k_is_inside, ↓k_row_of, ↓e_dnew', ↓e_ddisp', ↓dx_i, ↓dx_s, ↓dp_i, ↓dp_s, ↓yl_k, ↓yl_0, ↓yl_S, ↓yl_z, ↓c_isIN, ↓c_isBN, ↓c_isSN, ↓c_isTN, ↓c_isLN, ↓c_isRN, ↓c_isnIN, ↓c_isnBN, ↓c_isnSN, ↓c_isnTN, ↓c_isnLN, ↓c_isnRN, ↓c_eqSS, ↓c_neSS, ↓ex_pq, ↓c_eqT, ↓c_neT, ↓rng_3, ↓e_mtup', ↓ex_l, ↓xp_k, ↓xp_0, ↓xp_S, ↓xp_z, ↓s_unp, ↓rv_t, ↓rv_l, ↓rv_m, ↓po_m, ↓e_rev, ↓c_isbb, ↓c_isnbb, ↓f_lrng, ↓f_comp2, ↓s_parIx, ↓xv_0, ↓xv_S, ↓da_snoc, ↓da_app, ↓e_cst, ↓e_neg, ↓e_not, ↓e_and, ↓e_or, ↓e_ite, ↓e_bin, ↓e_cmp, ↓e_chain, ↓e_tup, ↓e_fr, ↓e_ix, ↓e_dix, ↓t_dix, ↓s_dput, ↓e_sl, ↓e_rev, ↓e_call, ↓e_callK, ↓e_b1, ↓e_b2, ↓e_isX, ↓e_xval, ↓e_get, ↓e_pop, ↓e_popAt, ↓e_index, ↓t_not, ↓t_and, ↓t_or, ↓a_nil, ↓a_cons, ↓o_none, ↓o_some, ↓c_none, ↓c_some, ↓f_disp, ↓f_comp, ↓f_comp2, ↓f_listOf, ↓i_of, ↓i_rng, ↓i_zip, ↓i_rev, ↓i_keys, i_keys, ↓t_var, ↓t_cst, ↓t_neg, ↓t_ite, ↓t_bin, ↓t_cmp, ↓t_chain, ↓t_tup, ↓t_fr, ↓t_al, ↓t_ddisp, ↓t_ix, ↓t_sl, ↓t_rev, ↓t_call, ↓t_callK, ↓t_b1, ↓t_b2, ↓t_isI, ↓t_isX, ↓t_xval, ↓t_get, ↓t_pop, ↓t_popAt, ↓t_index, ↓s_asg, ↓s_setIx, ↓s_augIx, ↓s_expr, ↓s_ret, ↓s_retN, ↓s_cond, ↓s_loop, ↓s_whl, ↓s_raise, ↓s_tryX, ↓s_pass, ↓s_brk, ↓s_cont, ↓b_nil, ↓b_cons, ↓h_nil, ↓r_add, ↓r_sub, ↓r_mul, ↓r_div, ↓r_mod, ↓r_pow, ↓r_shl, ↓r_cat, ↓r_cats, ↓r_rep, ↓r_lt, ↓r_le, ↓r_gt, ↓r_ge, ↓r_eqI, ↓r_neI, ↓r_augA, ↓r_augS, ↓r_augM, ↓tg_tpt, ↓tg_tpl, ↓tg_tpm, ↓tgs_nil, ↓tgs_cons, ↓turn_nx, ↓turn_ct, ↓turn_bk, ↓turn_rt, ↓turn_ex, ↓d_nil, ↓d_eq, ↓rng_1, ↓rng_2, ↓b_int, ↓b_intb, ↓b_bool, ↓b_boolb, ↓b_lent, ↓b_lenl, ↓b_tupt, ↓b_tupl, ↓b_str, ↓b_repr', ↓xp_d, ↓b_abs, ↓b_sum, ↓b_all, ↓b_any, ↓b_max, ↓b_min, ↓ix_t, ↓ix_l, ↓sl_t, ↓sl_l, ↓c_eqb, ↓c_neb, ↓c_isN, ↓c_isnN, ↓isx_eq, ↓xval_eq, ↓c_inT, ↓c_inL, ↓c_ninT, ↓c_ninL, ↓c_ltT, ↓c_leT, ↓c_gtT, ↓c_geT, ↓c_eqS, ↓c_neS, ↓b_lenm, ↓v_0, ↓v_S, ↓n_0, ↓n_S, ↓un_0, ↓un_S, ↓s_aug', ↓s_par', ↓h_cons', ↓xl_k, ↓xl_0, ↓xl_S, ↓xl_z, ↓mm_t, ↓mm_tk, ↓to_t, ↓md_k, ↓md_0, ↓mm_0, ↓mm_S, ↓nw_1, ↓nw_2, ↓nw_3, ↓nw_4, ↓nw_5, ↓e_al', ↓ix_m', ↓b_tupm', ↓sl_m', ↓ex_map, ↓ap_l, ↓s_app', ↓xt_l, ↓s_ext', ↓in_l, ↓s_ins', ↓p_put', ↓wt_d, ↓wt_k, ↓wt_k0, ↓to_S, ↓to_z, ↓e_isI1, ↓e_isI2, ↓ex_tb, ↓ex_ti, ↓ex_tn, ↓ex_tt, ↓ex_tl, ↓ex_i, ↓ex_B, ↓xd_nil, ↓xd_cons, ↓xd_map, ↓xi_t, ↓xi_l, ↓xi_m, ↓f_cat', ↓f_rep', ↓f_slice', nw_0, e_var, e_cst, e_neg, e_not, e_and, e_or, e_ite, e_bin, e_cmp, e_chain, e_tup, e_fr, e_al, e_ix, e_sl, e_rev, e_call, e_callK, e_b1, e_b2, e_isI, e_isX, e_xval, e_get, e_pop, e_popAt, e_index, t_not, t_and, t_or, a_nil, a_cons, o_none, o_some, c_none, c_some, f_disp, f_comp, f_comp2, f_listOf, f_cat, f_rep, f_slice, i_of, i_rng, i_enum, i_zip, i_rev, t_var, t_cst, t_neg, t_ite, t_bin, t_cmp, t_chain, t_tup, t_fr, t_al, t_ddisp, t_ix, t_sl, t_rev, t_call, t_callK, t_b1, t_b2, t_isI, t_isX, t_xval, t_get, t_pop, t_popAt, t_index, s_asg, s_setIx, e_dnew, e_dix, s_dput, t_dnew, t_dix, s_par, s_aug, s_augIx, s_expr, s_app, s_ext, s_ins, s_ret, s_retN, s_cond, s_loop, s_whl, s_raise, s_tryX, s_pass, s_brk, s_cont, b_nil, b_cons, h_nil, h_cons, r_add, r_sub, r_mul, r_div, r_mod, r_pow, r_shl, r_cat, r_cats, r_rep, r_lt, r_le, r_gt, r_ge, r_eqI, r_neI, tr_bool, tr_int, tr_none, tr_tuple, tr_list, r_augA, r_augS, r_augM, m_get, m_get0, m_set, m_set0, ex_v, ex_k, ex_lst, tg_nm, tg_tpt, tg_tpl, tg_tpm, tgs_nil, tgs_cons, tgAt_eq, List.getElem?_cons_succ, List.getElem?_cons_zero, List.set_cons_succ, List.set_cons_zero, List.length_append, List.length_cons, List.length_nil, List.append_assoc, List.cons_append, List.nil_append, decide_eq_true_eq, I, B, N0, S.l.injEq, S.d.injEq, Option.some.injEq, MO.lst.injEq, exists_eq_left', exists_and_left, mapM_d, Bool.false_eq_true, isT_int_none, isT_int_bool, isT_int_int, isT_int_str, isT_int_list, isT_int_tuple, isT_int_dict, isT_bool_none, isT_bool_bool, isT_bool_int, isT_bool_str, isT_bool_list, isT_bool_tuple, isT_bool_dict, isT_str_none, isT_str_bool, isT_str_int, isT_str_str, isT_str_list, isT_str_tuple, isT_str_dict, isT_list_none, isT_list_bool, isT_list_int, isT_list_str, isT_list_list, isT_list_tuple, isT_list_dict, isT_tuple_none, isT_tuple_bool, isT_tuple_int, isT_tuple_str, isT_tuple_list, isT_tuple_tuple, isT_tuple_dict, isT_dict_none, isT_dict_bool, isT_dict_int, isT_dict_str, isT_dict_list, isT_dict_tuple, isT_dict_dict, at_0, at_1, mapM_s, List.map_cons, List.map_nil, List.any_cons, List.any_nil, id_eq, Bool.or_false, Bool.not_true, Bool.not_false, ↓reduceIte, turn_nx, turn_ct, turn_bk, turn_rt, turn_ex, ty_m, Int.zero_add, d_nil, d_eq, rng_1, rng_2, b_int, b_intb, b_bool, b_boolb, b_lent, b_lenl, b_lenm, b_tupt, b_tupl, b_tupm, b_str, b_repr', b_abs, b_sum, b_all, b_any, b_max, b_min, ix_t, ix_l, ix_m, sl_t, sl_l, sl_m, ty_d, it_t, it_l, pd_d, c_eqb, c_neb, c_isN, c_isnN, isx_eq, xval_eq, true_and, and_true, List.append_nil, wipeS, tgSlots, tgSlotss, c_inT, c_inL, c_ninT, c_ninL, c_ltT, c_leT, c_gtT, c_geT, it_k, it_k0, ty_k, ty_k0, lo_1, to_1, to_2, beq_self_eq_true, sd_inj, da_nil, da_cons, da_map, Option.map_some, p_put, Nat.reduceAdd, Int.reduceEq, Int.reduceLT, Int.reduceLE, f_lrng, f_comp2, e_indexT, s_parIx, s_any, gt_t, gt_tk, c_noneF, c_eqS, c_neS, eq_self, decide_true, decide_false, pints_len, itm_len, sz_0, sz_1, sz_2, sz_3, sz_4, sz_5, sz_6, sz_7, sz_8, int?_d, ok_of_d, ex_self, Nat.zero_add])
theorem lm_rest : ∀ p ∈ lib_rest, ∀ vs, Mono (p.2.2 vs) := by
  intro p hp
  simp only [lib_rest, List.mem_cons, List.not_mem_nil, or_false] at hp
  rcases hp with rfl | rfl | rfl | rfl | rfl
  · exact mo_need_stair
  · exact mo_need_box
  · exact mo_strip
  · exact mo_is_inside
  · exact mo_row_of
theorem mb_rest (s : Ss) : MonoS (wSs Γ_rest s) := mSs s _ (Lib.mo lm_rest)
theorem ck_rest : kSs b_rest ⟨N_rest, defScope s_rest, lib_rest.fs, kws, cs, hs, true⟩ (defBody s_rest) = true := by decide +kernel
theorem bd_rest : Bd "rest" s_rest ["stair", "rows", "columns"] := fun _ _ _ _ _ _ us hl => match us, hl with | [_, _, _], _ => rfl
theorem kb_rest : ∀ q ∈ kws, q.1 = "rest" → BdK "rest" s_rest ["stair", "rows", "columns"] q.2.1 q.2.2 := by
  intro q hq
  cases hq
def sp_rest : FSpec := fun vs M Q E => match vs with
  | [.d v, .d r, .d c] => (tupLen v ∧ small r) ∧ (if isStairD v = false then E ⟨"InvalidStair", "value", .d v⟩ M else if isNumD r = false then E ⟨"InvalidNumber", "value", .d r⟩ M else if isNumD c = false then E ⟨"InvalidNumber", "value", .d c⟩ M else if insD v r c = false then E ⟨"Undefined", "what", .d (.str "box")⟩ M else Q (.d (restD v r c)) M)
  | _ => False
theorem mo_rest : ∀ vs, Mono (sp_rest vs) := by
  intro vs M Q Q' X X' hq hx
  unfold sp_rest
  (try split) <;> (repeat' first | exact id | exact hq _ _ | exact hx _ _ | refine And.imp ?_ ?_ | refine Exists.imp (fun _ => ?_) | refine forall_imp (fun _ => ?_) | split)
theorem w_rest : ∀ (ss : List S) (M : Mem) (Q : S → Mem → Prop) (E : Xc → Mem → Prop), ss.length = 3 → sp_rest ss M Q E → wSs Γ_rest b_rest (startS N_rest ss) M (exits M Q E) := by
  intro ss M Q E hl h
  unfold sp_rest at h
  split at h
  case h_2 => exact h.elim
  rename_i v r c
  obtain ⟨⟨ht, hs⟩, h⟩ := h
  walk_at "rest"
  refine ⟨ht, ?_⟩
  cases c0 : isStairD v with
  | false =>
    rw [if_pos c0] at h
    exact (if_neg (by decide)).mpr ⟨_, _, .inl ⟨rfl, rfl⟩, h⟩
  | true =>
  rw [if_neg (by rw [c0]; decide)] at h
  refine (if_pos rfl).mpr ?_
  obtain ⟨l, rfl, st⟩ := isStair_some c0
  cases c1 : isNumD r with
  | false =>
    rw [if_pos c1] at h
    exact (if_pos rfl).mpr ⟨_, _, .inl ⟨rfl, rfl⟩, h⟩
  | true =>
  rw [if_neg (by rw [c1]; decide)] at h
  refine (if_neg (by decide)).mpr ?_
  cases c2 : isNumD c with
  | false =>
    rw [if_pos c2] at h
    exact (if_pos rfl).mpr ⟨_, _, .inl ⟨rfl, rfl⟩, h⟩
  | true =>
  rw [if_neg (by rw [c2]; decide)] at h
  refine (if_neg (by decide)).mpr ?_
  obtain ⟨R, rfl⟩ := num_some c1
  obtain ⟨C, rfl⟩ := num_some c2
  have ei : insD (.tuple (pints l)) (.int R) (.int C) = insI l R C := by simp only [insD, intsOf_pints]
  rw [ei] at h
  rw [k_is_inside]
  refine ⟨l, rfl, ?_⟩
  walk_at "rest"
  cases c3 : insI l R C with
  | false =>
    rw [if_pos c3] at h
    exact (if_pos (by decide)).mpr ⟨_, _, .inl ⟨rfl, rfl⟩, h⟩
  | true =>
  rw [if_neg (by rw [c3]; decide)] at h
  refine (if_neg (by decide)).mpr ?_
  have hR := hs _ rfl
  have sl := slS
  refine ⟨by unfold rngOk; omega, by simp [rngItems]; omega, ?_⟩
  refine lc_rng (f := fun i => S.d (.int (C - rowZ l (R - 1 - i)))) R (by omega) trivial (fun i hi Q q => ?_) ?_
  · walk_at "rest"
    refine ⟨l, R - 1 - i, ⟨rfl, by omega⟩, ?_⟩
    exact q
  · have em : ((List.range R).map fun i => S.d (.int (C - rowZ l (R - 1 - i)))) = (pints (restRow l R C)).map S.d := by
      simp [restRow, pints, Function.comp_def]
    rw [em]
    refine ⟨_, dataAll_map _, _, ⟨rfl, by simp [restRow]; omega⟩, ?_⟩
    simp only [restD, intsOf_pints] at h
    exact ret_here h

theorem k_rest {v : PD} {r : PD} {c : PD} {M : Mem} {Q : S → Mem → Prop} {E : Xc → Mem → Prop} : sp_rest [.d v, .d r, .d c] M Q E = ((tupLen v ∧ small r) ∧ (if isStairD v = false then E ⟨"InvalidStair", "value", .d v⟩ M else if isNumD r = false then E ⟨"InvalidNumber", "value", .d r⟩ M else if isNumD c = false then E ⟨"InvalidNumber", "value", .d c⟩ M else if insD v r c = false then E ⟨"Undefined", "what", .d (.str "box")⟩ M else Q (.d (restD v r c)) M)) := rfl
/-! _law_word -/
abbrev s_law_word : Stmt := topS 27
def N_law_word : List Str := ["stair", "rows", "columns", "word", "i", "at", "row"]
theorem sc_law_word : FnScope N_law_word ["stair", "rows", "columns"] (defScope s_law_word) := ⟨rfl, rfl, rfl, by decide +kernel, rfl, by decide +kernel, by decide +kernel⟩
def b_law_word_1 : Ss := .cons (.asg (.nm 5) (.bin .Sub (.bin .Sub (.var 1) (.cst (.int 1))) (.var 4))) (.cons (.asg (.nm 6) (.ite (.cmp .Lt (.var 5) (.b1 .len (.var 0))) (.ix (.var 0) (.var 5)) (.cst (.int 0)))) (.cons (.asg (.nm 3) (.bin .Add (.bin .Add (.tup (.cons (.cst (.int 1)) .nil)) (.bin .Mult (.tup (.cons (.cst (.int 0)) .nil)) (.bin .Sub (.var 6) (.bin .Sub (.b1 .len (.var 3)) (.var 4))))) (.var 3))) .nil))
def b_law_word : Ss := .cons (.asg (.nm 3) (.tup (.nil))) (.cons (.loop (.nm 4) (.rng (.cons (.var 1) .nil)) b_law_word_1) (.cons (.ret (.bin .Add (.bin .Mult (.tup (.cons (.cst (.int 0)) .nil)) (.bin .Sub (.var 2) (.bin .Sub (.b1 .len (.var 3)) (.var 1)))) (.var 3))) .nil))
theorem ub_law_word_1 : b_law_word_1 = .cons (.asg (.nm 5) (.bin .Sub (.bin .Sub (.var 1) (.cst (.int 1))) (.var 4))) (.cons (.asg (.nm 6) (.ite (.cmp .Lt (.var 5) (.b1 .len (.var 0))) (.ix (.var 0) (.var 5)) (.cst (.int 0)))) (.cons (.asg (.nm 3) (.bin .Add (.bin .Add (.tup (.cons (.cst (.int 1)) .nil)) (.bin .Mult (.tup (.cons (.cst (.int 0)) .nil)) (.bin .Sub (.var 6) (.bin .Sub (.b1 .len (.var 3)) (.var 4))))) (.var 3))) .nil)) := rfl
theorem ub_law_word : b_law_word = .cons (.asg (.nm 3) (.tup (.nil))) (.cons (.loop (.nm 4) (.rng (.cons (.var 1) .nil)) b_law_word_1) (.cons (.ret (.bin .Add (.bin .Mult (.tup (.cons (.cst (.int 0)) .nil)) (.bin .Sub (.var 2) (.bin .Sub (.b1 .len (.var 3)) (.var 1)))) (.var 3))) .nil)) := rfl
theorem st_law_word {x0 x1 x2 : S} : startS N_law_word [x0, x1, x2] = [some x0, some x1, some x2, none, none, none, none] := rfl
def lib_law_word : Lib := []
abbrev Γ_law_word : G.Env := lib_law_word.env (MroF tab)
local macro_rules | `(tactic| walk_at "law_word") => `(tactic| simp (maxSteps := 1000000) only [ub_law_word, st_law_word, exits, ↓e_dnew', ↓e_ddisp', ↓dx_i, ↓dx_s, ↓dp_i, ↓dp_s, ↓yl_k, ↓yl_0, ↓yl_S, ↓yl_z, ↓c_isIN, ↓c_isBN, ↓c_isSN, ↓c_isTN, ↓c_isLN, ↓c_isRN, ↓c_isnIN, ↓c_isnBN, ↓c_isnSN, ↓c_isnTN, ↓c_isnLN, ↓c_isnRN, ↓c_eqSS, ↓c_neSS, ↓ex_pq, ↓c_eqT, ↓c_neT, ↓rng_3, ↓e_mtup', ↓ex_l, ↓xp_k, ↓xp_0, ↓xp_S, ↓xp_z, ↓s_unp, ↓rv_t, ↓rv_l, ↓rv_m, ↓po_m, ↓e_rev, ↓c_isbb, ↓c_isnbb, ↓f_lrng, ↓f_comp2, ↓s_parIx, ↓xv_0, ↓xv_S, ↓da_snoc, ↓da_app, ↓e_cst, ↓e_neg, ↓e_not, ↓e_and, ↓e_or, ↓e_ite, ↓e_bin, ↓e_cmp, ↓e_chain, ↓e_tup, ↓e_fr, ↓e_ix, ↓e_dix, ↓t_dix, ↓s_dput, ↓e_sl, ↓e_rev, ↓e_call, ↓e_callK, ↓e_b1, ↓e_b2, ↓e_isX, ↓e_xval, ↓e_get, ↓e_pop, ↓e_popAt, ↓e_index, ↓t_not, ↓t_and, ↓t_or, ↓a_nil, ↓a_cons, ↓o_none, ↓o_some, ↓c_none, ↓c_some, ↓f_disp, ↓f_comp, ↓f_comp2, ↓f_listOf, ↓i_of, ↓i_rng, ↓i_zip, ↓i_rev, ↓i_keys, i_keys, ↓t_var, ↓t_cst, ↓t_neg, ↓t_ite, ↓t_bin, ↓t_cmp, ↓t_chain, ↓t_tup, ↓t_fr, ↓t_al, ↓t_ddisp, ↓t_ix, ↓t_sl, ↓t_rev, ↓t_call, ↓t_callK, ↓t_b1, ↓t_b2, ↓t_isI, ↓t_isX, ↓t_xval, ↓t_get, ↓t_pop, ↓t_popAt, ↓t_index, ↓s_asg, ↓s_setIx, ↓s_augIx, ↓s_expr, ↓s_ret, ↓s_retN, ↓s_cond, ↓s_loop, ↓s_whl, ↓s_raise, ↓s_tryX, ↓s_pass, ↓s_brk, ↓s_cont, ↓b_nil, ↓b_cons, ↓h_nil, ↓r_add, ↓r_sub, ↓r_mul, ↓r_div, ↓r_mod, ↓r_pow, ↓r_shl, ↓r_cat, ↓r_cats, ↓r_rep, ↓r_lt, ↓r_le, ↓r_gt, ↓r_ge, ↓r_eqI, ↓r_neI, ↓r_augA, ↓r_augS, ↓r_augM, ↓tg_tpt, ↓tg_tpl, ↓tg_tpm, ↓tgs_nil, ↓tgs_cons, ↓turn_nx, ↓turn_ct, ↓turn_bk, ↓turn_rt, ↓turn_ex, ↓d_nil, ↓d_eq, ↓rng_1, ↓rng_2, ↓b_int, ↓b_intb, ↓b_bool, ↓b_boolb, ↓b_lent, ↓b_lenl, ↓b_tupt, ↓b_tupl, ↓b_str, ↓b_repr', ↓xp_d, ↓b_abs, ↓b_sum, ↓b_all, ↓b_any, ↓b_max, ↓b_min, ↓ix_t, ↓ix_l, ↓sl_t, ↓sl_l, ↓c_eqb, ↓c_neb, ↓c_isN, ↓c_isnN, ↓isx_eq, ↓xval_eq, ↓c_inT, ↓c_inL, ↓c_ninT, ↓c_ninL, ↓c_ltT, ↓c_leT, ↓c_gtT, ↓c_geT, ↓c_eqS, ↓c_neS, ↓b_lenm, ↓v_0, ↓v_S, ↓n_0, ↓n_S, ↓un_0, ↓un_S, ↓s_aug', ↓s_par', ↓h_cons', ↓xl_k, ↓xl_0, ↓xl_S, ↓xl_z, ↓mm_t, ↓mm_tk, ↓to_t, ↓md_k, ↓md_0, ↓mm_0, ↓mm_S, ↓nw_1, ↓nw_2, ↓nw_3, ↓nw_4, ↓nw_5, ↓e_al', ↓ix_m', ↓b_tupm', ↓sl_m', ↓ex_map, ↓ap_l, ↓s_app', ↓xt_l, ↓s_ext', ↓in_l, ↓s_ins', ↓p_put', ↓wt_d, ↓wt_k, ↓wt_k0, ↓to_S, ↓to_z, ↓e_isI1, ↓e_isI2, ↓ex_tb, ↓ex_ti, ↓ex_tn, ↓ex_tt, ↓ex_tl, ↓ex_i, ↓ex_B, ↓xd_nil, ↓xd_cons, ↓xd_map, ↓xi_t, ↓xi_l, ↓xi_m, ↓f_cat', ↓f_rep', ↓f_slice', nw_0, e_var, e_cst, e_neg, e_not, e_and, e_or, e_ite, e_bin, e_cmp, e_chain, e_tup, e_fr, e_al, e_ix, e_sl, e_rev, e_call, e_callK, e_b1, e_b2, e_isI, e_isX, e_xval, e_get, e_pop, e_popAt, e_index, t_not, t_and, t_or, a_nil, a_cons, o_none, o_some, c_none, c_some, f_disp, f_comp, f_comp2, f_listOf, f_cat, f_rep, f_slice, i_of, i_rng, i_enum, i_zip, i_rev, t_var, t_cst, t_neg, t_ite, t_bin, t_cmp, t_chain, t_tup, t_fr, t_al, t_ddisp, t_ix, t_sl, t_rev, t_call, t_callK, t_b1, t_b2, t_isI, t_isX, t_xval, t_get, t_pop, t_popAt, t_index, s_asg, s_setIx, e_dnew, e_dix, s_dput, t_dnew, t_dix, s_par, s_aug, s_augIx, s_expr, s_app, s_ext, s_ins, s_ret, s_retN, s_cond, s_loop, s_whl, s_raise, s_tryX, s_pass, s_brk, s_cont, b_nil, b_cons, h_nil, h_cons, r_add, r_sub, r_mul, r_div, r_mod, r_pow, r_shl, r_cat, r_cats, r_rep, r_lt, r_le, r_gt, r_ge, r_eqI, r_neI, tr_bool, tr_int, tr_none, tr_tuple, tr_list, r_augA, r_augS, r_augM, m_get, m_get0, m_set, m_set0, ex_v, ex_k, ex_lst, tg_nm, tg_tpt, tg_tpl, tg_tpm, tgs_nil, tgs_cons, tgAt_eq, List.getElem?_cons_succ, List.getElem?_cons_zero, List.set_cons_succ, List.set_cons_zero, List.length_append, List.length_cons, List.length_nil, List.append_assoc, List.cons_append, List.nil_append, decide_eq_true_eq, I, B, N0, S.l.injEq, S.d.injEq, Option.some.injEq, MO.lst.injEq, exists_eq_left', exists_and_left, mapM_d, Bool.false_eq_true, isT_int_none, isT_int_bool, isT_int_int, isT_int_str, isT_int_list, isT_int_tuple, isT_int_dict, isT_bool_none, isT_bool_bool, isT_bool_int, isT_bool_str, isT_bool_list, isT_bool_tuple, isT_bool_dict, isT_str_none, isT_str_bool, isT_str_int, isT_str_str, isT_str_list, isT_str_tuple, isT_str_dict, isT_list_none, isT_list_bool, isT_list_int, isT_list_str, isT_list_list, isT_list_tuple, isT_list_dict, isT_tuple_none, isT_tuple_bool, isT_tuple_int, isT_tuple_str, isT_tuple_list, isT_tuple_tuple, isT_tuple_dict, isT_dict_none, isT_dict_bool, isT_dict_int, isT_dict_str, isT_dict_list, isT_dict_tuple, isT_dict_dict, at_0, at_1, mapM_s, List.map_cons, List.map_nil, List.any_cons, List.any_nil, id_eq, Bool.or_false, Bool.not_true, Bool.not_false, ↓reduceIte, turn_nx, turn_ct, turn_bk, turn_rt, turn_ex, ty_m, Int.zero_add, d_nil, d_eq, rng_1, rng_2, b_int, b_intb, b_bool, b_boolb, b_lent, b_lenl, b_lenm, b_tupt, b_tupl, b_tupm, b_str, b_repr', b_abs, b_sum, b_all, b_any, b_max, b_min, ix_t, ix_l, ix_m, sl_t, sl_l, sl_m, ty_d, it_t, it_l, pd_d, c_eqb, c_neb, c_isN, c_isnN, isx_eq, xval_eq, true_and, and_true, List.append_nil, wipeS, tgSlots, tgSlotss, c_inT, c_inL, c_ninT, c_ninL, c_ltT, c_leT, c_gtT, c_geT, it_k, it_k0, ty_k, ty_k0, lo_1, to_1, to_2, beq_self_eq_true, sd_inj, da_nil, da_cons, da_map, Option.map_some, p_put, Nat.reduceAdd, Int.reduceEq, Int.reduceLT, Int.reduceLE, f_lrng, f_comp2, e_indexT, s_parIx, s_any, gt_t, gt_tk, c_noneF, c_eqS, c_neS, eq_self, decide_true, decide_false, pints_len, itm_len, sz_0, sz_1, sz_2, sz_3, sz_4, sz_5, sz_6, sz_7, sz_8, int?_d, ok_of_d, ex_self, Nat.zero_add])
theorem lm_law_word : ∀ p ∈ lib_law_word, ∀ vs, Mono (p.2.2 vs) := fun p hp => by cases hp
theorem mb_law_word (s : Ss) : MonoS (wSs Γ_law_word s) := mSs s _ (Lib.mo lm_law_word)
theorem ck_law_word : kSs b_law_word ⟨N_law_word, defScope s_law_word, lib_law_word.fs, kws, cs, hs, true⟩ (defBody s_law_word) = true := by decide +kernel
theorem bd_law_word : Bd "_law_word" s_law_word ["stair", "rows", "columns"] := fun _ _ _ _ _ _ us hl => match us, hl with | [_, _, _], _ => rfl
theorem kb_law_word : ∀ q ∈ kws, q.1 = "_law_word" → BdK "_law_word" s_law_word ["stair", "rows", "columns"] q.2.1 q.2.2 := by
  intro q hq
  cases hq
theorem zs_flat {n : Int} : (List.replicate n.toNat [PyData.int 0]).flatten = pints (zs n) := by
  unfold zs pints
  generalize n.toNat = k
  induction k with
  | zero => rfl
  | succ k ih => rw [List.replicate_succ, List.flatten_cons, ih, List.replicate_succ]; rfl
def sp_law_word : FSpec := fun vs M Q E => match vs with
  | [.d (.tuple xs), .d (.int r), .d (.int c)] => ∃ (l : List Int) (R C : Nat), (xs = pints l ∧ r = R ∧ c = C ∧ Ins l R C ∧ R ≤ 10 ∧ C ≤ 10) ∧ Q (.d (.tuple (pints (bitsL l R C)))) M
  | _ => False
theorem mo_law_word : ∀ vs, Mono (sp_law_word vs) := by
  intro vs M Q Q' X X' hq hx
  unfold sp_law_word
  (try split) <;> (repeat' first | exact id | exact hq _ _ | exact hx _ _ | refine And.imp ?_ ?_ | refine Exists.imp (fun _ => ?_) | refine forall_imp (fun _ => ?_) | split)
theorem w_law_word : ∀ (ss : List S) (M : Mem) (Q : S → Mem → Prop) (E : Xc → Mem → Prop), ss.length = 3 → sp_law_word ss M Q E → wSs Γ_law_word b_law_word (startS N_law_word ss) M (exits M Q E) := by
  intro ss M Q E hl h
  unfold sp_law_word at h
  split at h
  case h_2 => exact h.elim
  rename_i xs r c
  obtain ⟨l, R, C, ⟨rfl, rfl, rfl, ins, hR, hC⟩, h⟩ := h
  have sl := slS
  walk_at "law_word"
  refine ⟨by unfold rngOk; omega, ?_⟩
  refine for_rng R (by omega) (mb_law_word _) (fun i ρ M' => ∃ (s4 s5 s6 : Option S), ρ = [some (.d (.tuple (pints l))), some (I R), some (I C), some (.d (.tuple (pints (wd l R i)))), s4, s5, s6] ∧ M' = M) ⟨_, _, _, rfl, rfl⟩ ?_ ?_
  · rintro ρ M' ⟨s4, s5, s6, rfl, rfl⟩
    walk_at "law_word"
    have wl := wd_len ins.st ins.len R (Nat.le_refl _)
    rw [Nat.sub_self] at wl
    have le := ins.le
    have n0 := ins.st.pos.nn 0
    have ew : ((wd l R R).length : Int) - R = rowZ l 0 := by omega
    have zl := zs_len (n := C - rowZ l 0) (by omega)
    rw [ew, zs_flat]
    refine ⟨⟨by simp, by omega, by omega, by omega⟩, by rw [pints_len]; omega, ?_⟩
    rw [← pints_app, wd_end]
    exact ret_here h
  · rintro i ρ M' hi ⟨s4, s5, s6, rfl, rfl⟩
    simp only [ub_law_word_1]
    walk_at "law_word"
    have wl := wd_len ins.st ins.len i (by omega)
    have ew : ((wd l R i).length : Int) - i = rowZ l (R - i) := by omega
    have le := ins.le
    have m1 := ins.st.mono (Nat.zero_le (R - 1 - i))
    have m2 := ins.st.mono (Nat.zero_le (R - i))
    have m3 := ins.st.mono (i := R - 1 - i) (j := R - i) (by omega)
    have n0 := ins.st.pos.nn (R - i)
    have zl := zs_len (n := rowZ l (R - 1 - i) - rowZ l (R - i)) (by omega)
    have ea : (R : Int) - 1 - i = (R - 1 - i : Nat) := by omega
    have ew2 : wd l R (i + 1) = 1 :: (zs (rowZ l (R - 1 - i) - rowZ l (R - i)) ++ wd l R i) := rfl
    rw [ew, ew2, ea]
    have fin : ∀ s6', ∃ (s4 s5 s6 : Option S), [some (.d (.tuple (pints l))), some (I R), some (I C), some (.d (.tuple (PyData.int 1 :: (pints (zs (rowZ l (R - 1 - i) - rowZ l (R - i))) ++ pints (wd l R i))))), some (I i), some (I (R - 1 - i : Nat)), s6'] = [some (.d (.tuple (pints l))), some (I R), some (I C), some (.d (.tuple (pints (1 :: (zs (rowZ l (R - 1 - i) - rowZ l (R - i)) ++ wd l R i))))), s4, s5, s6] := fun s6' => ⟨_, _, _, by rw [pints_cons, pints_app]⟩
    refine iteI (fun c => ?_) (fun c => ?_)
    · refine ⟨.int (rowZ l (R - 1 - i)), ?_, ?_⟩
      · have : R - 1 - i < l.length := by omega
        exact at_nat (by simp [pints, this, rowZ_lt this])
      walk_at "law_word"
      rw [zs_flat]
      refine ⟨⟨by simp, by omega, by omega, by omega⟩, by rw [pints_len]; omega, by rw [pints_len]; omega, ?_⟩
      exact fin _
    · have e0 : (0 : Int) = rowZ l (R - 1 - i) := (rowZ_ge (by omega)).symm
      have e1 : (0 : Int) - rowZ l (R - i) = rowZ l (R - 1 - i) - rowZ l (R - i) := by omega
      rw [e1, zs_flat]
      refine ⟨⟨by simp, by omega, by omega, by omega⟩, by rw [pints_len]; omega, by rw [pints_len]; omega, ?_⟩
      exact fin _

theorem k_law_word {xs : List PD} {r : Int} {c : Int} {M : Mem} {Q : S → Mem → Prop} {E : Xc → Mem → Prop} : sp_law_word [.d (.tuple xs), .d (.int r), .d (.int c)] M Q E = (∃ (l : List Int) (R C : Nat), (xs = pints l ∧ r = R ∧ c = C ∧ Ins l R C ∧ R ≤ 10 ∧ C ≤ 10) ∧ Q (.d (.tuple (pints (bitsL l R C)))) M) := rfl
/-! _law_refused -/
abbrev s_law_refused : Stmt := topS 28
def N_law_refused : List Str := ["stair", "rows", "columns", "asks", "e", "kinds", "kind"]
theorem sc_law_refused : FnScope N_law_refused ["stair", "rows", "columns", "asks"] (defScope s_law_refused) := ⟨rfl, rfl, rfl, by decide +kernel, rfl, by decide +kernel, by decide +kernel⟩
def b_law_refused : Ss := .cons (.tryX (.cons (.cond (.var 3) (.cons (.expr (.call "fits" (.cons (.var 0) (.cons (.var 1) (.cons (.var 2) .nil))))) .nil) (.cons (.expr (.call "rest" (.cons (.var 0) (.cons (.var 1) (.cons (.var 2) .nil))))) .nil)) .nil) (.cons "StairError" 4 (.cons (.asg (.nm 5) (.fr (.disp (.cons (.isX (.var 4) ["InvalidStair"]) (.cons (.isX (.var 4) ["InvalidNumber"]) (.cons (.isX (.var 4) ["Undefined"]) .nil)))))) (.cons (.cond (.cmp .NotEq (.b1 .len (.fr (.comp (.var 6) (.nm 6) (.of (.var 5)) (.some (.var 6))))) (.cst (.int 1))) (.cons (.ret (.tup (.cons (.cst (.str "else")) (.cons (.cst (.str "")) .nil)))) .nil) (.nil)) (.cons (.cond (.ix (.var 5) (.cst (.int 2))) (.cons (.ret (.tup (.cons (.cst (.str "what")) (.cons (.xval (.var 4) "what") .nil)))) .nil) (.nil)) (.cons (.ret (.tup (.cons (.ite (.ix (.var 5) (.cst (.int 0))) (.cst (.str "stair")) (.cst (.str "number"))) (.cons (.b1 .repr (.xval (.var 4) "value")) .nil)))) .nil)))) (.nil))) (.cons (.ret (.tup (.cons (.cst (.str "told")) (.cons (.cst (.str "")) .nil)))) .nil)
theorem ub_law_refused : b_law_refused = .cons (.tryX (.cons (.cond (.var 3) (.cons (.expr (.call "fits" (.cons (.var 0) (.cons (.var 1) (.cons (.var 2) .nil))))) .nil) (.cons (.expr (.call "rest" (.cons (.var 0) (.cons (.var 1) (.cons (.var 2) .nil))))) .nil)) .nil) (.cons "StairError" 4 (.cons (.asg (.nm 5) (.fr (.disp (.cons (.isX (.var 4) ["InvalidStair"]) (.cons (.isX (.var 4) ["InvalidNumber"]) (.cons (.isX (.var 4) ["Undefined"]) .nil)))))) (.cons (.cond (.cmp .NotEq (.b1 .len (.fr (.comp (.var 6) (.nm 6) (.of (.var 5)) (.some (.var 6))))) (.cst (.int 1))) (.cons (.ret (.tup (.cons (.cst (.str "else")) (.cons (.cst (.str "")) .nil)))) .nil) (.nil)) (.cons (.cond (.ix (.var 5) (.cst (.int 2))) (.cons (.ret (.tup (.cons (.cst (.str "what")) (.cons (.xval (.var 4) "what") .nil)))) .nil) (.nil)) (.cons (.ret (.tup (.cons (.ite (.ix (.var 5) (.cst (.int 0))) (.cst (.str "stair")) (.cst (.str "number"))) (.cons (.b1 .repr (.xval (.var 4) "value")) .nil)))) .nil)))) (.nil))) (.cons (.ret (.tup (.cons (.cst (.str "told")) (.cons (.cst (.str "")) .nil)))) .nil) := rfl
theorem st_law_refused {x0 x1 x2 x3 : S} : startS N_law_refused [x0, x1, x2, x3] = [some x0, some x1, some x2, some x3, none, none, none] := rfl
def lib_law_refused : Lib := [("fits", ["stair", "rows", "columns"], sp_fits), ("rest", ["stair", "rows", "columns"], sp_rest)]
abbrev Γ_law_refused : G.Env := lib_law_refused.env (MroF tab)
theorem Φ_law_refused_fits : Γ_law_refused.Φ "fits" = some sp_fits := by rfl
theorem φ_law_refused_fits {P : FSpec → Prop} : (∃ φ, Γ_law_refused.Φ "fits" = some φ ∧ P φ) = P sp_fits := by rw [Φ_law_refused_fits]; exact ex_self
theorem Φ_law_refused_rest : Γ_law_refused.Φ "rest" = some sp_rest := by rfl
theorem φ_law_refused_rest {P : FSpec → Prop} : (∃ φ, Γ_law_refused.Φ "rest" = some φ ∧ P φ) = P sp_rest := by rw [Φ_law_refused_rest]; exact ex_self
theorem mr_law_refused_InvalidStair : Γ_law_refused.mro "InvalidStair" = some (["InvalidStair", "StairError", "ValueError"] : List Str) := by rfl
theorem mr_law_refused_InvalidNumber : Γ_law_refused.mro "InvalidNumber" = some (["InvalidNumber", "StairError", "ValueError"] : List Str) := by rfl
theorem mr_law_refused_Undefined : Γ_law_refused.mro "Undefined" = some (["Undefined", "StairError", "ValueError"] : List Str) := by rfl
local macro_rules | `(tactic| walk_at "law_refused") => `(tactic| simp (maxSteps := 1000000) only [ub_law_refused, st_law_refused, exits, Φ_law_refused_fits, Φ_law_refused_rest, ↓φ_law_refused_fits, ↓φ_law_refused_rest, ↓k_fits, ↓k_rest, mr_law_refused_InvalidStair, mr_law_refused_InvalidNumber, mr_law_refused_Undefined, cn_InvalidStair_StairError, cn_InvalidStair_Undefined, cn_InvalidStair_InvalidNumber, cn_InvalidStair_InvalidStair, cn_InvalidNumber_StairError, cn_InvalidNumber_Undefined, cn_InvalidNumber_InvalidNumber, cn_InvalidNumber_InvalidStair, cn_Undefined_StairError, cn_Undefined_Undefined, cn_Undefined_InvalidNumber, cn_Undefined_InvalidStair, ↓e_dnew', ↓e_ddisp', ↓dx_i, ↓dx_s, ↓dp_i, ↓dp_s, ↓yl_k, ↓yl_0, ↓yl_S, ↓yl_z, ↓c_isIN, ↓c_isBN, ↓c_isSN, ↓c_isTN, ↓c_isLN, ↓c_isRN, ↓c_isnIN, ↓c_isnBN, ↓c_isnSN, ↓c_isnTN, ↓c_isnLN, ↓c_isnRN, ↓c_eqSS, ↓c_neSS, ↓ex_pq, ↓c_eqT, ↓c_neT, ↓rng_3, ↓e_mtup', ↓ex_l, ↓xp_k, ↓xp_0, ↓xp_S, ↓xp_z, ↓s_unp, ↓rv_t, ↓rv_l, ↓rv_m, ↓po_m, ↓e_rev, ↓c_isbb, ↓c_isnbb, ↓f_lrng, ↓f_comp2, ↓s_parIx, ↓xv_0, ↓xv_S, ↓da_snoc, ↓da_app, ↓e_cst, ↓e_neg, ↓e_not, ↓e_and, ↓e_or, ↓e_ite, ↓e_bin, ↓e_cmp, ↓e_chain, ↓e_tup, ↓e_fr, ↓e_ix, ↓e_dix, ↓t_dix, ↓s_dput, ↓e_sl, ↓e_rev, ↓e_call, ↓e_callK, ↓e_b1, ↓e_b2, ↓e_isX, ↓e_xval, ↓e_get, ↓e_pop, ↓e_popAt, ↓e_index, ↓t_not, ↓t_and, ↓t_or, ↓a_nil, ↓a_cons, ↓o_none, ↓o_some, ↓c_none, ↓c_some, ↓f_disp, ↓f_comp, ↓f_comp2, ↓f_listOf, ↓i_of, ↓i_rng, ↓i_zip, ↓i_rev, ↓i_keys, i_keys, ↓t_var, ↓t_cst, ↓t_neg, ↓t_ite, ↓t_bin, ↓t_cmp, ↓t_chain, ↓t_tup, ↓t_fr, ↓t_al, ↓t_ddisp, ↓t_ix, ↓t_sl, ↓t_rev, ↓t_call, ↓t_callK, ↓t_b1, ↓t_b2, ↓t_isI, ↓t_isX, ↓t_xval, ↓t_get, ↓t_pop, ↓t_popAt, ↓t_index, ↓s_asg, ↓s_setIx, ↓s_augIx, ↓s_expr, ↓s_ret, ↓s_retN, ↓s_cond, ↓s_loop, ↓s_whl, ↓s_raise, ↓s_tryX, ↓s_pass, ↓s_brk, ↓s_cont, ↓b_nil, ↓b_cons, ↓h_nil, ↓r_add, ↓r_sub, ↓r_mul, ↓r_div, ↓r_mod, ↓r_pow, ↓r_shl, ↓r_cat, ↓r_cats, ↓r_rep, ↓r_lt, ↓r_le, ↓r_gt, ↓r_ge, ↓r_eqI, ↓r_neI, ↓r_augA, ↓r_augS, ↓r_augM, ↓tg_tpt, ↓tg_tpl, ↓tg_tpm, ↓tgs_nil, ↓tgs_cons, ↓turn_nx, ↓turn_ct, ↓turn_bk, ↓turn_rt, ↓turn_ex, ↓d_nil, ↓d_eq, ↓rng_1, ↓rng_2, ↓b_int, ↓b_intb, ↓b_bool, ↓b_boolb, ↓b_lent, ↓b_lenl, ↓b_tupt, ↓b_tupl, ↓b_str, ↓b_repr', ↓xp_d, ↓b_abs, ↓b_sum, ↓b_all, ↓b_any, ↓b_max, ↓b_min, ↓ix_t, ↓ix_l, ↓sl_t, ↓sl_l, ↓c_eqb, ↓c_neb, ↓c_isN, ↓c_isnN, ↓isx_eq, ↓xval_eq, ↓c_inT, ↓c_inL, ↓c_ninT, ↓c_ninL, ↓c_ltT, ↓c_leT, ↓c_gtT, ↓c_geT, ↓c_eqS, ↓c_neS, ↓b_lenm, ↓v_0, ↓v_S, ↓n_0, ↓n_S, ↓un_0, ↓un_S, ↓s_aug', ↓s_par', ↓h_cons', ↓xl_k, ↓xl_0, ↓xl_S, ↓xl_z, ↓mm_t, ↓mm_tk, ↓to_t, ↓md_k, ↓md_0, ↓mm_0, ↓mm_S, ↓nw_1, ↓nw_2, ↓nw_3, ↓nw_4, ↓nw_5, ↓e_al', ↓ix_m', ↓b_tupm', ↓sl_m', ↓ex_map, ↓ap_l, ↓s_app', ↓xt_l, ↓s_ext', ↓in_l, ↓s_ins', ↓p_put', ↓wt_d, ↓wt_k, ↓wt_k0, ↓to_S, ↓to_z, ↓e_isI1, ↓e_isI2, ↓ex_tb, ↓ex_ti, ↓ex_tn, ↓ex_tt, ↓ex_tl, ↓ex_i, ↓ex_B, ↓xd_nil, ↓xd_cons, ↓xd_map, ↓xi_t, ↓xi_l, ↓xi_m, ↓f_cat', ↓f_rep', ↓f_slice', nw_0, e_var, e_cst, e_neg, e_not, e_and, e_or, e_ite, e_bin, e_cmp, e_chain, e_tup, e_fr, e_al, e_ix, e_sl, e_rev, e_call, e_callK, e_b1, e_b2, e_isI, e_isX, e_xval, e_get, e_pop, e_popAt, e_index, t_not, t_and, t_or, a_nil, a_cons, o_none, o_some, c_none, c_some, f_disp, f_comp, f_comp2, f_listOf, f_cat, f_rep, f_slice, i_of, i_rng, i_enum, i_zip, i_rev, t_var, t_cst, t_neg, t_ite, t_bin, t_cmp, t_chain, t_tup, t_fr, t_al, t_ddisp, t_ix, t_sl, t_rev, t_call, t_callK, t_b1, t_b2, t_isI, t_isX, t_xval, t_get, t_pop, t_popAt, t_index, s_asg, s_setIx, e_dnew, e_dix, s_dput, t_dnew, t_dix, s_par, s_aug, s_augIx, s_expr, s_app, s_ext, s_ins, s_ret, s_retN, s_cond, s_loop, s_whl, s_raise, s_tryX, s_pass, s_brk, s_cont, b_nil, b_cons, h_nil, h_cons, r_add, r_sub, r_mul, r_div, r_mod, r_pow, r_shl, r_cat, r_cats, r_rep, r_lt, r_le, r_gt, r_ge, r_eqI, r_neI, tr_bool, tr_int, tr_none, tr_tuple, tr_list, r_augA, r_augS, r_augM, m_get, m_get0, m_set, m_set0, ex_v, ex_k, ex_lst, tg_nm, tg_tpt, tg_tpl, tg_tpm, tgs_nil, tgs_cons, tgAt_eq, List.getElem?_cons_succ, List.getElem?_cons_zero, List.set_cons_succ, List.set_cons_zero, List.length_append, List.length_cons, List.length_nil, List.append_assoc, List.cons_append, List.nil_append, decide_eq_true_eq, I, B, N0, S.l.injEq, S.d.injEq, Option.some.injEq, MO.lst.injEq, exists_eq_left', exists_and_left, mapM_d, Bool.false_eq_true, isT_int_none, isT_int_bool, isT_int_int, isT_int_str, isT_int_list, isT_int_tuple, isT_int_dict, isT_bool_none, isT_bool_bool, isT_bool_int, isT_bool_str, isT_bool_list, isT_bool_tuple, isT_bool_dict, isT_str_none, isT_str_bool, isT_str_int, isT_str_str, isT_str_list, isT_str_tuple, isT_str_dict, isT_list_none, isT_list_bool, isT_list_int, isT_list_str, isT_list_list, isT_list_tuple, isT_list_dict, isT_tuple_none, isT_tuple_bool, isT_tuple_int, isT_tuple_str, isT_tuple_list, isT_tuple_tuple, isT_tuple_dict, isT_dict_none, isT_dict_bool, isT_dict_int, isT_dict_str, isT_dict_list, isT_dict_tuple, isT_dict_dict, at_0, at_1, mapM_s, List.map_cons, List.map_nil, List.any_cons, List.any_nil, id_eq, Bool.or_false, Bool.not_true, Bool.not_false, ↓reduceIte, turn_nx, turn_ct, turn_bk, turn_rt, turn_ex, ty_m, Int.zero_add, d_nil, d_eq, rng_1, rng_2, b_int, b_intb, b_bool, b_boolb, b_lent, b_lenl, b_lenm, b_tupt, b_tupl, b_tupm, b_str, b_repr', b_abs, b_sum, b_all, b_any, b_max, b_min, ix_t, ix_l, ix_m, sl_t, sl_l, sl_m, ty_d, it_t, it_l, pd_d, c_eqb, c_neb, c_isN, c_isnN, isx_eq, xval_eq, true_and, and_true, List.append_nil, wipeS, tgSlots, tgSlotss, c_inT, c_inL, c_ninT, c_ninL, c_ltT, c_leT, c_gtT, c_geT, it_k, it_k0, ty_k, ty_k0, lo_1, to_1, to_2, beq_self_eq_true, sd_inj, da_nil, da_cons, da_map, Option.map_some, p_put, Nat.reduceAdd, Int.reduceEq, Int.reduceLT, Int.reduceLE, f_lrng, f_comp2, e_indexT, s_parIx, s_any, gt_t, gt_tk, c_noneF, c_eqS, c_neS, eq_self, decide_true, decide_false, pints_len, itm_len, sz_0, sz_1, sz_2, sz_3, sz_4, sz_5, sz_6, sz_7, sz_8, int?_d, ok_of_d, ex_self, Nat.zero_add])
theorem lm_law_refused : ∀ p ∈ lib_law_refused, ∀ vs, Mono (p.2.2 vs) := by
  intro p hp
  simp only [lib_law_refused, List.mem_cons, List.not_mem_nil, or_false] at hp
  rcases hp with rfl | rfl
  · exact mo_fits
  · exact mo_rest
theorem mb_law_refused (s : Ss) : MonoS (wSs Γ_law_refused s) := mSs s _ (Lib.mo lm_law_refused)
theorem ck_law_refused : kSs b_law_refused ⟨N_law_refused, defScope s_law_refused, lib_law_refused.fs, kws, cs, hs, true⟩ (defBody s_law_refused) = true := by decide +kernel
theorem bd_law_refused : Bd "_law_refused" s_law_refused ["stair", "rows", "columns", "asks"] := fun _ _ _ _ _ _ us hl => match us, hl with | [_, _, _, _], _ => rfl
theorem kb_law_refused : ∀ q ∈ kws, q.1 = "_law_refused" → BdK "_law_refused" s_law_refused ["stair", "rows", "columns", "asks"] q.2.1 q.2.2 := by
  intro q hq
  cases hq
def st' (x : String) : Str := Str.ofString x
/-- how a call ends: its kind -/
def refA (v r c : PD) (b : Bool) : Str := if isStairD v = false then st' "stair" else if isNumD r = false then st' "number" else if isNumD c = false then st' "number" else if b = true then st' "told" else if insD v r c = false then st' "what" else st' "told"
def refB (v r c : PD) (b : Bool) : Str := if isStairD v = false then v.shown else if isNumD r = false then r.shown else if isNumD c = false then c.shown else if b = true then st' "" else if insD v r c = false then st' "box" else st' ""
def sp_law_refused : FSpec := fun vs M Q E => match vs with
  | [.d v, .d r, .d c, .d (.bool b)] => ((tupLen v ∧ small r) ∧ RpOk v ∧ RpOk r ∧ RpOk c) ∧ Q (.d (.tuple [.str (refA v r c b), .str (refB v r c b)])) M
  | _ => False
theorem mo_law_refused : ∀ vs, Mono (sp_law_refused vs) := by
  intro vs M Q Q' X X' hq hx
  unfold sp_law_refused
  (try split) <;> (repeat' first | exact id | exact hq _ _ | exact hx _ _ | refine And.imp ?_ ?_ | refine Exists.imp (fun _ => ?_) | refine forall_imp (fun _ => ?_) | split)
theorem w_law_refused : ∀ (ss : List S) (M : Mem) (Q : S → Mem → Prop) (E : Xc → Mem → Prop), ss.length = 4 → sp_law_refused ss M Q E → wSs Γ_law_refused b_law_refused (startS N_law_refused ss) M (exits M Q E) := by
  intro ss M Q E hl h
  unfold sp_law_refused at h
  split at h
  case h_2 => exact h.elim
  rename_i v r c b
  obtain ⟨⟨⟨h1, h2⟩, h3, h4, h5⟩, h⟩ := h
  walk_at "law_refused"
  have kinds : ∀ {Γ' : G.Env} {r1 r2 r3 r4 r5 r6 r7 : Option S} {x1 x2 x3 : Bool} {K : List S → Mem → Prop} {E' : Xc → Mem → Prop}, K (([x1, x2, x3].filter id).map fun b => S.d (.bool b)) M →
      wLc (tgAt (Tg.nm 6) [r1, r2, r3, r4, r5, r6, r7]) (fun _ => True) (wC Γ' (Oe.some (G.E.var 6))) (G.wE Γ' (G.E.var 6)) [Itm.one (S.d (.bool x1)), Itm.one (S.d (.bool x2)), Itm.one (S.d (.bool x3))] [] M K E' := by
    intro Γ' r1 r2 r3 r4 r5 r6 r7 x1 x2 x3 K E' q
    refine lc_gen (α := Bool) (it := fun b => Itm.one (S.d (.bool b))) (st := fun b => [r1, r2, r3, r4, r5, r6, some (S.d (.bool b))]) (p := id) (f := fun b => S.d (.bool b)) trivial [x1, x2, x3] (fun y _ K k => ?_) (fun y _ Q q => ?_) (fun y _ hy Q q => ?_) (acc := []) (by simpa using q)
    · simp only [tgAt, wTg]
      exact k
    · walk_at "law_refused"
      exact q
    · walk_at "law_refused"
      exact q
  cases b with
  | true =>
    refine (if_pos rfl).mpr ⟨h1, ?_⟩
    refine iteI (fun e1 a dd => kinds ?_) (fun e1 => iteI (fun e2 a dd => kinds ?_) (fun e2 => iteI (fun e3 a dd => kinds ?_) (fun e3 => ?_)))
    · refine ⟨_, rfl, (if_neg (by decide)).mpr ⟨_, rfl, _, rfl, (if_neg (by decide)).mpr ⟨h3, ret_here ?_⟩⟩⟩
      simp only [refA, refB, if_pos e1] at h
      exact h
    · refine ⟨_, rfl, (if_neg (by decide)).mpr ⟨_, rfl, _, rfl, (if_neg (by decide)).mpr ⟨h4, ret_here ?_⟩⟩⟩
      simp only [refA, refB, if_neg e1, if_pos e2] at h
      exact h
    · refine ⟨_, rfl, (if_neg (by decide)).mpr ⟨_, rfl, _, rfl, (if_neg (by decide)).mpr ⟨h5, ret_here ?_⟩⟩⟩
      simp only [refA, refB, if_neg e1, if_neg e2, if_pos e3] at h
      exact h
    · simp only [refA, refB, if_neg e1, if_neg e2, if_neg e3] at h
      exact ret_here h
  | false =>
    refine (if_neg (by decide)).mpr ⟨⟨h1, h2⟩, ?_⟩
    refine iteI (fun e1 a dd => kinds ?_) (fun e1 => iteI (fun e2 a dd => kinds ?_) (fun e2 => iteI (fun e3 a dd => kinds ?_) (fun e3 => iteI (fun e4 a dd => kinds ?_) (fun e4 => ?_))))
    · refine ⟨_, rfl, (if_neg (by decide)).mpr ⟨_, rfl, _, rfl, (if_neg (by decide)).mpr ⟨h3, ret_here ?_⟩⟩⟩
      simp only [refA, refB, if_pos e1] at h
      exact h
    · refine ⟨_, rfl, (if_neg (by decide)).mpr ⟨_, rfl, _, rfl, (if_neg (by decide)).mpr ⟨h4, ret_here ?_⟩⟩⟩
      simp only [refA, refB, if_neg e1, if_pos e2] at h
      exact h
    · refine ⟨_, rfl, (if_neg (by decide)).mpr ⟨_, rfl, _, rfl, (if_neg (by decide)).mpr ⟨h5, ret_here ?_⟩⟩⟩
      simp only [refA, refB, if_neg e1, if_neg e2, if_pos e3] at h
      exact h
    · simp only [refA, refB, if_neg e1, if_neg e2, if_neg e3, if_pos e4] at h
      exact ⟨_, rfl, (if_neg (by decide)).mpr ⟨_, rfl, _, rfl, (if_pos rfl).mpr (ret_here h)⟩⟩
    · simp only [refA, refB, if_neg e1, if_neg e2, if_neg e3, if_neg e4] at h
      exact ret_here h

theorem k_law_refused {v : PD} {r : PD} {c : PD} {b : Bool} {M : Mem} {Q : S → Mem → Prop} {E : Xc → Mem → Prop} : sp_law_refused [.d v, .d r, .d c, .d (.bool b)] M Q E = (((tupLen v ∧ small r) ∧ RpOk v ∧ RpOk r ∧ RpOk c) ∧ Q (.d (.tuple [.str (refA v r c b), .str (refB v r c b)])) M) := rfl
/-! _law_refuses -/
abbrev s_law_refuses : Stmt := topS 29
def N_law_refuses : List Str := ["stair", "rows", "columns", "due"]
theorem sc_law_refuses : FnScope N_law_refuses ["stair", "rows", "columns", "due"] (defScope s_law_refuses) := ⟨rfl, rfl, rfl, by decide +kernel, rfl, by decide +kernel, by decide +kernel⟩
def b_law_refuses : Ss := .cons (.ret (.and (.cmp .Eq (.call "_law_refused" (.cons (.var 0) (.cons (.var 1) (.cons (.var 2) (.cons (.cst (.bool true)) .nil))))) (.var 3)) (.cmp .Eq (.call "_law_refused" (.cons (.var 0) (.cons (.var 1) (.cons (.var 2) (.cons (.cst (.bool false)) .nil))))) (.var 3)))) .nil
theorem ub_law_refuses : b_law_refuses = .cons (.ret (.and (.cmp .Eq (.call "_law_refused" (.cons (.var 0) (.cons (.var 1) (.cons (.var 2) (.cons (.cst (.bool true)) .nil))))) (.var 3)) (.cmp .Eq (.call "_law_refused" (.cons (.var 0) (.cons (.var 1) (.cons (.var 2) (.cons (.cst (.bool false)) .nil))))) (.var 3)))) .nil := rfl
theorem st_law_refuses {x0 x1 x2 x3 : S} : startS N_law_refuses [x0, x1, x2, x3] = [some x0, some x1, some x2, some x3] := rfl
def lib_law_refuses : Lib := [("_law_refused", ["stair", "rows", "columns", "asks"], sp_law_refused)]
abbrev Γ_law_refuses : G.Env := lib_law_refuses.env (MroF tab)
theorem Φ_law_refuses_law_refused : Γ_law_refuses.Φ "_law_refused" = some sp_law_refused := by rfl
theorem φ_law_refuses_law_refused {P : FSpec → Prop} : (∃ φ, Γ_law_refuses.Φ "_law_refused" = some φ ∧ P φ) = P sp_law_refused := by rw [Φ_law_refuses_law_refused]; exact ex_self
local macro_rules | `(tactic| walk_at "law_refuses") => `(tactic| simp (maxSteps := 1000000) only [ub_law_refuses, st_law_refuses, exits, Φ_law_refuses_law_refused, ↓φ_law_refuses_law_refused, ↓k_law_refused, ↓e_dnew', ↓e_ddisp', ↓dx_i, ↓dx_s, ↓dp_i, ↓dp_s, ↓yl_k, ↓yl_0, ↓yl_S, ↓yl_z, ↓c_isIN, ↓c_isBN, ↓c_isSN, ↓c_isTN, ↓c_isLN, ↓c_isRN, ↓c_isnIN, ↓c_isnBN, ↓c_isnSN, ↓c_isnTN, ↓c_isnLN, ↓c_isnRN, ↓c_eqSS, ↓c_neSS, ↓ex_pq, ↓c_eqT, ↓c_neT, ↓rng_3, ↓e_mtup', ↓ex_l, ↓xp_k, ↓xp_0, ↓xp_S, ↓xp_z, ↓s_unp, ↓rv_t, ↓rv_l, ↓rv_m, ↓po_m, ↓e_rev, ↓c_isbb, ↓c_isnbb, ↓f_lrng, ↓f_comp2, ↓s_parIx, ↓xv_0, ↓xv_S, ↓da_snoc, ↓da_app, ↓e_cst, ↓e_neg, ↓e_not, ↓e_and, ↓e_or, ↓e_ite, ↓e_bin, ↓e_cmp, ↓e_chain, ↓e_tup, ↓e_fr, ↓e_ix, ↓e_dix, ↓t_dix, ↓s_dput, ↓e_sl, ↓e_rev, ↓e_call, ↓e_callK, ↓e_b1, ↓e_b2, ↓e_isX, ↓e_xval, ↓e_get, ↓e_pop, ↓e_popAt, ↓e_index, ↓t_not, ↓t_and, ↓t_or, ↓a_nil, ↓a_cons, ↓o_none, ↓o_some, ↓c_none, ↓c_some, ↓f_disp, ↓f_comp, ↓f_comp2, ↓f_listOf, ↓i_of, ↓i_rng, ↓i_zip, ↓i_rev, ↓i_keys, i_keys, ↓t_var, ↓t_cst, ↓t_neg, ↓t_ite, ↓t_bin, ↓t_cmp, ↓t_chain, ↓t_tup, ↓t_fr, ↓t_al, ↓t_ddisp, ↓t_ix, ↓t_sl, ↓t_rev, ↓t_call, ↓t_callK, ↓t_b1, ↓t_b2, ↓t_isI, ↓t_isX, ↓t_xval, ↓t_get, ↓t_pop, ↓t_popAt, ↓t_index, ↓s_asg, ↓s_setIx, ↓s_augIx, ↓s_expr, ↓s_ret, ↓s_retN, ↓s_cond, ↓s_loop, ↓s_whl, ↓s_raise, ↓s_tryX, ↓s_pass, ↓s_brk, ↓s_cont, ↓b_nil, ↓b_cons, ↓h_nil, ↓r_add, ↓r_sub, ↓r_mul, ↓r_div, ↓r_mod, ↓r_pow, ↓r_shl, ↓r_cat, ↓r_cats, ↓r_rep, ↓r_lt, ↓r_le, ↓r_gt, ↓r_ge, ↓r_eqI, ↓r_neI, ↓r_augA, ↓r_augS, ↓r_augM, ↓tg_tpt, ↓tg_tpl, ↓tg_tpm, ↓tgs_nil, ↓tgs_cons, ↓turn_nx, ↓turn_ct, ↓turn_bk, ↓turn_rt, ↓turn_ex, ↓d_nil, ↓d_eq, ↓rng_1, ↓rng_2, ↓b_int, ↓b_intb, ↓b_bool, ↓b_boolb, ↓b_lent, ↓b_lenl, ↓b_tupt, ↓b_tupl, ↓b_str, ↓b_repr', ↓xp_d, ↓b_abs, ↓b_sum, ↓b_all, ↓b_any, ↓b_max, ↓b_min, ↓ix_t, ↓ix_l, ↓sl_t, ↓sl_l, ↓c_eqb, ↓c_neb, ↓c_isN, ↓c_isnN, ↓isx_eq, ↓xval_eq, ↓c_inT, ↓c_inL, ↓c_ninT, ↓c_ninL, ↓c_ltT, ↓c_leT, ↓c_gtT, ↓c_geT, ↓c_eqS, ↓c_neS, ↓b_lenm, ↓v_0, ↓v_S, ↓n_0, ↓n_S, ↓un_0, ↓un_S, ↓s_aug', ↓s_par', ↓h_cons', ↓xl_k, ↓xl_0, ↓xl_S, ↓xl_z, ↓mm_t, ↓mm_tk, ↓to_t, ↓md_k, ↓md_0, ↓mm_0, ↓mm_S, ↓nw_1, ↓nw_2, ↓nw_3, ↓nw_4, ↓nw_5, ↓e_al', ↓ix_m', ↓b_tupm', ↓sl_m', ↓ex_map, ↓ap_l, ↓s_app', ↓xt_l, ↓s_ext', ↓in_l, ↓s_ins', ↓p_put', ↓wt_d, ↓wt_k, ↓wt_k0, ↓to_S, ↓to_z, ↓e_isI1, ↓e_isI2, ↓ex_tb, ↓ex_ti, ↓ex_tn, ↓ex_tt, ↓ex_tl, ↓ex_i, ↓ex_B, ↓xd_nil, ↓xd_cons, ↓xd_map, ↓xi_t, ↓xi_l, ↓xi_m, ↓f_cat', ↓f_rep', ↓f_slice', nw_0, e_var, e_cst, e_neg, e_not, e_and, e_or, e_ite, e_bin, e_cmp, e_chain, e_tup, e_fr, e_al, e_ix, e_sl, e_rev, e_call, e_callK, e_b1, e_b2, e_isI, e_isX, e_xval, e_get, e_pop, e_popAt, e_index, t_not, t_and, t_or, a_nil, a_cons, o_none, o_some, c_none, c_some, f_disp, f_comp, f_comp2, f_listOf, f_cat, f_rep, f_slice, i_of, i_rng, i_enum, i_zip, i_rev, t_var, t_cst, t_neg, t_ite, t_bin, t_cmp, t_chain, t_tup, t_fr, t_al, t_ddisp, t_ix, t_sl, t_rev, t_call, t_callK, t_b1, t_b2, t_isI, t_isX, t_xval, t_get, t_pop, t_popAt, t_index, s_asg, s_setIx, e_dnew, e_dix, s_dput, t_dnew, t_dix, s_par, s_aug, s_augIx, s_expr, s_app, s_ext, s_ins, s_ret, s_retN, s_cond, s_loop, s_whl, s_raise, s_tryX, s_pass, s_brk, s_cont, b_nil, b_cons, h_nil, h_cons, r_add, r_sub, r_mul, r_div, r_mod, r_pow, r_shl, r_cat, r_cats, r_rep, r_lt, r_le, r_gt, r_ge, r_eqI, r_neI, tr_bool, tr_int, tr_none, tr_tuple, tr_list, r_augA, r_augS, r_augM, m_get, m_get0, m_set, m_set0, ex_v, ex_k, ex_lst, tg_nm, tg_tpt, tg_tpl, tg_tpm, tgs_nil, tgs_cons, tgAt_eq, List.getElem?_cons_succ, List.getElem?_cons_zero, List.set_cons_succ, List.set_cons_zero, List.length_append, List.length_cons, List.length_nil, List.append_assoc, List.cons_append, List.nil_append, decide_eq_true_eq, I, B, N0, S.l.injEq, S.d.injEq, Option.some.injEq, MO.lst.injEq, exists_eq_left', exists_and_left, mapM_d, Bool.false_eq_true, isT_int_none, isT_int_bool, isT_int_int, isT_int_str, isT_int_list, isT_int_tuple, isT_int_dict, isT_bool_none, isT_bool_bool, isT_bool_int, isT_bool_str, isT_bool_list, isT_bool_tuple, isT_bool_dict, isT_str_none, isT_str_bool, isT_str_int, isT_str_str, isT_str_list, isT_str_tuple, isT_str_dict, isT_list_none, isT_list_bool, isT_list_int, isT_list_str, isT_list_list, isT_list_tuple, isT_list_dict, isT_tuple_none, isT_tuple_bool, isT_tuple_int, isT_tuple_str, isT_tuple_list, isT_tuple_tuple, isT_tuple_dict, isT_dict_none, isT_dict_bool, isT_dict_int, isT_dict_str, isT_dict_list, isT_dict_tuple, isT_dict_dict, at_0, at_1, mapM_s, List.map_cons, List.map_nil, List.any_cons, List.any_nil, id_eq, Bool.or_false, Bool.not_true, Bool.not_false, ↓reduceIte, turn_nx, turn_ct, turn_bk, turn_rt, turn_ex, ty_m, Int.zero_add, d_nil, d_eq, rng_1, rng_2, b_int, b_intb, b_bool, b_boolb, b_lent, b_lenl, b_lenm, b_tupt, b_tupl, b_tupm, b_str, b_repr', b_abs, b_sum, b_all, b_any, b_max, b_min, ix_t, ix_l, ix_m, sl_t, sl_l, sl_m, ty_d, it_t, it_l, pd_d, c_eqb, c_neb, c_isN, c_isnN, isx_eq, xval_eq, true_and, and_true, List.append_nil, wipeS, tgSlots, tgSlotss, c_inT, c_inL, c_ninT, c_ninL, c_ltT, c_leT, c_gtT, c_geT, it_k, it_k0, ty_k, ty_k0, lo_1, to_1, to_2, beq_self_eq_true, sd_inj, da_nil, da_cons, da_map, Option.map_some, p_put, Nat.reduceAdd, Int.reduceEq, Int.reduceLT, Int.reduceLE, f_lrng, f_comp2, e_indexT, s_parIx, s_any, gt_t, gt_tk, c_noneF, c_eqS, c_neS, eq_self, decide_true, decide_false, pints_len, itm_len, sz_0, sz_1, sz_2, sz_3, sz_4, sz_5, sz_6, sz_7, sz_8, int?_d, ok_of_d, ex_self, Nat.zero_add])
theorem lm_law_refuses : ∀ p ∈ lib_law_refuses, ∀ vs, Mono (p.2.2 vs) := by
  intro p hp
  simp only [lib_law_refuses, List.mem_cons, List.not_mem_nil, or_false] at hp
  subst hp
  exact mo_law_refused
theorem mb_law_refuses (s : Ss) : MonoS (wSs Γ_law_refuses s) := mSs s _ (Lib.mo lm_law_refuses)
theorem ck_law_refuses : kSs b_law_refuses ⟨N_law_refuses, defScope s_law_refuses, lib_law_refuses.fs, kws, cs, hs, true⟩ (defBody s_law_refuses) = true := by decide +kernel
theorem bd_law_refuses : Bd "_law_refuses" s_law_refuses ["stair", "rows", "columns", "due"] := fun _ _ _ _ _ _ us hl => match us, hl with | [_, _, _, _], _ => rfl
theorem kb_law_refuses : ∀ q ∈ kws, q.1 = "_law_refuses" → BdK "_law_refuses" s_law_refuses ["stair", "rows", "columns", "due"] q.2.1 q.2.2 := by
  intro q hq
  cases hq
def sp_law_refuses : FSpec := fun vs M Q E => match vs with
  | [.d v, .d r, .d c, .d (.tuple [.str p, .str q])] => ((tupLen v ∧ small r) ∧ (RpOk v ∧ RpOk r ∧ RpOk c) ∧ ∀ b, refA v r c b = p ∧ refB v r c b = q) ∧ Q (B true) M
  | _ => False
theorem mo_law_refuses : ∀ vs, Mono (sp_law_refuses vs) := by
  intro vs M Q Q' X X' hq hx
  unfold sp_law_refuses
  (try split) <;> (repeat' first | exact id | exact hq _ _ | exact hx _ _ | refine And.imp ?_ ?_ | refine Exists.imp (fun _ => ?_) | refine forall_imp (fun _ => ?_) | split)
theorem w_law_refuses : ∀ (ss : List S) (M : Mem) (Q : S → Mem → Prop) (E : Xc → Mem → Prop), ss.length = 4 → sp_law_refuses ss M Q E → wSs Γ_law_refuses b_law_refuses (startS N_law_refuses ss) M (exits M Q E) := by
  intro ss M Q E hl h
  unfold sp_law_refuses at h
  split at h
  case h_2 => exact h.elim
  rename_i v r c p q
  obtain ⟨⟨h1, h2, h3⟩, h⟩ := h
  walk_at "law_refuses"
  refine ⟨⟨h1, h2⟩, (if_pos (h3 true)).mpr ⟨⟨h1, h2⟩, ?_⟩⟩
  rw [decide_eq_true (h3 false)]
  exact ret_here h

theorem k_law_refuses {v : PD} {r : PD} {c : PD} {p : Str} {q : Str} {M : Mem} {Q : S → Mem → Prop} {E : Xc → Mem → Prop} : sp_law_refuses [.d v, .d r, .d c, .d (.tuple [.str p, .str q])] M Q E = (((tupLen v ∧ small r) ∧ (RpOk v ∧ RpOk r ∧ RpOk c) ∧ ∀ b, refA v r c b = p ∧ refB v r c b = q) ∧ Q (B true) M) := rfl
/-! _law_wrong -/
abbrev s_law_wrong : Stmt := topS 30
def N_law_wrong : List Str := ["draw", "stair", "rows", "columns", "bad", "one", "other", "wrong"]
theorem sc_law_wrong : FnScope N_law_wrong ["draw", "stair", "rows", "columns"] (defScope s_law_wrong) := ⟨rfl, rfl, rfl, by decide +kernel, rfl, by decide +kernel, by decide +kernel⟩
def b_law_wrong : Ss := .cons (.asg (.nm 4) (.fr (.disp (.cons (.neg (.cst (.int 1))) (.cons (.cst (.bool true)) (.cons (.cst .none) (.cons (.cst (.str "3")) (.cons (.tup (.cons (.cst (.int 2)) .nil)) (.cons (.fr (.disp (.nil))) (.cons (.cst (.bool false)) (.cons (.neg (.bin .Pow (.cst (.int 10)) (.cst (.int 20)))) .nil))))))))))) (.cons (.asg (.nm 5) (.ix (.var 4) (.call "_law_pick" (.cons (.var 0) (.cons (.b1 .len (.var 4)) .nil))))) (.cons (.asg (.nm 6) (.ix (.var 4) (.call "_law_pick" (.cons (.var 0) (.cons (.b1 .len (.var 4)) .nil))))) (.cons (.asg (.nm 7) (.ix (.fr (.disp (.cons (.fr (.listOf (.var 1))) (.cons (.tup (.cons (.cst (.int 1)) (.cons (.cst (.int 2)) .nil))) (.cons (.bin .Add (.var 1) (.tup (.cons (.cst (.int 0)) .nil))) (.cons (.bin .Add (.var 1) (.tup (.cons (.cst (.bool true)) .nil))) (.cons (.cst (.int 4)) (.cons (.cst .none) (.cons (.tup (.cons (.neg (.cst (.int 1))) .nil)) .nil))))))))) (.call "_law_pick" (.cons (.var 0) (.cons (.cst (.int 7)) .nil))))) (.cons (.cond (.not (.call "_law_refuses" (.cons (.var 7) (.cons (.var 5) (.cons (.var 6) (.cons (.tup (.cons (.cst (.str "stair")) (.cons (.b1 .repr (.var 7)) .nil))) .nil)))))) (.cons (.ret (.cst (.bool false))) .nil) (.nil)) (.cons (.cond (.not (.call "_law_refuses" (.cons (.var 7) (.cons (.var 2) (.cons (.var 3) (.cons (.tup (.cons (.cst (.str "stair")) (.cons (.b1 .repr (.var 7)) .nil))) .nil)))))) (.cons (.ret (.cst (.bool false))) .nil) (.nil)) (.cons (.cond (.not (.call "_law_refuses" (.cons (.var 1) (.cons (.var 5) (.cons (.var 6) (.cons (.tup (.cons (.cst (.str "number")) (.cons (.b1 .repr (.var 5)) .nil))) .nil)))))) (.cons (.ret (.cst (.bool false))) .nil) (.nil)) (.cons (.cond (.not (.call "_law_refuses" (.cons (.var 1) (.cons (.var 5) (.cons (.var 3) (.cons (.tup (.cons (.cst (.str "number")) (.cons (.b1 .repr (.var 5)) .nil))) .nil)))))) (.cons (.ret (.cst (.bool false))) .nil) (.nil)) (.cons (.ret (.call "_law_refuses" (.cons (.var 1) (.cons (.var 2) (.cons (.var 6) (.cons (.tup (.cons (.cst (.str "number")) (.cons (.b1 .repr (.var 6)) .nil))) .nil)))))) .nil))))))))
theorem ub_law_wrong : b_law_wrong = .cons (.asg (.nm 4) (.fr (.disp (.cons (.neg (.cst (.int 1))) (.cons (.cst (.bool true)) (.cons (.cst .none) (.cons (.cst (.str "3")) (.cons (.tup (.cons (.cst (.int 2)) .nil)) (.cons (.fr (.disp (.nil))) (.cons (.cst (.bool false)) (.cons (.neg (.bin .Pow (.cst (.int 10)) (.cst (.int 20)))) .nil))))))))))) (.cons (.asg (.nm 5) (.ix (.var 4) (.call "_law_pick" (.cons (.var 0) (.cons (.b1 .len (.var 4)) .nil))))) (.cons (.asg (.nm 6) (.ix (.var 4) (.call "_law_pick" (.cons (.var 0) (.cons (.b1 .len (.var 4)) .nil))))) (.cons (.asg (.nm 7) (.ix (.fr (.disp (.cons (.fr (.listOf (.var 1))) (.cons (.tup (.cons (.cst (.int 1)) (.cons (.cst (.int 2)) .nil))) (.cons (.bin .Add (.var 1) (.tup (.cons (.cst (.int 0)) .nil))) (.cons (.bin .Add (.var 1) (.tup (.cons (.cst (.bool true)) .nil))) (.cons (.cst (.int 4)) (.cons (.cst .none) (.cons (.tup (.cons (.neg (.cst (.int 1))) .nil)) .nil))))))))) (.call "_law_pick" (.cons (.var 0) (.cons (.cst (.int 7)) .nil))))) (.cons (.cond (.not (.call "_law_refuses" (.cons (.var 7) (.cons (.var 5) (.cons (.var 6) (.cons (.tup (.cons (.cst (.str "stair")) (.cons (.b1 .repr (.var 7)) .nil))) .nil)))))) (.cons (.ret (.cst (.bool false))) .nil) (.nil)) (.cons (.cond (.not (.call "_law_refuses" (.cons (.var 7) (.cons (.var 2) (.cons (.var 3) (.cons (.tup (.cons (.cst (.str "stair")) (.cons (.b1 .repr (.var 7)) .nil))) .nil)))))) (.cons (.ret (.cst (.bool false))) .nil) (.nil)) (.cons (.cond (.not (.call "_law_refuses" (.cons (.var 1) (.cons (.var 5) (.cons (.var 6) (.cons (.tup (.cons (.cst (.str "number")) (.cons (.b1 .repr (.var 5)) .nil))) .nil)))))) (.cons (.ret (.cst (.bool false))) .nil) (.nil)) (.cons (.cond (.not (.call "_law_refuses" (.cons (.var 1) (.cons (.var 5) (.cons (.var 3) (.cons (.tup (.cons (.cst (.str "number")) (.cons (.b1 .repr (.var 5)) .nil))) .nil)))))) (.cons (.ret (.cst (.bool false))) .nil) (.nil)) (.cons (.ret (.call "_law_refuses" (.cons (.var 1) (.cons (.var 2) (.cons (.var 6) (.cons (.tup (.cons (.cst (.str "number")) (.cons (.b1 .repr (.var 6)) .nil))) .nil)))))) .nil)))))))) := rfl
theorem st_law_wrong {x0 x1 x2 x3 : S} : startS N_law_wrong [x0, x1, x2, x3] = [some x0, some x1, some x2, some x3, none, none, none, none] := rfl
def lib_law_wrong : Lib := [("_law_refuses", ["stair", "rows", "columns", "due"], sp_law_refuses), ("_law_pick", ["draw", "many"], sp_law_pick)]
abbrev Γ_law_wrong : G.Env := lib_law_wrong.env (MroF tab)
theorem Φ_law_wrong_law_refuses : Γ_law_wrong.Φ "_law_refuses" = some sp_law_refuses := by rfl
theorem φ_law_wrong_law_refuses {P : FSpec → Prop} : (∃ φ, Γ_law_wrong.Φ "_law_refuses" = some φ ∧ P φ) = P sp_law_refuses := by rw [Φ_law_wrong_law_refuses]; exact ex_self
theorem Φ_law_wrong_law_pick : Γ_law_wrong.Φ "_law_pick" = some sp_law_pick := by rfl
theorem φ_law_wrong_law_pick {P : FSpec → Prop} : (∃ φ, Γ_law_wrong.Φ "_law_pick" = some φ ∧ P φ) = P sp_law_pick := by rw [Φ_law_wrong_law_pick]; exact ex_self
local macro_rules | `(tactic| walk_at "law_wrong") => `(tactic| simp (maxSteps := 1000000) only [ub_law_wrong, st_law_wrong, exits, Φ_law_wrong_law_refuses, Φ_law_wrong_law_pick, ↓φ_law_wrong_law_refuses, ↓φ_law_wrong_law_pick, ↓k_law_refuses, ↓k_law_pick, ↓e_dnew', ↓e_ddisp', ↓dx_i, ↓dx_s, ↓dp_i, ↓dp_s, ↓yl_k, ↓yl_0, ↓yl_S, ↓yl_z, ↓c_isIN, ↓c_isBN, ↓c_isSN, ↓c_isTN, ↓c_isLN, ↓c_isRN, ↓c_isnIN, ↓c_isnBN, ↓c_isnSN, ↓c_isnTN, ↓c_isnLN, ↓c_isnRN, ↓c_eqSS, ↓c_neSS, ↓ex_pq, ↓c_eqT, ↓c_neT, ↓rng_3, ↓e_mtup', ↓ex_l, ↓xp_k, ↓xp_0, ↓xp_S, ↓xp_z, ↓s_unp, ↓rv_t, ↓rv_l, ↓rv_m, ↓po_m, ↓e_rev, ↓c_isbb, ↓c_isnbb, ↓f_lrng, ↓f_comp2, ↓s_parIx, ↓xv_0, ↓xv_S, ↓da_snoc, ↓da_app, ↓e_cst, ↓e_neg, ↓e_not, ↓e_and, ↓e_or, ↓e_ite, ↓e_bin, ↓e_cmp, ↓e_chain, ↓e_tup, ↓e_fr, ↓e_ix, ↓e_dix, ↓t_dix, ↓s_dput, ↓e_sl, ↓e_rev, ↓e_call, ↓e_callK, ↓e_b1, ↓e_b2, ↓e_isX, ↓e_xval, ↓e_get, ↓e_pop, ↓e_popAt, ↓e_index, ↓t_not, ↓t_and, ↓t_or, ↓a_nil, ↓a_cons, ↓o_none, ↓o_some, ↓c_none, ↓c_some, ↓f_disp, ↓f_comp, ↓f_comp2, ↓f_listOf, ↓i_of, ↓i_rng, ↓i_zip, ↓i_rev, ↓i_keys, i_keys, ↓t_var, ↓t_cst, ↓t_neg, ↓t_ite, ↓t_bin, ↓t_cmp, ↓t_chain, ↓t_tup, ↓t_fr, ↓t_al, ↓t_ddisp, ↓t_ix, ↓t_sl, ↓t_rev, ↓t_call, ↓t_callK, ↓t_b1, ↓t_b2, ↓t_isI, ↓t_isX, ↓t_xval, ↓t_get, ↓t_pop, ↓t_popAt, ↓t_index, ↓s_asg, ↓s_setIx, ↓s_augIx, ↓s_expr, ↓s_ret, ↓s_retN, ↓s_cond, ↓s_loop, ↓s_whl, ↓s_raise, ↓s_tryX, ↓s_pass, ↓s_brk, ↓s_cont, ↓b_nil, ↓b_cons, ↓h_nil, ↓r_add, ↓r_sub, ↓r_mul, ↓r_div, ↓r_mod, ↓r_pow, ↓r_shl, ↓r_cat, ↓r_cats, ↓r_rep, ↓r_lt, ↓r_le, ↓r_gt, ↓r_ge, ↓r_eqI, ↓r_neI, ↓r_augA, ↓r_augS, ↓r_augM, ↓tg_tpt, ↓tg_tpl, ↓tg_tpm, ↓tgs_nil, ↓tgs_cons, ↓turn_nx, ↓turn_ct, ↓turn_bk, ↓turn_rt, ↓turn_ex, ↓d_nil, ↓d_eq, ↓rng_1, ↓rng_2, ↓b_int, ↓b_intb, ↓b_bool, ↓b_boolb, ↓b_lent, ↓b_lenl, ↓b_tupt, ↓b_tupl, ↓b_str, ↓b_repr', ↓xp_d, ↓b_abs, ↓b_sum, ↓b_all, ↓b_any, ↓b_max, ↓b_min, ↓ix_t, ↓ix_l, ↓sl_t, ↓sl_l, ↓c_eqb, ↓c_neb, ↓c_isN, ↓c_isnN, ↓isx_eq, ↓xval_eq, ↓c_inT, ↓c_inL, ↓c_ninT, ↓c_ninL, ↓c_ltT, ↓c_leT, ↓c_gtT, ↓c_geT, ↓c_eqS, ↓c_neS, ↓b_lenm, ↓v_0, ↓v_S, ↓n_0, ↓n_S, ↓un_0, ↓un_S, ↓s_aug', ↓s_par', ↓h_cons', ↓xl_k, ↓xl_0, ↓xl_S, ↓xl_z, ↓mm_t, ↓mm_tk, ↓to_t, ↓md_k, ↓md_0, ↓mm_0, ↓mm_S, ↓nw_1, ↓nw_2, ↓nw_3, ↓nw_4, ↓nw_5, ↓e_al', ↓ix_m', ↓b_tupm', ↓sl_m', ↓ex_map, ↓ap_l, ↓s_app', ↓xt_l, ↓s_ext', ↓in_l, ↓s_ins', ↓p_put', ↓wt_d, ↓wt_k, ↓wt_k0, ↓to_S, ↓to_z, ↓e_isI1, ↓e_isI2, ↓ex_tb, ↓ex_ti, ↓ex_tn, ↓ex_tt, ↓ex_tl, ↓ex_i, ↓ex_B, ↓xd_nil, ↓xd_cons, ↓xd_map, ↓xi_t, ↓xi_l, ↓xi_m, ↓f_cat', ↓f_rep', ↓f_slice', nw_0, e_var, e_cst, e_neg, e_not, e_and, e_or, e_ite, e_bin, e_cmp, e_chain, e_tup, e_fr, e_al, e_ix, e_sl, e_rev, e_call, e_callK, e_b1, e_b2, e_isI, e_isX, e_xval, e_get, e_pop, e_popAt, e_index, t_not, t_and, t_or, a_nil, a_cons, o_none, o_some, c_none, c_some, f_disp, f_comp, f_comp2, f_listOf, f_cat, f_rep, f_slice, i_of, i_rng, i_enum, i_zip, i_rev, t_var, t_cst, t_neg, t_ite, t_bin, t_cmp, t_chain, t_tup, t_fr, t_al, t_ddisp, t_ix, t_sl, t_rev, t_call, t_callK, t_b1, t_b2, t_isI, t_isX, t_xval, t_get, t_pop, t_popAt, t_index, s_asg, s_setIx, e_dnew, e_dix, s_dput, t_dnew, t_dix, s_par, s_aug, s_augIx, s_expr, s_app, s_ext, s_ins, s_ret, s_retN, s_cond, s_loop, s_whl, s_raise, s_tryX, s_pass, s_brk, s_cont, b_nil, b_cons, h_nil, h_cons, r_add, r_sub, r_mul, r_div, r_mod, r_pow, r_shl, r_cat, r_cats, r_rep, r_lt, r_le, r_gt, r_ge, r_eqI, r_neI, tr_bool, tr_int, tr_none, tr_tuple, tr_list, r_augA, r_augS, r_augM, m_get, m_get0, m_set, m_set0, ex_v, ex_k, ex_lst, tg_nm, tg_tpt, tg_tpl, tg_tpm, tgs_nil, tgs_cons, tgAt_eq, List.getElem?_cons_succ, List.getElem?_cons_zero, List.set_cons_succ, List.set_cons_zero, List.length_append, List.length_cons, List.length_nil, List.append_assoc, List.cons_append, List.nil_append, decide_eq_true_eq, I, B, N0, S.l.injEq, S.d.injEq, Option.some.injEq, MO.lst.injEq, exists_eq_left', exists_and_left, mapM_d, Bool.false_eq_true, isT_int_none, isT_int_bool, isT_int_int, isT_int_str, isT_int_list, isT_int_tuple, isT_int_dict, isT_bool_none, isT_bool_bool, isT_bool_int, isT_bool_str, isT_bool_list, isT_bool_tuple, isT_bool_dict, isT_str_none, isT_str_bool, isT_str_int, isT_str_str, isT_str_list, isT_str_tuple, isT_str_dict, isT_list_none, isT_list_bool, isT_list_int, isT_list_str, isT_list_list, isT_list_tuple, isT_list_dict, isT_tuple_none, isT_tuple_bool, isT_tuple_int, isT_tuple_str, isT_tuple_list, isT_tuple_tuple, isT_tuple_dict, isT_dict_none, isT_dict_bool, isT_dict_int, isT_dict_str, isT_dict_list, isT_dict_tuple, isT_dict_dict, at_0, at_1, mapM_s, List.map_cons, List.map_nil, List.any_cons, List.any_nil, id_eq, Bool.or_false, Bool.not_true, Bool.not_false, ↓reduceIte, turn_nx, turn_ct, turn_bk, turn_rt, turn_ex, ty_m, Int.zero_add, d_nil, d_eq, rng_1, rng_2, b_int, b_intb, b_bool, b_boolb, b_lent, b_lenl, b_lenm, b_tupt, b_tupl, b_tupm, b_str, b_repr', b_abs, b_sum, b_all, b_any, b_max, b_min, ix_t, ix_l, ix_m, sl_t, sl_l, sl_m, ty_d, it_t, it_l, pd_d, c_eqb, c_neb, c_isN, c_isnN, isx_eq, xval_eq, true_and, and_true, List.append_nil, wipeS, tgSlots, tgSlotss, c_inT, c_inL, c_ninT, c_ninL, c_ltT, c_leT, c_gtT, c_geT, it_k, it_k0, ty_k, ty_k0, lo_1, to_1, to_2, beq_self_eq_true, sd_inj, da_nil, da_cons, da_map, Option.map_some, p_put, Nat.reduceAdd, Int.reduceEq, Int.reduceLT, Int.reduceLE, f_lrng, f_comp2, e_indexT, s_parIx, s_any, gt_t, gt_tk, c_noneF, c_eqS, c_neS, eq_self, decide_true, decide_false, pints_len, itm_len, sz_0, sz_1, sz_2, sz_3, sz_4, sz_5, sz_6, sz_7, sz_8, int?_d, ok_of_d, ex_self, Nat.zero_add])
theorem lm_law_wrong : ∀ p ∈ lib_law_wrong, ∀ vs, Mono (p.2.2 vs) := by
  intro p hp
  simp only [lib_law_wrong, List.mem_cons, List.not_mem_nil, or_false] at hp
  rcases hp with rfl | rfl
  · exact mo_law_refuses
  · exact mo_law_pick
theorem mb_law_wrong (s : Ss) : MonoS (wSs Γ_law_wrong s) := mSs s _ (Lib.mo lm_law_wrong)
theorem ck_law_wrong : kSs b_law_wrong ⟨N_law_wrong, defScope s_law_wrong, lib_law_wrong.fs, kws, cs, hs, true⟩ (defBody s_law_wrong) = true := by decide +kernel
theorem bd_law_wrong : Bd "_law_wrong" s_law_wrong ["draw", "stair", "rows", "columns"] := fun _ _ _ _ _ _ us hl => match us, hl with | [_, _, _, _], _ => rfl
theorem kb_law_wrong : ∀ q ∈ kws, q.1 = "_law_wrong" → BdK "_law_wrong" s_law_wrong ["draw", "stair", "rows", "columns"] q.2.1 q.2.2 := by
  intro q hq
  cases hq
def badL : List PD := [.int (-1), .bool true, .none, .str (Str.ofString "3"), .tuple [.int 2], .list [], .bool false, .int (-10 ^ Int.toNat 20)]
theorem bad_at {d : Int} (h0 : 0 ≤ d) (h1 : d < 8) : ∃ v, atI badL d = some v ∧ isNumD v = false ∧ RpOk v := by
  have : d = 0 ∨ d = 1 ∨ d = 2 ∨ d = 3 ∨ d = 4 ∨ d = 5 ∨ d = 6 ∨ d = 7 := by omega
  rcases this with rfl | rfl | rfl | rfl | rfl | rfl | rfl | rfl
  · exact ⟨_, rfl, rfl, (Rp.int (d := 0) (by decide)).rep (by decide) (by decide)⟩
  · exact ⟨_, rfl, rfl, (Rp.bool (d := 0)).rep (by decide) (by decide)⟩
  · exact ⟨_, rfl, rfl, (Rp.none (d := 0)).rep (by decide) (by decide)⟩
  · exact ⟨_, rfl, rfl, (Rp.str (w := 5) (d := 0) (by decide +kernel) (by decide +kernel)).rep (by decide) (by decide)⟩
  · exact ⟨_, rfl, rfl, (Rp.tup (n := 1) (w := 41) (d := 0) (fun x hx => by rw [List.mem_singleton.mp hx]; exact Rp.int (by decide)) (by decide)).rep (by decide) (by decide)⟩
  · exact ⟨_, rfl, rfl, (Rp.lst (xs := []) (n := 1) (w := 41) (d := 0) (fun x hx => nomatch hx) (by decide)).rep (by decide) (by decide)⟩
  · exact ⟨_, rfl, rfl, (Rp.bool (d := 0)).rep (by decide) (by decide)⟩
  · exact ⟨_, rfl, by decide, (Rp.big (d := 0) (by decide)).rep (by decide) (by decide)⟩
def wrongL (l : List Int) : List PD := [.list (pints l), .tuple [.int 1, .int 2], .tuple (pints l ++ [.int 0]), .tuple (pints l ++ [.bool true]), .int 4, .none, .tuple [.int (-1)]]
theorem ints_rp {l : List Int} (h : ∀ z ∈ l, 0 ≤ z ∧ z ≤ 30) : ∀ x ∈ pints l, Rp x 41 0 := fun x hx => by
  obtain ⟨z, hz, rfl⟩ := List.mem_map.mp hx
  have := h z hz
  exact Rp.int (by omega)
theorem no_stair {l : List Int} {x : PD} (h : ∀ z, x = .int z → z < 1) : isStairD (.tuple (pints l ++ [x])) = false := by
  rw [Bool.eq_false_iff]
  intro e
  obtain ⟨l', e1, st⟩ := isStair_some e
  simp only [PyData.tuple.injEq] at e1
  have : x ∈ pints l' := by rw [← e1]; simp
  obtain ⟨z, hz, rfl⟩ := List.mem_map.mp this
  have h1 := st.pos z hz
  have h2 := h z rfl
  omega
theorem wrong_at {l : List Int} {d : Int} (h0 : 0 ≤ d) (h1 : d < 7) (ln : l.length ≤ 30) (bd : ∀ z ∈ l, 0 ≤ z ∧ z ≤ 30) : ∃ v, atI (wrongL l) d = some v ∧ isStairD v = false ∧ RpOk v ∧ tupLen v := by
  have sl := slS
  have rp := ints_rp bd
  have rp2 : ∀ x : PD, Rp x 41 0 → ∀ y ∈ pints l ++ [x], Rp y 41 0 := fun x hx y hy => by
    rcases List.mem_append.mp hy with hy | hy
    · exact rp y hy
    · rw [List.mem_singleton.mp hy]
      exact hx
  have : d = 0 ∨ d = 1 ∨ d = 2 ∨ d = 3 ∨ d = 4 ∨ d = 5 ∨ d = 6 := by omega
  rcases this with rfl | rfl | rfl | rfl | rfl | rfl | rfl
  · exact ⟨_, rfl, rfl, (Rp.lst (n := 31) rp (by simp [pints]; omega)).rep (by decide) (by decide), fun xs e => nomatch e⟩
  · refine ⟨_, rfl, rfl, (Rp.tup (n := 2) (w := 41) (d := 0) (fun x hx => ?_) (by decide)).rep (by decide) (by decide), fun xs e => by cases e; simp; omega⟩
    simp only [List.mem_cons, List.not_mem_nil, or_false] at hx
    rcases hx with rfl | rfl <;> exact Rp.int (by decide)
  · exact ⟨_, rfl, no_stair (fun z e => by cases e; omega), (Rp.tup (n := 31) (rp2 _ (Rp.int (by decide))) (by simp [pints]; omega)).rep (by decide) (by decide), fun xs e => by cases e; simp [pints]; omega⟩
  · exact ⟨_, rfl, no_stair (fun z e => nomatch e), (Rp.tup (n := 31) (rp2 _ (Rp.bool.mo (Nat.zero_le _) (Nat.zero_le _))) (by simp [pints]; omega)).rep (by decide) (by decide), fun xs e => by cases e; simp [pints]; omega⟩
  · exact ⟨_, rfl, rfl, (Rp.int (d := 0) (by decide)).rep (by decide) (by decide), fun xs e => nomatch e⟩
  · exact ⟨_, rfl, rfl, (Rp.none (d := 0)).rep (by decide) (by decide), fun xs e => nomatch e⟩
  · exact ⟨_, rfl, rfl, (Rp.tup (n := 1) (w := 41) (d := 0) (fun x hx => by rw [List.mem_singleton.mp hx]; exact Rp.int (by decide)) (by decide)).rep (by decide) (by decide), fun xs e => by cases e; simp; omega⟩
def sp_law_wrong : FSpec := fun vs M Q E => match vs with
  | [.l k, .d (.tuple xs), .d (.int r), .d (.int c)] => ∃ (l ns : List Int) (a r' m : Int) (R C : Nat), (M[k]? = some (drw ns a r' m) ∧ 0 ≤ a ∧ xs = pints l ∧ r = R ∧ c = C ∧ St l ∧ l.length ≤ 30 ∧ rowZ l 0 ≤ 30 ∧ R ≤ 10 ∧ C ≤ 10) ∧ ∀ (a' r' m' : Int), 0 ≤ a' → Q (B true) (M.set k (drw ns a' r' m'))
  | _ => False
theorem mo_law_wrong : ∀ vs, Mono (sp_law_wrong vs) := by
  intro vs M Q Q' X X' hq hx
  unfold sp_law_wrong
  (try split) <;> (repeat' first | exact id | exact hq _ _ | exact hx _ _ | refine And.imp ?_ ?_ | refine Exists.imp (fun _ => ?_) | refine forall_imp (fun _ => ?_) | split)
theorem w_law_wrong : ∀ (ss : List S) (M : Mem) (Q : S → Mem → Prop) (E : Xc → Mem → Prop), ss.length = 4 → sp_law_wrong ss M Q E → wSs Γ_law_wrong b_law_wrong (startS N_law_wrong ss) M (exits M Q E) := by
  intro ss M Q E hl h
  unfold sp_law_wrong at h
  split at h
  case h_2 => exact h.elim
  rename_i k xs r c
  obtain ⟨l, ns, a, r', m, R, C, ⟨hk, a0, rfl, rfl, rfl, st, ln, wd, hR, hC⟩, h⟩ := h
  have sl := slS
  walk_at "law_wrong"
  refine ⟨⟨by decide, by decide, by decide⟩, ns, a, r', m, ⟨hk, a0, by decide, by decide⟩, fun d1 a1 r1 m1 a1p d10 d18 => ?_⟩
  obtain ⟨one, e1, n1, q1⟩ := bad_at d10 d18
  refine ⟨one, e1, ns, a1, r1, m1, ⟨set_at hk, a1p, by decide, by decide⟩, fun d2 a2 r2 m2 a2p d20 d28 => ?_⟩
  obtain ⟨other, e2, n2, q2⟩ := bad_at d20 d28
  rw [List.set_set]
  refine ⟨other, e2, by omega, by omega, ns, a2, r2, m2, ⟨set_at hk, a2p⟩, fun d3 a3 r3 m3 a3p d30 d37 => ?_⟩
  have bd : ∀ z ∈ l, 0 ≤ z ∧ z ≤ 30 := fun z hz => by
    obtain ⟨i, hi, e⟩ := List.getElem_of_mem hz
    have h1 := st.pos z hz
    have h2 := st.mono (Nat.zero_le i)
    rw [rowZ_lt hi, e] at h2
    omega
  obtain ⟨wr, e3, n3, q3, t3⟩ := wrong_at d30 d37 ln bd
  rw [List.set_set]
  have sm : ∀ {v : PD}, isNumD v = false → small v := fun {v} h R e => by
    subst e
    simp [isNumD] at h
    omega
  have rR : ∀ {n : Nat}, n ≤ 10 → RpOk (.int n) := fun h => (Rp.int (d := 0) (by omega)).rep (by decide) (by decide)
  have rl : RpOk (.tuple (pints l)) := (Rp.tup (n := 31) (ints_rp bd) (by simp [pints]; omega)).rep (by decide) (by decide)
  have tl : tupLen (.tuple (pints l)) := fun xs e => by cases e; simp [pints]; omega
  have sR : small (.int R) := fun z e => by cases e; omega
  have nR : isNumD (.int R) = true := by simp [isNumD]
  have f1 : ∀ (r c : PD) (b : Bool), refA wr r c b = Str.ofString "stair" ∧ refB wr r c b = wr.shown := fun r c b => by
    simp only [refA, refB, if_pos n3]
    exact ⟨rfl, trivial⟩
  have f2 : ∀ (c : PD) (b : Bool), refA (.tuple (pints l)) one c b = Str.ofString "number" ∧ refB (.tuple (pints l)) one c b = one.shown := fun c b => by
    have e : ¬ isStairD (.tuple (pints l)) = false := by rw [st.is]; decide
    simp only [refA, refB, if_neg e, if_pos n1]
    exact ⟨rfl, trivial⟩
  have f3 : ∀ (b : Bool), refA (.tuple (pints l)) (.int R) other b = Str.ofString "number" ∧ refB (.tuple (pints l)) (.int R) other b = other.shown := fun b => by
    have e : ¬ isStairD (.tuple (pints l)) = false := by rw [st.is]; decide
    have e' : ¬ isNumD (.int R) = false := by rw [nR]; decide
    simp only [refA, refB, if_neg e, if_neg e', if_pos n2]
    exact ⟨rfl, trivial⟩
  exact ⟨wr, e3, q3, ⟨⟨t3, sm n1⟩, ⟨q3, q1, q2⟩, f1 _ _⟩, q3, ⟨⟨t3, sR⟩, ⟨q3, rR hR, rR hC⟩, f1 _ _⟩, q1, ⟨⟨tl, sm n1⟩, ⟨rl, q1, q2⟩, f2 _⟩, q1, ⟨⟨tl, sm n1⟩, ⟨rl, q1, rR hC⟩, f2 _⟩, q2, ⟨⟨tl, sR⟩, ⟨rl, rR hR, q2⟩, f3⟩, _, _, .inl ⟨rfl, rfl⟩, h a3 r3 m3 a3p⟩

theorem k_law_wrong {k : Nat} {xs : List PD} {r : Int} {c : Int} {M : Mem} {Q : S → Mem → Prop} {E : Xc → Mem → Prop} : sp_law_wrong [.l k, .d (.tuple xs), .d (.int r), .d (.int c)] M Q E = (∃ (l ns : List Int) (a r' m : Int) (R C : Nat), (M[k]? = some (drw ns a r' m) ∧ 0 ≤ a ∧ xs = pints l ∧ r = R ∧ c = C ∧ St l ∧ l.length ≤ 30 ∧ rowZ l 0 ≤ 30 ∧ R ≤ 10 ∧ C ≤ 10) ∧ ∀ (a' r' m' : Int), 0 ≤ a' → Q (B true) (M.set k (drw ns a' r' m'))) := rfl
/-! bits_of_stair -/
abbrev s_bits_of_stair : Stmt := topS 20
def N_bits_of_stair : List Str := ["stair", "ones", "zeros", "value", "word", "behind", "i", "row"]
theorem sc_bits_of_stair : FnScope N_bits_of_stair ["stair", "ones", "zeros"] (defScope s_bits_of_stair) := ⟨rfl, rfl, rfl, by decide +kernel, rfl, by decide +kernel, by decide +kernel⟩
def b_bits_of_stair_1 : Ss := .cons (.asg (.nm 7) (.call "row_of" (.cons (.var 0) (.cons (.var 6) .nil)))) (.cons (.ext (.var 4) (.fr (.rep (.fr (.disp (.cons (.cst (.int 0)) .nil))) (.bin .Sub (.var 5) (.var 7))))) (.cons (.app (.var 4) (.cst (.int 1))) (.cons (.asg (.nm 5) (.var 7)) .nil)))
def b_bits_of_stair_c2 : Ss := .cons (.cond (.or (.cmp .Gt (.b1 .len (.var 0)) (.var 1)) (.or (.cmp .Gt (.call "row_of" (.cons (.var 0) (.cons (.cst (.int 0)) .nil))) (.var 2)) (.cmp .Eq (.bin .Add (.var 1) (.var 2)) (.cst (.int 0))))) (.cons (.raise "Undefined" (.cst (.str "box"))) .nil) (.nil)) (.cons (.asg (.nm 4) (.al (.disp (.nil)))) (.cons (.asg (.nm 5) (.var 2)) (.cons (.loop (.nm 6) (.rng (.cons (.var 1) .nil)) b_bits_of_stair_1) (.cons (.ext (.var 4) (.fr (.rep (.fr (.disp (.cons (.cst (.int 0)) .nil))) (.var 5)))) (.cons (.ret (.b1 .tuple (.var 4))) .nil)))))
def b_bits_of_stair_2 : Ss := .cons (.cond (.not (.call "is_number" (.cons (.var 3) .nil))) (.cons (.raise "InvalidNumber" (.var 3)) .nil) (.nil)) .nil
def b_bits_of_stair : Ss := .cons (.expr (.call "need_stair" (.cons (.var 0) .nil))) (.cons (.loop (.nm 3) (.of (.tup (.cons (.var 1) (.cons (.var 2) .nil)))) b_bits_of_stair_2) (b_bits_of_stair_c2))
theorem ub_bits_of_stair_1 : b_bits_of_stair_1 = .cons (.asg (.nm 7) (.call "row_of" (.cons (.var 0) (.cons (.var 6) .nil)))) (.cons (.ext (.var 4) (.fr (.rep (.fr (.disp (.cons (.cst (.int 0)) .nil))) (.bin .Sub (.var 5) (.var 7))))) (.cons (.app (.var 4) (.cst (.int 1))) (.cons (.asg (.nm 5) (.var 7)) .nil))) := rfl
theorem ub_bits_of_stair_c2 : b_bits_of_stair_c2 = .cons (.cond (.or (.cmp .Gt (.b1 .len (.var 0)) (.var 1)) (.or (.cmp .Gt (.call "row_of" (.cons (.var 0) (.cons (.cst (.int 0)) .nil))) (.var 2)) (.cmp .Eq (.bin .Add (.var 1) (.var 2)) (.cst (.int 0))))) (.cons (.raise "Undefined" (.cst (.str "box"))) .nil) (.nil)) (.cons (.asg (.nm 4) (.al (.disp (.nil)))) (.cons (.asg (.nm 5) (.var 2)) (.cons (.loop (.nm 6) (.rng (.cons (.var 1) .nil)) b_bits_of_stair_1) (.cons (.ext (.var 4) (.fr (.rep (.fr (.disp (.cons (.cst (.int 0)) .nil))) (.var 5)))) (.cons (.ret (.b1 .tuple (.var 4))) .nil))))) := rfl
theorem ub_bits_of_stair_2 : b_bits_of_stair_2 = .cons (.cond (.not (.call "is_number" (.cons (.var 3) .nil))) (.cons (.raise "InvalidNumber" (.var 3)) .nil) (.nil)) .nil := rfl
theorem ub_bits_of_stair : b_bits_of_stair = .cons (.expr (.call "need_stair" (.cons (.var 0) .nil))) (.cons (.loop (.nm 3) (.of (.tup (.cons (.var 1) (.cons (.var 2) .nil)))) b_bits_of_stair_2) (b_bits_of_stair_c2)) := rfl
theorem st_bits_of_stair {x0 x1 x2 : S} : startS N_bits_of_stair [x0, x1, x2] = [some x0, some x1, some x2, none, none, none, none, none] := rfl
def lib_bits_of_stair : Lib := [("need_stair", ["value"], sp_need_stair), ("row_of", ["stair", "i"], sp_row_of), ("is_number", ["value"], sp_is_number)]
abbrev Γ_bits_of_stair : G.Env := lib_bits_of_stair.env (MroF tab)
theorem Φ_bits_of_stair_need_stair : Γ_bits_of_stair.Φ "need_stair" = some sp_need_stair := by rfl
theorem φ_bits_of_stair_need_stair {P : FSpec → Prop} : (∃ φ, Γ_bits_of_stair.Φ "need_stair" = some φ ∧ P φ) = P sp_need_stair := by rw [Φ_bits_of_stair_need_stair]; exact ex_self
theorem Φ_bits_of_stair_row_of : Γ_bits_of_stair.Φ "row_of" = some sp_row_of := by rfl
theorem φ_bits_of_stair_row_of {P : FSpec → Prop} : (∃ φ, Γ_bits_of_stair.Φ "row_of" = some φ ∧ P φ) = P sp_row_of := by rw [Φ_bits_of_stair_row_of]; exact ex_self
theorem Φ_bits_of_stair_is_number : Γ_bits_of_stair.Φ "is_number" = some sp_is_number := by rfl
theorem φ_bits_of_stair_is_number {P : FSpec → Prop} : (∃ φ, Γ_bits_of_stair.Φ "is_number" = some φ ∧ P φ) = P sp_is_number := by rw [Φ_bits_of_stair_is_number]; exact ex_self
local macro_rules | `(tactic| walk_at "bits_of_stair") => `(tactic| simp (maxSteps := 1000000) only [ub_bits_of_stair, st_bits_of_stair, exits, Φ_bits_of_stair_need_stair, Φ_bits_of_stair_row_of, Φ_bits_of_stair_is_number, ↓φ_bits_of_stair_need_stair, ↓φ_bits_of_stair_row_of, ↓φ_bits_of_stair_is_number, ↓k_need_stair, ↓k_row_of, ↓k_is_number, ↓e_dnew', ↓e_ddisp', ↓dx_i, ↓dx_s, ↓dp_i, ↓dp_s, ↓yl_k, ↓yl_0, ↓yl_S, ↓yl_z, ↓c_isIN, ↓c_isBN, ↓c_isSN, ↓c_isTN, ↓c_isLN, ↓c_isRN, ↓c_isnIN, ↓c_isnBN, ↓c_isnSN, ↓c_isnTN, ↓c_isnLN, ↓c_isnRN, ↓c_eqSS, ↓c_neSS, ↓ex_pq, ↓c_eqT, ↓c_neT, ↓rng_3, ↓e_mtup', ↓ex_l, ↓xp_k, ↓xp_0, ↓xp_S, ↓xp_z, ↓s_unp, ↓rv_t, ↓rv_l, ↓rv_m, ↓po_m, ↓e_rev, ↓c_isbb, ↓c_isnbb, ↓f_lrng, ↓f_comp2, ↓s_parIx, ↓xv_0, ↓xv_S, ↓da_snoc, ↓da_app, ↓e_cst, ↓e_neg, ↓e_not, ↓e_and, ↓e_or, ↓e_ite, ↓e_bin, ↓e_cmp, ↓e_chain, ↓e_tup, ↓e_fr, ↓e_ix, ↓e_dix, ↓t_dix, ↓s_dput, ↓e_sl, ↓e_rev, ↓e_call, ↓e_callK, ↓e_b1, ↓e_b2, ↓e_isX, ↓e_xval, ↓e_get, ↓e_pop, ↓e_popAt, ↓e_index, ↓t_not, ↓t_and, ↓t_or, ↓a_nil, ↓a_cons, ↓o_none, ↓o_some, ↓c_none, ↓c_some, ↓f_disp, ↓f_comp, ↓f_comp2, ↓f_listOf, ↓i_of, ↓i_rng, ↓i_zip, ↓i_rev, ↓i_keys, i_keys, ↓t_var, ↓t_cst, ↓t_neg, ↓t_ite, ↓t_bin, ↓t_cmp, ↓t_chain, ↓t_tup, ↓t_fr, ↓t_al, ↓t_ddisp, ↓t_ix, ↓t_sl, ↓t_rev, ↓t_call, ↓t_callK, ↓t_b1, ↓t_b2, ↓t_isI, ↓t_isX, ↓t_xval, ↓t_get, ↓t_pop, ↓t_popAt, ↓t_index, ↓s_asg, ↓s_setIx, ↓s_augIx, ↓s_expr, ↓s_ret, ↓s_retN, ↓s_cond, ↓s_loop, ↓s_whl, ↓s_raise, ↓s_tryX, ↓s_pass, ↓s_brk, ↓s_cont, ↓b_nil, ↓b_cons, ↓h_nil, ↓r_add, ↓r_sub, ↓r_mul, ↓r_div, ↓r_mod, ↓r_pow, ↓r_shl, ↓r_cat, ↓r_cats, ↓r_rep, ↓r_lt, ↓r_le, ↓r_gt, ↓r_ge, ↓r_eqI, ↓r_neI, ↓r_augA, ↓r_augS, ↓r_augM, ↓tg_tpt, ↓tg_tpl, ↓tg_tpm, ↓tgs_nil, ↓tgs_cons, ↓turn_nx, ↓turn_ct, ↓turn_bk, ↓turn_rt, ↓turn_ex, ↓d_nil, ↓d_eq, ↓rng_1, ↓rng_2, ↓b_int, ↓b_intb, ↓b_bool, ↓b_boolb, ↓b_lent, ↓b_lenl, ↓b_tupt, ↓b_tupl, ↓b_str, ↓b_repr', ↓xp_d, ↓b_abs, ↓b_sum, ↓b_all, ↓b_any, ↓b_max, ↓b_min, ↓ix_t, ↓ix_l, ↓sl_t, ↓sl_l, ↓c_eqb, ↓c_neb, ↓c_isN, ↓c_isnN, ↓isx_eq, ↓xval_eq, ↓c_inT, ↓c_inL, ↓c_ninT, ↓c_ninL, ↓c_ltT, ↓c_leT, ↓c_gtT, ↓c_geT, ↓c_eqS, ↓c_neS, ↓b_lenm, ↓v_0, ↓v_S, ↓n_0, ↓n_S, ↓un_0, ↓un_S, ↓s_aug', ↓s_par', ↓h_cons', ↓xl_k, ↓xl_0, ↓xl_S, ↓xl_z, ↓mm_t, ↓mm_tk, ↓to_t, ↓md_k, ↓md_0, ↓mm_0, ↓mm_S, ↓nw_1, ↓nw_2, ↓nw_3, ↓nw_4, ↓nw_5, ↓e_al', ↓ix_m', ↓b_tupm', ↓sl_m', ↓ex_map, ↓ap_l, ↓s_app', ↓xt_l, ↓s_ext', ↓in_l, ↓s_ins', ↓p_put', ↓wt_d, ↓wt_k, ↓wt_k0, ↓to_S, ↓to_z, ↓e_isI1, ↓e_isI2, ↓ex_tb, ↓ex_ti, ↓ex_tn, ↓ex_tt, ↓ex_tl, ↓ex_i, ↓ex_B, ↓xd_nil, ↓xd_cons, ↓xd_map, ↓xi_t, ↓xi_l, ↓xi_m, ↓f_cat', ↓f_rep', ↓f_slice', nw_0, e_var, e_cst, e_neg, e_not, e_and, e_or, e_ite, e_bin, e_cmp, e_chain, e_tup, e_fr, e_al, e_ix, e_sl, e_rev, e_call, e_callK, e_b1, e_b2, e_isI, e_isX, e_xval, e_get, e_pop, e_popAt, e_index, t_not, t_and, t_or, a_nil, a_cons, o_none, o_some, c_none, c_some, f_disp, f_comp, f_comp2, f_listOf, f_cat, f_rep, f_slice, i_of, i_rng, i_enum, i_zip, i_rev, t_var, t_cst, t_neg, t_ite, t_bin, t_cmp, t_chain, t_tup, t_fr, t_al, t_ddisp, t_ix, t_sl, t_rev, t_call, t_callK, t_b1, t_b2, t_isI, t_isX, t_xval, t_get, t_pop, t_popAt, t_index, s_asg, s_setIx, e_dnew, e_dix, s_dput, t_dnew, t_dix, s_par, s_aug, s_augIx, s_expr, s_app, s_ext, s_ins, s_ret, s_retN, s_cond, s_loop, s_whl, s_raise, s_tryX, s_pass, s_brk, s_cont, b_nil, b_cons, h_nil, h_cons, r_add, r_sub, r_mul, r_div, r_mod, r_pow, r_shl, r_cat, r_cats, r_rep, r_lt, r_le, r_gt, r_ge, r_eqI, r_neI, tr_bool, tr_int, tr_none, tr_tuple, tr_list, r_augA, r_augS, r_augM, m_get, m_get0, m_set, m_set0, ex_v, ex_k, ex_lst, tg_nm, tg_tpt, tg_tpl, tg_tpm, tgs_nil, tgs_cons, tgAt_eq, List.getElem?_cons_succ, List.getElem?_cons_zero, List.set_cons_succ, List.set_cons_zero, List.length_append, List.length_cons, List.length_nil, List.append_assoc, List.cons_append, List.nil_append, decide_eq_true_eq, I, B, N0, S.l.injEq, S.d.injEq, Option.some.injEq, MO.lst.injEq, exists_eq_left', exists_and_left, mapM_d, Bool.false_eq_true, isT_int_none, isT_int_bool, isT_int_int, isT_int_str, isT_int_list, isT_int_tuple, isT_int_dict, isT_bool_none, isT_bool_bool, isT_bool_int, isT_bool_str, isT_bool_list, isT_bool_tuple, isT_bool_dict, isT_str_none, isT_str_bool, isT_str_int, isT_str_str, isT_str_list, isT_str_tuple, isT_str_dict, isT_list_none, isT_list_bool, isT_list_int, isT_list_str, isT_list_list, isT_list_tuple, isT_list_dict, isT_tuple_none, isT_tuple_bool, isT_tuple_int, isT_tuple_str, isT_tuple_list, isT_tuple_tuple, isT_tuple_dict, isT_dict_none, isT_dict_bool, isT_dict_int, isT_dict_str, isT_dict_list, isT_dict_tuple, isT_dict_dict, at_0, at_1, mapM_s, List.map_cons, List.map_nil, List.any_cons, List.any_nil, id_eq, Bool.or_false, Bool.not_true, Bool.not_false, ↓reduceIte, turn_nx, turn_ct, turn_bk, turn_rt, turn_ex, ty_m, Int.zero_add, d_nil, d_eq, rng_1, rng_2, b_int, b_intb, b_bool, b_boolb, b_lent, b_lenl, b_lenm, b_tupt, b_tupl, b_tupm, b_str, b_repr', b_abs, b_sum, b_all, b_any, b_max, b_min, ix_t, ix_l, ix_m, sl_t, sl_l, sl_m, ty_d, it_t, it_l, pd_d, c_eqb, c_neb, c_isN, c_isnN, isx_eq, xval_eq, true_and, and_true, List.append_nil, wipeS, tgSlots, tgSlotss, c_inT, c_inL, c_ninT, c_ninL, c_ltT, c_leT, c_gtT, c_geT, it_k, it_k0, ty_k, ty_k0, lo_1, to_1, to_2, beq_self_eq_true, sd_inj, da_nil, da_cons, da_map, Option.map_some, p_put, Nat.reduceAdd, Int.reduceEq, Int.reduceLT, Int.reduceLE, f_lrng, f_comp2, e_indexT, s_parIx, s_any, gt_t, gt_tk, c_noneF, c_eqS, c_neS, eq_self, decide_true, decide_false, pints_len, itm_len, sz_0, sz_1, sz_2, sz_3, sz_4, sz_5, sz_6, sz_7, sz_8, int?_d, ok_of_d, ex_self, Nat.zero_add])
theorem lm_bits_of_stair : ∀ p ∈ lib_bits_of_stair, ∀ vs, Mono (p.2.2 vs) := by
  intro p hp
  simp only [lib_bits_of_stair, List.mem_cons, List.not_mem_nil, or_false] at hp
  rcases hp with rfl | rfl | rfl
  · exact mo_need_stair
  · exact mo_row_of
  · exact mo_is_number
theorem mb_bits_of_stair (s : Ss) : MonoS (wSs Γ_bits_of_stair s) := mSs s _ (Lib.mo lm_bits_of_stair)
theorem ck_bits_of_stair : kSs b_bits_of_stair ⟨N_bits_of_stair, defScope s_bits_of_stair, lib_bits_of_stair.fs, kws, cs, hs, true⟩ (defBody s_bits_of_stair) = true := by decide +kernel
theorem bd_bits_of_stair : Bd "bits_of_stair" s_bits_of_stair ["stair", "ones", "zeros"] := fun _ _ _ _ _ _ us hl => match us, hl with | [_, _, _], _ => rfl
theorem kb_bits_of_stair : ∀ q ∈ kws, q.1 = "bits_of_stair" → BdK "bits_of_stair" s_bits_of_stair ["stair", "ones", "zeros"] q.2.1 q.2.2 := by
  intro q hq
  cases hq
--cut 2
theorem zs_data {n : Int} : dataAll (List.replicate n.toNat [S.d (PyData.int 0)]).flatten = some (pints (zs n)) := by
  have e : (List.replicate n.toNat [S.d (PyData.int 0)]).flatten = (pints (zs n)).map S.d := by
    unfold zs pints
    generalize n.toNat = k
    induction k with
    | zero => rfl
    | succ k ih => rw [List.replicate_succ, List.flatten_cons, ih, List.replicate_succ]; rfl
  rw [e, dataAll_map]
theorem bitsUp_len {l : List Int} {C : Int} (st : St l) (h0 : rowZ l 0 ≤ C) : ∀ i, ((bitsUp l C i).length : Int) ≤ C + i
  | i => by
    have h : ∀ i, ((bitsUp l C i).length : Int) = C - ahead l C i + i := fun i => by
     induction i with
     | zero => show (0 : Int) = C - C + 0; omega
     | succ i ih =>
       have g0 : 0 ≤ gap l C i := by
         unfold gap
         cases i with
         | zero => show 0 ≤ C - rowZ l 0; omega
         | succ i => have := st.down i; show 0 ≤ rowZ l i - rowZ l (i + 1); omega
       have := zs_len g0
       have e : ahead l C (i + 1) = ahead l C i - gap l C i := by unfold gap; show rowZ l i = _; omega
       rw [e]
       simp only [bitsUp, List.length_append, List.length_singleton]
       omega
    have : 0 ≤ ahead l C i := by
      cases i with
      | zero => exact Int.le_trans (st.pos.nn 0) h0
      | succ i => exact st.pos.nn i
    rw [h i]
    omega
theorem bits_2 {M : Mem} {O : Outs} {l : List Int} {R C : Nat} {s3 s4 s5 s6 s7 : Option S} (st : St l) (hin : insI l R C = true) (hR : R ≤ 100) (hC : C ≤ 100) (hn : R + C ≠ 0) (h : ∀ m, O.rt (.d (.tuple (pints (bitsL l R C)))) (M ++ m)) :
    wSs Γ_bits_of_stair b_bits_of_stair_c2 [some (.d (.tuple (pints l))), some (I R), some (I C), s3, s4, s5, s6, s7] M O := by
  have sl := slS
  simp only [insI, Bool.and_eq_true, decide_eq_true_eq] at hin
  obtain ⟨hl, h0⟩ := hin
  simp only [ub_bits_of_stair_c2]
  walk_at "bits_of_stair"
  refine (if_neg (by omega)).mpr ⟨l, 0, ⟨rfl, rfl⟩, (if_neg (by omega)).mpr ((if_neg (by omega)).mpr ⟨by unfold rngOk; omega, ?_⟩)⟩
  have ah : ∀ i, 0 ≤ ahead l C i ∧ ahead l C i ≤ C := fun i => by
    have := st.pos.nn 0
    cases i with
    | zero => show 0 ≤ (C : Int) ∧ (C : Int) ≤ C; omega
    | succ i =>
      have := st.mono (Nat.zero_le i)
      have := st.pos.nn i
      show 0 ≤ rowZ l i ∧ rowZ l i ≤ C
      omega
  refine for_rng R (by omega) (mb_bits_of_stair _) (fun i ρ M' => ∃ s6 s7, ρ = [some (.d (.tuple (pints l))), some (I R), some (I C), s3, some (.l M.length), some (I (ahead l C i)), s6, s7] ∧ M' = M ++ [.lst ((pints (bitsUp l C i)).map .d)]) ⟨_, _, rfl, rfl⟩ ?_ ?_
  · rintro ρ M' ⟨s6, s7, rfl, rfl⟩
    have a := ah R
    walk_at "bits_of_stair"
    have bl := bitsUp_len st h0 R
    have zl := zs_len a.1
    have bl := bitsUp_len st h0 R
    have zl := zs_len a.1
    refine ⟨⟨by omega, by omega, by omega⟩, _, zs_data, by rw [List.length_map, List.length_map, pints_len, pints_len]; omega, ?_⟩
    have e : bitsUp l C R ++ zs (ahead l C R) = bitsL l R C := by
      have := bitsUp_V (l := l) (C := C) R
      unfold gap at this
      rw [rowZ_ge (by omega), Int.sub_zero] at this
      exact this
    refine ⟨_, ?_, h _⟩
    rw [← e, ← List.map_append, pints_app]
  · rintro i ρ M' hi ⟨s6, s7, rfl, rfl⟩
    have a := ah i
    have a2 := ah (i + 1)
    have bl := bitsUp_len st h0 i
    have g0 : 0 ≤ gap l C i := by
      unfold gap
      cases i with
      | zero => show 0 ≤ (C : Int) - rowZ l 0; omega
      | succ i => have := st.down i; show 0 ≤ rowZ l i - rowZ l (i + 1); omega
    have zl := zs_len g0
    have gl : gap l C i ≤ C := by
      have := st.pos.nn i
      unfold gap
      omega
    simp only [ub_bits_of_stair_1]
    walk_at "bits_of_stair"
    refine ⟨l, i, ⟨rfl, by omega⟩, ?_⟩
    have eg : ahead l C i - rowZ l i = gap l C i := rfl
    rw [eg]
    have sz : (List.map S.d (pints (bitsUp l (↑C) i))).length + (List.map S.d (pints (zs (gap l (↑C) i)))).length ≤ 300 := by
      rw [List.length_map, List.length_map, pints_len, pints_len]
      omega
    refine ⟨⟨by omega, by omega, by omega⟩, _, zs_data, by omega, by omega, _, _, rfl, ?_⟩
    simp [bitsUp, pints]
def sp_bits_of_stair : FSpec := fun vs M Q E => match vs with
  | [.d (.tuple xs), .d (.int r), .d (.int c)] => ∃ (l : List Int) (R C : Nat), (xs = pints l ∧ r = R ∧ c = C ∧ St l ∧ insI l R C = true ∧ R ≤ 100 ∧ C ≤ 100 ∧ R + C ≠ 0) ∧ Q (.d (.tuple (pints (bitsL l R C)))) M
  | _ => False
theorem mo_bits_of_stair : ∀ vs, Mono (sp_bits_of_stair vs) := by
  intro vs M Q Q' X X' hq hx
  unfold sp_bits_of_stair
  (try split) <;> (repeat' first | exact id | exact hq _ _ | exact hx _ _ | refine And.imp ?_ ?_ | refine Exists.imp (fun _ => ?_) | refine forall_imp (fun _ => ?_) | split)
theorem w_bits_of_stair : ∀ (ss : List S) (M : Mem) (Q : S → Mem → Prop) (E : Xc → Mem → Prop), ss.length = 3 → sp_bits_of_stair ss M Q E → wSs Γ_bits_of_stair b_bits_of_stair (startS N_bits_of_stair ss) M (exits M Q E) := by
  intro ss M Q E hl h
  unfold sp_bits_of_stair at h
  split at h
  case h_2 => exact h.elim
  rename_i xs r c
  obtain ⟨l, R, C, ⟨rfl, rfl, rfl, st, hin, hR, hC, hn⟩, h⟩ := h
  have sl := slS
  walk_at "bits_of_stair"
  refine ⟨fun xs e => by cases e; simp [pints]; simp [insI] at hin; omega, (if_pos st.is).mpr ?_⟩
  simp only [wFor, wTg, ub_bits_of_stair_2]
  walk_at "bits_of_stair"
  refine (if_neg (by simp [isNumD])).mpr ((if_neg (by simp [isNumD])).mpr ?_)
  exact bits_2 st hin hR hC hn fun m => ⟨_, _, Ex.drop trivial, h⟩

theorem k_bits_of_stair {xs : List PD} {r : Int} {c : Int} {M : Mem} {Q : S → Mem → Prop} {E : Xc → Mem → Prop} : sp_bits_of_stair [.d (.tuple xs), .d (.int r), .d (.int c)] M Q E = (∃ (l : List Int) (R C : Nat), (xs = pints l ∧ r = R ∧ c = C ∧ St l ∧ insI l R C = true ∧ R ≤ 100 ∧ C ≤ 100 ∧ R + C ≠ 0) ∧ Q (.d (.tuple (pints (bitsL l R C)))) M) := rfl
/-! law -/
abbrev s_law : Stmt := topS 31
def N_law : List Str := ["script", "draw", "rows", "columns", "kind", "stair", "places", "good", "told", "due", "left", "word", "place", "k", "row"]
theorem sc_law : FnScope N_law ["script"] (defScope s_law) := ⟨rfl, rfl, rfl, by decide +kernel, rfl, by decide +kernel, by decide +kernel⟩
def b_law_c12 : Ss := .cons (.asg (.nm 9) (.call "_law_rest" (.cons (.var 5) (.cons (.var 2) (.cons (.var 3) .nil))))) (.cons (.asg (.nm 10) (.call "rest" (.cons (.var 5) (.cons (.var 2) (.cons (.var 3) .nil))))) (.cons (.cond (.or (.not (.isI (.var 10) ["tuple"])) (.not (.b1 .all (.fr (.comp (.and (.isI (.var 14) ["int"]) (.not (.isI (.var 14) ["bool"]))) (.nm 14) (.of (.var 10)) .none))))) (.cons (.ret (.cst (.bool false))) .nil) (.nil)) (.cons (.cond (.or (.cmp .NotEq (.var 10) (.var 9)) (.cmp .NotEq (.call "rest" (.cons (.var 9) (.cons (.var 2) (.cons (.var 3) .nil)))) (.var 5))) (.cons (.ret (.cst (.bool false))) .nil) (.nil)) (.cons (.asg (.nm 11) (.call "_law_word" (.cons (.var 5) (.cons (.var 2) (.cons (.var 3) .nil))))) (.cons (.cond (.or (.cmp .Eq (.bin .Add (.var 2) (.var 3)) (.cst (.int 0))) (.cmp .NotEq (.call "bits_of_stair" (.cons (.var 5) (.cons (.var 2) (.cons (.var 3) .nil)))) (.var 11))) (.cons (.ret (.cmp .Eq (.bin .Add (.var 2) (.var 3)) (.cst (.int 0)))) .nil) (.nil)) (.cons (.ret (.cmp .Eq (.call "bits_of_stair" (.cons (.var 9) (.cons (.var 2) (.cons (.var 3) .nil)))) (.b1 .tuple (.fr (.comp (.ix (.var 11) (.bin .Sub (.bin .Sub (.b1 .len (.var 11)) (.cst (.int 1))) (.var 13))) (.nm 13) (.rng (.cons (.b1 .len (.var 11)) .nil)) .none))))) .nil))))))
def b_law_c8 : Ss := .cons (.asg (.nm 8) (.call "fits" (.cons (.var 5) (.cons (.var 2) (.cons (.var 3) .nil))))) (.cons (.cond (.or (.not (.isI (.var 8) ["bool"])) (.cmp .NotEq (.var 8) (.var 7))) (.cons (.ret (.cst (.bool false))) .nil) (.nil)) (.cons (.cond (.not (.call "_law_wrong" (.cons (.var 1) (.cons (.var 5) (.cons (.var 2) (.cons (.var 3) .nil)))))) (.cons (.ret (.cst (.bool false))) .nil) (.nil)) (.cons (.cond (.not (.var 7)) (.cons (.ret (.cmp .Eq (.call "_law_refused" (.cons (.var 5) (.cons (.var 2) (.cons (.var 3) (.cons (.cst (.bool false)) .nil))))) (.tup (.cons (.cst (.str "what")) (.cons (.cst (.str "box")) .nil))))) .nil) (.nil)) (b_law_c12))))
def b_law_c7 : Ss := .cons (.asg (.nm 7) (.b1 .all (.fr (.comp (.and (.cmp .Lt (.ix (.var 12) (.cst (.int 0))) (.var 2)) (.cmp .Lt (.ix (.var 12) (.cst (.int 1))) (.var 3))) (.nm 12) (.of (.var 6)) .none)))) (b_law_c8)
def b_law_c6 : Ss := .cons (.asg (.nm 6) (.call "_law_boxes" (.cons (.var 5) .nil))) (b_law_c7)
def b_law : Ss := .cons (.asg (.nm 1) (.call "_law_open" (.cons (.var 0) .nil))) (.cons (.asg (.nm 2) (.call "_law_pick" (.cons (.var 1) (.cons (.cst (.int 7)) .nil)))) (.cons (.asg (.nm 3) (.call "_law_pick" (.cons (.var 1) (.cons (.cst (.int 7)) .nil)))) (.cons (.asg (.nm 4) (.call "_law_pick" (.cons (.var 1) (.cons (.cst (.int 8)) .nil)))) (.cons (.asg (.nm 5) (.call "_law_stair" (.cons (.var 1) (.cons (.var 2) (.cons (.var 3) .nil))))) (.cons (.cond (.cmp .Eq (.var 4) (.cst (.int 0))) (.cons (.asg (.nm 5) (.call "_law_stair" (.cons (.var 1) (.cons (.cst (.int 8)) (.cons (.cst (.int 8)) .nil))))) .nil) (.cons (.cond (.cmp .Eq (.var 4) (.cst (.int 1))) (.cons (.asg (.nm 5) (.bin .Add (.tup (.cons (.bin .Add (.var 3) (.cst (.int 1))) .nil)) (.sl (.var 5) .none (.some (.b2 .max (.cst (.int 0)) (.bin .Sub (.var 2) (.cst (.int 1)))))))) .nil) (.cons (.cond (.cmp .Eq (.var 4) (.cst (.int 2))) (.cons (.asg (.nm 5) (.bin .Add (.b1 .tuple (.fr (.comp (.bin .Add (.var 14) (.cst (.int 1))) (.nm 14) (.of (.var 5)) (.some (.cmp .Lt (.var 14) (.var 3)))))) (.bin .Mult (.tup (.cons (.cst (.int 1)) .nil)) (.bin .Add (.var 2) (.cst (.int 1)))))) .nil) (.cons (.cond (.cmp .Eq (.var 4) (.cst (.int 3))) (.cons (.asg (.nm 5) (.ite (.cmp .Gt (.var 3) (.cst (.int 0))) (.bin .Mult (.tup (.cons (.var 3) .nil)) (.var 2)) (.tup (.nil)))) .nil) (.nil)) .nil)) .nil)) .nil)) (b_law_c6))))))
theorem ub_law_c12 : b_law_c12 = .cons (.asg (.nm 9) (.call "_law_rest" (.cons (.var 5) (.cons (.var 2) (.cons (.var 3) .nil))))) (.cons (.asg (.nm 10) (.call "rest" (.cons (.var 5) (.cons (.var 2) (.cons (.var 3) .nil))))) (.cons (.cond (.or (.not (.isI (.var 10) ["tuple"])) (.not (.b1 .all (.fr (.comp (.and (.isI (.var 14) ["int"]) (.not (.isI (.var 14) ["bool"]))) (.nm 14) (.of (.var 10)) .none))))) (.cons (.ret (.cst (.bool false))) .nil) (.nil)) (.cons (.cond (.or (.cmp .NotEq (.var 10) (.var 9)) (.cmp .NotEq (.call "rest" (.cons (.var 9) (.cons (.var 2) (.cons (.var 3) .nil)))) (.var 5))) (.cons (.ret (.cst (.bool false))) .nil) (.nil)) (.cons (.asg (.nm 11) (.call "_law_word" (.cons (.var 5) (.cons (.var 2) (.cons (.var 3) .nil))))) (.cons (.cond (.or (.cmp .Eq (.bin .Add (.var 2) (.var 3)) (.cst (.int 0))) (.cmp .NotEq (.call "bits_of_stair" (.cons (.var 5) (.cons (.var 2) (.cons (.var 3) .nil)))) (.var 11))) (.cons (.ret (.cmp .Eq (.bin .Add (.var 2) (.var 3)) (.cst (.int 0)))) .nil) (.nil)) (.cons (.ret (.cmp .Eq (.call "bits_of_stair" (.cons (.var 9) (.cons (.var 2) (.cons (.var 3) .nil)))) (.b1 .tuple (.fr (.comp (.ix (.var 11) (.bin .Sub (.bin .Sub (.b1 .len (.var 11)) (.cst (.int 1))) (.var 13))) (.nm 13) (.rng (.cons (.b1 .len (.var 11)) .nil)) .none))))) .nil)))))) := rfl
theorem ub_law_c8 : b_law_c8 = .cons (.asg (.nm 8) (.call "fits" (.cons (.var 5) (.cons (.var 2) (.cons (.var 3) .nil))))) (.cons (.cond (.or (.not (.isI (.var 8) ["bool"])) (.cmp .NotEq (.var 8) (.var 7))) (.cons (.ret (.cst (.bool false))) .nil) (.nil)) (.cons (.cond (.not (.call "_law_wrong" (.cons (.var 1) (.cons (.var 5) (.cons (.var 2) (.cons (.var 3) .nil)))))) (.cons (.ret (.cst (.bool false))) .nil) (.nil)) (.cons (.cond (.not (.var 7)) (.cons (.ret (.cmp .Eq (.call "_law_refused" (.cons (.var 5) (.cons (.var 2) (.cons (.var 3) (.cons (.cst (.bool false)) .nil))))) (.tup (.cons (.cst (.str "what")) (.cons (.cst (.str "box")) .nil))))) .nil) (.nil)) (b_law_c12)))) := rfl
theorem ub_law_c7 : b_law_c7 = .cons (.asg (.nm 7) (.b1 .all (.fr (.comp (.and (.cmp .Lt (.ix (.var 12) (.cst (.int 0))) (.var 2)) (.cmp .Lt (.ix (.var 12) (.cst (.int 1))) (.var 3))) (.nm 12) (.of (.var 6)) .none)))) (b_law_c8) := rfl
theorem ub_law_c6 : b_law_c6 = .cons (.asg (.nm 6) (.call "_law_boxes" (.cons (.var 5) .nil))) (b_law_c7) := rfl
theorem ub_law : b_law = .cons (.asg (.nm 1) (.call "_law_open" (.cons (.var 0) .nil))) (.cons (.asg (.nm 2) (.call "_law_pick" (.cons (.var 1) (.cons (.cst (.int 7)) .nil)))) (.cons (.asg (.nm 3) (.call "_law_pick" (.cons (.var 1) (.cons (.cst (.int 7)) .nil)))) (.cons (.asg (.nm 4) (.call "_law_pick" (.cons (.var 1) (.cons (.cst (.int 8)) .nil)))) (.cons (.asg (.nm 5) (.call "_law_stair" (.cons (.var 1) (.cons (.var 2) (.cons (.var 3) .nil))))) (.cons (.cond (.cmp .Eq (.var 4) (.cst (.int 0))) (.cons (.asg (.nm 5) (.call "_law_stair" (.cons (.var 1) (.cons (.cst (.int 8)) (.cons (.cst (.int 8)) .nil))))) .nil) (.cons (.cond (.cmp .Eq (.var 4) (.cst (.int 1))) (.cons (.asg (.nm 5) (.bin .Add (.tup (.cons (.bin .Add (.var 3) (.cst (.int 1))) .nil)) (.sl (.var 5) .none (.some (.b2 .max (.cst (.int 0)) (.bin .Sub (.var 2) (.cst (.int 1)))))))) .nil) (.cons (.cond (.cmp .Eq (.var 4) (.cst (.int 2))) (.cons (.asg (.nm 5) (.bin .Add (.b1 .tuple (.fr (.comp (.bin .Add (.var 14) (.cst (.int 1))) (.nm 14) (.of (.var 5)) (.some (.cmp .Lt (.var 14) (.var 3)))))) (.bin .Mult (.tup (.cons (.cst (.int 1)) .nil)) (.bin .Add (.var 2) (.cst (.int 1)))))) .nil) (.cons (.cond (.cmp .Eq (.var 4) (.cst (.int 3))) (.cons (.asg (.nm 5) (.ite (.cmp .Gt (.var 3) (.cst (.int 0))) (.bin .Mult (.tup (.cons (.var 3) .nil)) (.var 2)) (.tup (.nil)))) .nil) (.nil)) .nil)) .nil)) .nil)) (b_law_c6)))))) := rfl
theorem st_law {x0 : S} : startS N_law [x0] = [some x0, none, none, none, none, none, none, none, none, none, none, none, none, none, none] := rfl
def lib_law : Lib := [("_law_open", ["script"], sp_law_open), ("_law_pick", ["draw", "many"], sp_law_pick), ("_law_stair", ["draw", "rows", "columns"], sp_law_stair), ("_law_boxes", ["stair"], sp_law_boxes), ("fits", ["stair", "rows", "columns"], sp_fits), ("_law_rest", ["stair", "rows", "columns"], sp_law_rest), ("rest", ["stair", "rows", "columns"], sp_rest), ("_law_word", ["stair", "rows", "columns"], sp_law_word), ("_law_wrong", ["draw", "stair", "rows", "columns"], sp_law_wrong), ("bits_of_stair", ["stair", "ones", "zeros"], sp_bits_of_stair), ("_law_refused", ["stair", "rows", "columns", "asks"], sp_law_refused)]
abbrev Γ_law : G.Env := lib_law.env (MroF tab)
theorem Φ_law_law_open : Γ_law.Φ "_law_open" = some sp_law_open := by rfl
theorem φ_law_law_open {P : FSpec → Prop} : (∃ φ, Γ_law.Φ "_law_open" = some φ ∧ P φ) = P sp_law_open := by rw [Φ_law_law_open]; exact ex_self
theorem Φ_law_law_pick : Γ_law.Φ "_law_pick" = some sp_law_pick := by rfl
theorem φ_law_law_pick {P : FSpec → Prop} : (∃ φ, Γ_law.Φ "_law_pick" = some φ ∧ P φ) = P sp_law_pick := by rw [Φ_law_law_pick]; exact ex_self
theorem Φ_law_law_stair : Γ_law.Φ "_law_stair" = some sp_law_stair := by rfl
theorem φ_law_law_stair {P : FSpec → Prop} : (∃ φ, Γ_law.Φ "_law_stair" = some φ ∧ P φ) = P sp_law_stair := by rw [Φ_law_law_stair]; exact ex_self
theorem Φ_law_law_boxes : Γ_law.Φ "_law_boxes" = some sp_law_boxes := by rfl
theorem φ_law_law_boxes {P : FSpec → Prop} : (∃ φ, Γ_law.Φ "_law_boxes" = some φ ∧ P φ) = P sp_law_boxes := by rw [Φ_law_law_boxes]; exact ex_self
theorem Φ_law_fits : Γ_law.Φ "fits" = some sp_fits := by rfl
theorem φ_law_fits {P : FSpec → Prop} : (∃ φ, Γ_law.Φ "fits" = some φ ∧ P φ) = P sp_fits := by rw [Φ_law_fits]; exact ex_self
theorem Φ_law_law_rest : Γ_law.Φ "_law_rest" = some sp_law_rest := by rfl
theorem φ_law_law_rest {P : FSpec → Prop} : (∃ φ, Γ_law.Φ "_law_rest" = some φ ∧ P φ) = P sp_law_rest := by rw [Φ_law_law_rest]; exact ex_self
theorem Φ_law_rest : Γ_law.Φ "rest" = some sp_rest := by rfl
theorem φ_law_rest {P : FSpec → Prop} : (∃ φ, Γ_law.Φ "rest" = some φ ∧ P φ) = P sp_rest := by rw [Φ_law_rest]; exact ex_self
theorem Φ_law_law_word : Γ_law.Φ "_law_word" = some sp_law_word := by rfl
theorem φ_law_law_word {P : FSpec → Prop} : (∃ φ, Γ_law.Φ "_law_word" = some φ ∧ P φ) = P sp_law_word := by rw [Φ_law_law_word]; exact ex_self
theorem Φ_law_law_wrong : Γ_law.Φ "_law_wrong" = some sp_law_wrong := by rfl
theorem φ_law_law_wrong {P : FSpec → Prop} : (∃ φ, Γ_law.Φ "_law_wrong" = some φ ∧ P φ) = P sp_law_wrong := by rw [Φ_law_law_wrong]; exact ex_self
theorem Φ_law_bits_of_stair : Γ_law.Φ "bits_of_stair" = some sp_bits_of_stair := by rfl
theorem φ_law_bits_of_stair {P : FSpec → Prop} : (∃ φ, Γ_law.Φ "bits_of_stair" = some φ ∧ P φ) = P sp_bits_of_stair := by rw [Φ_law_bits_of_stair]; exact ex_self
theorem Φ_law_law_refused : Γ_law.Φ "_law_refused" = some sp_law_refused := by rfl
theorem φ_law_law_refused {P : FSpec → Prop} : (∃ φ, Γ_law.Φ "_law_refused" = some φ ∧ P φ) = P sp_law_refused := by rw [Φ_law_law_refused]; exact ex_self
local macro_rules | `(tactic| walk_at "law") => `(tactic| simp (maxSteps := 1000000) only [ub_law, st_law, exits, Φ_law_law_open, Φ_law_law_pick, Φ_law_law_stair, Φ_law_law_boxes, Φ_law_fits, Φ_law_law_rest, Φ_law_rest, Φ_law_law_word, Φ_law_law_wrong, Φ_law_bits_of_stair, Φ_law_law_refused, ↓φ_law_law_open, ↓φ_law_law_pick, ↓φ_law_law_stair, ↓φ_law_law_boxes, ↓φ_law_fits, ↓φ_law_law_rest, ↓φ_law_rest, ↓φ_law_law_word, ↓φ_law_law_wrong, ↓φ_law_bits_of_stair, ↓φ_law_law_refused, ↓k_law_open, ↓k_law_pick, ↓k_law_stair, ↓k_law_boxes, ↓k_fits, ↓k_law_rest, ↓k_rest, ↓k_law_word, ↓k_law_wrong, ↓k_bits_of_stair, ↓k_law_refused, ↓e_dnew', ↓e_ddisp', ↓dx_i, ↓dx_s, ↓dp_i, ↓dp_s, ↓yl_k, ↓yl_0, ↓yl_S, ↓yl_z, ↓c_isIN, ↓c_isBN, ↓c_isSN, ↓c_isTN, ↓c_isLN, ↓c_isRN, ↓c_isnIN, ↓c_isnBN, ↓c_isnSN, ↓c_isnTN, ↓c_isnLN, ↓c_isnRN, ↓c_eqSS, ↓c_neSS, ↓ex_pq, ↓c_eqT, ↓c_neT, ↓rng_3, ↓e_mtup', ↓ex_l, ↓xp_k, ↓xp_0, ↓xp_S, ↓xp_z, ↓s_unp, ↓rv_t, ↓rv_l, ↓rv_m, ↓po_m, ↓e_rev, ↓c_isbb, ↓c_isnbb, ↓f_lrng, ↓f_comp2, ↓s_parIx, ↓xv_0, ↓xv_S, ↓da_snoc, ↓da_app, ↓e_cst, ↓e_neg, ↓e_not, ↓e_and, ↓e_or, ↓e_ite, ↓e_bin, ↓e_cmp, ↓e_chain, ↓e_tup, ↓e_fr, ↓e_ix, ↓e_dix, ↓t_dix, ↓s_dput, ↓e_sl, ↓e_rev, ↓e_call, ↓e_callK, ↓e_b1, ↓e_b2, ↓e_isX, ↓e_xval, ↓e_get, ↓e_pop, ↓e_popAt, ↓e_index, ↓t_not, ↓t_and, ↓t_or, ↓a_nil, ↓a_cons, ↓o_none, ↓o_some, ↓c_none, ↓c_some, ↓f_disp, ↓f_comp, ↓f_comp2, ↓f_listOf, ↓i_of, ↓i_rng, ↓i_zip, ↓i_rev, ↓i_keys, i_keys, ↓t_var, ↓t_cst, ↓t_neg, ↓t_ite, ↓t_bin, ↓t_cmp, ↓t_chain, ↓t_tup, ↓t_fr, ↓t_al, ↓t_ddisp, ↓t_ix, ↓t_sl, ↓t_rev, ↓t_call, ↓t_callK, ↓t_b1, ↓t_b2, ↓t_isI, ↓t_isX, ↓t_xval, ↓t_get, ↓t_pop, ↓t_popAt, ↓t_index, ↓s_asg, ↓s_setIx, ↓s_augIx, ↓s_expr, ↓s_ret, ↓s_retN, ↓s_cond, ↓s_loop, ↓s_whl, ↓s_raise, ↓s_tryX, ↓s_pass, ↓s_brk, ↓s_cont, ↓b_nil, ↓b_cons, ↓h_nil, ↓r_add, ↓r_sub, ↓r_mul, ↓r_div, ↓r_mod, ↓r_pow, ↓r_shl, ↓r_cat, ↓r_cats, ↓r_rep, ↓r_lt, ↓r_le, ↓r_gt, ↓r_ge, ↓r_eqI, ↓r_neI, ↓r_augA, ↓r_augS, ↓r_augM, ↓tg_tpt, ↓tg_tpl, ↓tg_tpm, ↓tgs_nil, ↓tgs_cons, ↓turn_nx, ↓turn_ct, ↓turn_bk, ↓turn_rt, ↓turn_ex, ↓d_nil, ↓d_eq, ↓rng_1, ↓rng_2, ↓b_int, ↓b_intb, ↓b_bool, ↓b_boolb, ↓b_lent, ↓b_lenl, ↓b_tupt, ↓b_tupl, ↓b_str, ↓b_repr', ↓xp_d, ↓b_abs, ↓b_sum, ↓b_all, ↓b_any, ↓b_max, ↓b_min, ↓ix_t, ↓ix_l, ↓sl_t, ↓sl_l, ↓c_eqb, ↓c_neb, ↓c_isN, ↓c_isnN, ↓isx_eq, ↓xval_eq, ↓c_inT, ↓c_inL, ↓c_ninT, ↓c_ninL, ↓c_ltT, ↓c_leT, ↓c_gtT, ↓c_geT, ↓c_eqS, ↓c_neS, ↓b_lenm, ↓v_0, ↓v_S, ↓n_0, ↓n_S, ↓un_0, ↓un_S, ↓s_aug', ↓s_par', ↓h_cons', ↓xl_k, ↓xl_0, ↓xl_S, ↓xl_z, ↓mm_t, ↓mm_tk, ↓to_t, ↓md_k, ↓md_0, ↓mm_0, ↓mm_S, ↓nw_1, ↓nw_2, ↓nw_3, ↓nw_4, ↓nw_5, ↓e_al', ↓ix_m', ↓b_tupm', ↓sl_m', ↓ex_map, ↓ap_l, ↓s_app', ↓xt_l, ↓s_ext', ↓in_l, ↓s_ins', ↓p_put', ↓wt_d, ↓wt_k, ↓wt_k0, ↓to_S, ↓to_z, ↓e_isI1, ↓e_isI2, ↓ex_tb, ↓ex_ti, ↓ex_tn, ↓ex_tt, ↓ex_tl, ↓ex_i, ↓ex_B, ↓xd_nil, ↓xd_cons, ↓xd_map, ↓xi_t, ↓xi_l, ↓xi_m, ↓f_cat', ↓f_rep', ↓f_slice', nw_0, e_var, e_cst, e_neg, e_not, e_and, e_or, e_ite, e_bin, e_cmp, e_chain, e_tup, e_fr, e_al, e_ix, e_sl, e_rev, e_call, e_callK, e_b1, e_b2, e_isI, e_isX, e_xval, e_get, e_pop, e_popAt, e_index, t_not, t_and, t_or, a_nil, a_cons, o_none, o_some, c_none, c_some, f_disp, f_comp, f_comp2, f_listOf, f_cat, f_rep, f_slice, i_of, i_rng, i_enum, i_zip, i_rev, t_var, t_cst, t_neg, t_ite, t_bin, t_cmp, t_chain, t_tup, t_fr, t_al, t_ddisp, t_ix, t_sl, t_rev, t_call, t_callK, t_b1, t_b2, t_isI, t_isX, t_xval, t_get, t_pop, t_popAt, t_index, s_asg, s_setIx, e_dnew, e_dix, s_dput, t_dnew, t_dix, s_par, s_aug, s_augIx, s_expr, s_app, s_ext, s_ins, s_ret, s_retN, s_cond, s_loop, s_whl, s_raise, s_tryX, s_pass, s_brk, s_cont, b_nil, b_cons, h_nil, h_cons, r_add, r_sub, r_mul, r_div, r_mod, r_pow, r_shl, r_cat, r_cats, r_rep, r_lt, r_le, r_gt, r_ge, r_eqI, r_neI, tr_bool, tr_int, tr_none, tr_tuple, tr_list, r_augA, r_augS, r_augM, m_get, m_get0, m_set, m_set0, ex_v, ex_k, ex_lst, tg_nm, tg_tpt, tg_tpl, tg_tpm, tgs_nil, tgs_cons, tgAt_eq, List.getElem?_cons_succ, List.getElem?_cons_zero, List.set_cons_succ, List.set_cons_zero, List.length_append, List.length_cons, List.length_nil, List.append_assoc, List.cons_append, List.nil_append, decide_eq_true_eq, I, B, N0, S.l.injEq, S.d.injEq, Option.some.injEq, MO.lst.injEq, exists_eq_left', exists_and_left, mapM_d, Bool.false_eq_true, isT_int_none, isT_int_bool, isT_int_int, isT_int_str, isT_int_list, isT_int_tuple, isT_int_dict, isT_bool_none, isT_bool_bool, isT_bool_int, isT_bool_str, isT_bool_list, isT_bool_tuple, isT_bool_dict, isT_str_none, isT_str_bool, isT_str_int, isT_str_str, isT_str_list, isT_str_tuple, isT_str_dict, isT_list_none, isT_list_bool, isT_list_int, isT_list_str, isT_list_list, isT_list_tuple, isT_list_dict, isT_tuple_none, isT_tuple_bool, isT_tuple_int, isT_tuple_str, isT_tuple_list, isT_tuple_tuple, isT_tuple_dict, isT_dict_none, isT_dict_bool, isT_dict_int, isT_dict_str, isT_dict_list, isT_dict_tuple, isT_dict_dict, at_0, at_1, mapM_s, List.map_cons, List.map_nil, List.any_cons, List.any_nil, id_eq, Bool.or_false, Bool.not_true, Bool.not_false, ↓reduceIte, turn_nx, turn_ct, turn_bk, turn_rt, turn_ex, ty_m, Int.zero_add, d_nil, d_eq, rng_1, rng_2, b_int, b_intb, b_bool, b_boolb, b_lent, b_lenl, b_lenm, b_tupt, b_tupl, b_tupm, b_str, b_repr', b_abs, b_sum, b_all, b_any, b_max, b_min, ix_t, ix_l, ix_m, sl_t, sl_l, sl_m, ty_d, it_t, it_l, pd_d, c_eqb, c_neb, c_isN, c_isnN, isx_eq, xval_eq, true_and, and_true, List.append_nil, wipeS, tgSlots, tgSlotss, c_inT, c_inL, c_ninT, c_ninL, c_ltT, c_leT, c_gtT, c_geT, it_k, it_k0, ty_k, ty_k0, lo_1, to_1, to_2, beq_self_eq_true, sd_inj, da_nil, da_cons, da_map, Option.map_some, p_put, Nat.reduceAdd, Int.reduceEq, Int.reduceLT, Int.reduceLE, f_lrng, f_comp2, e_indexT, s_parIx, s_any, gt_t, gt_tk, c_noneF, c_eqS, c_neS, eq_self, decide_true, decide_false, pints_len, itm_len, sz_0, sz_1, sz_2, sz_3, sz_4, sz_5, sz_6, sz_7, sz_8, int?_d, ok_of_d, ex_self, Nat.zero_add])
theorem lm_law : ∀ p ∈ lib_law, ∀ vs, Mono (p.2.2 vs) := by
  intro p hp
  simp only [lib_law, List.mem_cons, List.not_mem_nil, or_false] at hp
  rcases hp with rfl | rfl | rfl | rfl | rfl | rfl | rfl | rfl | rfl | rfl | rfl
  · exact mo_law_open
  · exact mo_law_pick
  · exact mo_law_stair
  · exact mo_law_boxes
  · exact mo_fits
  · exact mo_law_rest
  · exact mo_rest
  · exact mo_law_word
  · exact mo_law_wrong
  · exact mo_bits_of_stair
  · exact mo_law_refused
theorem mb_law (s : Ss) : MonoS (wSs Γ_law s) := mSs s _ (Lib.mo lm_law)
theorem ck_law : kSs b_law ⟨N_law, defScope s_law, lib_law.fs, kws, cs, hs, true⟩ (defBody s_law) = true := by decide +kernel
theorem bd_law : Bd "law" s_law ["script"] := fun _ _ _ _ _ _ us hl => match us, hl with | [_], _ => rfl
theorem kb_law : ∀ q ∈ kws, q.1 = "law" → BdK "law" s_law ["script"] q.2.1 q.2.2 := by
  intro q hq
  cases hq
--cut 6 7 8 12
def sp_law : FSpec := fun vs M Q E => match vs with
  | [.d (.list xs)] => (∃ ns, xs = pints ns) ∧ Q (B true) M
  | _ => False
theorem mo_law : ∀ vs, Mono (sp_law vs) := by
  intro vs M Q Q' X X' hq hx h
  unfold sp_law at *
  split at h
  · exact ⟨h.1, hq _ _ h.2⟩
  · exact h
section
variable {M : Mem} {Q : S → Mem → Prop} {E : Xc → Mem → Prop} {l : List Int} {R C k : Nat} {O : Outs} {s0 s1 s4 s6 s7 s8 s9 s10 s11 s12 s13 s14 : Option S} {ns : List Int} {a r m : Int}
theorem Ins.i (h : Ins l R C) : insI l R C = true := by
  have := h.len
  have := h.le
  simp only [insI, Bool.and_eq_true, decide_eq_true_eq]
  omega
theorem law_12 (h : O.rt (B true) M) (ins : Ins l R C) (hR : R ≤ 10) (hC : C ≤ 10) : wSs Γ_law b_law_c12 [s0, s1, some (I R), some (I C), s4, some (.d (.tuple (pints l))), s6, s7, s8, none, none, none, s12, none, none] M O := by
  have sl := slS
  simp only [ub_law_c12]
  walk_at "law"
  have st := ins.st
  have i2 := rest_ins ins
  have nn : ∀ n : Nat, ¬ isNumD (.int n) = false := fun n => by simp [isNumD]
  have sD : ∀ {l : List Int}, St l → ¬ isStairD (.tuple (pints l)) = false := fun s => by rw [s.is]; decide
  have iD : ∀ {l : List Int}, Ins l R C → ¬ insD (.tuple (pints l)) (.int R) (.int C) = false := fun s => by simp only [insD, intsOf_pints, s.i]; decide
  have rD : ∀ {l : List Int}, restD (.tuple (pints l)) (.int R) (.int C) = .tuple (pints (restL l R C)) := by simp only [restD, intsOf_pints, implies_true]
  have tl : ∀ {l : List Int}, Ins l R C → tupLen (.tuple (pints l)) := fun s xs e => by
    cases e
    have := s.len
    simp [pints]
    omega
  have sR : small (.int R) := fun z e => by cases e; omega
  refine ⟨l, R, C, ⟨rfl, rfl, rfl, ins, hR, hC⟩, ⟨tl ins, sR⟩, ?_⟩
  refine (if_neg (sD st)).mpr ((if_neg (nn R)).mpr ((if_neg (nn C)).mpr ((if_neg (iD ins)).mpr ?_)))
  simp only [rD]
  walk_at "law"
  have l2 := i2.len
  refine ⟨by omega, ?_⟩
  refine lc_int (p := fun _ => true) (f := fun _ => B true) trivial (fun z hz Q q => q) (fun z hz _ Q q => ?_) ?_
  · walk_at "law"
    exact q
  rw [List.filter_eq_self.mpr (fun _ _ => rfl)]
  refine ⟨(restL l R C).map fun _ => PyData.bool true, by rw [← dataAll_map, List.map_map]; rfl, (restL l R C).map fun _ => true, by rw [List.map_map, List.map_map]; rfl, ?_⟩
  refine (if_neg (by simp)).mpr ?_
  refine ⟨⟨tl i2, sR⟩, (if_neg (sD i2.st)).mpr ((if_neg (nn R)).mpr ((if_neg (nn C)).mpr ((if_neg (iD i2)).mpr ((if_neg (by rw [rest_rest ins]; simp)).mpr ⟨l, R, C, ⟨rfl, rfl, rfl, ins, hR, hC⟩, iteI (fun c => by rw [decide_eq_true c]; exact h) (fun c => ?_)⟩))))⟩
  refine ⟨l, R, C, ⟨rfl, rfl, rfl, st, ins.i, by omega, by omega, by omega⟩, (if_neg (by simp)).mpr ?_⟩
  refine ⟨restL l R C, R, C, ⟨rfl, rfl, rfl, i2.st, i2.i, by omega, by omega, by omega⟩, ?_⟩
  have wl : ((bitsL l R C).length : Int) = R + C := by
    rw [← wd_end, List.length_append]
    have h1 := wd_len st ins.len R (Nat.le_refl _)
    have h2 := zs_len (n := C - rowZ l 0) (by have := ins.le; omega)
    rw [Nat.sub_self] at h1
    omega
  refine ⟨by unfold rngOk; omega, by simp [rngItems]; omega, ?_⟩
  refine lc_rng (f := fun i => I ((bitsL l R C).getD ((bitsL l R C).length - 1 - i) 0)) (bitsL l R C).length (by omega) trivial (fun i hi Q q => ?_) ?_
  · walk_at "law"
    refine ⟨_, ?_, q⟩
    have hj : (bitsL l R C).length - 1 - i < (bitsL l R C).length := by omega
    rw [show ((bitsL l R C).length : Int) - 1 - (i : Nat) = ((bitsL l R C).length - 1 - i : Nat) by omega]
    exact at_nat (by simp [pints, hj])
  · have e1 : (List.range (bitsL l R C).length).map (fun i => I ((bitsL l R C).getD ((bitsL l R C).length - 1 - i) 0)) = (pints (bitsL l R C).reverse).map S.d := by
      apply List.ext_getElem
      · simp [pints]
      · intro i h1 h2
        have h3 : i < (bitsL l R C).length := by simpa using h1
        have h4 : (bitsL l R C).length - 1 - i < (bitsL l R C).length := by omega
        simp [pints, h4]
    rw [e1]
    refine ⟨_, dataAll_map _, ?_⟩
    rw [← rest_bits ins]
    walk_at "law"
    exact h
theorem law_8 (hk : M[k]? = some (drw ns a r m)) (a0 : 0 ≤ a) (h : ∀ a r m, O.rt (B true) (M.set k (drw ns a r m))) (st : St l) (ln : l.length ≤ 30) (wd : rowZ l 0 ≤ 30) (hR : R ≤ 10) (hC : C ≤ 10) : wSs Γ_law b_law_c8 [s0, some (.l k), some (I R), some (I C), s4, some (.d (.tuple (pints l))), s6, some (B (insI l R C)), none, none, none, none, s12, none, none] M O := by
  have sl := slS
  simp only [ub_law_c8]
  walk_at "law"
  have nn : ∀ n : Nat, ¬ isNumD (.int n) = false := fun n => by simp [isNumD]
  have sD : ¬ isStairD (.tuple (pints l)) = false := by rw [st.is]; decide
  have iD : insD (.tuple (pints l)) (.int R) (.int C) = insI l R C := by simp only [insD, intsOf_pints]
  have tl : tupLen (.tuple (pints l)) := fun xs e => by
    cases e
    simp [pints]
    omega
  have sR : small (.int R) := fun z e => by cases e; omega
  have bd : ∀ z ∈ l, 0 ≤ z ∧ z ≤ 30 := fun z hz => by
    obtain ⟨i, hi, e⟩ := List.getElem_of_mem hz
    have h1 := st.pos z hz
    have h2 := st.mono (Nat.zero_le i)
    rw [rowZ_lt hi, e] at h2
    omega
  have rR : ∀ {n : Nat}, n ≤ 10 → RpOk (.int n) := fun h => (Rp.int (d := 0) (by omega)).rep (by decide) (by decide)
  have rl : RpOk (.tuple (pints l)) := (Rp.tup (n := 31) (ints_rp bd) (by simp [pints]; omega)).rep (by decide) (by decide)
  refine ⟨tl, (if_neg sD).mpr ((if_neg (nn R)).mpr ((if_neg (nn C)).mpr ((if_neg (by rw [iD]; simp)).mpr ?_)))⟩
  refine ⟨l, ns, a, r, m, R, C, ⟨hk, a0, rfl, rfl, rfl, st, ln, wd, hR, hC⟩, fun a' r' m' a1 => ?_⟩
  cases c : insI l R C with
  | false =>
    refine (if_pos rfl).mpr ⟨⟨⟨tl, sR⟩, rl, rR hR, rR hC⟩, ?_⟩
    rw [decide_eq_true]
    · exact h _ _ _
    · simp only [refA, refB, if_neg sD, if_neg (nn R), if_neg (nn C), iD, c]
      exact ⟨rfl, rfl⟩
  | true =>
    refine (if_neg (by decide)).mpr (law_12 (h _ _ _) ?_ hR hC)
    simp only [insI, Bool.and_eq_true, decide_eq_true_eq] at c
    exact ⟨st, by omega, c.2⟩
theorem rep_flat {n : Nat} {c : Int} : (List.replicate n [PyData.int c]).flatten = pints (List.replicate n c) := by
  unfold pints
  induction n with
  | zero => rfl
  | succ k ih => rw [List.replicate_succ, List.flatten_cons, ih, List.replicate_succ]; rfl
theorem row0_le {l : List Int} {b : Int} (b0 : 0 ≤ b) (h : ∀ z ∈ l, z ≤ b) : rowZ l 0 ≤ b := by
  by_cases c : 0 < l.length
  · rw [rowZ_lt c]
    exact h _ (List.getElem_mem c)
  · rw [rowZ_ge (by omega)]
    exact b0
theorem St.le {l : List Int} (st : St l) : ∀ z ∈ l, z ≤ rowZ l 0 := fun z hz => by
  obtain ⟨i, hi, e⟩ := List.getElem_of_mem hz
  have h2 := st.mono (Nat.zero_le i)
  rw [rowZ_lt hi, e] at h2
  exact h2
theorem cut_subl {l : List Int} {lo hi : Option Int} : (cut l lo hi).Sublist l := by
  unfold cut
  exact (List.take_sublist _ _).trans (List.drop_sublist _ _)
theorem st_k1 {l l' : List Int} {b : Int} (st : St l) (h : rowZ l 0 ≤ b) (b0 : 0 ≤ b) (s : l'.Sublist l) : St ((b + 1) :: l') :=
  ⟨fun z hz => by
    rcases List.mem_cons.mp hz with rfl | hz
    · omega
    · exact st.pos z (s.subset hz), List.pairwise_cons.mpr ⟨fun z hz => by have := st.le z (s.subset hz); omega, st.fall.sublist s⟩⟩
theorem st_k2 {l : List Int} {b : Int} {n : Nat} (st : St l) : St ((l.filter fun z => decide (z < b)).map (· + 1) ++ List.replicate n 1) := by
  refine ⟨fun z hz => ?_, List.pairwise_append.mpr ⟨?_, ?_, fun x hx y hy => ?_⟩⟩
  · rcases List.mem_append.mp hz with hz | hz
    · obtain ⟨y, hy, rfl⟩ := List.mem_map.mp hz
      have := st.pos y (List.mem_filter.mp hy).1
      omega
    · rw [(List.mem_replicate.mp hz).2]
      omega
  · exact List.Pairwise.map _ (fun a b h => by omega) (st.fall.filter _)
  · exact List.pairwise_replicate.mpr (.inr (by omega))
  · obtain ⟨y', hy', rfl⟩ := List.mem_map.mp hx
    have := st.pos y' (List.mem_filter.mp hy').1
    rw [(List.mem_replicate.mp hy).2]
    omega
theorem st_k3 {n : Nat} {c : Int} (h : 0 < c) : St (List.replicate n c) := ⟨fun z hz => by rw [(List.mem_replicate.mp hz).2]; omega, List.pairwise_replicate.mpr (.inr (by omega))⟩
theorem law_6 (hk : M[k]? = some (drw ns a r m)) (a0 : 0 ≤ a) (h : ∀ a r m, O.rt (B true) (M.set k (drw ns a r m))) (st : St l) (ln : l.length ≤ 30) (wd : rowZ l 0 ≤ 30) (hR : R ≤ 10) (hC : C ≤ 10) : wSs Γ_law b_law_c6 [s0, some (.l k), some (I R), some (I C), s4, some (.d (.tuple (pints l))), none, none, none, none, none, none, none, none, none] M O := by
  have sl := slS
  simp only [ub_law_c6]
  have rz : ∀ i, rowZ l i ≤ 30 := fun i => by
    have := st.mono (Nat.zero_le i)
    omega
  walk_at "law"
  refine ⟨l, ⟨rfl, st.pos, ln, rz⟩, ?_⟩
  simp only [ub_law_c7]
  walk_at "law"
  have bl := boxesD_len rz l.length
  refine ⟨by omega, ?_⟩
  have e1 : (List.map Itm.one (List.map S.d (boxesD l l.length))) = (boxesUp l l.length).map fun (p : Nat × Nat) => Itm.one (S.d (.tuple [.int p.1, .int p.2])) := by simp [boxesD, Function.comp_def]
  rw [e1]
  refine lc_gen (α := Nat × Nat) (it := fun p => Itm.one (S.d (.tuple [.int p.1, .int p.2]))) (st := fun p => [s0, some (.l k), some (I R), some (I C), s4, some (.d (.tuple (pints l))), some (S.d (PyData.list (boxesD l l.length))), none, none, none, none, none, some (S.d (.tuple [.int p.1, .int p.2])), none, none]) (p := fun _ => true) (f := fun p => B (decide ((p.1 : Int) < R) && decide ((p.2 : Int) < C))) trivial (boxesUp l l.length) (fun y _ K k => by simp only [tgAt, wTg]; exact k) (fun y _ Q q => q) (fun y _ _ Q q => ?_) (acc := []) ?_
  · obtain ⟨x, y⟩ := y
    walk_at "law"
    refine iteI (fun c => ?_) (fun c => ?_)
    · simpa [c] using q
    · simpa [c] using q
  · rw [List.filter_eq_self.mpr (fun _ _ => rfl), List.nil_append]
    refine ⟨(boxesUp l l.length).map fun p => PyData.bool (decide ((p.1 : Int) < R) && decide ((p.2 : Int) < C)), by rw [← dataAll_map, List.map_map]; rfl, (boxesUp l l.length).map fun p => (decide ((p.1 : Int) < R) && decide ((p.2 : Int) < C)), by rw [List.map_map, List.map_map]; rfl, ?_⟩
    rw [List.all_map]
    have := good_ins (R := R) (C := C) st
    simp only [Function.comp_def, id]
    rw [this]
    exact law_8 hk a0 h st ln wd hR hC
end
theorem w_law : ∀ (ss : List S) (M : Mem) (Q : S → Mem → Prop) (E : Xc → Mem → Prop), ss.length = 1 → sp_law ss M Q E → wSs Γ_law b_law (startS N_law ss) M (exits M Q E) := by
  intro ss M Q E hl h
  unfold sp_law at h
  split at h
  case h_2 => exact h.elim
  rename_i xs
  obtain ⟨⟨ns, rfl⟩, h⟩ := h
  walk_at "law"
  have sl := slS
  have kl : ∀ {o : MO}, (M ++ [o])[M.length]? = some o := by simp
  refine ⟨ns, rfl, fun cs m => ⟨_, _, _, _, ⟨rfl, Int.le_refl _⟩, fun d1 a1 r1 m1 a1p d10 d18 => ⟨_, _, _, _, ⟨rfl, a1p⟩, fun d2 a2 r2 m2 a2p d20 d28 => ⟨_, _, _, _, ⟨rfl, a2p⟩, fun d3 a3 r3 m3 a3p d30 d38 => ?_⟩⟩⟩⟩
  obtain ⟨R, rfl⟩ := Int.eq_ofNat_of_zero_le d10
  obtain ⟨C, rfl⟩ := Int.eq_ofNat_of_zero_le d20
  refine ⟨_, _, _, _, R, C, ⟨rfl, a3p, rfl, rfl, by omega, by omega⟩, fun l a4 r4 m4 a4p st ln wd => ?_⟩
  have ln6 : l.length ≤ 6 := by omega
  have wd6 : rowZ l 0 ≤ 6 := by omega
  have go : ∀ {l' : List Int} {a r m : Int} {s0 s4 : Option S}, 0 ≤ a → St l' → l'.length ≤ 30 → (∀ z ∈ l', z ≤ 30) → wSs Γ_law b_law_c6 [s0, some (.l M.length), some (I R), some (I C), s4, some (.d (.tuple (pints l'))), none, none, none, none, none, none, none, none, none] (M ++ [drw cs a r m]) { nx := fun x M' => ∃ r M2, Ex M M' (S.d PyData.none) r M2 ∧ Q r M2, rt := fun v M' => ∃ r M2, Ex M M' v r M2 ∧ Q r M2, ex := fun x x_1 M' => ∃ r M2, Ex M M' x.val r M2 ∧ E { cls := x.cls, fld := x.fld, val := r } M2 } := fun {l'} {a} {r} {m} {_} {_} a0 st ln wd =>
    law_6 (O := { nx := fun x M' => ∃ r M2, Ex M M' (S.d PyData.none) r M2 ∧ Q r M2, rt := fun v M' => ∃ r M2, Ex M M' v r M2 ∧ Q r M2, ex := fun x x_1 M' => ∃ r M2, Ex M M' x.val r M2 ∧ E { cls := x.cls, fld := x.fld, val := r } M2 }) kl a0 (fun a r m => by
      have e : ∀ o o' : MO, (M ++ [o]).set M.length o' = M ++ [o'] := fun o o' => by simp
      rw [e]
      exact ret_data h) st ln (row0_le (by omega) wd) (by omega) (by omega)
  have le6 : ∀ z ∈ l, z ≤ 6 := fun z hz => Int.le_trans (st.le z hz) wd6
  refine iteI (fun c => ?_) (fun c => iteI (fun c => ?_) (fun c => iteI (fun c => ?_) (fun c => iteI (fun c => ?_) (fun c => ?_))))
  · refine ⟨_, _, _, _, 8, 8, ⟨rfl, a4p, rfl, rfl, by omega, by omega⟩, fun l' a5 r5 m5 a5p st' ln' wd' => go a5p st' (by omega) fun z hz => ?_⟩
    have := st'.le z hz
    omega
  · rw [cut_pints, ← pints_cons]
    have sb := cut_subl (l := l) (lo := none) (hi := some (if (R : Int) - 1 > 0 then (R : Int) - 1 else 0))
    have sl' := sb.length_le
    refine ⟨by rw [pints_len]; omega, go a4p (st_k1 st wd (by omega) sb) (by rw [List.length_cons]; omega) fun z hz => ?_⟩
    rcases List.mem_cons.mp hz with rfl | hz
    · omega
    · have := le6 z (sb.subset hz)
      omega
  · refine ⟨by omega, ?_⟩
    refine lc_int (p := fun z => decide (z < (C : Int))) (f := fun z => I (z + 1)) trivial (fun z hz Q q => ?_) (fun z hz hp Q q => ?_) ?_
    · walk_at "law"
      exact q
    · walk_at "law"
      exact q
    have e1 : (l.filter fun z => decide (z < (C : Int))).map (fun z => I (z + 1)) = (pints ((l.filter fun z => decide (z < (C : Int))).map (· + 1))).map S.d := by simp [pints, Function.comp_def]
    rw [e1]
    refine ⟨_, dataAll_map _, ?_⟩
    have fl := List.length_filter_le (fun z => decide (z < (C : Int))) l
    rw [rep_flat, pints_len, pints_len, List.length_map, List.length_replicate, ← pints_app]
    refine ⟨⟨by simp, by omega, by omega, by omega⟩, by omega, go a4p (st_k2 st) ?_ fun z hz => ?_⟩
    · rw [List.length_append, List.length_map, List.length_replicate]
      omega
    · rcases List.mem_append.mp hz with hz | hz
      · obtain ⟨y, hy, rfl⟩ := List.mem_map.mp hz
        have := le6 y (List.mem_filter.mp hy).1
        omega
      · rw [(List.mem_replicate.mp hz).2]
        omega
  · refine iteI (fun c => ?_) (fun c => ?_)
    · rw [rep_flat]
      refine ⟨⟨by simp, by omega, by omega, by omega⟩, go a4p (st_k3 c) ?_ fun z hz => ?_⟩
      · rw [List.length_replicate]
        omega
      · rw [(List.mem_replicate.mp hz).2]
        omega
    · exact go (l' := []) a4p st_nil (by simp) fun z hz => nomatch hz
  · exact go a4p st (by omega) fun z hz => by have := le6 z hz; omega
theorem end_law : ∀ (ns : List Int) (Q : S → Mem → Prop) (E : Xc → Mem → Prop), ns.length ≤ 63 → (∀ z ∈ ns, Builtin.Int.intBits z ≤ 1048576) → (∀ M, Q (B true) M) → sp_law [.d (.list (pints ns))] [] Q E := fun ns Q E _ _ q => ⟨⟨ns, rfl⟩, q []⟩
/-! ### the chain -/
section
variable {w : World} {K : PySem.W.Frag} {mg : Str → Option Value} {base : Heap}
theorem F_law_open (pf : PF PySem.Challenge.pw_stairworks_k76_fits_and_rests K mg (MroF tab) cs hs) {a_law_open : Addr} {fd_law_open : FuncData} (f_law_open : FF K mg "_law_open" s_law_open a_law_open fd_law_open) : FnG PySem.Challenge.pw_stairworks_k76_fits_and_rests w K mg base 3 a_law_open fd_law_open ["script"] (spOf mg K 1 sp_law_open) := by
  refine fng_of f_law_open sc_law_open pf (by decide) (lib := lib_law_open) (.nil) (by decide) lm_law_open ck_law_open w_law_open
theorem c_law_open (pf : PF PySem.Challenge.pw_stairworks_k76_fits_and_rests K mg (MroF tab) cs hs) {a_law_open : Addr} {fd_law_open : FuncData} (f_law_open : FF K mg "_law_open" s_law_open a_law_open fd_law_open) : G.Cal PySem.Challenge.pw_stairworks_k76_fits_and_rests w K mg base 3 kws "_law_open" ["script"] sp_law_open := cal_of f_law_open (F_law_open pf f_law_open) bd_law_open kb_law_open (by decide)
theorem F_law_pick (pf : PF PySem.Challenge.pw_stairworks_k76_fits_and_rests K mg (MroF tab) cs hs) {a_law_pick : Addr} {fd_law_pick : FuncData} (f_law_pick : FF K mg "_law_pick" s_law_pick a_law_pick fd_law_pick) : FnG PySem.Challenge.pw_stairworks_k76_fits_and_rests w K mg base 3 a_law_pick fd_law_pick ["draw", "many"] (spOf mg K 2 sp_law_pick) := by
  refine fng_of f_law_pick sc_law_pick pf (by decide) (lib := lib_law_pick) (.nil) (by decide) lm_law_pick ck_law_pick w_law_pick
theorem c_law_pick (pf : PF PySem.Challenge.pw_stairworks_k76_fits_and_rests K mg (MroF tab) cs hs) {a_law_pick : Addr} {fd_law_pick : FuncData} (f_law_pick : FF K mg "_law_pick" s_law_pick a_law_pick fd_law_pick) : G.Cal PySem.Challenge.pw_stairworks_k76_fits_and_rests w K mg base 3 kws "_law_pick" ["draw", "many"] sp_law_pick := cal_of f_law_pick (F_law_pick pf f_law_pick) bd_law_pick kb_law_pick (by decide)
theorem F_law_stair (pf : PF PySem.Challenge.pw_stairworks_k76_fits_and_rests K mg (MroF tab) cs hs) {a_law_pick : Addr} {fd_law_pick : FuncData} (f_law_pick : FF K mg "_law_pick" s_law_pick a_law_pick fd_law_pick) {a_law_stair : Addr} {fd_law_stair : FuncData} (f_law_stair : FF K mg "_law_stair" s_law_stair a_law_stair fd_law_stair) : FnG PySem.Challenge.pw_stairworks_k76_fits_and_rests w K mg base 4 a_law_stair fd_law_stair ["draw", "rows", "columns"] (spOf mg K 3 sp_law_stair) := by
  refine fng_of f_law_stair sc_law_stair pf (by decide) (lib := lib_law_stair) (.cons (c_law_pick pf f_law_pick) (by decide) (.nil)) (by decide) lm_law_stair ck_law_stair w_law_stair
theorem c_law_stair (pf : PF PySem.Challenge.pw_stairworks_k76_fits_and_rests K mg (MroF tab) cs hs) {a_law_pick : Addr} {fd_law_pick : FuncData} (f_law_pick : FF K mg "_law_pick" s_law_pick a_law_pick fd_law_pick) {a_law_stair : Addr} {fd_law_stair : FuncData} (f_law_stair : FF K mg "_law_stair" s_law_stair a_law_stair fd_law_stair) : G.Cal PySem.Challenge.pw_stairworks_k76_fits_and_rests w K mg base 4 kws "_law_stair" ["draw", "rows", "columns"] sp_law_stair := cal_of f_law_stair (F_law_stair pf f_law_pick f_law_stair) bd_law_stair kb_law_stair (by decide)
theorem F_law_boxes (pf : PF PySem.Challenge.pw_stairworks_k76_fits_and_rests K mg (MroF tab) cs hs) {a_law_boxes : Addr} {fd_law_boxes : FuncData} (f_law_boxes : FF K mg "_law_boxes" s_law_boxes a_law_boxes fd_law_boxes) : FnG PySem.Challenge.pw_stairworks_k76_fits_and_rests w K mg base 3 a_law_boxes fd_law_boxes ["stair"] (spOf mg K 1 sp_law_boxes) := by
  refine fng_of f_law_boxes sc_law_boxes pf (by decide) (lib := lib_law_boxes) (.nil) (by decide) lm_law_boxes ck_law_boxes w_law_boxes
theorem c_law_boxes (pf : PF PySem.Challenge.pw_stairworks_k76_fits_and_rests K mg (MroF tab) cs hs) {a_law_boxes : Addr} {fd_law_boxes : FuncData} (f_law_boxes : FF K mg "_law_boxes" s_law_boxes a_law_boxes fd_law_boxes) : G.Cal PySem.Challenge.pw_stairworks_k76_fits_and_rests w K mg base 3 kws "_law_boxes" ["stair"] sp_law_boxes := cal_of f_law_boxes (F_law_boxes pf f_law_boxes) bd_law_boxes kb_law_boxes (by decide)
theorem F_is_integer (pf : PF PySem.Challenge.pw_stairworks_k76_fits_and_rests K mg (MroF tab) cs hs) {a_is_integer : Addr} {fd_is_integer : FuncData} (f_is_integer : FF K mg "is_integer" s_is_integer a_is_integer fd_is_integer) : FnG PySem.Challenge.pw_stairworks_k76_fits_and_rests w K mg base 3 a_is_integer fd_is_integer ["value"] (spOf mg K 1 sp_is_integer) := by
  refine fng_of f_is_integer sc_is_integer pf (by decide) (lib := lib_is_integer) (.nil) (by decide) lm_is_integer ck_is_integer w_is_integer
theorem c_is_integer (pf : PF PySem.Challenge.pw_stairworks_k76_fits_and_rests K mg (MroF tab) cs hs) {a_is_integer : Addr} {fd_is_integer : FuncData} (f_is_integer : FF K mg "is_integer" s_is_integer a_is_integer fd_is_integer) : G.Cal PySem.Challenge.pw_stairworks_k76_fits_and_rests w K mg base 3 kws "is_integer" ["value"] sp_is_integer := cal_of f_is_integer (F_is_integer pf f_is_integer) bd_is_integer kb_is_integer (by decide)
theorem F_is_positive (pf : PF PySem.Challenge.pw_stairworks_k76_fits_and_rests K mg (MroF tab) cs hs) {a_is_integer : Addr} {fd_is_integer : FuncData} (f_is_integer : FF K mg "is_integer" s_is_integer a_is_integer fd_is_integer) {a_is_positive : Addr} {fd_is_positive : FuncData} (f_is_positive : FF K mg "is_positive" s_is_positive a_is_positive fd_is_positive) : FnG PySem.Challenge.pw_stairworks_k76_fits_and_rests w K mg base 4 a_is_positive fd_is_positive ["value"] (spOf mg K 1 sp_is_positive) := by
  refine fng_of f_is_positive sc_is_positive pf (by decide) (lib := lib_is_positive) (.cons (c_is_integer pf f_is_integer) (by decide) (.nil)) (by decide) lm_is_positive ck_is_positive w_is_positive
theorem c_is_positive (pf : PF PySem.Challenge.pw_stairworks_k76_fits_and_rests K mg (MroF tab) cs hs) {a_is_integer : Addr} {fd_is_integer : FuncData} (f_is_integer : FF K mg "is_integer" s_is_integer a_is_integer fd_is_integer) {a_is_positive : Addr} {fd_is_positive : FuncData} (f_is_positive : FF K mg "is_positive" s_is_positive a_is_positive fd_is_positive) : G.Cal PySem.Challenge.pw_stairworks_k76_fits_and_rests w K mg base 4 kws "is_positive" ["value"] sp_is_positive := cal_of f_is_positive (F_is_positive pf f_is_integer f_is_positive) bd_is_positive kb_is_positive (by decide)
theorem F_is_stair (pf : PF PySem.Challenge.pw_stairworks_k76_fits_and_rests K mg (MroF tab) cs hs) {a_is_integer : Addr} {fd_is_integer : FuncData} (f_is_integer : FF K mg "is_integer" s_is_integer a_is_integer fd_is_integer) {a_is_positive : Addr} {fd_is_positive : FuncData} (f_is_positive : FF K mg "is_positive" s_is_positive a_is_positive fd_is_positive) {a_is_stair : Addr} {fd_is_stair : FuncData} (f_is_stair : FF K mg "is_stair" s_is_stair a_is_stair fd_is_stair) : FnG PySem.Challenge.pw_stairworks_k76_fits_and_rests w K mg base 5 a_is_stair fd_is_stair ["value"] (spOf mg K 1 sp_is_stair) := by
  refine fng_of f_is_stair sc_is_stair pf (by decide) (lib := lib_is_stair) (.cons (c_is_positive pf f_is_integer f_is_positive) (by decide) (.nil)) (by decide) lm_is_stair ck_is_stair w_is_stair
theorem c_is_stair (pf : PF PySem.Challenge.pw_stairworks_k76_fits_and_rests K mg (MroF tab) cs hs) {a_is_integer : Addr} {fd_is_integer : FuncData} (f_is_integer : FF K mg "is_integer" s_is_integer a_is_integer fd_is_integer) {a_is_positive : Addr} {fd_is_positive : FuncData} (f_is_positive : FF K mg "is_positive" s_is_positive a_is_positive fd_is_positive) {a_is_stair : Addr} {fd_is_stair : FuncData} (f_is_stair : FF K mg "is_stair" s_is_stair a_is_stair fd_is_stair) : G.Cal PySem.Challenge.pw_stairworks_k76_fits_and_rests w K mg base 5 kws "is_stair" ["value"] sp_is_stair := cal_of f_is_stair (F_is_stair pf f_is_integer f_is_positive f_is_stair) bd_is_stair kb_is_stair (by decide)
theorem F_need_stair (pf : PF PySem.Challenge.pw_stairworks_k76_fits_and_rests K mg (MroF tab) cs hs) {a_is_integer : Addr} {fd_is_integer : FuncData} (f_is_integer : FF K mg "is_integer" s_is_integer a_is_integer fd_is_integer) {a_is_positive : Addr} {fd_is_positive : FuncData} (f_is_positive : FF K mg "is_positive" s_is_positive a_is_positive fd_is_positive) {a_is_stair : Addr} {fd_is_stair : FuncData} (f_is_stair : FF K mg "is_stair" s_is_stair a_is_stair fd_is_stair) {a_need_stair : Addr} {fd_need_stair : FuncData} (f_need_stair : FF K mg "need_stair" s_need_stair a_need_stair fd_need_stair) : FnG PySem.Challenge.pw_stairworks_k76_fits_and_rests w K mg base 6 a_need_stair fd_need_stair ["value"] (spOf mg K 1 sp_need_stair) := by
  refine fng_of f_need_stair sc_need_stair pf (by decide) (lib := lib_need_stair) (.cons (c_is_stair pf f_is_integer f_is_positive f_is_stair) (by decide) (.nil)) (by decide) lm_need_stair ck_need_stair w_need_stair
theorem c_need_stair (pf : PF PySem.Challenge.pw_stairworks_k76_fits_and_rests K mg (MroF tab) cs hs) {a_is_integer : Addr} {fd_is_integer : FuncData} (f_is_integer : FF K mg "is_integer" s_is_integer a_is_integer fd_is_integer) {a_is_positive : Addr} {fd_is_positive : FuncData} (f_is_positive : FF K mg "is_positive" s_is_positive a_is_positive fd_is_positive) {a_is_stair : Addr} {fd_is_stair : FuncData} (f_is_stair : FF K mg "is_stair" s_is_stair a_is_stair fd_is_stair) {a_need_stair : Addr} {fd_need_stair : FuncData} (f_need_stair : FF K mg "need_stair" s_need_stair a_need_stair fd_need_stair) : G.Cal PySem.Challenge.pw_stairworks_k76_fits_and_rests w K mg base 6 kws "need_stair" ["value"] sp_need_stair := cal_of f_need_stair (F_need_stair pf f_is_integer f_is_positive f_is_stair f_need_stair) bd_need_stair kb_need_stair (by decide)
theorem F_is_number (pf : PF PySem.Challenge.pw_stairworks_k76_fits_and_rests K mg (MroF tab) cs hs) {a_is_integer : Addr} {fd_is_integer : FuncData} (f_is_integer : FF K mg "is_integer" s_is_integer a_is_integer fd_is_integer) {a_is_number : Addr} {fd_is_number : FuncData} (f_is_number : FF K mg "is_number" s_is_number a_is_number fd_is_number) : FnG PySem.Challenge.pw_stairworks_k76_fits_and_rests w K mg base 4 a_is_number fd_is_number ["value"] (spOf mg K 1 sp_is_number) := by
  refine fng_of f_is_number sc_is_number pf (by decide) (lib := lib_is_number) (.cons (c_is_integer pf f_is_integer) (by decide) (.nil)) (by decide) lm_is_number ck_is_number w_is_number
theorem c_is_number (pf : PF PySem.Challenge.pw_stairworks_k76_fits_and_rests K mg (MroF tab) cs hs) {a_is_integer : Addr} {fd_is_integer : FuncData} (f_is_integer : FF K mg "is_integer" s_is_integer a_is_integer fd_is_integer) {a_is_number : Addr} {fd_is_number : FuncData} (f_is_number : FF K mg "is_number" s_is_number a_is_number fd_is_number) : G.Cal PySem.Challenge.pw_stairworks_k76_fits_and_rests w K mg base 4 kws "is_number" ["value"] sp_is_number := cal_of f_is_number (F_is_number pf f_is_integer f_is_number) bd_is_number kb_is_number (by decide)
theorem F_need_box (pf : PF PySem.Challenge.pw_stairworks_k76_fits_and_rests K mg (MroF tab) cs hs) {a_is_integer : Addr} {fd_is_integer : FuncData} (f_is_integer : FF K mg "is_integer" s_is_integer a_is_integer fd_is_integer) {a_is_number : Addr} {fd_is_number : FuncData} (f_is_number : FF K mg "is_number" s_is_number a_is_number fd_is_number) {a_need_box : Addr} {fd_need_box : FuncData} (f_need_box : FF K mg "_need_box" s_need_box a_need_box fd_need_box) : FnG PySem.Challenge.pw_stairworks_k76_fits_and_rests w K mg base 5 a_need_box fd_need_box ["rows", "columns"] (spOf mg K 2 sp_need_box) := by
  refine fng_of f_need_box sc_need_box pf (by decide) (lib := lib_need_box) (.cons (c_is_number pf f_is_integer f_is_number) (by decide) (.nil)) (by decide) lm_need_box ck_need_box w_need_box
theorem c_need_box (pf : PF PySem.Challenge.pw_stairworks_k76_fits_and_rests K mg (MroF tab) cs hs) {a_is_integer : Addr} {fd_is_integer : FuncData} (f_is_integer : FF K mg "is_integer" s_is_integer a_is_integer fd_is_integer) {a_is_number : Addr} {fd_is_number : FuncData} (f_is_number : FF K mg "is_number" s_is_number a_is_number fd_is_number) {a_need_box : Addr} {fd_need_box : FuncData} (f_need_box : FF K mg "_need_box" s_need_box a_need_box fd_need_box) : G.Cal PySem.Challenge.pw_stairworks_k76_fits_and_rests w K mg base 5 kws "_need_box" ["rows", "columns"] sp_need_box := cal_of f_need_box (F_need_box pf f_is_integer f_is_number f_need_box) bd_need_box kb_need_box (by decide)
theorem F_row_of (pf : PF PySem.Challenge.pw_stairworks_k76_fits_and_rests K mg (MroF tab) cs hs) {a_row_of : Addr} {fd_row_of : FuncData} (f_row_of : FF K mg "row_of" s_row_of a_row_of fd_row_of) : FnG PySem.Challenge.pw_stairworks_k76_fits_and_rests w K mg base 3 a_row_of fd_row_of ["stair", "i"] (spOf mg K 2 sp_row_of) := by
  refine fng_of f_row_of sc_row_of pf (by decide) (lib := lib_row_of) (.nil) (by decide) lm_row_of ck_row_of w_row_of
theorem c_row_of (pf : PF PySem.Challenge.pw_stairworks_k76_fits_and_rests K mg (MroF tab) cs hs) {a_row_of : Addr} {fd_row_of : FuncData} (f_row_of : FF K mg "row_of" s_row_of a_row_of fd_row_of) : G.Cal PySem.Challenge.pw_stairworks_k76_fits_and_rests w K mg base 3 kws "row_of" ["stair", "i"] sp_row_of := cal_of f_row_of (F_row_of pf f_row_of) bd_row_of kb_row_of (by decide)
theorem F_is_inside (pf : PF PySem.Challenge.pw_stairworks_k76_fits_and_rests K mg (MroF tab) cs hs) {a_row_of : Addr} {fd_row_of : FuncData} (f_row_of : FF K mg "row_of" s_row_of a_row_of fd_row_of) {a_is_inside : Addr} {fd_is_inside : FuncData} (f_is_inside : FF K mg "is_inside" s_is_inside a_is_inside fd_is_inside) : FnG PySem.Challenge.pw_stairworks_k76_fits_and_rests w K mg base 4 a_is_inside fd_is_inside ["stair", "rows", "columns"] (spOf mg K 3 sp_is_inside) := by
  refine fng_of f_is_inside sc_is_inside pf (by decide) (lib := lib_is_inside) (.cons (c_row_of pf f_row_of) (by decide) (.nil)) (by decide) lm_is_inside ck_is_inside w_is_inside
theorem c_is_inside (pf : PF PySem.Challenge.pw_stairworks_k76_fits_and_rests K mg (MroF tab) cs hs) {a_row_of : Addr} {fd_row_of : FuncData} (f_row_of : FF K mg "row_of" s_row_of a_row_of fd_row_of) {a_is_inside : Addr} {fd_is_inside : FuncData} (f_is_inside : FF K mg "is_inside" s_is_inside a_is_inside fd_is_inside) : G.Cal PySem.Challenge.pw_stairworks_k76_fits_and_rests w K mg base 4 kws "is_inside" ["stair", "rows", "columns"] sp_is_inside := cal_of f_is_inside (F_is_inside pf f_row_of f_is_inside) bd_is_inside kb_is_inside (by decide)
theorem F_fits (pf : PF PySem.Challenge.pw_stairworks_k76_fits_and_rests K mg (MroF tab) cs hs) {a_is_integer : Addr} {fd_is_integer : FuncData} (f_is_integer : FF K mg "is_integer" s_is_integer a_is_integer fd_is_integer) {a_is_positive : Addr} {fd_is_positive : FuncData} (f_is_positive : FF K mg "is_positive" s_is_positive a_is_positive fd_is_positive) {a_is_stair : Addr} {fd_is_stair : FuncData} (f_is_stair : FF K mg "is_stair" s_is_stair a_is_stair fd_is_stair) {a_need_stair : Addr} {fd_need_stair : FuncData} (f_need_stair : FF K mg "need_stair" s_need_stair a_need_stair fd_need_stair) {a_is_number : Addr} {fd_is_number : FuncData} (f_is_number : FF K mg "is_number" s_is_number a_is_number fd_is_number) {a_need_box : Addr} {fd_need_box : FuncData} (f_need_box : FF K mg "_need_box" s_need_box a_need_box fd_need_box) {a_row_of : Addr} {fd_row_of : FuncData} (f_row_of : FF K mg "row_of" s_row_of a_row_of fd_row_of) {a_is_inside : Addr} {fd_is_inside : FuncData} (f_is_inside : FF K mg "is_inside" s_is_inside a_is_inside fd_is_inside) {a_fits : Addr} {fd_fits : FuncData} (f_fits : FF K mg "fits" s_fits a_fits fd_fits) : FnG PySem.Challenge.pw_stairworks_k76_fits_and_rests w K mg base 7 a_fits fd_fits ["stair", "rows", "columns"] (spOf mg K 3 sp_fits) := by
  refine fng_of f_fits sc_fits pf (by decide) (lib := lib_fits) (.cons (c_need_stair pf f_is_integer f_is_positive f_is_stair f_need_stair) (by decide) (.cons (c_need_box pf f_is_integer f_is_number f_need_box) (by decide) (.cons (c_is_inside pf f_row_of f_is_inside) (by decide) (.nil)))) (by decide) lm_fits ck_fits w_fits
theorem c_fits (pf : PF PySem.Challenge.pw_stairworks_k76_fits_and_rests K mg (MroF tab) cs hs) {a_is_integer : Addr} {fd_is_integer : FuncData} (f_is_integer : FF K mg "is_integer" s_is_integer a_is_integer fd_is_integer) {a_is_positive : Addr} {fd_is_positive : FuncData} (f_is_positive : FF K mg "is_positive" s_is_positive a_is_positive fd_is_positive) {a_is_stair : Addr} {fd_is_stair : FuncData} (f_is_stair : FF K mg "is_stair" s_is_stair a_is_stair fd_is_stair) {a_need_stair : Addr} {fd_need_stair : FuncData} (f_need_stair : FF K mg "need_stair" s_need_stair a_need_stair fd_need_stair) {a_is_number : Addr} {fd_is_number : FuncData} (f_is_number : FF K mg "is_number" s_is_number a_is_number fd_is_number) {a_need_box : Addr} {fd_need_box : FuncData} (f_need_box : FF K mg "_need_box" s_need_box a_need_box fd_need_box) {a_row_of : Addr} {fd_row_of : FuncData} (f_row_of : FF K mg "row_of" s_row_of a_row_of fd_row_of) {a_is_inside : Addr} {fd_is_inside : FuncData} (f_is_inside : FF K mg "is_inside" s_is_inside a_is_inside fd_is_inside) {a_fits : Addr} {fd_fits : FuncData} (f_fits : FF K mg "fits" s_fits a_fits fd_fits) : G.Cal PySem.Challenge.pw_stairworks_k76_fits_and_rests w K mg base 7 kws "fits" ["stair", "rows", "columns"] sp_fits := cal_of f_fits (F_fits pf f_is_integer f_is_positive f_is_stair f_need_stair f_is_number f_need_box f_row_of f_is_inside f_fits) bd_fits kb_fits (by decide)
theorem F_law_rest (pf : PF PySem.Challenge.pw_stairworks_k76_fits_and_rests K mg (MroF tab) cs hs) {a_law_boxes : Addr} {fd_law_boxes : FuncData} (f_law_boxes : FF K mg "_law_boxes" s_law_boxes a_law_boxes fd_law_boxes) {a_law_rest : Addr} {fd_law_rest : FuncData} (f_law_rest : FF K mg "_law_rest" s_law_rest a_law_rest fd_law_rest) : FnG PySem.Challenge.pw_stairworks_k76_fits_and_rests w K mg base 4 a_law_rest fd_law_rest ["stair", "rows", "columns"] (spOf mg K 3 sp_law_rest) := by
  refine fng_of f_law_rest sc_law_rest pf (by decide) (lib := lib_law_rest) (.cons (c_law_boxes pf f_law_boxes) (by decide) (.nil)) (by decide) lm_law_rest ck_law_rest w_law_rest
theorem c_law_rest (pf : PF PySem.Challenge.pw_stairworks_k76_fits_and_rests K mg (MroF tab) cs hs) {a_law_boxes : Addr} {fd_law_boxes : FuncData} (f_law_boxes : FF K mg "_law_boxes" s_law_boxes a_law_boxes fd_law_boxes) {a_law_rest : Addr} {fd_law_rest : FuncData} (f_law_rest : FF K mg "_law_rest" s_law_rest a_law_rest fd_law_rest) : G.Cal PySem.Challenge.pw_stairworks_k76_fits_and_rests w K mg base 4 kws "_law_rest" ["stair", "rows", "columns"] sp_law_rest := cal_of f_law_rest (F_law_rest pf f_law_boxes f_law_rest) bd_law_rest kb_law_rest (by decide)
theorem F_strip (pf : PF PySem.Challenge.pw_stairworks_k76_fits_and_rests K mg (MroF tab) cs hs) {a_strip : Addr} {fd_strip : FuncData} (f_strip : FF K mg "strip" s_strip a_strip fd_strip) : FnG PySem.Challenge.pw_stairworks_k76_fits_and_rests w K mg base 3 a_strip fd_strip ["numbers"] (spOf mg K 1 sp_strip) := by
  refine fng_of f_strip sc_strip pf (by decide) (lib := lib_strip) (.nil) (by decide) lm_strip ck_strip w_strip
theorem c_strip (pf : PF PySem.Challenge.pw_stairworks_k76_fits_and_rests K mg (MroF tab) cs hs) {a_strip : Addr} {fd_strip : FuncData} (f_strip : FF K mg "strip" s_strip a_strip fd_strip) : G.Cal PySem.Challenge.pw_stairworks_k76_fits_and_rests w K mg base 3 kws "strip" ["numbers"] sp_strip := cal_of f_strip (F_strip pf f_strip) bd_strip kb_strip (by decide)
theorem F_rest (pf : PF PySem.Challenge.pw_stairworks_k76_fits_and_rests K mg (MroF tab) cs hs) {a_is_integer : Addr} {fd_is_integer : FuncData} (f_is_integer : FF K mg "is_integer" s_is_integer a_is_integer fd_is_integer) {a_is_positive : Addr} {fd_is_positive : FuncData} (f_is_positive : FF K mg "is_positive" s_is_positive a_is_positive fd_is_positive) {a_is_stair : Addr} {fd_is_stair : FuncData} (f_is_stair : FF K mg "is_stair" s_is_stair a_is_stair fd_is_stair) {a_need_stair : Addr} {fd_need_stair : FuncData} (f_need_stair : FF K mg "need_stair" s_need_stair a_need_stair fd_need_stair) {a_is_number : Addr} {fd_is_number : FuncData} (f_is_number : FF K mg "is_number" s_is_number a_is_number fd_is_number) {a_need_box : Addr} {fd_need_box : FuncData} (f_need_box : FF K mg "_need_box" s_need_box a_need_box fd_need_box) {a_strip : Addr} {fd_strip : FuncData} (f_strip : FF K mg "strip" s_strip a_strip fd_strip) {a_row_of : Addr} {fd_row_of : FuncData} (f_row_of : FF K mg "row_of" s_row_of a_row_of fd_row_of) {a_is_inside : Addr} {fd_is_inside : FuncData} (f_is_inside : FF K mg "is_inside" s_is_inside a_is_inside fd_is_inside) {a_rest : Addr} {fd_rest : FuncData} (f_rest : FF K mg "rest" s_rest a_rest fd_rest) : FnG PySem.Challenge.pw_stairworks_k76_fits_and_rests w K mg base 7 a_rest fd_rest ["stair", "rows", "columns"] (spOf mg K 3 sp_rest) := by
  refine fng_of f_rest sc_rest pf (by decide) (lib := lib_rest) (.cons (c_need_stair pf f_is_integer f_is_positive f_is_stair f_need_stair) (by decide) (.cons (c_need_box pf f_is_integer f_is_number f_need_box) (by decide) (.cons (c_strip pf f_strip) (by decide) (.cons (c_is_inside pf f_row_of f_is_inside) (by decide) (.cons (c_row_of pf f_row_of) (by decide) (.nil)))))) (by decide) lm_rest ck_rest w_rest
theorem c_rest (pf : PF PySem.Challenge.pw_stairworks_k76_fits_and_rests K mg (MroF tab) cs hs) {a_is_integer : Addr} {fd_is_integer : FuncData} (f_is_integer : FF K mg "is_integer" s_is_integer a_is_integer fd_is_integer) {a_is_positive : Addr} {fd_is_positive : FuncData} (f_is_positive : FF K mg "is_positive" s_is_positive a_is_positive fd_is_positive) {a_is_stair : Addr} {fd_is_stair : FuncData} (f_is_stair : FF K mg "is_stair" s_is_stair a_is_stair fd_is_stair) {a_need_stair : Addr} {fd_need_stair : FuncData} (f_need_stair : FF K mg "need_stair" s_need_stair a_need_stair fd_need_stair) {a_is_number : Addr} {fd_is_number : FuncData} (f_is_number : FF K mg "is_number" s_is_number a_is_number fd_is_number) {a_need_box : Addr} {fd_need_box : FuncData} (f_need_box : FF K mg "_need_box" s_need_box a_need_box fd_need_box) {a_strip : Addr} {fd_strip : FuncData} (f_strip : FF K mg "strip" s_strip a_strip fd_strip) {a_row_of : Addr} {fd_row_of : FuncData} (f_row_of : FF K mg "row_of" s_row_of a_row_of fd_row_of) {a_is_inside : Addr} {fd_is_inside : FuncData} (f_is_inside : FF K mg "is_inside" s_is_inside a_is_inside fd_is_inside) {a_rest : Addr} {fd_rest : FuncData} (f_rest : FF K mg "rest" s_rest a_rest fd_rest) : G.Cal PySem.Challenge.pw_stairworks_k76_fits_and_rests w K mg base 7 kws "rest" ["stair", "rows", "columns"] sp_rest := cal_of f_rest (F_rest pf f_is_integer f_is_positive f_is_stair f_need_stair f_is_number f_need_box f_strip f_row_of f_is_inside f_rest) bd_rest kb_rest (by decide)
theorem F_law_word (pf : PF PySem.Challenge.pw_stairworks_k76_fits_and_rests K mg (MroF tab) cs hs) {a_law_word : Addr} {fd_law_word : FuncData} (f_law_word : FF K mg "_law_word" s_law_word a_law_word fd_law_word) : FnG PySem.Challenge.pw_stairworks_k76_fits_and_rests w K mg base 3 a_law_word fd_law_word ["stair", "rows", "columns"] (spOf mg K 3 sp_law_word) := by
  refine fng_of f_law_word sc_law_word pf (by decide) (lib := lib_law_word) (.nil) (by decide) lm_law_word ck_law_word w_law_word
theorem c_law_word (pf : PF PySem.Challenge.pw_stairworks_k76_fits_and_rests K mg (MroF tab) cs hs) {a_law_word : Addr} {fd_law_word : FuncData} (f_law_word : FF K mg "_law_word" s_law_word a_law_word fd_law_word) : G.Cal PySem.Challenge.pw_stairworks_k76_fits_and_rests w K mg base 3 kws "_law_word" ["stair", "rows", "columns"] sp_law_word := cal_of f_law_word (F_law_word pf f_law_word) bd_law_word kb_law_word (by decide)
theorem F_law_refused (pf : PF PySem.Challenge.pw_stairworks_k76_fits_and_rests K mg (MroF tab) cs hs) {a_is_integer : Addr} {fd_is_integer : FuncData} (f_is_integer : FF K mg "is_integer" s_is_integer a_is_integer fd_is_integer) {a_is_positive : Addr} {fd_is_positive : FuncData} (f_is_positive : FF K mg "is_positive" s_is_positive a_is_positive fd_is_positive) {a_is_stair : Addr} {fd_is_stair : FuncData} (f_is_stair : FF K mg "is_stair" s_is_stair a_is_stair fd_is_stair) {a_need_stair : Addr} {fd_need_stair : FuncData} (f_need_stair : FF K mg "need_stair" s_need_stair a_need_stair fd_need_stair) {a_is_number : Addr} {fd_is_number : FuncData} (f_is_number : FF K mg "is_number" s_is_number a_is_number fd_is_number) {a_need_box : Addr} {fd_need_box : FuncData} (f_need_box : FF K mg "_need_box" s_need_box a_need_box fd_need_box) {a_row_of : Addr} {fd_row_of : FuncData} (f_row_of : FF K mg "row_of" s_row_of a_row_of fd_row_of) {a_is_inside : Addr} {fd_is_inside : FuncData} (f_is_inside : FF K mg "is_inside" s_is_inside a_is_inside fd_is_inside) {a_fits : Addr} {fd_fits : FuncData} (f_fits : FF K mg "fits" s_fits a_fits fd_fits) {a_strip : Addr} {fd_strip : FuncData} (f_strip : FF K mg "strip" s_strip a_strip fd_strip) {a_rest : Addr} {fd_rest : FuncData} (f_rest : FF K mg "rest" s_rest a_rest fd_rest) {a_law_refused : Addr} {fd_law_refused : FuncData} (f_law_refused : FF K mg "_law_refused" s_law_refused a_law_refused fd_law_refused) : FnG PySem.Challenge.pw_stairworks_k76_fits_and_rests w K mg base 8 a_law_refused fd_law_refused ["stair", "rows", "columns", "asks"] (spOf mg K 4 sp_law_refused) := by
  refine fng_of f_law_refused sc_law_refused pf (by decide) (lib := lib_law_refused) (.cons (c_fits pf f_is_integer f_is_positive f_is_stair f_need_stair f_is_number f_need_box f_row_of f_is_inside f_fits) (by decide) (.cons (c_rest pf f_is_integer f_is_positive f_is_stair f_need_stair f_is_number f_need_box f_strip f_row_of f_is_inside f_rest) (by decide) (.nil))) (by decide) lm_law_refused ck_law_refused w_law_refused
theorem c_law_refused (pf : PF PySem.Challenge.pw_stairworks_k76_fits_and_rests K mg (MroF tab) cs hs) {a_is_integer : Addr} {fd_is_integer : FuncData} (f_is_integer : FF K mg "is_integer" s_is_integer a_is_integer fd_is_integer) {a_is_positive : Addr} {fd_is_positive : FuncData} (f_is_positive : FF K mg "is_positive" s_is_positive a_is_positive fd_is_positive) {a_is_stair : Addr} {fd_is_stair : FuncData} (f_is_stair : FF K mg "is_stair" s_is_stair a_is_stair fd_is_stair) {a_need_stair : Addr} {fd_need_stair : FuncData} (f_need_stair : FF K mg "need_stair" s_need_stair a_need_stair fd_need_stair) {a_is_number : Addr} {fd_is_number : FuncData} (f_is_number : FF K mg "is_number" s_is_number a_is_number fd_is_number) {a_need_box : Addr} {fd_need_box : FuncData} (f_need_box : FF K mg "_need_box" s_need_box a_need_box fd_need_box) {a_row_of : Addr} {fd_row_of : FuncData} (f_row_of : FF K mg "row_of" s_row_of a_row_of fd_row_of) {a_is_inside : Addr} {fd_is_inside : FuncData} (f_is_inside : FF K mg "is_inside" s_is_inside a_is_inside fd_is_inside) {a_fits : Addr} {fd_fits : FuncData} (f_fits : FF K mg "fits" s_fits a_fits fd_fits) {a_strip : Addr} {fd_strip : FuncData} (f_strip : FF K mg "strip" s_strip a_strip fd_strip) {a_rest : Addr} {fd_rest : FuncData} (f_rest : FF K mg "rest" s_rest a_rest fd_rest) {a_law_refused : Addr} {fd_law_refused : FuncData} (f_law_refused : FF K mg "_law_refused" s_law_refused a_law_refused fd_law_refused) : G.Cal PySem.Challenge.pw_stairworks_k76_fits_and_rests w K mg base 8 kws "_law_refused" ["stair", "rows", "columns", "asks"] sp_law_refused := cal_of f_law_refused (F_law_refused pf f_is_integer f_is_positive f_is_stair f_need_stair f_is_number f_need_box f_row_of f_is_inside f_fits f_strip f_rest f_law_refused) bd_law_refused kb_law_refused (by decide)
theorem F_law_refuses (pf : PF PySem.Challenge.pw_stairworks_k76_fits_and_rests K mg (MroF tab) cs hs) {a_is_integer : Addr} {fd_is_integer : FuncData} (f_is_integer : FF K mg "is_integer" s_is_integer a_is_integer fd_is_integer) {a_is_positive : Addr} {fd_is_positive : FuncData} (f_is_positive : FF K mg "is_positive" s_is_positive a_is_positive fd_is_positive) {a_is_stair : Addr} {fd_is_stair : FuncData} (f_is_stair : FF K mg "is_stair" s_is_stair a_is_stair fd_is_stair) {a_need_stair : Addr} {fd_need_stair : FuncData} (f_need_stair : FF K mg "need_stair" s_need_stair a_need_stair fd_need_stair) {a_is_number : Addr} {fd_is_number : FuncData} (f_is_number : FF K mg "is_number" s_is_number a_is_number fd_is_number) {a_need_box : Addr} {fd_need_box : FuncData} (f_need_box : FF K mg "_need_box" s_need_box a_need_box fd_need_box) {a_row_of : Addr} {fd_row_of : FuncData} (f_row_of : FF K mg "row_of" s_row_of a_row_of fd_row_of) {a_is_inside : Addr} {fd_is_inside : FuncData} (f_is_inside : FF K mg "is_inside" s_is_inside a_is_inside fd_is_inside) {a_fits : Addr} {fd_fits : FuncData} (f_fits : FF K mg "fits" s_fits a_fits fd_fits) {a_strip : Addr} {fd_strip : FuncData} (f_strip : FF K mg "strip" s_strip a_strip fd_strip) {a_rest : Addr} {fd_rest : FuncData} (f_rest : FF K mg "rest" s_rest a_rest fd_rest) {a_law_refused : Addr} {fd_law_refused : FuncData} (f_law_refused : FF K mg "_law_refused" s_law_refused a_law_refused fd_law_refused) {a_law_refuses : Addr} {fd_law_refuses : FuncData} (f_law_refuses : FF K mg "_law_refuses" s_law_refuses a_law_refuses fd_law_refuses) : FnG PySem.Challenge.pw_stairworks_k76_fits_and_rests w K mg base 9 a_law_refuses fd_law_refuses ["stair", "rows", "columns", "due"] (spOf mg K 4 sp_law_refuses) := by
  refine fng_of f_law_refuses sc_law_refuses pf (by decide) (lib := lib_law_refuses) (.cons (c_law_refused pf f_is_integer f_is_positive f_is_stair f_need_stair f_is_number f_need_box f_row_of f_is_inside f_fits f_strip f_rest f_law_refused) (by decide) (.nil)) (by decide) lm_law_refuses ck_law_refuses w_law_refuses
theorem c_law_refuses (pf : PF PySem.Challenge.pw_stairworks_k76_fits_and_rests K mg (MroF tab) cs hs) {a_is_integer : Addr} {fd_is_integer : FuncData} (f_is_integer : FF K mg "is_integer" s_is_integer a_is_integer fd_is_integer) {a_is_positive : Addr} {fd_is_positive : FuncData} (f_is_positive : FF K mg "is_positive" s_is_positive a_is_positive fd_is_positive) {a_is_stair : Addr} {fd_is_stair : FuncData} (f_is_stair : FF K mg "is_stair" s_is_stair a_is_stair fd_is_stair) {a_need_stair : Addr} {fd_need_stair : FuncData} (f_need_stair : FF K mg "need_stair" s_need_stair a_need_stair fd_need_stair) {a_is_number : Addr} {fd_is_number : FuncData} (f_is_number : FF K mg "is_number" s_is_number a_is_number fd_is_number) {a_need_box : Addr} {fd_need_box : FuncData} (f_need_box : FF K mg "_need_box" s_need_box a_need_box fd_need_box) {a_row_of : Addr} {fd_row_of : FuncData} (f_row_of : FF K mg "row_of" s_row_of a_row_of fd_row_of) {a_is_inside : Addr} {fd_is_inside : FuncData} (f_is_inside : FF K mg "is_inside" s_is_inside a_is_inside fd_is_inside) {a_fits : Addr} {fd_fits : FuncData} (f_fits : FF K mg "fits" s_fits a_fits fd_fits) {a_strip : Addr} {fd_strip : FuncData} (f_strip : FF K mg "strip" s_strip a_strip fd_strip) {a_rest : Addr} {fd_rest : FuncData} (f_rest : FF K mg "rest" s_rest a_rest fd_rest) {a_law_refused : Addr} {fd_law_refused : FuncData} (f_law_refused : FF K mg "_law_refused" s_law_refused a_law_refused fd_law_refused) {a_law_refuses : Addr} {fd_law_refuses : FuncData} (f_law_refuses : FF K mg "_law_refuses" s_law_refuses a_law_refuses fd_law_refuses) : G.Cal PySem.Challenge.pw_stairworks_k76_fits_and_rests w K mg base 9 kws "_law_refuses" ["stair", "rows", "columns", "due"] sp_law_refuses := cal_of f_law_refuses (F_law_refuses pf f_is_integer f_is_positive f_is_stair f_need_stair f_is_number f_need_box f_row_of f_is_inside f_fits f_strip f_rest f_law_refused f_law_refuses) bd_law_refuses kb_law_refuses (by decide)
theorem F_law_wrong (pf : PF PySem.Challenge.pw_stairworks_k76_fits_and_rests K mg (MroF tab) cs hs) {a_is_integer : Addr} {fd_is_integer : FuncData} (f_is_integer : FF K mg "is_integer" s_is_integer a_is_integer fd_is_integer) {a_is_positive : Addr} {fd_is_positive : FuncData} (f_is_positive : FF K mg "is_positive" s_is_positive a_is_positive fd_is_positive) {a_is_stair : Addr} {fd_is_stair : FuncData} (f_is_stair : FF K mg "is_stair" s_is_stair a_is_stair fd_is_stair) {a_need_stair : Addr} {fd_need_stair : FuncData} (f_need_stair : FF K mg "need_stair" s_need_stair a_need_stair fd_need_stair) {a_is_number : Addr} {fd_is_number : FuncData} (f_is_number : FF K mg "is_number" s_is_number a_is_number fd_is_number) {a_need_box : Addr} {fd_need_box : FuncData} (f_need_box : FF K mg "_need_box" s_need_box a_need_box fd_need_box) {a_row_of : Addr} {fd_row_of : FuncData} (f_row_of : FF K mg "row_of" s_row_of a_row_of fd_row_of) {a_is_inside : Addr} {fd_is_inside : FuncData} (f_is_inside : FF K mg "is_inside" s_is_inside a_is_inside fd_is_inside) {a_fits : Addr} {fd_fits : FuncData} (f_fits : FF K mg "fits" s_fits a_fits fd_fits) {a_strip : Addr} {fd_strip : FuncData} (f_strip : FF K mg "strip" s_strip a_strip fd_strip) {a_rest : Addr} {fd_rest : FuncData} (f_rest : FF K mg "rest" s_rest a_rest fd_rest) {a_law_refused : Addr} {fd_law_refused : FuncData} (f_law_refused : FF K mg "_law_refused" s_law_refused a_law_refused fd_law_refused) {a_law_refuses : Addr} {fd_law_refuses : FuncData} (f_law_refuses : FF K mg "_law_refuses" s_law_refuses a_law_refuses fd_law_refuses) {a_law_pick : Addr} {fd_law_pick : FuncData} (f_law_pick : FF K mg "_law_pick" s_law_pick a_law_pick fd_law_pick) {a_law_wrong : Addr} {fd_law_wrong : FuncData} (f_law_wrong : FF K mg "_law_wrong" s_law_wrong a_law_wrong fd_law_wrong) : FnG PySem.Challenge.pw_stairworks_k76_fits_and_rests w K mg base 10 a_law_wrong fd_law_wrong ["draw", "stair", "rows", "columns"] (spOf mg K 4 sp_law_wrong) := by
  refine fng_of f_law_wrong sc_law_wrong pf (by decide) (lib := lib_law_wrong) (.cons (c_law_refuses pf f_is_integer f_is_positive f_is_stair f_need_stair f_is_number f_need_box f_row_of f_is_inside f_fits f_strip f_rest f_law_refused f_law_refuses) (by decide) (.cons (c_law_pick pf f_law_pick) (by decide) (.nil))) (by decide) lm_law_wrong ck_law_wrong w_law_wrong
theorem c_law_wrong (pf : PF PySem.Challenge.pw_stairworks_k76_fits_and_rests K mg (MroF tab) cs hs) {a_is_integer : Addr} {fd_is_integer : FuncData} (f_is_integer : FF K mg "is_integer" s_is_integer a_is_integer fd_is_integer) {a_is_positive : Addr} {fd_is_positive : FuncData} (f_is_positive : FF K mg "is_positive" s_is_positive a_is_positive fd_is_positive) {a_is_stair : Addr} {fd_is_stair : FuncData} (f_is_stair : FF K mg "is_stair" s_is_stair a_is_stair fd_is_stair) {a_need_stair : Addr} {fd_need_stair : FuncData} (f_need_stair : FF K mg "need_stair" s_need_stair a_need_stair fd_need_stair) {a_is_number : Addr} {fd_is_number : FuncData} (f_is_number : FF K mg "is_number" s_is_number a_is_number fd_is_number) {a_need_box : Addr} {fd_need_box : FuncData} (f_need_box : FF K mg "_need_box" s_need_box a_need_box fd_need_box) {a_row_of : Addr} {fd_row_of : FuncData} (f_row_of : FF K mg "row_of" s_row_of a_row_of fd_row_of) {a_is_inside : Addr} {fd_is_inside : FuncData} (f_is_inside : FF K mg "is_inside" s_is_inside a_is_inside fd_is_inside) {a_fits : Addr} {fd_fits : FuncData} (f_fits : FF K mg "fits" s_fits a_fits fd_fits) {a_strip : Addr} {fd_strip : FuncData} (f_strip : FF K mg "strip" s_strip a_strip fd_strip) {a_rest : Addr} {fd_rest : FuncData} (f_rest : FF K mg "rest" s_rest a_rest fd_rest) {a_law_refused : Addr} {fd_law_refused : FuncData} (f_law_refused : FF K mg "_law_refused" s_law_refused a_law_refused fd_law_refused) {a_law_refuses : Addr} {fd_law_refuses : FuncData} (f_law_refuses : FF K mg "_law_refuses" s_law_refuses a_law_refuses fd_law_refuses) {a_law_pick : Addr} {fd_law_pick : FuncData} (f_law_pick : FF K mg "_law_pick" s_law_pick a_law_pick fd_law_pick) {a_law_wrong : Addr} {fd_law_wrong : FuncData} (f_law_wrong : FF K mg "_law_wrong" s_law_wrong a_law_wrong fd_law_wrong) : G.Cal PySem.Challenge.pw_stairworks_k76_fits_and_rests w K mg base 10 kws "_law_wrong" ["draw", "stair", "rows", "columns"] sp_law_wrong := cal_of f_law_wrong (F_law_wrong pf f_is_integer f_is_positive f_is_stair f_need_stair f_is_number f_need_box f_row_of f_is_inside f_fits f_strip f_rest f_law_refused f_law_refuses f_law_pick f_law_wrong) bd_law_wrong kb_law_wrong (by decide)
theorem F_bits_of_stair (pf : PF PySem.Challenge.pw_stairworks_k76_fits_and_rests K mg (MroF tab) cs hs) {a_is_integer : Addr} {fd_is_integer : FuncData} (f_is_integer : FF K mg "is_integer" s_is_integer a_is_integer fd_is_integer) {a_is_positive : Addr} {fd_is_positive : FuncData} (f_is_positive : FF K mg "is_positive" s_is_positive a_is_positive fd_is_positive) {a_is_stair : Addr} {fd_is_stair : FuncData} (f_is_stair : FF K mg "is_stair" s_is_stair a_is_stair fd_is_stair) {a_need_stair : Addr} {fd_need_stair : FuncData} (f_need_stair : FF K mg "need_stair" s_need_stair a_need_stair fd_need_stair) {a_row_of : Addr} {fd_row_of : FuncData} (f_row_of : FF K mg "row_of" s_row_of a_row_of fd_row_of) {a_is_number : Addr} {fd_is_number : FuncData} (f_is_number : FF K mg "is_number" s_is_number a_is_number fd_is_number) {a_bits_of_stair : Addr} {fd_bits_of_stair : FuncData} (f_bits_of_stair : FF K mg "bits_of_stair" s_bits_of_stair a_bits_of_stair fd_bits_of_stair) : FnG PySem.Challenge.pw_stairworks_k76_fits_and_rests w K mg base 7 a_bits_of_stair fd_bits_of_stair ["stair", "ones", "zeros"] (spOf mg K 3 sp_bits_of_stair) := by
  refine fng_of f_bits_of_stair sc_bits_of_stair pf (by decide) (lib := lib_bits_of_stair) (.cons (c_need_stair pf f_is_integer f_is_positive f_is_stair f_need_stair) (by decide) (.cons (c_row_of pf f_row_of) (by decide) (.cons (c_is_number pf f_is_integer f_is_number) (by decide) (.nil)))) (by decide) lm_bits_of_stair ck_bits_of_stair w_bits_of_stair
theorem c_bits_of_stair (pf : PF PySem.Challenge.pw_stairworks_k76_fits_and_rests K mg (MroF tab) cs hs) {a_is_integer : Addr} {fd_is_integer : FuncData} (f_is_integer : FF K mg "is_integer" s_is_integer a_is_integer fd_is_integer) {a_is_positive : Addr} {fd_is_positive : FuncData} (f_is_positive : FF K mg "is_positive" s_is_positive a_is_positive fd_is_positive) {a_is_stair : Addr} {fd_is_stair : FuncData} (f_is_stair : FF K mg "is_stair" s_is_stair a_is_stair fd_is_stair) {a_need_stair : Addr} {fd_need_stair : FuncData} (f_need_stair : FF K mg "need_stair" s_need_stair a_need_stair fd_need_stair) {a_row_of : Addr} {fd_row_of : FuncData} (f_row_of : FF K mg "row_of" s_row_of a_row_of fd_row_of) {a_is_number : Addr} {fd_is_number : FuncData} (f_is_number : FF K mg "is_number" s_is_number a_is_number fd_is_number) {a_bits_of_stair : Addr} {fd_bits_of_stair : FuncData} (f_bits_of_stair : FF K mg "bits_of_stair" s_bits_of_stair a_bits_of_stair fd_bits_of_stair) : G.Cal PySem.Challenge.pw_stairworks_k76_fits_and_rests w K mg base 7 kws "bits_of_stair" ["stair", "ones", "zeros"] sp_bits_of_stair := cal_of f_bits_of_stair (F_bits_of_stair pf f_is_integer f_is_positive f_is_stair f_need_stair f_row_of f_is_number f_bits_of_stair) bd_bits_of_stair kb_bits_of_stair (by decide)
theorem F_law (pf : PF PySem.Challenge.pw_stairworks_k76_fits_and_rests K mg (MroF tab) cs hs) {a_law_open : Addr} {fd_law_open : FuncData} (f_law_open : FF K mg "_law_open" s_law_open a_law_open fd_law_open) {a_law_pick : Addr} {fd_law_pick : FuncData} (f_law_pick : FF K mg "_law_pick" s_law_pick a_law_pick fd_law_pick) {a_law_stair : Addr} {fd_law_stair : FuncData} (f_law_stair : FF K mg "_law_stair" s_law_stair a_law_stair fd_law_stair) {a_law_boxes : Addr} {fd_law_boxes : FuncData} (f_law_boxes : FF K mg "_law_boxes" s_law_boxes a_law_boxes fd_law_boxes) {a_is_integer : Addr} {fd_is_integer : FuncData} (f_is_integer : FF K mg "is_integer" s_is_integer a_is_integer fd_is_integer) {a_is_positive : Addr} {fd_is_positive : FuncData} (f_is_positive : FF K mg "is_positive" s_is_positive a_is_positive fd_is_positive) {a_is_stair : Addr} {fd_is_stair : FuncData} (f_is_stair : FF K mg "is_stair" s_is_stair a_is_stair fd_is_stair) {a_need_stair : Addr} {fd_need_stair : FuncData} (f_need_stair : FF K mg "need_stair" s_need_stair a_need_stair fd_need_stair) {a_is_number : Addr} {fd_is_number : FuncData} (f_is_number : FF K mg "is_number" s_is_number a_is_number fd_is_number) {a_need_box : Addr} {fd_need_box : FuncData} (f_need_box : FF K mg "_need_box" s_need_box a_need_box fd_need_box) {a_row_of : Addr} {fd_row_of : FuncData} (f_row_of : FF K mg "row_of" s_row_of a_row_of fd_row_of) {a_is_inside : Addr} {fd_is_inside : FuncData} (f_is_inside : FF K mg "is_inside" s_is_inside a_is_inside fd_is_inside) {a_fits : Addr} {fd_fits : FuncData} (f_fits : FF K mg "fits" s_fits a_fits fd_fits) {a_law_rest : Addr} {fd_law_rest : FuncData} (f_law_rest : FF K mg "_law_rest" s_law_rest a_law_rest fd_law_rest) {a_strip : Addr} {fd_strip : FuncData} (f_strip : FF K mg "strip" s_strip a_strip fd_strip) {a_rest : Addr} {fd_rest : FuncData} (f_rest : FF K mg "rest" s_rest a_rest fd_rest) {a_law_word : Addr} {fd_law_word : FuncData} (f_law_word : FF K mg "_law_word" s_law_word a_law_word fd_law_word) {a_law_refused : Addr} {fd_law_refused : FuncData} (f_law_refused : FF K mg "_law_refused" s_law_refused a_law_refused fd_law_refused) {a_law_refuses : Addr} {fd_law_refuses : FuncData} (f_law_refuses : FF K mg "_law_refuses" s_law_refuses a_law_refuses fd_law_refuses) {a_law_wrong : Addr} {fd_law_wrong : FuncData} (f_law_wrong : FF K mg "_law_wrong" s_law_wrong a_law_wrong fd_law_wrong) {a_bits_of_stair : Addr} {fd_bits_of_stair : FuncData} (f_bits_of_stair : FF K mg "bits_of_stair" s_bits_of_stair a_bits_of_stair fd_bits_of_stair) {a_law : Addr} {fd_law : FuncData} (f_law : FF K mg "law" s_law a_law fd_law) : FnG PySem.Challenge.pw_stairworks_k76_fits_and_rests w K mg base 11 a_law fd_law ["script"] (spOf mg K 1 sp_law) := by
  refine fng_of f_law sc_law pf (by decide) (lib := lib_law) (.cons (c_law_open pf f_law_open) (by decide) (.cons (c_law_pick pf f_law_pick) (by decide) (.cons (c_law_stair pf f_law_pick f_law_stair) (by decide) (.cons (c_law_boxes pf f_law_boxes) (by decide) (.cons (c_fits pf f_is_integer f_is_positive f_is_stair f_need_stair f_is_number f_need_box f_row_of f_is_inside f_fits) (by decide) (.cons (c_law_rest pf f_law_boxes f_law_rest) (by decide) (.cons (c_rest pf f_is_integer f_is_positive f_is_stair f_need_stair f_is_number f_need_box f_strip f_row_of f_is_inside f_rest) (by decide) (.cons (c_law_word pf f_law_word) (by decide) (.cons (c_law_wrong pf f_is_integer f_is_positive f_is_stair f_need_stair f_is_number f_need_box f_row_of f_is_inside f_fits f_strip f_rest f_law_refused f_law_refuses f_law_pick f_law_wrong) (by decide) (.cons (c_bits_of_stair pf f_is_integer f_is_positive f_is_stair f_need_stair f_row_of f_is_number f_bits_of_stair) (by decide) (.cons (c_law_refused pf f_is_integer f_is_positive f_is_stair f_need_stair f_is_number f_need_box f_row_of f_is_inside f_fits f_strip f_rest f_law_refused) (by decide) (.nil)))))))))))) (by decide) lm_law ck_law w_law
theorem c_law (pf : PF PySem.Challenge.pw_stairworks_k76_fits_and_rests K mg (MroF tab) cs hs) {a_law_open : Addr} {fd_law_open : FuncData} (f_law_open : FF K mg "_law_open" s_law_open a_law_open fd_law_open) {a_law_pick : Addr} {fd_law_pick : FuncData} (f_law_pick : FF K mg "_law_pick" s_law_pick a_law_pick fd_law_pick) {a_law_stair : Addr} {fd_law_stair : FuncData} (f_law_stair : FF K mg "_law_stair" s_law_stair a_law_stair fd_law_stair) {a_law_boxes : Addr} {fd_law_boxes : FuncData} (f_law_boxes : FF K mg "_law_boxes" s_law_boxes a_law_boxes fd_law_boxes) {a_is_integer : Addr} {fd_is_integer : FuncData} (f_is_integer : FF K mg "is_integer" s_is_integer a_is_integer fd_is_integer) {a_is_positive : Addr} {fd_is_positive : FuncData} (f_is_positive : FF K mg "is_positive" s_is_positive a_is_positive fd_is_positive) {a_is_stair : Addr} {fd_is_stair : FuncData} (f_is_stair : FF K mg "is_stair" s_is_stair a_is_stair fd_is_stair) {a_need_stair : Addr} {fd_need_stair : FuncData} (f_need_stair : FF K mg "need_stair" s_need_stair a_need_stair fd_need_stair) {a_is_number : Addr} {fd_is_number : FuncData} (f_is_number : FF K mg "is_number" s_is_number a_is_number fd_is_number) {a_need_box : Addr} {fd_need_box : FuncData} (f_need_box : FF K mg "_need_box" s_need_box a_need_box fd_need_box) {a_row_of : Addr} {fd_row_of : FuncData} (f_row_of : FF K mg "row_of" s_row_of a_row_of fd_row_of) {a_is_inside : Addr} {fd_is_inside : FuncData} (f_is_inside : FF K mg "is_inside" s_is_inside a_is_inside fd_is_inside) {a_fits : Addr} {fd_fits : FuncData} (f_fits : FF K mg "fits" s_fits a_fits fd_fits) {a_law_rest : Addr} {fd_law_rest : FuncData} (f_law_rest : FF K mg "_law_rest" s_law_rest a_law_rest fd_law_rest) {a_strip : Addr} {fd_strip : FuncData} (f_strip : FF K mg "strip" s_strip a_strip fd_strip) {a_rest : Addr} {fd_rest : FuncData} (f_rest : FF K mg "rest" s_rest a_rest fd_rest) {a_law_word : Addr} {fd_law_word : FuncData} (f_law_word : FF K mg "_law_word" s_law_word a_law_word fd_law_word) {a_law_refused : Addr} {fd_law_refused : FuncData} (f_law_refused : FF K mg "_law_refused" s_law_refused a_law_refused fd_law_refused) {a_law_refuses : Addr} {fd_law_refuses : FuncData} (f_law_refuses : FF K mg "_law_refuses" s_law_refuses a_law_refuses fd_law_refuses) {a_law_wrong : Addr} {fd_law_wrong : FuncData} (f_law_wrong : FF K mg "_law_wrong" s_law_wrong a_law_wrong fd_law_wrong) {a_bits_of_stair : Addr} {fd_bits_of_stair : FuncData} (f_bits_of_stair : FF K mg "bits_of_stair" s_bits_of_stair a_bits_of_stair fd_bits_of_stair) {a_law : Addr} {fd_law : FuncData} (f_law : FF K mg "law" s_law a_law fd_law) : G.Cal PySem.Challenge.pw_stairworks_k76_fits_and_rests w K mg base 11 kws "law" ["script"] sp_law := cal_of f_law (F_law pf f_law_open f_law_pick f_law_stair f_law_boxes f_is_integer f_is_positive f_is_stair f_need_stair f_is_number f_need_box f_row_of f_is_inside f_fits f_law_rest f_strip f_rest f_law_word f_law_refused f_law_refuses f_law_wrong f_bits_of_stair f_law) bd_law kb_law (by decide)
end
theorem all_mk {w : World} {K : PySem.W.Frag} {mg : Str → Option Value} {fa : Addr} (hfa : mg "law" = some (.ref fa)) (pf : PF PySem.Challenge.pw_stairworks_k76_fits_and_rests K mg (MroF tab) cs hs) (h_law_open : ∃ a fd, FF K mg "_law_open" s_law_open a fd) (h_law_pick : ∃ a fd, FF K mg "_law_pick" s_law_pick a fd) (h_law_stair : ∃ a fd, FF K mg "_law_stair" s_law_stair a fd) (h_law_boxes : ∃ a fd, FF K mg "_law_boxes" s_law_boxes a fd) (h_is_integer : ∃ a fd, FF K mg "is_integer" s_is_integer a fd) (h_is_positive : ∃ a fd, FF K mg "is_positive" s_is_positive a fd) (h_is_stair : ∃ a fd, FF K mg "is_stair" s_is_stair a fd) (h_need_stair : ∃ a fd, FF K mg "need_stair" s_need_stair a fd) (h_is_number : ∃ a fd, FF K mg "is_number" s_is_number a fd) (h_need_box : ∃ a fd, FF K mg "_need_box" s_need_box a fd) (h_row_of : ∃ a fd, FF K mg "row_of" s_row_of a fd) (h_is_inside : ∃ a fd, FF K mg "is_inside" s_is_inside a fd) (h_fits : ∃ a fd, FF K mg "fits" s_fits a fd) (h_law_rest : ∃ a fd, FF K mg "_law_rest" s_law_rest a fd) (h_strip : ∃ a fd, FF K mg "strip" s_strip a fd) (h_rest : ∃ a fd, FF K mg "rest" s_rest a fd) (h_law_word : ∃ a fd, FF K mg "_law_word" s_law_word a fd) (h_law_refused : ∃ a fd, FF K mg "_law_refused" s_law_refused a fd) (h_law_refuses : ∃ a fd, FF K mg "_law_refuses" s_law_refuses a fd) (h_law_wrong : ∃ a fd, FF K mg "_law_wrong" s_law_wrong a fd) (h_bits_of_stair : ∃ a fd, FF K mg "bits_of_stair" s_bits_of_stair a fd) (h_law : ∃ a fd, FF K mg "law" s_law a fd) :
    ∃ fd : FuncData, (∀ (s : Shared) (u : Value), BindsTo s fd ⟨[u], []⟩ [("script", u)]) ∧ ∀ base : Heap, K.In base → base.Ns mainGlobals mg → FnG PySem.Challenge.pw_stairworks_k76_fits_and_rests w K mg base 11 fa fd ["script"] (spOf mg K 1 sp_law) := by
  obtain ⟨a_law_open, fd_law_open, f_law_open⟩ := h_law_open
  obtain ⟨a_law_pick, fd_law_pick, f_law_pick⟩ := h_law_pick
  obtain ⟨a_law_stair, fd_law_stair, f_law_stair⟩ := h_law_stair
  obtain ⟨a_law_boxes, fd_law_boxes, f_law_boxes⟩ := h_law_boxes
  obtain ⟨a_is_integer, fd_is_integer, f_is_integer⟩ := h_is_integer
  obtain ⟨a_is_positive, fd_is_positive, f_is_positive⟩ := h_is_positive
  obtain ⟨a_is_stair, fd_is_stair, f_is_stair⟩ := h_is_stair
  obtain ⟨a_need_stair, fd_need_stair, f_need_stair⟩ := h_need_stair
  obtain ⟨a_is_number, fd_is_number, f_is_number⟩ := h_is_number
  obtain ⟨a_need_box, fd_need_box, f_need_box⟩ := h_need_box
  obtain ⟨a_row_of, fd_row_of, f_row_of⟩ := h_row_of
  obtain ⟨a_is_inside, fd_is_inside, f_is_inside⟩ := h_is_inside
  obtain ⟨a_fits, fd_fits, f_fits⟩ := h_fits
  obtain ⟨a_law_rest, fd_law_rest, f_law_rest⟩ := h_law_rest
  obtain ⟨a_strip, fd_strip, f_strip⟩ := h_strip
  obtain ⟨a_rest, fd_rest, f_rest⟩ := h_rest
  obtain ⟨a_law_word, fd_law_word, f_law_word⟩ := h_law_word
  obtain ⟨a_law_refused, fd_law_refused, f_law_refused⟩ := h_law_refused
  obtain ⟨a_law_refuses, fd_law_refuses, f_law_refuses⟩ := h_law_refuses
  obtain ⟨a_law_wrong, fd_law_wrong, f_law_wrong⟩ := h_law_wrong
  obtain ⟨a_bits_of_stair, fd_bits_of_stair, f_bits_of_stair⟩ := h_bits_of_stair
  obtain ⟨a_law, fd_law, f_law⟩ := h_law
  have e := hfa.symm.trans f_law.g
  cases e
  refine ⟨fd_law, fun s u => ?_, fun base _ _ => ?_⟩
  · obtain ⟨oc, od, kV, doc, pm, an, cdv, ct, osl, rfl, lk, hcd⟩ := f_law.ex
    exact .of_eq (bd_law kV doc pm an cdv ct [u] rfl)
  · exact F_law pf f_law_open f_law_pick f_law_stair f_law_boxes f_is_integer f_is_positive f_is_stair f_need_stair f_is_number f_need_box f_row_of f_is_inside f_fits f_law_rest f_strip f_rest f_law_word f_law_refused f_law_refuses f_law_wrong f_bits_of_stair f_law
end Lk76
open PySem PySem.W PyProof.Rows
set_option maxHeartbeats 0 in
set_option maxRecDepth 100000 in
theorem PySem.Challenge.cw_stairworks_k76_fits_and_rests_holds : PySem.Challenge.rw_stairworks_k76_fits_and_rests.Holds := by
  w_on; o_law; k_head; (case hw => w_witness2)
  k_fill
  refine G.walk_g (l := PySem.Challenge.rw_stairworks_k76_fits_and_rests) (n := 63) (k := 11) (x := "script") (φ := Lk76.sp_law) rfl (by decide) rfl ⟨rfl, by decide, by decide⟩ (fun w h Y => PySem.W.kIn_of Y) ?F Lk76.end_law
  case F =>
    intro w mg fa h KX GG hmg
    have x_InvalidStair : ∃ C fI cc cda par, mg "InvalidStair" = some (.ref C) ∧ (("InvalidStair" : Str) == ("__debug__" : Str)) = false ∧ G.ExC PySem.Challenge.pw_stairworks_k76_fits_and_rests (L2.KOf KX) mg C fI cc cda par (if ("InvalidStair" : Str) = "Undefined" then "what" else "value") := by
      dsimp only [L2.KOf]
      refine' G.exC_mk (P := PySem.Challenge.pw_stairworks_k76_fits_and_rests) KX GG ?aC ?xC ?xS ?sa ?e1 ?e2 ?e3 ?kC ?ini ?tyI ?lI ?cI ?lc ?v2 ?lcc ?mro ?sup ?nosup ?cst ?nof ?ib ?hf ?notop ?nd ?bi ?p1 ?s1 ?s2 ?s3 ?s4 ?n1 ?n2 ?n3 ?n4 ?pd ?rv
      (case aC => k_is)
      (case xC => k_is)
      (case xS => k_is)
      (case sa => k_is)
      (case e1 => k_is)
      (case e2 => k_is)
      (case e3 => k_is)
      (case kC => k_is)
      (case ini => k_is)
      (case tyI => k_is)
      (case lI => k_is)
      (case cI => k_is)
      (case lc => k_is)
      (case v2 => rfl)
      (case lcc => k_is)
      (case mro => k_is)
      (case sup => k_is)
      (case nosup => k_is)
      (case cst => k_is)
      (case nof => (show PySem.W.findIn _ _ "value" = _); k_is)
      (case ib => exact .mk _ _ _ _ _ _ _ _ _ _ _ _ rfl)
      (case hf => rfl); (case notop => decide +kernel); (case nd => decide)
      (case bi => exact fun us hl => match us, hl with | [_, _], _ => rfl)
      (case p1 => rfl); (case s1 => rfl); (case s2 => rfl); (case s3 => rfl); (case s4 => rfl); (case n1 => rfl); (case n2 => rfl); (case n3 => rfl); (case n4 => rfl)
      (case pd => exact ⟨by decide, by decide⟩); (case rv => rfl)
    have x_InvalidNumber : ∃ C fI cc cda par, mg "InvalidNumber" = some (.ref C) ∧ (("InvalidNumber" : Str) == ("__debug__" : Str)) = false ∧ G.ExC PySem.Challenge.pw_stairworks_k76_fits_and_rests (L2.KOf KX) mg C fI cc cda par (if ("InvalidNumber" : Str) = "Undefined" then "what" else "value") := by
      dsimp only [L2.KOf]
      refine' G.exC_mk (P := PySem.Challenge.pw_stairworks_k76_fits_and_rests) KX GG ?aC ?xC ?xS ?sa ?e1 ?e2 ?e3 ?kC ?ini ?tyI ?lI ?cI ?lc ?v2 ?lcc ?mro ?sup ?nosup ?cst ?nof ?ib ?hf ?notop ?nd ?bi ?p1 ?s1 ?s2 ?s3 ?s4 ?n1 ?n2 ?n3 ?n4 ?pd ?rv
      (case aC => k_is)
      (case xC => k_is)
      (case xS => k_is)
      (case sa => k_is)
      (case e1 => k_is)
      (case e2 => k_is)
      (case e3 => k_is)
      (case kC => k_is)
      (case ini => k_is)
      (case tyI => k_is)
      (case lI => k_is)
      (case cI => k_is)
      (case lc => k_is)
      (case v2 => rfl)
      (case lcc => k_is)
      (case mro => k_is)
      (case sup => k_is)
      (case nosup => k_is)
      (case cst => k_is)
      (case nof => (show PySem.W.findIn _ _ "value" = _); k_is)
      (case ib => exact .mk _ _ _ _ _ _ _ _ _ _ _ _ rfl)
      (case hf => rfl); (case notop => decide +kernel); (case nd => decide)
      (case bi => exact fun us hl => match us, hl with | [_, _], _ => rfl)
      (case p1 => rfl); (case s1 => rfl); (case s2 => rfl); (case s3 => rfl); (case s4 => rfl); (case n1 => rfl); (case n2 => rfl); (case n3 => rfl); (case n4 => rfl)
      (case pd => exact ⟨by decide, by decide⟩); (case rv => rfl)
    have x_Undefined : ∃ C fI cc cda par, mg "Undefined" = some (.ref C) ∧ (("Undefined" : Str) == ("__debug__" : Str)) = false ∧ G.ExC PySem.Challenge.pw_stairworks_k76_fits_and_rests (L2.KOf KX) mg C fI cc cda par (if ("Undefined" : Str) = "Undefined" then "what" else "value") := by
      dsimp only [L2.KOf]
      refine' G.exC_mk (P := PySem.Challenge.pw_stairworks_k76_fits_and_rests) KX GG ?aC ?xC ?xS ?sa ?e1 ?e2 ?e3 ?kC ?ini ?tyI ?lI ?cI ?lc ?v2 ?lcc ?mro ?sup ?nosup ?cst ?nof ?ib ?hf ?notop ?nd ?bi ?p1 ?s1 ?s2 ?s3 ?s4 ?n1 ?n2 ?n3 ?n4 ?pd ?rv
      (case aC => k_is)
      (case xC => k_is)
      (case xS => k_is)
      (case sa => k_is)
      (case e1 => k_is)
      (case e2 => k_is)
      (case e3 => k_is)
      (case kC => k_is)
      (case ini => k_is)
      (case tyI => k_is)
      (case lI => k_is)
      (case cI => k_is)
      (case lc => k_is)
      (case v2 => rfl)
      (case lcc => k_is)
      (case mro => k_is)
      (case sup => k_is)
      (case nosup => k_is)
      (case cst => k_is)
      (case nof => (show PySem.W.findIn _ _ "what" = _); k_is)
      (case ib => exact .mk _ _ _ _ _ _ _ _ _ _ _ _ rfl)
      (case hf => rfl); (case notop => decide +kernel); (case nd => decide)
      (case bi => exact fun us hl => match us, hl with | [_, _], _ => rfl)
      (case p1 => rfl); (case s1 => rfl); (case s2 => rfl); (case s3 => rfl); (case s4 => rfl); (case n1 => rfl); (case n2 => rfl); (case n3 => rfl); (case n4 => rfl)
      (case pd => exact ⟨by decide, by decide⟩); (case rv => rfl)
    have y_InvalidStair : ∃ C, mg "InvalidStair" = some (.ref C) ∧ G.XOk (L2.KOf KX) mg C (["InvalidStair", "StairError", "ValueError"] : List Str) Lk76.hs := by
      dsimp only [L2.KOf]
      refine' G.xok_mk KX GG ?aC ?xC ?ga ?gg ?e1 ?hd ?ca ?sp ?tk ?mo ?nv ?nw ?hh
      (case aC => k_is)
      (case xC => k_is)
      (case ga => k_is)
      (case gg => k_is)
      (case e1 => k_is)
      (case hd => k_is)
      (case ca => k_is)
      (case sp => k_is)
      (case tk => k_is)
      (case mo => k_is)
      (case nv => k_is)
      (case nw => k_is)
      case hh =>
        refine' G.hh_own KX GG ?aD ?h1 ?h2 ?h3 ?h4 ?h5 ?nd ?hb ?t
        (case aD => k_is)
        (case h1 => k_is)
        (case h2 => k_is)
        (case h3 => k_is)
        (case h4 => k_is)
        (case h5 => k_is)
        (case nd => decide); (case hb => rfl)
        case t =>
        refine' G.hh_own KX GG ?aD ?h1 ?h2 ?h3 ?h4 ?h5 ?nd ?hb ?t
        (case aD => k_is)
        (case h1 => k_is)
        (case h2 => k_is)
        (case h3 => k_is)
        (case h4 => k_is)
        (case h5 => k_is)
        (case nd => decide); (case hb => rfl)
        case t =>
        refine' G.hh_own KX GG ?aD ?h1 ?h2 ?h3 ?h4 ?h5 ?nd ?hb ?t
        (case aD => k_is)
        (case h1 => k_is)
        (case h2 => k_is)
        (case h3 => k_is)
        (case h4 => k_is)
        (case h5 => k_is)
        (case nd => decide); (case hb => rfl)
        case t =>
        refine' G.hh_own KX GG ?aD ?h1 ?h2 ?h3 ?h4 ?h5 ?nd ?hb ?t
        (case aD => k_is)
        (case h1 => k_is)
        (case h2 => k_is)
        (case h3 => k_is)
        (case h4 => k_is)
        (case h5 => k_is)
        (case nd => decide); (case hb => rfl)
        case t =>
        exact G.hh_nil
    have y_InvalidNumber : ∃ C, mg "InvalidNumber" = some (.ref C) ∧ G.XOk (L2.KOf KX) mg C (["InvalidNumber", "StairError", "ValueError"] : List Str) Lk76.hs := by
      dsimp only [L2.KOf]
      refine' G.xok_mk KX GG ?aC ?xC ?ga ?gg ?e1 ?hd ?ca ?sp ?tk ?mo ?nv ?nw ?hh
      (case aC => k_is)
      (case xC => k_is)
      (case ga => k_is)
      (case gg => k_is)
      (case e1 => k_is)
      (case hd => k_is)
      (case ca => k_is)
      (case sp => k_is)
      (case tk => k_is)
      (case mo => k_is)
      (case nv => k_is)
      (case nw => k_is)
      case hh =>
        refine' G.hh_own KX GG ?aD ?h1 ?h2 ?h3 ?h4 ?h5 ?nd ?hb ?t
        (case aD => k_is)
        (case h1 => k_is)
        (case h2 => k_is)
        (case h3 => k_is)
        (case h4 => k_is)
        (case h5 => k_is)
        (case nd => decide); (case hb => rfl)
        case t =>
        refine' G.hh_own KX GG ?aD ?h1 ?h2 ?h3 ?h4 ?h5 ?nd ?hb ?t
        (case aD => k_is)
        (case h1 => k_is)
        (case h2 => k_is)
        (case h3 => k_is)
        (case h4 => k_is)
        (case h5 => k_is)
        (case nd => decide); (case hb => rfl)
        case t =>
        refine' G.hh_own KX GG ?aD ?h1 ?h2 ?h3 ?h4 ?h5 ?nd ?hb ?t
        (case aD => k_is)
        (case h1 => k_is)
        (case h2 => k_is)
        (case h3 => k_is)
        (case h4 => k_is)
        (case h5 => k_is)
        (case nd => decide); (case hb => rfl)
        case t =>
        refine' G.hh_own KX GG ?aD ?h1 ?h2 ?h3 ?h4 ?h5 ?nd ?hb ?t
        (case aD => k_is)
        (case h1 => k_is)
        (case h2 => k_is)
        (case h3 => k_is)
        (case h4 => k_is)
        (case h5 => k_is)
        (case nd => decide); (case hb => rfl)
        case t =>
        exact G.hh_nil
    have y_Undefined : ∃ C, mg "Undefined" = some (.ref C) ∧ G.XOk (L2.KOf KX) mg C (["Undefined", "StairError", "ValueError"] : List Str) Lk76.hs := by
      dsimp only [L2.KOf]
      refine' G.xok_mk KX GG ?aC ?xC ?ga ?gg ?e1 ?hd ?ca ?sp ?tk ?mo ?nv ?nw ?hh
      (case aC => k_is)
      (case xC => k_is)
      (case ga => k_is)
      (case gg => k_is)
      (case e1 => k_is)
      (case hd => k_is)
      (case ca => k_is)
      (case sp => k_is)
      (case tk => k_is)
      (case mo => k_is)
      (case nv => k_is)
      (case nw => k_is)
      case hh =>
        refine' G.hh_own KX GG ?aD ?h1 ?h2 ?h3 ?h4 ?h5 ?nd ?hb ?t
        (case aD => k_is)
        (case h1 => k_is)
        (case h2 => k_is)
        (case h3 => k_is)
        (case h4 => k_is)
        (case h5 => k_is)
        (case nd => decide); (case hb => rfl)
        case t =>
        refine' G.hh_own KX GG ?aD ?h1 ?h2 ?h3 ?h4 ?h5 ?nd ?hb ?t
        (case aD => k_is)
        (case h1 => k_is)
        (case h2 => k_is)
        (case h3 => k_is)
        (case h4 => k_is)
        (case h5 => k_is)
        (case nd => decide); (case hb => rfl)
        case t =>
        refine' G.hh_own KX GG ?aD ?h1 ?h2 ?h3 ?h4 ?h5 ?nd ?hb ?t
        (case aD => k_is)
        (case h1 => k_is)
        (case h2 => k_is)
        (case h3 => k_is)
        (case h4 => k_is)
        (case h5 => k_is)
        (case nd => decide); (case hb => rfl)
        case t =>
        refine' G.hh_own KX GG ?aD ?h1 ?h2 ?h3 ?h4 ?h5 ?nd ?hb ?t
        (case aD => k_is)
        (case h1 => k_is)
        (case h2 => k_is)
        (case h3 => k_is)
        (case h4 => k_is)
        (case h5 => k_is)
        (case nd => decide); (case hb => rfl)
        case t =>
        exact G.hh_nil
    have pf : G.PF PySem.Challenge.pw_stairworks_k76_fits_and_rests (L2.KOf KX) mg (G.MroF Lk76.tab) Lk76.cs Lk76.hs := by
      dsimp only [L2.KOf] at *
      refine' G.pf_mk KX GG ?bt ?hcs ?hx ?hn
      case bt =>
        refine G.bt_mk KX GG ?_
        intro x hx
        simp only [G.bnames, List.mem_cons, List.not_mem_nil, or_false] at hx
        rcases hx with rfl | rfl | rfl | rfl | rfl | rfl | rfl | rfl | rfl | rfl | rfl | rfl | rfl | rfl | rfl | rfl | rfl | rfl | rfl | rfl | rfl <;> k_is
      case hcs =>
        intro c hc
        simp only [Lk76.cs, List.mem_cons, List.not_mem_nil, or_false] at hc
        rcases hc with rfl | rfl | rfl
        · exact x_InvalidStair
        · exact x_InvalidNumber
        · exact x_Undefined
      case hx =>
        intro c hc
        simp only [Lk76.tab, List.mem_cons, List.not_mem_nil, or_false] at hc
        rcases hc with rfl | rfl | rfl
        · exact y_InvalidStair
        · exact y_InvalidNumber
        · exact y_Undefined
      case hn => exact .inl (by simp [Lk76.tab])
    have g_law_open : ∃ a fd, G.FF (L2.KOf KX) mg "_law_open" Lk76.s_law_open a fd := by
      dsimp only [L2.KOf]
      refine' G.ff_mk KX GG ?h1 ?h2 ?h3 ?h4
      (case h1 => k_is); (case h2 => k_is); (case h3 => k_is); (case h4 => k_is)
    have g_law_pick : ∃ a fd, G.FF (L2.KOf KX) mg "_law_pick" Lk76.s_law_pick a fd := by
      dsimp only [L2.KOf]
      refine' G.ff_mk KX GG ?h1 ?h2 ?h3 ?h4
      (case h1 => k_is); (case h2 => k_is); (case h3 => k_is); (case h4 => k_is)
    have g_law_stair : ∃ a fd, G.FF (L2.KOf KX) mg "_law_stair" Lk76.s_law_stair a fd := by
      dsimp only [L2.KOf]
      refine' G.ff_mk KX GG ?h1 ?h2 ?h3 ?h4
      (case h1 => k_is); (case h2 => k_is); (case h3 => k_is); (case h4 => k_is)
    have g_law_boxes : ∃ a fd, G.FF (L2.KOf KX) mg "_law_boxes" Lk76.s_law_boxes a fd := by
      dsimp only [L2.KOf]
      refine' G.ff_mk KX GG ?h1 ?h2 ?h3 ?h4
      (case h1 => k_is); (case h2 => k_is); (case h3 => k_is); (case h4 => k_is)
    have g_is_integer : ∃ a fd, G.FF (L2.KOf KX) mg "is_integer" Lk76.s_is_integer a fd := by
      dsimp only [L2.KOf]
      refine' G.ff_mk KX GG ?h1 ?h2 ?h3 ?h4
      (case h1 => k_is); (case h2 => k_is); (case h3 => k_is); (case h4 => k_is)
    have g_is_positive : ∃ a fd, G.FF (L2.KOf KX) mg "is_positive" Lk76.s_is_positive a fd := by
      dsimp only [L2.KOf]
      refine' G.ff_mk KX GG ?h1 ?h2 ?h3 ?h4
      (case h1 => k_is); (case h2 => k_is); (case h3 => k_is); (case h4 => k_is)
    have g_is_stair : ∃ a fd, G.FF (L2.KOf KX) mg "is_stair" Lk76.s_is_stair a fd := by
      dsimp only [L2.KOf]
      refine' G.ff_mk KX GG ?h1 ?h2 ?h3 ?h4
      (case h1 => k_is); (case h2 => k_is); (case h3 => k_is); (case h4 => k_is)
    have g_need_stair : ∃ a fd, G.FF (L2.KOf KX) mg "need_stair" Lk76.s_need_stair a fd := by
      dsimp only [L2.KOf]
      refine' G.ff_mk KX GG ?h1 ?h2 ?h3 ?h4
      (case h1 => k_is); (case h2 => k_is); (case h3 => k_is); (case h4 => k_is)
    have g_is_number : ∃ a fd, G.FF (L2.KOf KX) mg "is_number" Lk76.s_is_number a fd := by
      dsimp only [L2.KOf]
      refine' G.ff_mk KX GG ?h1 ?h2 ?h3 ?h4
      (case h1 => k_is); (case h2 => k_is); (case h3 => k_is); (case h4 => k_is)
    have g_need_box : ∃ a fd, G.FF (L2.KOf KX) mg "_need_box" Lk76.s_need_box a fd := by
      dsimp only [L2.KOf]
      refine' G.ff_mk KX GG ?h1 ?h2 ?h3 ?h4
      (case h1 => k_is); (case h2 => k_is); (case h3 => k_is); (case h4 => k_is)
    have g_row_of : ∃ a fd, G.FF (L2.KOf KX) mg "row_of" Lk76.s_row_of a fd := by
      dsimp only [L2.KOf]
      refine' G.ff_mk KX GG ?h1 ?h2 ?h3 ?h4
      (case h1 => k_is); (case h2 => k_is); (case h3 => k_is); (case h4 => k_is)
    have g_is_inside : ∃ a fd, G.FF (L2.KOf KX) mg "is_inside" Lk76.s_is_inside a fd := by
      dsimp only [L2.KOf]
      refine' G.ff_mk KX GG ?h1 ?h2 ?h3 ?h4
      (case h1 => k_is); (case h2 => k_is); (case h3 => k_is); (case h4 => k_is)
    have g_fits : ∃ a fd, G.FF (L2.KOf KX) mg "fits" Lk76.s_fits a fd := by
      dsimp only [L2.KOf]
      refine' G.ff_mk KX GG ?h1 ?h2 ?h3 ?h4
      (case h1 => k_is); (case h2 => k_is); (case h3 => k_is); (case h4 => k_is)
    have g_law_rest : ∃ a fd, G.FF (L2.KOf KX) mg "_law_rest" Lk76.s_law_rest a fd := by
      dsimp only [L2.KOf]
      refine' G.ff_mk KX GG ?h1 ?h2 ?h3 ?h4
      (case h1 => k_is); (case h2 => k_is); (case h3 => k_is); (case h4 => k_is)
    have g_strip : ∃ a fd, G.FF (L2.KOf KX) mg "strip" Lk76.s_strip a fd := by
      dsimp only [L2.KOf]
      refine' G.ff_mk KX GG ?h1 ?h2 ?h3 ?h4
      (case h1 => k_is); (case h2 => k_is); (case h3 => k_is); (case h4 => k_is)
    have g_rest : ∃ a fd, G.FF (L2.KOf KX) mg "rest" Lk76.s_rest a fd := by
      dsimp only [L2.KOf]
      refine' G.ff_mk KX GG ?h1 ?h2 ?h3 ?h4
      (case h1 => k_is); (case h2 => k_is); (case h3 => k_is); (case h4 => k_is)
    have g_law_word : ∃ a fd, G.FF (L2.KOf KX) mg "_law_word" Lk76.s_law_word a fd := by
      dsimp only [L2.KOf]
      refine' G.ff_mk KX GG ?h1 ?h2 ?h3 ?h4
      (case h1 => k_is); (case h2 => k_is); (case h3 => k_is); (case h4 => k_is)
    have g_law_refused : ∃ a fd, G.FF (L2.KOf KX) mg "_law_refused" Lk76.s_law_refused a fd := by
      dsimp only [L2.KOf]
      refine' G.ff_mk KX GG ?h1 ?h2 ?h3 ?h4
      (case h1 => k_is); (case h2 => k_is); (case h3 => k_is); (case h4 => k_is)
    have g_law_refuses : ∃ a fd, G.FF (L2.KOf KX) mg "_law_refuses" Lk76.s_law_refuses a fd := by
      dsimp only [L2.KOf]
      refine' G.ff_mk KX GG ?h1 ?h2 ?h3 ?h4
      (case h1 => k_is); (case h2 => k_is); (case h3 => k_is); (case h4 => k_is)
    have g_law_wrong : ∃ a fd, G.FF (L2.KOf KX) mg "_law_wrong" Lk76.s_law_wrong a fd := by
      dsimp only [L2.KOf]
      refine' G.ff_mk KX GG ?h1 ?h2 ?h3 ?h4
      (case h1 => k_is); (case h2 => k_is); (case h3 => k_is); (case h4 => k_is)
    have g_bits_of_stair : ∃ a fd, G.FF (L2.KOf KX) mg "bits_of_stair" Lk76.s_bits_of_stair a fd := by
      dsimp only [L2.KOf]
      refine' G.ff_mk KX GG ?h1 ?h2 ?h3 ?h4
      (case h1 => k_is); (case h2 => k_is); (case h3 => k_is); (case h4 => k_is)
    have g_law : ∃ a fd, G.FF (L2.KOf KX) mg "law" Lk76.s_law a fd := by
      dsimp only [L2.KOf]
      refine' G.ff_mk KX GG ?h1 ?h2 ?h3 ?h4
      (case h1 => k_is); (case h2 => k_is); (case h3 => k_is); (case h4 => k_is)
    exact Lk76.all_mk hmg pf g_law_open g_law_pick g_law_stair g_law_boxes g_is_integer g_is_positive g_is_stair g_need_stair g_is_number g_need_box g_row_of g_is_inside g_fits g_law_rest g_strip g_rest g_law_word g_law_refused g_law_refuses g_law_wrong g_bits_of_stair g_law
