import PyProof.Rows.All
import Wide.All
import OpenK.AllK
import Wide.FinOn
import PySem.Challenge.RW_stairworks_k95_webs_judged
import PyProof.EqAt
import PyProof.EqKinds
import PyProof.TupleCall
import Open.SpecLaws
import KE.OsGo
import HandS.ForSpec
import HandS.ForMost
import HandS.ForExc
import KE.LtData
import KE.DataCmp
import KE.DataEq
import KE.DataIsa
import KE.DataAny
import KE.DataFind
import KE.DataMinMax
import HandS.TupMul
import HandS.TupAny
import HandS.Wide
import HandS.TupLe
import HandS.IsInst
import HandS.Rev
import HandS.Flow
import HandS.Zip
import KE.KTupSum
import HandS.Style
import HandS.More
import KE.KExcSuper
import HandS.ExcField
import HandS.ExcInit
import HandS.ExcOwn
import KE.KExcIs
import HandS.EndBits
set_option Elab.async false
set_option linter.all false
set_option maxRecDepth 100000
set_option maxHeartbeats 8000000
/-! Layer G, part 0: a small deep syntax and its weakest preconditions over plain data. -/
namespace G
open PySem L2

abbrev PD := PyData
/-- a value: plain data that stands still, the k-th mutable object, or the exception that a suite holds (its address, its dict's; its class's name, the field it keeps, the value kept) -/
inductive S where
  | d (x : PD)
  | l (k : Nat)
  | e (a dd : Nat) (cls fld : Str) (val : S)
/-- an exception: its class's name, the field it keeps, the value kept -/
structure Xc where
  cls : Str
  fld : Str
  val : S
inductive MO where
  | lst (xs : List S)
  | dct (kvs : List (PD × S))
abbrev Mem := List MO
abbrev Sto := List (Option S)
abbrev Comp (α : Type) := Mem → (α → Mem → Prop) → (Xc → Mem → Prop) → Prop
abbrev FSpec := List S → Comp S

/-! ### the syntax -/
inductive Tg where
  | nm (i : Nat)
  | tp (ts : List Tg)
inductive B1 where
  | len | tuple | list | int | bool | str | repr | abs | sum | all | any | max | min | sorted | sortedR | fact | set
  deriving DecidableEq
inductive B2 where
  | max | min | gcd
  deriving DecidableEq
mutual
inductive E where
  | var (i : Nat)
  | cst (c : PD)
  | neg (a : E)
  | not (a : E)
  | and (a b : E)
  | or (a b : E)
  | ite (c a b : E)
  | bin (o : Operator) (a b : E)
  | cmp (o : CmpOp) (a b : E)
  | chain (o p : CmpOp) (a b c : E)
  | tup (es : Es)
  | fr (f : F)
  | al (f : F)
  | ddisp (ks : List Str) (es : Es)
  | ix (a b : E)
  | sl (a : E) (lo hi : Oe)
  | rev (a : E)
  | call (f : Str) (es : Es)
  | callK (f : Str) (es : Es) (ns : List Str) (ks : Es)
  | b1 (f : B1) (a : E)
  | b2 (f : B2) (a b : E)
  | isI (a : E) (ts : List String)
  | isX (a : E) (cs : List Str)
  | xval (a : E) (f : Str)
  | get (d k x : E)
  | pop (a : E)
  | popAt (a b : E)
  | index (a b : E)
inductive Es where
  | nil
  | cons (e : E) (es : Es)
inductive Oe where
  | none
  | some (e : E)
/-- what makes a new list -/
inductive F where
  | disp (es : Es)
  | comp (e : E) (t : Tg) (it : It) (c : Oe)
  | comp2 (e : E) (t : Tg) (it : It) (u : Tg) (ju : It) (c : Oe)
  | listOf (a : E)
  | cat (a b : E)
  | rep (a b : E)
  | slice (a : E) (lo hi : Oe)
inductive It where
  | of (e : E)
  | rng (es : Es)
  | enum (e : E)
  | zip (a b : E)
  | rev (e : E)
end
mutual
inductive St where
  | asg (t : Tg) (e : E)
  | setIx (a b e : E)
  | par (i j : Nat) (a b : E)
  | aug (i : Nat) (o : Operator) (e : E)
  | augIx (a b : E) (o : Operator) (e : E)
  | expr (e : E)
  | app (a e : E)
  | ext (a e : E)
  | ins (a b e : E)
  | ret (e : E)
  | retN
  | cond (c : E) (a b : Ss)
  | loop (t : Tg) (it : It) (b : Ss)
  | whl (c : E) (b : Ss)
  | raise (c : Str) (e : E)
  | tryX (b : Ss) (hs : Hs)
  | pass
  | brk
  | cont
inductive Ss where
  | nil
  | cons (s : St) (ss : Ss)
inductive Hs where
  | nil
  | cons (c : Str) (i : Nat) (b : Ss) (hs : Hs)
end

/-! ### values -/
@[reducible] def I (i : Int) : S := .d (.int i)
@[reducible] def B (b : Bool) : S := .d (.bool b)
@[reducible] def N0 : S := .d .none

def S.data : S → Option PD
  | .d x => some x
  | _ => none
def dataAll : List S → Option (List PD)
  | [] => some []
  | .d x :: r => (dataAll r).map (x :: ·)
  | .l _ :: _ => none
  | .e .. :: _ => none
theorem dataAll_map (xs : List PD) : dataAll (xs.map S.d) = some xs := by
  induction xs with
  | nil => rfl
  | cons x r ih => simp [dataAll, ih]
theorem dataAll_some : ∀ {ss : List S} {xs : List PD}, dataAll ss = some xs → ss = xs.map S.d
  | [], xs, h => by cases h; rfl
  | .d x :: r, xs, h => by
    cases e : dataAll r with
    | none => rw [dataAll, e] at h; cases h
    | some ys =>
      rw [dataAll, e] at h
      cases h
      rw [dataAll_some e]
      rfl
  | .l _ :: _, _, h => by cases h
  | .e .. :: _, _, h => by cases h
/-- the items of a list or tuple -/
def items (M : Mem) : S → Option (List S)
  | .d (.list xs) => some (xs.map .d)
  | .d (.tuple xs) => some (xs.map .d)
  | .l k => match M[k]? with
    | some (.lst xs) => some xs
    | _ => none
  | _ => none
/-- a value as plain data, where it is a list of plain data, too -/
def pd (M : Mem) : S → Option PD
  | .d x => some x
  | .l k => match M[k]? with
    | some (.lst xs) => (dataAll xs).map .list
    | _ => none
  | .e .. => none

/-! ### primitives -/
def isTy : String → PD → Bool
  | "int", .int _ => true
  | "int", .bool _ => true
  | "bool", .bool _ => true
  | "str", .str _ => true
  | "list", .list _ => true
  | "tuple", .tuple _ => true
  | "dict", .dict _ => true
  | _, _ => false
def isTyS (M : Mem) (t : String) : S → Option Bool
  | .d x => some (isTy t x)
  | .l k => match M[k]? with
    | some (.lst _) => some (t == "list")
    | some (.dct _) => some (t == "dict")
    | none => none
  | .e .. => none
def truth (M : Mem) : S → Option Bool
  | .d .none => some false
  | .d (.bool b) => some b
  | .d (.int i) => some (i != 0)
  | .d (.list xs) => some (!xs.isEmpty)
  | .d (.tuple xs) => some (!xs.isEmpty)
  | .l k => match M[k]? with
    | some (.lst xs) => some (!xs.isEmpty)
    | _ => none
  | _ => none

/-- data that may be compared: no dict within, not too deep -/
def okD (x : PD) : Bool := x.plain && decide (x.depth ≤ 60)
/-- a product that the machine can hold -/
def MulOk (i j : Int) : Prop := CMul i j ∨ i.natAbs.log2 + j.natAbs.log2 < 1000000
def DivOk (j : Int) : Prop := 0 < j ∧ (j < 1073741824 ∨ j.natAbs.log2 < 9000)
def PowOk (i j : Int) : Prop := 0 ≤ j ∧ j ≤ 1000000 ∧ i.natAbs < 2 ^ 64

def wBin (o : Operator) (x y : S) (M : Mem) (Q : S → Mem → Prop) : Prop :=
  match o, x, y with
  | .Add, .d (.int i), .d (.int j) => Q (I (i + j)) M
  | .Sub, .d (.int i), .d (.int j) => Q (I (i - j)) M
  | .Mult, .d (.int i), .d (.int j) => MulOk i j ∧ Q (I (i * j)) M
  | .FloorDiv, .d (.int i), .d (.int j) => DivOk j ∧ Q (I (i / j)) M
  | .Mod, .d (.int i), .d (.int j) => 0 < j ∧ Q (I (i % j)) M
  | .Pow, .d (.int i), .d (.int j) => PowOk i j ∧ Q (I (i ^ j.toNat)) M
  | .LShift, .d (.int i), .d (.int j) => PowOk i j ∧ Q (I (i * 2 ^ j.toNat)) M
  | .Add, .d (.tuple xs), .d (.tuple ys) => xs.length + ys.length ≤ sizeLine ∧ Q (.d (.tuple (xs ++ ys))) M
  | .Add, .d (.str a), .d (.str b) => a.length + b.length ≤ sizeLine ∧ Q (.d (.str (a ++ b))) M
  | .Mult, .d (.tuple xs), .d (.int j) => (xs ≠ [] ∧ xs.length ≤ 1000 ∧ 0 ≤ j ∧ j ≤ 1000) ∧ Q (.d (.tuple (List.replicate j.toNat xs).flatten)) M
  | _, _, _ => False

/-- the lexicographic order of rows of ints, as Lean's lists have it -/
def intsOf : List PD → Option (List Int)
  | [] => some []
  | .int i :: r => (intsOf r).map (i :: ·)
  | _ :: _ => none
theorem intsOf_map (ns : List Int) : intsOf (ns.map PyData.int) = some ns := by
  induction ns with
  | nil => rfl
  | cons x r ih => simp [intsOf, ih]
theorem intsOf_some : ∀ {xs : List PD} {ns : List Int}, intsOf xs = some ns → xs = ns.map PyData.int
  | [], ns, h => by cases h; rfl
  | .int i :: r, ns, h => by
    cases e : intsOf r with
    | none => rw [intsOf, e] at h; cases h
    | some ys =>
      rw [intsOf, e] at h
      cases h
      rw [intsOf_some e]
      rfl
  | .none :: _, _, h => by cases h
  | .bool _ :: _, _, h => by cases h
  | .str _ :: _, _, h => by cases h
  | .list _ :: _, _, h => by cases h
  | .tuple _ :: _, _, h => by cases h
  | .dict _ :: _, _, h => by cases h

def wOrd (f : PD → PD → Bool) (g : Int → Int → Bool) (x y : S) (M : Mem) (Q : S → Mem → Prop) : Prop :=
  match x, y with
  | .d (.int i), .d (.int j) => Q (B (g i j)) M
  | .d (.tuple xs), .d (.tuple ys) => (okD (.tuple xs) = true ∧ okD (.tuple ys) = true ∧ PySem.W.alike (.tuple xs) (.tuple ys) = true) ∧ Q (B (f (.tuple xs) (.tuple ys))) M
  | _, _ => False
def wEq (x y : PD) (f : Bool → Bool) (M : Mem) (Q : S → Mem → Prop) : Prop :=
  okD x = true ∧ okD y = true ∧ Q (B (f (PyData.eqv x y))) M
def wIn (x : S) (y : S) (f : Bool → Bool) (M : Mem) (Q : S → Mem → Prop) : Prop :=
  match x, y with
  | .d a, .d (.list ys) => (okD a = true ∧ okD (.list ys) = true) ∧ Q (B (f (ys.any fun z => PyData.eqv z a))) M
  | .d a, .d (.tuple ys) => (okD a = true ∧ okD (.tuple ys) = true) ∧ Q (B (f (ys.any fun z => PyData.eqv z a))) M
  | _, _ => False
def wCmp (o : CmpOp) (x y : S) (M : Mem) (Q : S → Mem → Prop) : Prop :=
  match o with
  | .Lt => wOrd PySem.W.dataLt (fun i j => decide (i < j)) x y M Q
  | .LtE => wOrd (fun x y => !PySem.W.dataLt y x) (fun i j => decide (i ≤ j)) x y M Q
  | .Gt => wOrd (fun x y => PySem.W.dataLt y x) (fun i j => decide (j < i)) x y M Q
  | .GtE => wOrd (fun x y => !PySem.W.dataLt x y) (fun i j => decide (j ≤ i)) x y M Q
  | .Eq => match pd M x, pd M y with
    | some a, some b => wEq a b id M Q
    | _, _ => False
  | .NotEq => match pd M x, pd M y with
    | some a, some b => wEq a b (!·) M Q
    | _, _ => False
  | .Is => match x, y with
    | .d .none, .d .none => Q (B true) M
    | .d (.bool a), .d (.bool b) => Q (B (a == b)) M
    | .d (.int _), .d .none => Q (B false) M
    | .d (.bool _), .d .none => Q (B false) M
    | .d (.str _), .d .none => Q (B false) M
    | .d (.tuple _), .d .none => Q (B false) M
    | .d (.list _), .d .none => Q (B false) M
    | .l _, .d .none => Q (B false) M
    | _, _ => False
  | .IsNot => match x, y with
    | .d .none, .d .none => Q (B false) M
    | .d (.bool a), .d (.bool b) => Q (B (!(a == b))) M
    | .d (.int _), .d .none => Q (B true) M
    | .d (.bool _), .d .none => Q (B true) M
    | .d (.str _), .d .none => Q (B true) M
    | .d (.tuple _), .d .none => Q (B true) M
    | .d (.list _), .d .none => Q (B true) M
    | .l _, .d .none => Q (B true) M
    | _, _ => False
  | .In => match pd M x, pd M y with
    | some a, some b => wIn (.d a) (.d b) id M Q
    | _, _ => False
  | .NotIn => match pd M x, pd M y with
    | some a, some b => wIn (.d a) (.d b) (!·) M Q
    | _, _ => False

def look (kvs : List (PD × S)) (key : PD) : Option S := kvs.findSome? fun p => if PyData.eqv p.1 key = true then some p.2 else none
/-- item i of a list or tuple -/
def wIx (x y : S) (M : Mem) (Q : S → Mem → Prop) : Prop :=
  match x, y with
  | .d (.list xs), .d (.int i) => ∃ v, atI xs i = some v ∧ Q (.d v) M
  | .d (.tuple xs), .d (.int i) => ∃ v, atI xs i = some v ∧ Q (.d v) M
  | .l k, .d (.int i) => ∃ xs v, M[k]? = some (.lst xs) ∧ atI xs i = some v ∧ Q v M
  | _, _ => False
def cut {α : Type} (xs : List α) (lo hi : Option Int) : List α := (xs.drop (HT.sIx xs.length 0 lo)).take (HT.sIx xs.length xs.length hi - HT.sIx xs.length 0 lo)
def wSl (x : S) (lo hi : Option Int) (M : Mem) (Q : S → Mem → Prop) : Prop :=
  match x with
  | .d (.list xs) => Q (.d (.list (cut xs lo hi))) M
  | .d (.tuple xs) => Q (.d (.tuple (cut xs lo hi))) M
  | .l k => ∃ xs, M[k]? = some (.lst (xs.map .d)) ∧ Q (.d (.list (cut xs lo hi))) M
  | _ => False

def int? : S → Option Int
  | .d (.int i) => some i
  | _ => none

def wB1 (f : B1) (x : S) (M : Mem) (Q : S → Mem → Prop) : Prop :=
  match f with
  | .len => ∃ xs, items M x = some xs ∧ Q (I xs.length) M
  | .tuple => match x with
    | .d (.tuple xs) => Q (.d (.tuple xs)) M
    | .d (.list xs) => Q (.d (.tuple xs)) M
    | .l k => ∃ xs, M[k]? = some (.lst (xs.map .d)) ∧ Q (.d (.tuple xs)) M
    | _ => False
  | .list => ∃ xs, items M x = some (xs.map .d) ∧ Q (.d (.list xs)) M
  | .int => match x with
    | .d (.int i) => Q (I i) M
    | .d (.bool b) => Q (I (if b then 1 else 0)) M
    | _ => False
  | .bool => match x with
    | .d (.int i) => Q (B (i != 0)) M
    | .d (.bool b) => Q (B b) M
    | _ => False
  | .str => match x with
    | .d (.int i) => i.natAbs.log2 < 1920 ∧ Q (.d (.str (toString i))) M
    | _ => False
  | .repr => ∃ a, pd M x = some a ∧ ((a.hasDict = false ∨ a = .dict []) ∧ a.showable = true ∧ a.shown.length ≤ sizeLine ∧ a.depth ≤ 60) ∧ Q (.d (.str a.shown)) M
  | .abs => match x with
    | .d (.int i) => Q (I (if i < 0 then -i else i)) M
    | _ => False
  | .sum => ∃ ns : List Int, items M x = some (ns.map I) ∧ Q (I ns.sum) M
  | .all => ∃ bs : List Bool, items M x = some (bs.map B) ∧ Q (B (bs.all id)) M
  | .any => ∃ bs : List Bool, items M x = some (bs.map B) ∧ Q (B (bs.any id)) M
  | .max => ∃ y ys, items M x = some ((y :: ys).map .d) ∧ (okD (.list (y :: ys)) = true ∧ PySem.W.AlikeAll (y :: ys)) ∧ Q (.d (PySem.W.maxD y ys)) M
  | .min => ∃ y ys, items M x = some ((y :: ys).map .d) ∧ (okD (.list (y :: ys)) = true ∧ PySem.W.AlikeAll (y :: ys)) ∧ Q (.d (PySem.W.minD y ys)) M
  | _ => False
def wB2 (f : B2) (x y : S) (M : Mem) (Q : S → Mem → Prop) : Prop :=
  match f, x, y with
  | .max, .d (.int i), .d (.int j) => Q (I (if j > i then j else i)) M
  | .min, .d (.int i), .d (.int j) => Q (I (if j < i then j else i)) M
  | _, _, _ => False

def wRev (x : S) (M : Mem) (Q : S → Mem → Prop) : Prop :=
  match x with
  | .d (.list xs) => Q (.d (.list xs.reverse)) M
  | .d (.tuple xs) => Q (.d (.tuple xs.reverse)) M
  | .l k => ∃ xs : List PD, M[k]? = some (.lst (xs.map .d)) ∧ Q (.d (.list xs.reverse)) M
  | _ => False
def wGet (x y z : S) (M : Mem) (Q : S → Mem → Prop) : Prop :=
  match x, y with
  | .l n, .d key => ∃ kvs, M[n]? = some (.dct kvs) ∧ Q ((look kvs key).getD z) M
  | _, _ => False
def wPop (x : S) (M : Mem) (Q : S → Mem → Prop) : Prop :=
  match x with
  | .l k => ∃ xs v, M[k]? = some (.lst xs) ∧ xs[xs.length - 1]? = some v ∧ Q v (M.set k (.lst xs.dropLast))
  | _ => False
def wPopAt (x y : S) (M : Mem) (Q : S → Mem → Prop) : Prop :=
  match x, y with
  | .l k, .d (.int i) => ∃ xs j v, M[k]? = some (.lst xs) ∧ (-(2 ^ 63) ≤ i ∧ i < 2 ^ 63) ∧ ixN xs.length i = some j ∧ xs[j]? = some v ∧ Q v (M.set k (.lst (xs.eraseIdx j)))
  | _, _ => False

/-! ### weakest preconditions -/
structure Env where
  Φ : Str → Option FSpec
  /-- the order of a def's parameters -/
  ps : Str → List Str
  /-- the exception that the suite holds -/
  cur : Option S
  /-- the classes above a class, itself first -/
  mro : Str → Option (List Str)

/-- an item of what is walked: one value, or a new tuple of values -/
inductive Itm where
  | one (s : S)
  | many (ss : List S)
mutual
def wTg : Tg → Itm → Sto → (Sto → Prop) → Prop
  | .nm i, .one s, ρ, Q => Q (ρ.set i (some s))
  | .nm i, .many ss, ρ, Q => ∃ xs, dataAll ss = some xs ∧ Q (ρ.set i (some (.d (.tuple xs))))
  | .tp ts, .one (.d (.tuple xs)), ρ, Q => xs.length = ts.length ∧ wTgs ts (xs.map .d) ρ Q
  | .tp ts, .many ss, ρ, Q => ss.length = ts.length ∧ wTgs ts ss ρ Q
  | .tp _, .one _, _, _ => False
def wTgs : List Tg → List S → Sto → (Sto → Prop) → Prop
  | [], [], ρ, Q => Q ρ
  | t :: ts, s :: ss, ρ, Q => wTg t (.one s) ρ fun ρ1 => wTgs ts ss ρ1 Q
  | _, _, _, _ => False
end

mutual
def tgSlots : Tg → List Nat
  | .nm i => [i]
  | .tp ts => tgSlotss ts
def tgSlotss : List Tg → List Nat
  | [] => []
  | t :: ts => tgSlots t ++ tgSlotss ts
end
def wipeS (ρ : Sto) : List Nat → Sto
  | [] => ρ
  | i :: is => (wipeS ρ is).set i none
def tgAt (t : Tg) (ρ : Sto) : Itm → (Sto → Prop) → Prop := fun x k => wTg t x ρ k
/-- [e for t in items if c] over items -/
def wLc (tg : Itm → (Sto → Prop) → Prop) (ok : Mem → Prop) (cond : Sto → Comp Bool) (e : Sto → Comp S) : List Itm → List S → Comp (List S)
  | [], acc, M, Q, _ => ok M ∧ Q acc M
  | x :: xs, acc, M, Q, E => ok M ∧ tg x fun ρ => cond ρ M (fun b M1 => if b = true then e ρ M1 (fun v M2 => wLc tg ok cond e xs (acc ++ [v]) M2 Q E) E else wLc tg ok cond e xs acc M1 Q E) E

structure Outs where
  nx : Sto → Mem → Prop
  rt : S → Mem → Prop
  bk : Sto → Mem → Prop := fun _ _ => False
  ct : Sto → Mem → Prop := fun _ _ => False
  ex : Xc → Sto → Mem → Prop := fun _ _ _ => False

def rngItems (lo hi : Int) : List Itm := (List.range (hi - lo).toNat).map fun i => .one (I (lo + (i : Nat)))
def rng3Items (lo c : Int) (n : Nat) : List Itm := (List.range n).map fun i => .one (I (lo + (i : Nat) * c))
def rngLen (lo hi c : Int) : Nat := if 0 < c then ((hi - lo + c - 1) / c).toNat else if c < 0 then ((lo - hi + (-c) - 1) / (-c)).toNat else 0
def rngOk (a b : Int) : Prop := -(2 ^ 62) ≤ a ∧ a < 2 ^ 62 ∧ -(2 ^ 62) ≤ b ∧ b < 2 ^ 62

def wRng (vs : List S) (M : Mem) (Q : List Itm × (Mem → Prop) → Mem → Prop) : Prop :=
  match vs with
  | [.d (.int a)] => rngOk 0 a ∧ Q (rngItems 0 a, fun _ => True) M
  | [.d (.int a), .d (.int b)] => rngOk a b ∧ Q (rngItems a b, fun _ => True) M
  | [.d (.int a), .d (.int b), .d (.int c)] => (rngOk a b ∧ c ≠ 0 ∧ c.natAbs < 2 ^ 30) ∧ Q (rng3Items a c (rngLen a b c), fun _ => True) M
  | _ => False
/-- what stays while a list is walked -/
def okOf (x : S) (xs : List S) : Mem → Prop :=
  match x with
  | .l k => fun M => M[k]? = some (.lst xs)
  | _ => fun _ => True
def enumItems (xs : List S) : List Itm := xs.zipIdx.map fun p => .many [I p.2, p.1]
def zipItems (xs ys : List S) : List Itm := (xs.zip ys).map fun p => .many [p.1, p.2]

def wIsX (mro : Str → Option (List Str)) (cs : List Str) (x : S) (M : Mem) (Q : S → Mem → Prop) : Prop :=
  match x with
  | .e _ _ c _ _ => ∃ l, mro c = some l ∧ Q (B (cs.any fun c => l.contains c)) M
  | _ => False
def wXval (f : Str) (x : S) (M : Mem) (Q : S → Mem → Prop) : Prop :=
  match x with
  | .e _ _ _ g v => g = f ∧ Q v M
  | _ => False
def wDisp (vs : List S) (M : Mem) (Q : List S → Mem → Prop) : Prop := vs.length ≤ sizeLine ∧ Q vs M

variable (Γ : Env)
mutual
def wE : E → Sto → Comp S
  | .var i, ρ, M, Q, _ => ∃ v, ρ[i]? = some (some v) ∧ Q v M
  | .cst c, _, M, Q, _ => Q (.d c) M
  | .neg a, ρ, M, Q, X => wE a ρ M (fun x M1 => ∃ i, int? x = some i ∧ Q (I (-i)) M1) X
  | .not a, ρ, M, Q, X => wE a ρ M (fun x M1 => ∃ k, truth M1 x = some k ∧ Q (B (!k)) M1) X
  | .and a b, ρ, M, Q, X => wE a ρ M (fun x M1 => ∃ k, truth M1 x = some k ∧ if k = true then wE b ρ M1 Q X else Q x M1) X
  | .or a b, ρ, M, Q, X => wE a ρ M (fun x M1 => ∃ k, truth M1 x = some k ∧ if k = true then Q x M1 else wE b ρ M1 Q X) X
  | .ite c a b, ρ, M, Q, X => wT c ρ M (fun k M1 => if k = true then wE a ρ M1 Q X else wE b ρ M1 Q X) X
  | .bin o a b, ρ, M, Q, X => wE a ρ M (fun x M1 => wE b ρ M1 (fun y M2 => wBin o x y M2 Q) X) X
  | .cmp o a b, ρ, M, Q, X => wE a ρ M (fun x M1 => wE b ρ M1 (fun y M2 => wCmp o x y M2 Q) X) X
  | .chain o p a b c, ρ, M, Q, X => wE a ρ M (fun x M1 => wE b ρ M1 (fun y M2 => wCmp o x y M2 fun r M3 => ∃ k, r = B k ∧
      if k = true then wE c ρ M3 (fun z M4 => wCmp p y z M4 Q) X else Q (B false) M3) X) X
  | .tup es, ρ, M, Q, X => wEs es ρ M (fun vs M1 => ∃ xs, dataAll vs = some xs ∧ xs.length ≤ sizeLine ∧ Q (.d (.tuple xs)) M1) X
  | .fr f, ρ, M, Q, X => wF f ρ M (fun vs M1 => ∃ xs, dataAll vs = some xs ∧ Q (.d (.list xs)) M1) X
  | .al f, ρ, M, Q, X => wF f ρ M (fun vs M1 => Q (.l M1.length) (M1 ++ [.lst vs])) X
  | .ddisp ks es, ρ, M, Q, X => wEs es ρ M (fun vs M1 => Q (.l M1.length) (M1 ++ [.dct ((ks.map PyData.str).zip vs)])) X
  | .ix a b, ρ, M, Q, X => wE a ρ M (fun x M1 => wE b ρ M1 (fun y M2 => wIx x y M2 Q) X) X
  | .sl a lo hi, ρ, M, Q, X => wE a ρ M (fun x M1 => wO lo ρ M1 (fun l M2 => wO hi ρ M2 (fun h M3 => wSl x l h M3 Q) X) X) X
  | .rev a, ρ, M, Q, X => wE a ρ M (fun x M1 => wRev x M1 Q) X
  | .call f es, ρ, M, Q, X => wEs es ρ M (fun vs M1 => ∃ φ, Γ.Φ f = some φ ∧ φ vs M1 Q X) X
  | .callK f es ns ks, ρ, M, Q, X => wEs es ρ M (fun vs M1 => wEs ks ρ M1 (fun ws M2 => ∃ φ, Γ.Φ f = some φ ∧ φ (vs ++ ((Γ.ps f).drop vs.length).filterMap fun p => (ns.zip ws).lookup p) M2 Q X) X) X
  | .b1 f a, ρ, M, Q, X => wE a ρ M (fun x M1 => wB1 f x M1 Q) X
  | .b2 f a b, ρ, M, Q, X => wE a ρ M (fun x M1 => wE b ρ M1 (fun y M2 => wB2 f x y M2 Q) X) X
  | .isI a ts, ρ, M, Q, X => wE a ρ M (fun x M1 => ∃ bs, ts.mapM (fun t => isTyS M1 t x) = some bs ∧ Q (B (bs.any id)) M1) X
  | .isX a cs, ρ, M, Q, X => wE a ρ M (fun x M1 => Γ.cur = some x ∧ wIsX Γ.mro cs x M1 Q) X
  | .xval a f, ρ, M, Q, X => wE a ρ M (fun x M1 => Γ.cur = some x ∧ wXval f x M1 Q) X
  | .get d k x, ρ, M, Q, X => wE d ρ M (fun dd M1 => wE k ρ M1 (fun kk M2 => wE x ρ M2 (fun xx M3 => wGet dd kk xx M3 Q) X) X) X
  | .pop a, ρ, M, Q, X => wE a ρ M (fun x M1 => wPop x M1 Q) X
  | .popAt a b, ρ, M, Q, X => wE a ρ M (fun x M1 => isTyS M1 "list" x = some true ∧ wE b ρ M1 (fun y M2 => wPopAt x y M2 Q) X) X
  | .index a b, ρ, M, Q, X => wE a ρ M (fun x M1 => isTyS M1 "list" x = some true ∧ wE b ρ M1 (fun y M2 => ∃ xs a j, items M2 x = some (xs.map .d) ∧ y = .d a ∧ (okD a = true ∧ okD (.list xs) = true) ∧ xs.findIdx? (fun z => PyData.eqv z a) = some j ∧ Q (I (j : Nat)) M2) X) X
def wT : E → Sto → Comp Bool
  | .not a, ρ, M, Q, X => wT a ρ M (fun b M1 => Q (!b) M1) X
  | .and a b, ρ, M, Q, X => wT a ρ M (fun k M1 => if k = true then wT b ρ M1 Q X else Q false M1) X
  | .or a b, ρ, M, Q, X => wT a ρ M (fun k M1 => if k = true then Q true M1 else wT b ρ M1 Q X) X
  | e, ρ, M, Q, X => wE e ρ M (fun x M1 => ∃ k, truth M1 x = some k ∧ Q k M1) X
def wEs : Es → Sto → Comp (List S)
  | .nil, _, M, Q, _ => Q [] M
  | .cons e es, ρ, M, Q, X => wE e ρ M (fun v M1 => wEs es ρ M1 (fun vs M2 => Q (v :: vs) M2) X) X
def wO : Oe → Sto → Comp (Option Int)
  | .none, _, M, Q, _ => Q none M
  | .some e, ρ, M, Q, X => wE e ρ M (fun x M1 => ∃ i, int? x = some i ∧ Q (some i) M1) X
def wC : Oe → Sto → Comp Bool
  | .none, _, M, Q, _ => Q true M
  | .some e, ρ, M, Q, X => wT e ρ M Q X
def wF : F → Sto → Comp (List S)
  | .disp es, ρ, M, Q, X => wEs es ρ M (fun vs M1 => wDisp vs M1 Q) X
  | .comp e t it c, ρ, M, Q, X => wI it ρ M (fun r M1 => r.1.length ≤ sizeLine ∧ wLc (tgAt t (wipeS ρ (tgSlots t))) r.2 (fun ρ1 => wC c ρ1) (fun ρ1 => wE e ρ1) r.1 [] M1 Q (fun _ _ => False)) X
  | .comp2 e t it u ju c, ρ, M, Q, X => False
  | .listOf a, ρ, M, Q, X => wE a ρ M (fun x M1 => ∃ xs, items M1 x = some xs ∧ Q xs M1) X
  | .cat a b, ρ, M, Q, X => wE a ρ M (fun x M1 => wE b ρ M1 (fun y M2 => ∃ xs ys, isTyS M2 "list" x = some true ∧ isTyS M2 "list" y = some true ∧ items M2 x = some xs ∧ items M2 y = some ys ∧ xs.length + ys.length ≤ sizeLine ∧ Q (xs ++ ys) M2) X) X
  | .rep a b, ρ, M, Q, X => wE a ρ M (fun x M1 => wE b ρ M1 (fun y M2 => ∃ xs j, isTyS M2 "list" x = some true ∧ items M2 x = some xs ∧ y = I j ∧ (-(2 ^ 63) ≤ j ∧ j < 2 ^ 63 ∧ xs.length * j.toNat ≤ sizeLine) ∧ Q (List.replicate j.toNat xs).flatten M2) X) X
  | .slice a lo hi, ρ, M, Q, X => wE a ρ M (fun x M1 => wO lo ρ M1 (fun l M2 => wO hi ρ M2 (fun h M3 => ∃ xs, isTyS M3 "list" x = some true ∧ items M3 x = some xs ∧ Q (cut xs l h) M3) X) X) X
def wI : It → Sto → Comp (List Itm × (Mem → Prop))
  | .of e, ρ, M, Q, X => wE e ρ M (fun x M1 => ∃ xs, items M1 x = some xs ∧ Q (xs.map .one, okOf x xs) M1) X
  | .rng es, ρ, M, Q, X => wEs es ρ M (fun vs M1 => wRng vs M1 Q) X
  | .enum e, ρ, M, Q, X => wE e ρ M (fun x M1 => ∃ xs, isTyS M1 "list" x = some true ∧ items M1 x = some xs ∧ Q (enumItems xs, okOf x xs) M1) X
  | .zip a b, ρ, M, Q, X => wE a ρ M (fun x M1 => wE b ρ M1 (fun y M2 => ∃ xs ys, (∃ t, isTyS M2 t x = some true ∧ isTyS M2 t y = some true ∧ (t = "list" ∨ t = "tuple")) ∧ items M2 x = some xs ∧ items M2 y = some ys ∧ Q (zipItems xs ys, fun M => okOf x xs M ∧ okOf y ys M) M2) X) X
  | .rev e, ρ, M, Q, X => wE e ρ M (fun x M1 => ∃ xs, items M1 x = some xs ∧ Q (xs.reverse.map .one, okOf x xs) M1) X
end

/-! ### statements -/
def wFor (tg : Itm → Sto → (Sto → Prop) → Prop) (ok : Mem → Prop) (body : Sto → Mem → Outs → Prop) : List Itm → Sto → Mem → Outs → Prop
  | [], ρ, M, O => ok M ∧ O.nx ρ M
  | x :: xs, ρ, M, O => ok M ∧ tg x ρ fun ρ1 => body ρ1 M { O with nx := fun ρ2 M2 => wFor tg ok body xs ρ2 M2 O, ct := fun ρ2 M2 => wFor tg ok body xs ρ2 M2 O, bk := O.nx }
def wWhl (c : Sto → Comp Bool) (body : Sto → Mem → Outs → Prop) : Nat → Sto → Mem → Outs → Prop
  | 0, _, _, _ => False
  | n + 1, ρ, M, O => c ρ M (fun b M1 => if b = true then body ρ M1 { O with nx := fun ρ2 M2 => wWhl c body n ρ2 M2 O, ct := fun ρ2 M2 => wWhl c body n ρ2 M2 O, bk := O.nx } else O.nx ρ M1) (fun x M1 => O.ex x ρ M1)
def wPut (x y v : S) (M : Mem) (Q : Mem → Prop) : Prop :=
  match x, y with
  | .l k, .d (.int i) => ∃ xs j, M[k]? = some (.lst xs) ∧ ixN xs.length i = some j ∧ Q (M.set k (.lst (xs.set j v)))
  | _, _ => False
/-- a op= b of ints -/
def wAug (o : Operator) (x y : S) (Q : S → Prop) : Prop :=
  match o, x, y with
  | .Add, .d (.int i), .d (.int j) => Q (I (i + j))
  | .Sub, .d (.int i), .d (.int j) => Q (I (i - j))
  | .Mult, .d (.int i), .d (.int j) => MulOk i j ∧ Q (I (i * j))
  | _, _, _ => False
mutual
def wS : Env → St → Sto → Mem → Outs → Prop
  | Γ, .asg t e, ρ, M, O => wE Γ e ρ M (fun v M1 => wTg t (.one v) ρ fun ρ1 => O.nx ρ1 M1) (fun x M1 => O.ex x ρ M1)
  | Γ, .setIx a b e, ρ, M, O => wE Γ e ρ M (fun v M1 => wE Γ a ρ M1 (fun x M2 => wE Γ b ρ M2 (fun y M3 => wPut x y v M3 fun M4 => O.nx ρ M4) (fun x M1 => O.ex x ρ M1)) (fun x M1 => O.ex x ρ M1)) (fun x M1 => O.ex x ρ M1)
  | Γ, .par i j a b, ρ, M, O => wE Γ a ρ M (fun v M1 => wE Γ b ρ M1 (fun w M2 => O.nx ((ρ.set i (some v)).set j (some w)) M2) (fun x M1 => O.ex x ρ M1)) (fun x M1 => O.ex x ρ M1)
  | Γ, .aug i o e, ρ, M, O => ∃ v, ρ[i]? = some (some v) ∧ wE Γ e ρ M (fun w M1 => wAug o v w fun r => O.nx (ρ.set i (some r)) M1) (fun x M1 => O.ex x ρ M1)
  | Γ, .augIx a b o e, ρ, M, O => wE Γ a ρ M (fun x M1 => wE Γ b ρ M1 (fun y M2 => wIx x y M2 fun v M3 => wE Γ e ρ M3 (fun w M4 => wAug o v w fun r => wPut x y r M4 fun M5 => O.nx ρ M5) (fun x M1 => O.ex x ρ M1)) (fun x M1 => O.ex x ρ M1)) (fun x M1 => O.ex x ρ M1)
  | Γ, .expr e, ρ, M, O => wE Γ e ρ M (fun _ M1 => O.nx ρ M1) (fun x M1 => O.ex x ρ M1)
  | Γ, .app a e, ρ, M, O => wE Γ a ρ M (fun x M1 => isTyS M1 "list" x = some true ∧ wE Γ e ρ M1 (fun v M2 => ∃ k xs, x = .l k ∧ M2[k]? = some (.lst xs) ∧ xs.length < sizeLine ∧ O.nx ρ (M2.set k (.lst (xs ++ [v])))) (fun x M1 => O.ex x ρ M1)) (fun x M1 => O.ex x ρ M1)
  | Γ, .ext a e, ρ, M, O => wE Γ a ρ M (fun x M1 => isTyS M1 "list" x = some true ∧ wE Γ e ρ M1 (fun v M2 => ∃ k xs ys, x = .l k ∧ M2[k]? = some (.lst xs) ∧ items M2 v = some ys ∧ isTyS M2 "list" v = some true ∧ xs.length + ys.length ≤ sizeLine ∧ O.nx ρ (M2.set k (.lst (xs ++ ys)))) (fun x M1 => O.ex x ρ M1)) (fun x M1 => O.ex x ρ M1)
  | Γ, .ins a b e, ρ, M, O => wE Γ a ρ M (fun x M1 => isTyS M1 "list" x = some true ∧ wE Γ b ρ M1 (fun y M2 => wE Γ e ρ M2 (fun v M3 => ∃ k xs j, x = .l k ∧ y = I (j : Nat) ∧ M3[k]? = some (.lst xs) ∧ j ≤ xs.length ∧ xs.length < sizeLine ∧ O.nx ρ (M3.set k (.lst (xs.take j ++ v :: xs.drop j)))) (fun x M1 => O.ex x ρ M1)) (fun x M1 => O.ex x ρ M1)) (fun x M1 => O.ex x ρ M1)
  | Γ, .ret e, ρ, M, O => wE Γ e ρ M (fun v M1 => O.rt v M1) (fun x M1 => O.ex x ρ M1)
  | _, .retN, _, M, O => O.rt N0 M
  | Γ, .cond c a b, ρ, M, O => wT Γ c ρ M (fun k M1 => if k = true then wSs Γ a ρ M1 O else wSs Γ b ρ M1 O) (fun x M1 => O.ex x ρ M1)
  | Γ, .loop t it b, ρ, M, O => wI Γ it ρ M (fun r M1 => wFor (wTg t) r.2 (fun ρ1 M2 O1 => wSs Γ b ρ1 M2 O1) r.1 ρ M1 O) (fun x M1 => O.ex x ρ M1)
  | Γ, .whl c b, ρ, M, O => ∃ n, wWhl (fun ρ1 => wT Γ c ρ1) (fun ρ1 M2 O1 => wSs Γ b ρ1 M2 O1) n ρ M O
  | Γ, .raise c e, ρ, M, O => wE Γ e ρ M (fun v M1 => O.ex ⟨c, (if c = "Undefined" then "what" else "value"), v⟩ ρ M1) (fun x M1 => O.ex x ρ M1)
  | Γ, .tryX b hs, ρ, M, O => wSs Γ b ρ M { O with ex := fun x ρ1 M1 => wHs Γ hs x ρ1 M1 O }
  | _, .pass, ρ, M, O => O.nx ρ M
  | _, .brk, ρ, M, O => O.bk ρ M
  | _, .cont, ρ, M, O => O.ct ρ M
def wSs : Env → Ss → Sto → Mem → Outs → Prop
  | _, .nil, ρ, M, O => O.nx ρ M
  | Γ, .cons s ss, ρ, M, O => wS Γ s ρ M { O with nx := fun ρ1 M1 => wSs Γ ss ρ1 M1 O }
def wHs : Env → Hs → Xc → Sto → Mem → Outs → Prop
  | _, .nil, x, ρ, M, O => O.ex x ρ M
  | Γ, .cons c i b hs, x, ρ, M, O => ∃ l, Γ.mro x.cls = some l ∧ if l.contains c = true then
      ∀ a dd, wSs { Γ with cur := some (.e a dd x.cls x.fld x.val) } b (ρ.set i (some (.e a dd x.cls x.fld x.val))) M { nx := fun ρ1 M1 => O.nx (ρ1.set i none) M1, rt := O.rt, bk := fun ρ1 M1 => O.bk (ρ1.set i none) M1, ct := fun ρ1 M1 => O.ct (ρ1.set i none) M1, ex := fun _ _ _ => False }
    else wHs Γ hs x ρ M O
end
end G

/-! Layer G, part 1: the weakest preconditions are monotone. -/
namespace G
open PySem L2

def Mono {α : Type} (c : Comp α) : Prop := ∀ M Q Q' X X', (∀ a M, Q a M → Q' a M) → (∀ x M, X x M → X' x M) → c M Q X → c M Q' X'
structure Env.Mo (Γ : Env) : Prop where
  mo : ∀ f φ, Γ.Φ f = some φ → ∀ vs, Mono (φ vs)

section
variable {x y v : S} {M : Mem} {Q Q' : S → Mem → Prop} (hq : ∀ a M, Q a M → Q' a M)
include hq
theorem wBin_mo {o : Operator} (h : wBin o x y M Q) : wBin o x y M Q' := by
  unfold wBin at h ⊢
  split at h <;> first | exact hq _ _ h | exact ⟨h.1, hq _ _ h.2⟩ | exact h.elim
theorem wOrd_mo {f g} (h : wOrd f g x y M Q) : wOrd f g x y M Q' := by
  unfold wOrd at h ⊢
  split at h <;> first | exact hq _ _ h | exact ⟨h.1, hq _ _ h.2⟩ | exact h.elim
theorem wEq_mo {a b f} (h : wEq a b f M Q) : wEq a b f M Q' := ⟨h.1, h.2.1, hq _ _ h.2.2⟩
theorem wIn_mo {f} (h : wIn x y f M Q) : wIn x y f M Q' := by
  unfold wIn at h ⊢
  split at h <;> first | exact hq _ _ h | exact ⟨h.1, hq _ _ h.2⟩ | exact h.elim
theorem wCmp_mo {o : CmpOp} (h : wCmp o x y M Q) : wCmp o x y M Q' := by
  unfold wCmp at h ⊢
  cases o <;> dsimp only at h ⊢ <;> first
    | exact wOrd_mo hq h
    | (split at h <;> first | exact wEq_mo hq h | exact wIn_mo hq h | exact hq _ _ h | exact h.elim)
theorem wIx_mo (h : wIx x y M Q) : wIx x y M Q' := by
  unfold wIx at h ⊢
  split at h <;> first
    | (obtain ⟨v, h1, h2⟩ := h; exact ⟨v, h1, hq _ _ h2⟩)
    | (obtain ⟨v, u, h1, h2, h3⟩ := h; exact ⟨v, u, h1, h2, hq _ _ h3⟩)
    | exact h.elim
theorem wSl_mo {lo hi} (h : wSl x lo hi M Q) : wSl x lo hi M Q' := by
  unfold wSl at h ⊢
  split at h <;> first
    | exact hq _ _ h
    | (obtain ⟨v, h1, h2⟩ := h; exact ⟨v, h1, hq _ _ h2⟩)
    | exact h.elim
theorem wB1_mo {f : B1} (h : wB1 f x M Q) : wB1 f x M Q' := by
  unfold wB1 at h ⊢
  cases f <;> dsimp only at h ⊢ <;> first
    | exact h.elim
    | (obtain ⟨v, vs, h1, h2, h3⟩ := h; exact ⟨v, vs, h1, h2, hq _ _ h3⟩)
    | (obtain ⟨v, h1, h2, h3⟩ := h; exact ⟨v, h1, h2, hq _ _ h3⟩)
    | (obtain ⟨v, h1, h2⟩ := h; exact ⟨v, h1, hq _ _ h2⟩)
    | (split at h <;> first
        | exact hq _ _ h
        | exact ⟨h.1, hq _ _ h.2⟩
        | (obtain ⟨v, h1, h2⟩ := h; exact ⟨v, h1, hq _ _ h2⟩)
        | exact h.elim)
theorem wRev_mo (h : wRev x M Q) : wRev x M Q' := by
  unfold wRev at h ⊢
  split at h <;> first
    | exact hq _ _ h
    | (obtain ⟨v, h1, h2⟩ := h; exact ⟨v, h1, hq _ _ h2⟩)
    | exact h.elim
theorem wGet_mo (h : wGet x y v M Q) : wGet x y v M Q' := by
  unfold wGet at h ⊢
  split at h
  · obtain ⟨kvs, h1, h2⟩ := h; exact ⟨kvs, h1, hq _ _ h2⟩
  · exact h.elim
theorem wPop_mo (h : wPop x M Q) : wPop x M Q' := by
  unfold wPop at h ⊢
  split at h
  · obtain ⟨xs, v, h1, h2, h3⟩ := h; exact ⟨xs, v, h1, h2, hq _ _ h3⟩
  · exact h.elim
theorem wPopAt_mo (h : wPopAt x y M Q) : wPopAt x y M Q' := by
  unfold wPopAt at h ⊢
  split at h
  · obtain ⟨xs, j, v, h1, h2, h3, h4, h5⟩ := h; exact ⟨xs, j, v, h1, h2, h3, h4, hq _ _ h5⟩
  · exact h.elim
theorem wIsX_mo {mro : Str → Option (List Str)} {cs : List Str} (h : wIsX mro cs x M Q) : wIsX mro cs x M Q' := by
  unfold wIsX at h ⊢
  split at h
  · obtain ⟨l, h1, h2⟩ := h; exact ⟨l, h1, hq _ _ h2⟩
  · exact h.elim
theorem wXval_mo {f : Str} (h : wXval f x M Q) : wXval f x M Q' := by
  unfold wXval at h ⊢
  split at h
  · exact ⟨h.1, hq _ _ h.2⟩
  · exact h.elim
theorem wB2_mo {f : B2} (h : wB2 f x y M Q) : wB2 f x y M Q' := by
  unfold wB2 at h ⊢
  split at h <;> first | exact hq _ _ h | exact h.elim
end
theorem wRng_mo {vs : List S} {M : Mem} {Q Q' : List Itm × (Mem → Prop) → Mem → Prop} (hq : ∀ a M, Q a M → Q' a M) (h : wRng vs M Q) : wRng vs M Q' := by
  unfold wRng at h ⊢
  split at h <;> first | exact ⟨h.1, hq _ _ h.2⟩ | exact h.elim
mutual
theorem wTg_mo : ∀ (t : Tg) (x : Itm) (ρ : Sto) (Q Q' : Sto → Prop), (∀ ρ, Q ρ → Q' ρ) → wTg t x ρ Q → wTg t x ρ Q'
  | .nm i, .one s, ρ, Q, Q', hq, h => by simp only [wTg] at h ⊢; exact hq _ h
  | .nm i, .many ss, ρ, Q, Q', hq, h => by
    simp only [wTg] at h ⊢
    obtain ⟨xs, h1, h2⟩ := h
    exact ⟨xs, h1, hq _ h2⟩
  | .tp ts, .one (.d (.tuple xs)), ρ, Q, Q', hq, h => by simp only [wTg] at h ⊢; exact ⟨h.1, wTgs_mo ts _ ρ Q Q' hq h.2⟩
  | .tp ts, .one (.d (.list xs)), ρ, Q, Q', hq, h => by simp only [wTg] at h
  | .tp ts, .many ss, ρ, Q, Q', hq, h => by simp only [wTg] at h ⊢; exact ⟨h.1, wTgs_mo ts _ ρ Q Q' hq h.2⟩
  | .tp ts, .one (.l k), ρ, Q, Q', hq, h => by simp only [wTg] at h
  | .tp ts, .one (.d .none), ρ, Q, Q', hq, h => by simp only [wTg] at h
  | .tp ts, .one (.d (.bool _)), ρ, Q, Q', hq, h => by simp only [wTg] at h
  | .tp ts, .one (.d (.int _)), ρ, Q, Q', hq, h => by simp only [wTg] at h
  | .tp ts, .one (.d (.str _)), ρ, Q, Q', hq, h => by simp only [wTg] at h
  | .tp ts, .one (.d (.dict _)), ρ, Q, Q', hq, h => by simp only [wTg] at h
theorem wTgs_mo : ∀ (ts : List Tg) (ss : List S) (ρ : Sto) (Q Q' : Sto → Prop), (∀ ρ, Q ρ → Q' ρ) → wTgs ts ss ρ Q → wTgs ts ss ρ Q'
  | [], [], ρ, Q, Q', hq, h => by simp only [wTgs] at h ⊢; exact hq _ h
  | t :: ts, s :: ss, ρ, Q, Q', hq, h => by
    simp only [wTgs] at h ⊢
    exact wTg_mo t _ ρ _ _ (fun ρ1 h1 => wTgs_mo ts ss ρ1 Q Q' hq h1) h
  | [], s :: ss, ρ, Q, Q', hq, h => by simp only [wTgs] at h
  | t :: ts, [], ρ, Q, Q', hq, h => by simp only [wTgs] at h
end
theorem wLc_mo {tg : Itm → (Sto → Prop) → Prop} {ok : Mem → Prop} {cond : Sto → Comp Bool} {e : Sto → Comp S} (ht : ∀ x Q Q', (∀ ρ, Q ρ → Q' ρ) → tg x Q → tg x Q') (hc : ∀ ρ, Mono (cond ρ)) (he : ∀ ρ, Mono (e ρ)) :
    ∀ (xs : List Itm) (acc : List S), Mono (wLc tg ok cond e xs acc) := by
  intro xs
  induction xs with
  | nil =>
    intro acc M Q Q' X X' hq hx h
    simp only [wLc] at h ⊢
    exact ⟨h.1, hq _ _ h.2⟩
  | cons x xs ih =>
    intro acc M Q Q' X X' hq hx h
    simp only [wLc] at h ⊢
    refine ⟨h.1, ht _ _ _ (fun ρ h => ?_) h.2⟩
    refine hc ρ _ _ _ _ _ (fun b M1 h1 => ?_) hx h
    split
    · rename_i hb
      rw [if_pos hb] at h1
      exact he ρ _ _ _ _ _ (fun v M2 h2 => ih _ _ _ _ _ _ hq hx h2) hx h1
    · rename_i hb
      rw [if_neg hb] at h1
      exact ih _ _ _ _ _ _ hq hx h1

section
variable {Γ : Env} (hΓ : Γ.Mo)
include hΓ
mutual
theorem mE : ∀ (e : E) (ρ : Sto), Mono (wE Γ e ρ)
  | .var i, ρ => fun M Q Q' X X' hq hx h => by
    simp only [wE] at h ⊢
    obtain ⟨v, h1, h2⟩ := h
    exact ⟨v, h1, hq _ _ h2⟩
  | .cst c, ρ => fun M Q Q' X X' hq hx h => by simp only [wE] at h ⊢; exact hq _ _ h
  | .neg a, ρ => fun M Q Q' X X' hq hx h => by
    simp only [wE] at h ⊢
    exact mE a ρ _ _ _ _ _ (fun x M1 ⟨i, h1, h2⟩ => ⟨i, h1, hq _ _ h2⟩) hx h
  | .not a, ρ => fun M Q Q' X X' hq hx h => by
    simp only [wE] at h ⊢
    exact mE a ρ _ _ _ _ _ (fun x M1 ⟨k, h1, h2⟩ => ⟨k, h1, hq _ _ h2⟩) hx h
  | .and a b, ρ => fun M Q Q' X X' hq hx h => by
    simp only [wE] at h ⊢
    refine mE a ρ _ _ _ _ _ (fun x M1 ⟨k, h1, h2⟩ => ⟨k, h1, ?_⟩) hx h
    split
    · rename_i hk; rw [if_pos hk] at h2; exact mE b ρ _ _ _ _ _ hq hx h2
    · rename_i hk; rw [if_neg hk] at h2; exact hq _ _ h2
  | .or a b, ρ => fun M Q Q' X X' hq hx h => by
    simp only [wE] at h ⊢
    refine mE a ρ _ _ _ _ _ (fun x M1 ⟨k, h1, h2⟩ => ⟨k, h1, ?_⟩) hx h
    split
    · rename_i hk; rw [if_pos hk] at h2; exact hq _ _ h2
    · rename_i hk; rw [if_neg hk] at h2; exact mE b ρ _ _ _ _ _ hq hx h2
  | .ite c a b, ρ => fun M Q Q' X X' hq hx h => by
    simp only [wE] at h ⊢
    refine mT c ρ _ _ _ _ _ (fun x M1 h2 => ?_) hx h
    split
    · rename_i hk; rw [if_pos hk] at h2; exact mE a ρ _ _ _ _ _ hq hx h2
    · rename_i hk; rw [if_neg hk] at h2; exact mE b ρ _ _ _ _ _ hq hx h2
  | .bin o a b, ρ => fun M Q Q' X X' hq hx h => by
    simp only [wE] at h ⊢
    exact mE a ρ _ _ _ _ _ (fun x M1 h1 => mE b ρ _ _ _ _ _ (fun y M2 h2 => wBin_mo hq h2) hx h1) hx h
  | .cmp o a b, ρ => fun M Q Q' X X' hq hx h => by
    simp only [wE] at h ⊢
    exact mE a ρ _ _ _ _ _ (fun x M1 h1 => mE b ρ _ _ _ _ _ (fun y M2 h2 => wCmp_mo hq h2) hx h1) hx h
  | .chain o p a b c, ρ => fun M Q Q' X X' hq hx h => by
    simp only [wE] at h ⊢
    refine mE a ρ _ _ _ _ _ (fun x M1 h1 => mE b ρ _ _ _ _ _ (fun y M2 h2 => wCmp_mo (fun r M3 ⟨k, e, h3⟩ => ⟨k, e, ?_⟩) h2) hx h1) hx h
    split
    · rename_i hk; rw [if_pos hk] at h3; exact mE c ρ _ _ _ _ _ (fun z M4 h4 => wCmp_mo hq h4) hx h3
    · rename_i hk; rw [if_neg hk] at h3; exact hq _ _ h3
  | .tup es, ρ => fun M Q Q' X X' hq hx h => by
    simp only [wE] at h ⊢
    exact mEs es ρ _ _ _ _ _ (fun vs M1 ⟨xs, h1, h2, h3⟩ => ⟨xs, h1, h2, hq _ _ h3⟩) hx h
  | .fr f, ρ => fun M Q Q' X X' hq hx h => by
    simp only [wE] at h ⊢
    exact mF f ρ _ _ _ _ _ (fun vs M1 ⟨xs, h1, h2⟩ => ⟨xs, h1, hq _ _ h2⟩) hx h
  | .al f, ρ => fun M Q Q' X X' hq hx h => by
    simp only [wE] at h ⊢
    exact mF f ρ _ _ _ _ _ (fun vs M1 h1 => hq _ _ h1) hx h
  | .ddisp ks es, ρ => fun M Q Q' X X' hq hx h => by
    simp only [wE] at h ⊢
    exact mEs es ρ _ _ _ _ _ (fun vs M1 h1 => hq _ _ h1) hx h
  | .ix a b, ρ => fun M Q Q' X X' hq hx h => by
    simp only [wE] at h ⊢
    exact mE a ρ _ _ _ _ _ (fun x M1 h1 => mE b ρ _ _ _ _ _ (fun y M2 h2 => wIx_mo hq h2) hx h1) hx h
  | .sl a lo hi, ρ => fun M Q Q' X X' hq hx h => by
    simp only [wE] at h ⊢
    exact mE a ρ _ _ _ _ _ (fun x M1 h1 => mO lo ρ _ _ _ _ _ (fun y M2 h2 => mO hi ρ _ _ _ _ _ (fun z M3 h3 => wSl_mo hq h3) hx h2) hx h1) hx h
  | .rev a, ρ => fun M Q Q' X X' hq hx h => by
    simp only [wE] at h ⊢
    exact mE a ρ _ _ _ _ _ (fun x M1 h1 => wRev_mo hq h1) hx h
  | .call f es, ρ => fun M Q Q' X X' hq hx h => by
    simp only [wE] at h ⊢
    exact mEs es ρ _ _ _ _ _ (fun vs M1 ⟨φ, h1, h2⟩ => ⟨φ, h1, hΓ.mo f φ h1 _ _ _ _ _ _ hq hx h2⟩) hx h
  | .callK f es ns ks, ρ => fun M Q Q' X X' hq hx h => by
    simp only [wE] at h ⊢
    exact mEs es ρ _ _ _ _ _ (fun vs M1 h1 => mEs ks ρ _ _ _ _ _ (fun ws M2 ⟨φ, h1, h2⟩ => ⟨φ, h1, hΓ.mo f φ h1 _ _ _ _ _ _ hq hx h2⟩) hx h1) hx h
  | .b1 f a, ρ => fun M Q Q' X X' hq hx h => by
    simp only [wE] at h ⊢
    exact mE a ρ _ _ _ _ _ (fun x M1 h1 => wB1_mo hq h1) hx h
  | .b2 f a b, ρ => fun M Q Q' X X' hq hx h => by
    simp only [wE] at h ⊢
    exact mE a ρ _ _ _ _ _ (fun x M1 h1 => mE b ρ _ _ _ _ _ (fun y M2 h2 => wB2_mo hq h2) hx h1) hx h
  | .isI a ts, ρ => fun M Q Q' X X' hq hx h => by
    simp only [wE] at h ⊢
    exact mE a ρ _ _ _ _ _ (fun x M1 ⟨bs, h1, h2⟩ => ⟨bs, h1, hq _ _ h2⟩) hx h
  | .isX a cs, ρ => fun M Q Q' X X' hq hx h => by
    simp only [wE] at h ⊢
    exact mE a ρ _ _ _ _ _ (fun x M1 ⟨h1, h2⟩ => ⟨h1, wIsX_mo hq h2⟩) hx h
  | .xval a f, ρ => fun M Q Q' X X' hq hx h => by
    simp only [wE] at h ⊢
    exact mE a ρ _ _ _ _ _ (fun x M1 ⟨h1, h2⟩ => ⟨h1, wXval_mo hq h2⟩) hx h
  | .get d k x, ρ => fun M Q Q' X X' hq hx h => by
    simp only [wE] at h ⊢
    exact mE d ρ _ _ _ _ _ (fun dd M1 h1 => mE k ρ _ _ _ _ _ (fun kk M2 h2 => mE x ρ _ _ _ _ _ (fun xx M3 h3 => wGet_mo hq h3) hx h2) hx h1) hx h
  | .pop a, ρ => fun M Q Q' X X' hq hx h => by
    simp only [wE] at h ⊢
    exact mE a ρ _ _ _ _ _ (fun x M1 h1 => wPop_mo hq h1) hx h
  | .popAt a b, ρ => fun M Q Q' X X' hq hx h => by
    simp only [wE] at h ⊢
    exact mE a ρ _ _ _ _ _ (fun x M1 ⟨h0, h1⟩ => ⟨h0, mE b ρ _ _ _ _ _ (fun y M2 h2 => wPopAt_mo hq h2) hx h1⟩) hx h
  | .index a b, ρ => fun M Q Q' X X' hq hx h => by
    simp only [wE] at h ⊢
    exact mE a ρ _ _ _ _ _ (fun x M1 ⟨h0, h1⟩ => ⟨h0, mE b ρ _ _ _ _ _ (fun y M2 ⟨xs, a, j, h1, h2, h3, h4, h5⟩ => ⟨xs, a, j, h1, h2, h3, h4, hq _ _ h5⟩) hx h1⟩) hx h
theorem mT : ∀ (e : E) (ρ : Sto), Mono (wT Γ e ρ)
  | .not a, ρ => fun M Q Q' X X' hq hx h => by
    simp only [wT] at h ⊢
    exact mT a ρ _ _ _ _ _ (fun x M1 h1 => hq _ _ h1) hx h
  | .and a b, ρ => fun M Q Q' X X' hq hx h => by
    simp only [wT] at h ⊢
    refine mT a ρ _ _ _ _ _ (fun x M1 h2 => ?_) hx h
    split
    · rename_i hk; rw [if_pos hk] at h2; exact mT b ρ _ _ _ _ _ hq hx h2
    · rename_i hk; rw [if_neg hk] at h2; exact hq _ _ h2
  | .or a b, ρ => fun M Q Q' X X' hq hx h => by
    simp only [wT] at h ⊢
    refine mT a ρ _ _ _ _ _ (fun x M1 h2 => ?_) hx h
    split
    · rename_i hk; rw [if_pos hk] at h2; exact hq _ _ h2
    · rename_i hk; rw [if_neg hk] at h2; exact mT b ρ _ _ _ _ _ hq hx h2
  | .var i, ρ => fun M Q Q' X X' hq hx h => by
    simp only [wT] at h ⊢
    exact mE _ ρ _ _ _ _ _ (fun x M1 ⟨k, h1, h2⟩ => ⟨k, h1, hq _ _ h2⟩) hx h
  | .cst c, ρ => fun M Q Q' X X' hq hx h => by simp only [wT] at h ⊢; exact mE _ ρ _ _ _ _ _ (fun x M1 ⟨k, h1, h2⟩ => ⟨k, h1, hq _ _ h2⟩) hx h
  | .neg a, ρ => fun M Q Q' X X' hq hx h => by simp only [wT] at h ⊢; exact mE _ ρ _ _ _ _ _ (fun x M1 ⟨k, h1, h2⟩ => ⟨k, h1, hq _ _ h2⟩) hx h
  | .ite c a b, ρ => fun M Q Q' X X' hq hx h => by simp only [wT] at h ⊢; exact mE _ ρ _ _ _ _ _ (fun x M1 ⟨k, h1, h2⟩ => ⟨k, h1, hq _ _ h2⟩) hx h
  | .bin o a b, ρ => fun M Q Q' X X' hq hx h => by simp only [wT] at h ⊢; exact mE _ ρ _ _ _ _ _ (fun x M1 ⟨k, h1, h2⟩ => ⟨k, h1, hq _ _ h2⟩) hx h
  | .cmp o a b, ρ => fun M Q Q' X X' hq hx h => by simp only [wT] at h ⊢; exact mE _ ρ _ _ _ _ _ (fun x M1 ⟨k, h1, h2⟩ => ⟨k, h1, hq _ _ h2⟩) hx h
  | .chain o p a b c, ρ => fun M Q Q' X X' hq hx h => by simp only [wT] at h ⊢; exact mE _ ρ _ _ _ _ _ (fun x M1 ⟨k, h1, h2⟩ => ⟨k, h1, hq _ _ h2⟩) hx h
  | .tup es, ρ => fun M Q Q' X X' hq hx h => by simp only [wT] at h ⊢; exact mE _ ρ _ _ _ _ _ (fun x M1 ⟨k, h1, h2⟩ => ⟨k, h1, hq _ _ h2⟩) hx h
  | .fr f, ρ => fun M Q Q' X X' hq hx h => by simp only [wT] at h ⊢; exact mE _ ρ _ _ _ _ _ (fun x M1 ⟨k, h1, h2⟩ => ⟨k, h1, hq _ _ h2⟩) hx h
  | .al f, ρ => fun M Q Q' X X' hq hx h => by simp only [wT] at h ⊢; exact mE _ ρ _ _ _ _ _ (fun x M1 ⟨k, h1, h2⟩ => ⟨k, h1, hq _ _ h2⟩) hx h
  | .ddisp ks es, ρ => fun M Q Q' X X' hq hx h => by simp only [wT] at h ⊢; exact mE _ ρ _ _ _ _ _ (fun x M1 ⟨k, h1, h2⟩ => ⟨k, h1, hq _ _ h2⟩) hx h
  | .ix a b, ρ => fun M Q Q' X X' hq hx h => by simp only [wT] at h ⊢; exact mE _ ρ _ _ _ _ _ (fun x M1 ⟨k, h1, h2⟩ => ⟨k, h1, hq _ _ h2⟩) hx h
  | .sl a lo hi, ρ => fun M Q Q' X X' hq hx h => by simp only [wT] at h ⊢; exact mE _ ρ _ _ _ _ _ (fun x M1 ⟨k, h1, h2⟩ => ⟨k, h1, hq _ _ h2⟩) hx h
  | .rev a, ρ => fun M Q Q' X X' hq hx h => by simp only [wT] at h ⊢; exact mE _ ρ _ _ _ _ _ (fun x M1 ⟨k, h1, h2⟩ => ⟨k, h1, hq _ _ h2⟩) hx h
  | .call f es, ρ => fun M Q Q' X X' hq hx h => by simp only [wT] at h ⊢; exact mE _ ρ _ _ _ _ _ (fun x M1 ⟨k, h1, h2⟩ => ⟨k, h1, hq _ _ h2⟩) hx h
  | .callK f es ns ks, ρ => fun M Q Q' X X' hq hx h => by simp only [wT] at h ⊢; exact mE _ ρ _ _ _ _ _ (fun x M1 ⟨k, h1, h2⟩ => ⟨k, h1, hq _ _ h2⟩) hx h
  | .b1 f a, ρ => fun M Q Q' X X' hq hx h => by simp only [wT] at h ⊢; exact mE _ ρ _ _ _ _ _ (fun x M1 ⟨k, h1, h2⟩ => ⟨k, h1, hq _ _ h2⟩) hx h
  | .b2 f a b, ρ => fun M Q Q' X X' hq hx h => by simp only [wT] at h ⊢; exact mE _ ρ _ _ _ _ _ (fun x M1 ⟨k, h1, h2⟩ => ⟨k, h1, hq _ _ h2⟩) hx h
  | .isI a ts, ρ => fun M Q Q' X X' hq hx h => by simp only [wT] at h ⊢; exact mE _ ρ _ _ _ _ _ (fun x M1 ⟨k, h1, h2⟩ => ⟨k, h1, hq _ _ h2⟩) hx h
  | .isX a cs, ρ => fun M Q Q' X X' hq hx h => by simp only [wT] at h ⊢; exact mE _ ρ _ _ _ _ _ (fun x M1 ⟨k, h1, h2⟩ => ⟨k, h1, hq _ _ h2⟩) hx h
  | .xval a f, ρ => fun M Q Q' X X' hq hx h => by simp only [wT] at h ⊢; exact mE _ ρ _ _ _ _ _ (fun x M1 ⟨k, h1, h2⟩ => ⟨k, h1, hq _ _ h2⟩) hx h
  | .get d k x, ρ => fun M Q Q' X X' hq hx h => by simp only [wT] at h ⊢; exact mE _ ρ _ _ _ _ _ (fun x M1 ⟨k, h1, h2⟩ => ⟨k, h1, hq _ _ h2⟩) hx h
  | .pop a, ρ => fun M Q Q' X X' hq hx h => by simp only [wT] at h ⊢; exact mE _ ρ _ _ _ _ _ (fun x M1 ⟨k, h1, h2⟩ => ⟨k, h1, hq _ _ h2⟩) hx h
  | .popAt a b, ρ => fun M Q Q' X X' hq hx h => by simp only [wT] at h ⊢; exact mE _ ρ _ _ _ _ _ (fun x M1 ⟨k, h1, h2⟩ => ⟨k, h1, hq _ _ h2⟩) hx h
  | .index a b, ρ => fun M Q Q' X X' hq hx h => by simp only [wT] at h ⊢; exact mE _ ρ _ _ _ _ _ (fun x M1 ⟨k, h1, h2⟩ => ⟨k, h1, hq _ _ h2⟩) hx h
theorem mEs : ∀ (es : Es) (ρ : Sto), Mono (wEs Γ es ρ)
  | .nil, ρ => fun M Q Q' X X' hq hx h => by simp only [wEs] at h ⊢; exact hq _ _ h
  | .cons e es, ρ => fun M Q Q' X X' hq hx h => by
    simp only [wEs] at h ⊢
    exact mE e ρ _ _ _ _ _ (fun v M1 h1 => mEs es ρ _ _ _ _ _ (fun vs M2 h2 => hq _ _ h2) hx h1) hx h
theorem mO : ∀ (o : Oe) (ρ : Sto), Mono (wO Γ o ρ)
  | .none, ρ => fun M Q Q' X X' hq hx h => by simp only [wO] at h ⊢; exact hq _ _ h
  | .some e, ρ => fun M Q Q' X X' hq hx h => by
    simp only [wO] at h ⊢
    exact mE e ρ _ _ _ _ _ (fun x M1 ⟨i, h1, h2⟩ => ⟨i, h1, hq _ _ h2⟩) hx h
theorem mC : ∀ (o : Oe) (ρ : Sto), Mono (wC Γ o ρ)
  | .none, ρ => fun M Q Q' X X' hq hx h => by simp only [wC] at h ⊢; exact hq _ _ h
  | .some e, ρ => fun M Q Q' X X' hq hx h => by
    simp only [wC] at h ⊢
    exact mT e ρ _ _ _ _ _ hq hx h
theorem mF : ∀ (f : F) (ρ : Sto), Mono (wF Γ f ρ)
  | .disp es, ρ => fun M Q Q' X X' hq hx h => by
    simp only [wF, wDisp] at h ⊢
    exact mEs es ρ _ _ _ _ _ (fun v M1 h1 => ⟨h1.1, hq _ _ h1.2⟩) hx h
  | .comp e t it c, ρ => fun M Q Q' X X' hq hx h => by
    simp only [wF] at h ⊢
    exact mI it ρ _ _ _ _ _ (fun r M1 ⟨h1, h2⟩ => ⟨h1, wLc_mo (tg := tgAt t (wipeS ρ (tgSlots t))) (fun x Q Q' => wTg_mo t x _ Q Q') (mC c) (mE e) r.1 [] _ _ _ _ _ hq (fun _ _ z => z) h2⟩) hx h
  | .comp2 e t it u ju c, ρ => fun M Q Q' X X' hq hx h => by simp only [wF] at h
  | .listOf a, ρ => fun M Q Q' X X' hq hx h => by
    simp only [wF] at h ⊢
    exact mE a ρ _ _ _ _ _ (fun x M1 ⟨xs, h1, h2⟩ => ⟨xs, h1, hq _ _ h2⟩) hx h
  | .cat a b, ρ => fun M Q Q' X X' hq hx h => by
    simp only [wF] at h ⊢
    exact mE a ρ _ _ _ _ _ (fun x M1 h1 => mE b ρ _ _ _ _ _ (fun y M2 ⟨xs, ys, h1, h2, h3, h4, h5, h6⟩ => ⟨xs, ys, h1, h2, h3, h4, h5, hq _ _ h6⟩) hx h1) hx h
  | .rep a b, ρ => fun M Q Q' X X' hq hx h => by
    simp only [wF] at h ⊢
    exact mE a ρ _ _ _ _ _ (fun x M1 h1 => mE b ρ _ _ _ _ _ (fun y M2 ⟨xs, j, h1, h2, h3, h4, h5⟩ => ⟨xs, j, h1, h2, h3, h4, hq _ _ h5⟩) hx h1) hx h
  | .slice a lo hi, ρ => fun M Q Q' X X' hq hx h => by
    simp only [wF] at h ⊢
    exact mE a ρ _ _ _ _ _ (fun x M1 h1 => mO lo ρ _ _ _ _ _ (fun y M2 h2 => mO hi ρ _ _ _ _ _ (fun z M3 ⟨xs, h1, h2, h3⟩ => ⟨xs, h1, h2, hq _ _ h3⟩) hx h2) hx h1) hx h
theorem mI : ∀ (it : It) (ρ : Sto), Mono (wI Γ it ρ)
  | .of e, ρ => fun M Q Q' X X' hq hx h => by
    simp only [wI] at h ⊢
    exact mE e ρ _ _ _ _ _ (fun x M1 ⟨xs, h1, h2⟩ => ⟨xs, h1, hq _ _ h2⟩) hx h
  | .rng es, ρ => fun M Q Q' X X' hq hx h => by
    simp only [wI] at h ⊢
    exact mEs es ρ _ _ _ _ _ (fun vs M1 h1 => wRng_mo hq h1) hx h
  | .enum e, ρ => fun M Q Q' X X' hq hx h => by
    simp only [wI] at h ⊢
    exact mE e ρ _ _ _ _ _ (fun x M1 ⟨xs, h0, h1, h2⟩ => ⟨xs, h0, h1, hq _ _ h2⟩) hx h
  | .zip a b, ρ => fun M Q Q' X X' hq hx h => by
    simp only [wI] at h ⊢
    exact mE a ρ _ _ _ _ _ (fun x M1 h1 => mE b ρ _ _ _ _ _ (fun y M2 ⟨xs, ys, h0, h1, h2, h3⟩ => ⟨xs, ys, h0, h1, h2, hq _ _ h3⟩) hx h1) hx h
  | .rev e, ρ => fun M Q Q' X X' hq hx h => by
    simp only [wI] at h ⊢
    exact mE e ρ _ _ _ _ _ (fun x M1 ⟨xs, h1, h2⟩ => ⟨xs, h1, hq _ _ h2⟩) hx h
end
end

/-! ### statements -/
structure Outs.Le (O O' : Outs) : Prop where
  nx : ∀ ρ M, O.nx ρ M → O'.nx ρ M
  rt : ∀ v M, O.rt v M → O'.rt v M
  bk : ∀ ρ M, O.bk ρ M → O'.bk ρ M
  ct : ∀ ρ M, O.ct ρ M → O'.ct ρ M
  ex : ∀ x ρ M, O.ex x ρ M → O'.ex x ρ M
def MonoS (s : Sto → Mem → Outs → Prop) : Prop := ∀ ρ M O O', O.Le O' → s ρ M O → s ρ M O'
theorem MonoS.go {s : Sto → Mem → Outs → Prop} {ρ : Sto} {M : Mem} {O O' : Outs} (m : MonoS s) (h : s ρ M O) (l : O.Le O') : s ρ M O' := m ρ M O O' l h
theorem wFor_mo {tg : Itm → Sto → (Sto → Prop) → Prop} {ok : Mem → Prop} {body : Sto → Mem → Outs → Prop} (ht : ∀ x ρ Q Q', (∀ ρ, Q ρ → Q' ρ) → tg x ρ Q → tg x ρ Q') (hb : MonoS body) : ∀ xs, MonoS (wFor tg ok body xs) := by
  intro xs
  induction xs with
  | nil => intro ρ M O O' l h; simp only [wFor] at h ⊢; exact ⟨h.1, l.nx _ _ h.2⟩
  | cons x xs ih =>
    intro ρ M O O' l h
    simp only [wFor] at h ⊢
    refine ⟨h.1, ht _ _ _ _ (fun ρ1 h1 => ?_) h.2⟩
    exact hb.go h1 ⟨fun ρ2 M2 => ih ρ2 M2 O O' l, l.rt, l.nx, fun ρ2 M2 => ih ρ2 M2 O O' l, l.ex⟩
theorem wWhl_mo {c : Sto → Comp Bool} {body : Sto → Mem → Outs → Prop} (hc : ∀ ρ, Mono (c ρ)) (hb : MonoS body) : ∀ n, MonoS (wWhl c body n) := by
  intro n
  induction n with
  | zero => intro ρ M O O' l h; simp only [wWhl] at h
  | succ n ih =>
    intro ρ M O O' l h
    simp only [wWhl] at h ⊢
    refine hc ρ _ _ _ _ _ (fun b M1 h1 => ?_) (fun x M1 h1 => l.ex _ _ _ h1) h
    split
    · rename_i hk
      rw [if_pos hk] at h1
      exact hb.go h1 ⟨fun ρ2 M2 => ih ρ2 M2 O O' l, l.rt, l.nx, fun ρ2 M2 => ih ρ2 M2 O O' l, l.ex⟩
    · rename_i hk
      rw [if_neg hk] at h1
      exact l.nx _ _ h1
theorem wPut_mo {x y v : S} {M : Mem} {Q Q' : Mem → Prop} (hq : ∀ M, Q M → Q' M) (h : wPut x y v M Q) : wPut x y v M Q' := by
  unfold wPut at h ⊢
  split at h
  · obtain ⟨xs, j, h1, h2, h3⟩ := h; exact ⟨xs, j, h1, h2, hq _ h3⟩
  · exact h.elim
theorem wAug_mo {o : Operator} {x y : S} {Q Q' : S → Prop} (hq : ∀ v, Q v → Q' v) (h : wAug o x y Q) : wAug o x y Q' := by
  unfold wAug at h ⊢
  split at h <;> first | exact hq _ h | exact ⟨h.1, hq _ h.2⟩ | exact h.elim
theorem Env.Mo.cur {Γ : Env} (h : Γ.Mo) (x : Option S) : Env.Mo { Γ with cur := x } := ⟨h.mo⟩
mutual
theorem mS : ∀ (s : St) (Γ : Env), Γ.Mo → MonoS (wS Γ s)
  | .asg t e, Γ, hΓ => fun ρ M O O' l h => by
    simp only [wS] at h ⊢
    exact mE hΓ e ρ _ _ _ _ _ (fun v M1 h1 => wTg_mo _ _ _ _ _ (fun ρ1 h2 => l.nx _ _ h2) h1) (fun x M1 h1 => l.ex _ _ _ h1) h
  | .setIx a b e, Γ, hΓ => fun ρ M O O' l h => by
    simp only [wS] at h ⊢
    exact mE hΓ e ρ _ _ _ _ _ (fun v M1 h1 => mE hΓ a ρ _ _ _ _ _ (fun x M2 h2 => mE hΓ b ρ _ _ _ _ _ (fun y M3 h3 => wPut_mo (fun M4 h4 => l.nx _ _ h4) h3) (fun x M1 h1 => l.ex _ _ _ h1) h2) (fun x M1 h1 => l.ex _ _ _ h1) h1) (fun x M1 h1 => l.ex _ _ _ h1) h
  | .par i j a b, Γ, hΓ => fun ρ M O O' l h => by
    simp only [wS] at h ⊢
    exact mE hΓ a ρ _ _ _ _ _ (fun v M1 h1 => mE hΓ b ρ _ _ _ _ _ (fun x M2 h2 => l.nx _ _ h2) (fun x M1 h1 => l.ex _ _ _ h1) h1) (fun x M1 h1 => l.ex _ _ _ h1) h
  | .aug i o e, Γ, hΓ => fun ρ M O O' l h => by
    simp only [wS] at h ⊢
    obtain ⟨v, h0, h⟩ := h
    exact ⟨v, h0, mE hΓ e ρ _ _ _ _ _ (fun v M1 h1 => wAug_mo (fun r h2 => l.nx _ _ h2) h1) (fun x M1 h1 => l.ex _ _ _ h1) h⟩
  | .augIx a b o e, Γ, hΓ => fun ρ M O O' l h => by
    simp only [wS] at h ⊢
    exact mE hΓ a ρ _ _ _ _ _ (fun x M1 h1 => mE hΓ b ρ _ _ _ _ _ (fun y M2 h2 => wIx_mo (fun v M3 h3 => mE hΓ e ρ _ _ _ _ _ (fun w M4 h4 => wAug_mo (fun r h5 => wPut_mo (fun M5 h6 => l.nx _ _ h6) h5) h4) (fun x M1 h1 => l.ex _ _ _ h1) h3) h2) (fun x M1 h1 => l.ex _ _ _ h1) h1) (fun x M1 h1 => l.ex _ _ _ h1) h
  | .expr e, Γ, hΓ => fun ρ M O O' l h => by
    simp only [wS] at h ⊢
    exact mE hΓ e ρ _ _ _ _ _ (fun v M1 h1 => l.nx _ _ h1) (fun x M1 h1 => l.ex _ _ _ h1) h
  | .app a e, Γ, hΓ => fun ρ M O O' l h => by
    simp only [wS] at h ⊢
    exact mE hΓ a ρ _ _ _ _ _ (fun x M1 ⟨h0, h1⟩ => ⟨h0, mE hΓ e ρ _ _ _ _ _ (fun v M2 ⟨k, xs, h1, h2, h3, h4⟩ => ⟨k, xs, h1, h2, h3, l.nx _ _ h4⟩) (fun x M1 h1 => l.ex _ _ _ h1) h1⟩) (fun x M1 h1 => l.ex _ _ _ h1) h
  | .ext a e, Γ, hΓ => fun ρ M O O' l h => by
    simp only [wS] at h ⊢
    exact mE hΓ a ρ _ _ _ _ _ (fun x M1 ⟨h0, h1⟩ => ⟨h0, mE hΓ e ρ _ _ _ _ _ (fun v M2 ⟨k, xs, ys, h1, h2, h3, h4, h5, h6⟩ => ⟨k, xs, ys, h1, h2, h3, h4, h5, l.nx _ _ h6⟩) (fun x M1 h1 => l.ex _ _ _ h1) h1⟩) (fun x M1 h1 => l.ex _ _ _ h1) h
  | .ins a b e, Γ, hΓ => fun ρ M O O' l h => by
    simp only [wS] at h ⊢
    exact mE hΓ a ρ _ _ _ _ _ (fun x M1 ⟨h0, h1⟩ => ⟨h0, mE hΓ b ρ _ _ _ _ _ (fun y M2 h2 => mE hΓ e ρ _ _ _ _ _ (fun v M3 ⟨k, xs, j, h1, h2, h3, h4, h5, h6⟩ => ⟨k, xs, j, h1, h2, h3, h4, h5, l.nx _ _ h6⟩) (fun x M1 h1 => l.ex _ _ _ h1) h2) (fun x M1 h1 => l.ex _ _ _ h1) h1⟩) (fun x M1 h1 => l.ex _ _ _ h1) h
  | .ret e, Γ, hΓ => fun ρ M O O' l h => by
    simp only [wS] at h ⊢
    exact mE hΓ e ρ _ _ _ _ _ (fun v M1 h1 => l.rt _ _ h1) (fun x M1 h1 => l.ex _ _ _ h1) h
  | .retN, Γ, hΓ => fun ρ M O O' l h => by simp only [wS] at h ⊢; exact l.rt _ _ h
  | .cond c a b, Γ, hΓ => fun ρ M O O' l h => by
    simp only [wS] at h ⊢
    refine mT hΓ c ρ _ _ _ _ _ (fun k M1 h1 => ?_) (fun x M1 h1 => l.ex _ _ _ h1) h
    split
    · rename_i hk; rw [if_pos hk] at h1; exact mSs a Γ hΓ _ _ _ _ l h1
    · rename_i hk; rw [if_neg hk] at h1; exact mSs b Γ hΓ _ _ _ _ l h1
  | .loop t it b, Γ, hΓ => fun ρ M O O' l h => by
    simp only [wS] at h ⊢
    exact mI hΓ it ρ _ _ _ _ _ (fun r M1 h1 => wFor_mo (fun x ρ Q Q' => wTg_mo t x ρ Q Q') (mSs b Γ hΓ) _ _ _ _ _ l h1) (fun x M1 h1 => l.ex _ _ _ h1) h
  | .whl c b, Γ, hΓ => fun ρ M O O' l h => by
    simp only [wS] at h ⊢
    obtain ⟨n, h⟩ := h
    exact ⟨n, wWhl_mo (mT hΓ c) (mSs b Γ hΓ) n _ _ _ _ l h⟩
  | .raise c e, Γ, hΓ => fun ρ M O O' l h => by
    simp only [wS] at h ⊢
    exact mE hΓ e ρ _ _ _ _ _ (fun v M1 h2 => l.ex _ _ _ h2) (fun x M1 h1 => l.ex _ _ _ h1) h
  | .tryX b hs, Γ, hΓ => fun ρ M O O' l h => by
    simp only [wS] at h ⊢
    exact (mSs b Γ hΓ).go h ⟨l.nx, l.rt, l.bk, l.ct, fun x ρ1 M1 h1 => mHs hs Γ hΓ x _ _ _ _ l h1⟩
  | .pass, Γ, hΓ => fun ρ M O O' l h => by simp only [wS] at h ⊢; exact l.nx _ _ h
  | .brk, Γ, hΓ => fun ρ M O O' l h => by simp only [wS] at h ⊢; exact l.bk _ _ h
  | .cont, Γ, hΓ => fun ρ M O O' l h => by simp only [wS] at h ⊢; exact l.ct _ _ h
theorem mSs : ∀ (s : Ss) (Γ : Env), Γ.Mo → MonoS (wSs Γ s)
  | .nil, Γ, hΓ => fun ρ M O O' l h => by simp only [wSs] at h ⊢; exact l.nx _ _ h
  | .cons s ss, Γ, hΓ => fun ρ M O O' l h => by
    simp only [wSs] at h ⊢
    exact (mS s Γ hΓ).go h ⟨fun ρ1 M1 h1 => mSs ss Γ hΓ _ _ _ _ l h1, l.rt, l.bk, l.ct, l.ex⟩
theorem mHs : ∀ (hs : Hs) (Γ : Env), Γ.Mo → ∀ x, MonoS (wHs Γ hs x)
  | .nil, Γ, hΓ => fun x ρ M O O' l h => by simp only [wHs] at h ⊢; exact l.ex _ _ _ h
  | .cons c i b hs, Γ, hΓ => fun x ρ M O O' l h => by
    simp only [wHs] at h ⊢
    obtain ⟨m, hm, h⟩ := h
    refine ⟨m, hm, ?_⟩
    split
    · rename_i hk
      rw [if_pos hk] at h
      exact fun a dd => (mSs b _ (hΓ.cur _)).go (h a dd) ⟨fun ρ1 M1 h1 => l.nx _ _ h1, l.rt, fun ρ1 M1 h1 => l.bk _ _ h1, fun ρ1 M1 h1 => l.ct _ _ h1, fun _ _ _ z => z⟩
    · rename_i hk
      rw [if_neg hk] at h
      exact mHs hs Γ hΓ x _ _ _ _ l h
end
end G

/-! Layer G, part 1b: rules by which a proof runs the weakest preconditions. -/
namespace G
open PySem L2
section
variable {M : Mem} {Q : S → Mem → Prop} {i j : Int} {xs ys : List PD} {P : Prop}
theorem r_add : wBin .Add (.d (.int i)) (.d (.int j)) M Q = Q (.d (.int (i + j))) M := rfl
theorem r_sub : wBin .Sub (.d (.int i)) (.d (.int j)) M Q = Q (.d (.int (i - j))) M := rfl
theorem r_mul : wBin .Mult (.d (.int i)) (.d (.int j)) M Q = (MulOk i j ∧ Q (.d (.int (i * j))) M) := rfl
theorem r_div : wBin .FloorDiv (.d (.int i)) (.d (.int j)) M Q = (DivOk j ∧ Q (.d (.int (i / j))) M) := rfl
theorem r_mod : wBin .Mod (.d (.int i)) (.d (.int j)) M Q = (0 < j ∧ Q (.d (.int (i % j))) M) := rfl
theorem r_pow : wBin .Pow (.d (.int i)) (.d (.int j)) M Q = (PowOk i j ∧ Q (.d (.int (i ^ j.toNat))) M) := rfl
theorem r_shl : wBin .LShift (.d (.int i)) (.d (.int j)) M Q = (PowOk i j ∧ Q (.d (.int (i * 2 ^ j.toNat))) M) := rfl
theorem r_cat : wBin .Add (.d (.tuple xs)) (.d (.tuple ys)) M Q = (xs.length + ys.length ≤ sizeLine ∧ Q (.d (.tuple (xs ++ ys))) M) := rfl
theorem r_cats {a b : Str} : wBin .Add (.d (.str a)) (.d (.str b)) M Q = (a.length + b.length ≤ sizeLine ∧ Q (.d (.str (a ++ b))) M) := rfl
theorem r_rep : wBin .Mult (.d (.tuple xs)) (.d (.int j)) M Q = ((xs ≠ [] ∧ xs.length ≤ 1000 ∧ 0 ≤ j ∧ j ≤ 1000) ∧ Q (.d (.tuple (List.replicate j.toNat xs).flatten)) M) := rfl
theorem r_lt : wCmp .Lt (.d (.int i)) (.d (.int j)) M Q = Q (.d (.bool (decide (i < j)))) M := rfl
theorem r_le : wCmp .LtE (.d (.int i)) (.d (.int j)) M Q = Q (.d (.bool (decide (i ≤ j)))) M := rfl
theorem r_gt : wCmp .Gt (.d (.int i)) (.d (.int j)) M Q = Q (.d (.bool (decide (j < i)))) M := rfl
theorem r_ge : wCmp .GtE (.d (.int i)) (.d (.int j)) M Q = Q (.d (.bool (decide (j ≤ i)))) M := rfl
theorem sh_int : okD (.int i) = true := by simp [okD, PyData.plain, PyData.depth]
theorem sh_bool {b : Bool} : okD (.bool b) = true := by simp [okD, PyData.plain, PyData.depth]
theorem sh_none : okD .none = true := by simp [okD, PyData.plain, PyData.depth]
theorem r_eqI : wCmp .Eq (.d (.int i)) (.d (.int j)) M Q = Q (.d (.bool (decide (i = j)))) M := by
  have e : PyData.eqv (.int i) (.int j) = decide (i = j) := by simp [PyData.eqv]; rfl
  simp only [wCmp, pd, wEq, sh_int, true_and, e, id, B]
theorem r_neI : wCmp .NotEq (.d (.int i)) (.d (.int j)) M Q = Q (.d (.bool (!decide (i = j)))) M := by
  have e : PyData.eqv (.int i) (.int j) = decide (i = j) := by simp [PyData.eqv]; rfl
  simp only [wCmp, pd, wEq, sh_int, true_and, e, id, B]
theorem tr_bool {b : Bool} : truth M (.d (.bool b)) = some b := rfl
theorem tr_int : truth M (.d (.int i)) = some (i != 0) := rfl
theorem tr_none : truth M (.d .none) = some false := rfl
theorem tr_tuple : truth M (.d (.tuple xs)) = some (!xs.isEmpty) := rfl
theorem tr_list : truth M (.d (.list xs)) = some (!xs.isEmpty) := rfl
theorem r_augA {Q : S → Prop} : wAug .Add (.d (.int i)) (.d (.int j)) Q = Q (.d (.int (i + j))) := rfl
theorem r_augS {Q : S → Prop} : wAug .Sub (.d (.int i)) (.d (.int j)) Q = Q (.d (.int (i - j))) := rfl
theorem r_augM {Q : S → Prop} : wAug .Mult (.d (.int i)) (.d (.int j)) Q = (MulOk i j ∧ Q (.d (.int (i * j)))) := rfl
/-- the memory of a body: what was there, then its own objects -/
theorem m_get {L : List MO} {k : Nat} : (M ++ L)[M.length + k]? = L[k]? := by
  rw [List.getElem?_append_right (by omega)]
  congr 1
  omega
theorem m_get0 {L : List MO} : (M ++ L)[M.length]? = L[0]? := by
  rw [List.getElem?_append_right (Nat.le_refl _)]
  congr 1
  omega
theorem m_set {L : List MO} {k : Nat} {o : MO} : (M ++ L).set (M.length + k) o = M ++ L.set k o := by
  rw [List.set_append_right _ _ (by omega)]
  congr 2
  omega
theorem m_set0 {L : List MO} {o : MO} : (M ++ L).set M.length o = M ++ L.set 0 o := by
  rw [List.set_append_right _ _ (Nat.le_refl _)]
  congr 2
  omega
theorem ex_v {v : S} {P : S → Prop} : (∃ w, some (some v) = some (some w) ∧ P w) = P v := by
  apply propext
  constructor
  · rintro ⟨w, e, h⟩; cases e; exact h
  · intro h; exact ⟨v, rfl, h⟩
theorem ex_k {b : Bool} {P : Bool → Prop} : (∃ k, some b = some k ∧ P k) = P b := by
  apply propext
  constructor
  · rintro ⟨w, e, h⟩; cases e; exact h
  · intro h; exact ⟨b, rfl, h⟩
theorem ex_lst {xs : List S} {P : List S → Prop} : (∃ w, some (MO.lst xs) = some (MO.lst w) ∧ P w) = P xs := by
  apply propext
  constructor
  · rintro ⟨w, e, h⟩; cases e; exact h
  · intro h; exact ⟨xs, rfl, h⟩
theorem ex_app {k : Nat} {ys : List S} {P : Nat → List S → Prop} {L : Mem} (h : L[k]? = some (MO.lst ys)) : (∃ n xs, S.l k = S.l n ∧ L[n]? = some (MO.lst xs) ∧ P n xs) = P k ys := by
  apply propext
  constructor
  · rintro ⟨n, w, e, h1, h2⟩; cases e; rw [h] at h1; cases h1; exact h2
  · intro h2; exact ⟨k, ys, rfl, h, h2⟩
end
/-! ### equations -/
section
variable {Γ : Env}
theorem e_var (i : Nat) (ρ : Sto) (M : Mem) (Q : S → Mem → Prop) (X : Xc → Mem → Prop) : wE Γ (.var i) ρ M Q X = (∃ v, ρ[i]? = some (some v) ∧ Q v M) := by simp only [wE]
theorem e_cst (c : PD) (ρ : Sto) (M : Mem) (Q : S → Mem → Prop) (X : Xc → Mem → Prop) : wE Γ (.cst c) ρ M Q X = (Q (.d c) M) := by simp only [wE]
theorem e_neg (a : E) (ρ : Sto) (M : Mem) (Q : S → Mem → Prop) (X : Xc → Mem → Prop) : wE Γ (.neg a) ρ M Q X = (wE Γ a ρ M (fun x M1 => ∃ i, int? x = some i ∧ Q (I (-i)) M1) X) := by simp only [wE]
theorem e_not (a : E) (ρ : Sto) (M : Mem) (Q : S → Mem → Prop) (X : Xc → Mem → Prop) : wE Γ (.not a) ρ M Q X = (wE Γ a ρ M (fun x M1 => ∃ k, truth M1 x = some k ∧ Q (B (!k)) M1) X) := by simp only [wE]
theorem e_and (a : E) (b : E) (ρ : Sto) (M : Mem) (Q : S → Mem → Prop) (X : Xc → Mem → Prop) : wE Γ (.and a b) ρ M Q X = (wE Γ a ρ M (fun x M1 => ∃ k, truth M1 x = some k ∧ if k = true then wE Γ b ρ M1 Q X else Q x M1) X) := by simp only [wE]
theorem e_or (a : E) (b : E) (ρ : Sto) (M : Mem) (Q : S → Mem → Prop) (X : Xc → Mem → Prop) : wE Γ (.or a b) ρ M Q X = (wE Γ a ρ M (fun x M1 => ∃ k, truth M1 x = some k ∧ if k = true then Q x M1 else wE Γ b ρ M1 Q X) X) := by simp only [wE]
theorem e_ite (c : E) (a : E) (b : E) (ρ : Sto) (M : Mem) (Q : S → Mem → Prop) (X : Xc → Mem → Prop) : wE Γ (.ite c a b) ρ M Q X = (wT Γ c ρ M (fun k M1 => if k = true then wE Γ a ρ M1 Q X else wE Γ b ρ M1 Q X) X) := by simp only [wE]
theorem e_bin (o : Operator) (a : E) (b : E) (ρ : Sto) (M : Mem) (Q : S → Mem → Prop) (X : Xc → Mem → Prop) : wE Γ (.bin o a b) ρ M Q X = (wE Γ a ρ M (fun x M1 => wE Γ b ρ M1 (fun y M2 => wBin o x y M2 Q) X) X) := by simp only [wE]
theorem e_cmp (o : CmpOp) (a : E) (b : E) (ρ : Sto) (M : Mem) (Q : S → Mem → Prop) (X : Xc → Mem → Prop) : wE Γ (.cmp o a b) ρ M Q X = (wE Γ a ρ M (fun x M1 => wE Γ b ρ M1 (fun y M2 => wCmp o x y M2 Q) X) X) := by simp only [wE]
theorem e_chain (o : CmpOp) (p : CmpOp) (a : E) (b : E) (c : E) (ρ : Sto) (M : Mem) (Q : S → Mem → Prop) (X : Xc → Mem → Prop) : wE Γ (.chain o p a b c) ρ M Q X = (wE Γ a ρ M (fun x M1 => wE Γ b ρ M1 (fun y M2 => wCmp o x y M2 fun r M3 => ∃ k, r = B k ∧
        if k = true then wE Γ c ρ M3 (fun z M4 => wCmp p y z M4 Q) X else Q (B false) M3) X) X) := by simp only [wE]
theorem e_tup (es : Es) (ρ : Sto) (M : Mem) (Q : S → Mem → Prop) (X : Xc → Mem → Prop) : wE Γ (.tup es) ρ M Q X = (wEs Γ es ρ M (fun vs M1 => ∃ xs, dataAll vs = some xs ∧ xs.length ≤ sizeLine ∧ Q (.d (.tuple xs)) M1) X) := by simp only [wE]
theorem e_fr (f : F) (ρ : Sto) (M : Mem) (Q : S → Mem → Prop) (X : Xc → Mem → Prop) : wE Γ (.fr f) ρ M Q X = (wF Γ f ρ M (fun vs M1 => ∃ xs, dataAll vs = some xs ∧ Q (.d (.list xs)) M1) X) := by simp only [wE]
theorem e_al (f : F) (ρ : Sto) (M : Mem) (Q : S → Mem → Prop) (X : Xc → Mem → Prop) : wE Γ (.al f) ρ M Q X = (wF Γ f ρ M (fun vs M1 => Q (.l M1.length) (M1 ++ [.lst vs])) X) := by simp only [wE]
theorem e_ddisp (ks : List Str) (es : Es) (ρ : Sto) (M : Mem) (Q : S → Mem → Prop) (X : Xc → Mem → Prop) : wE Γ (.ddisp ks es) ρ M Q X = (wEs Γ es ρ M (fun vs M1 => Q (.l M1.length) (M1 ++ [.dct ((ks.map PyData.str).zip vs)])) X) := by simp only [wE]
theorem e_ix (a : E) (b : E) (ρ : Sto) (M : Mem) (Q : S → Mem → Prop) (X : Xc → Mem → Prop) : wE Γ (.ix a b) ρ M Q X = (wE Γ a ρ M (fun x M1 => wE Γ b ρ M1 (fun y M2 => wIx x y M2 Q) X) X) := by simp only [wE]
theorem e_sl (a : E) (lo : Oe) (hi : Oe) (ρ : Sto) (M : Mem) (Q : S → Mem → Prop) (X : Xc → Mem → Prop) : wE Γ (.sl a lo hi) ρ M Q X = (wE Γ a ρ M (fun x M1 => wO Γ lo ρ M1 (fun l M2 => wO Γ hi ρ M2 (fun h M3 => wSl x l h M3 Q) X) X) X) := by simp only [wE]
theorem e_rev (a : E) (ρ : Sto) (M : Mem) (Q : S → Mem → Prop) (X : Xc → Mem → Prop) : wE Γ (.rev a) ρ M Q X = (wE Γ a ρ M (fun x M1 => wRev x M1 Q) X) := by simp only [wE]
theorem e_call (f : Str) (es : Es) (ρ : Sto) (M : Mem) (Q : S → Mem → Prop) (X : Xc → Mem → Prop) : wE Γ (.call f es) ρ M Q X = (wEs Γ es ρ M (fun vs M1 => ∃ φ, Γ.Φ f = some φ ∧ φ vs M1 Q X) X) := by simp only [wE]
theorem e_callK (f : Str) (es : Es) (ns : List Str) (ks : Es) (ρ : Sto) (M : Mem) (Q : S → Mem → Prop) (X : Xc → Mem → Prop) : wE Γ (.callK f es ns ks) ρ M Q X = (wEs Γ es ρ M (fun vs M1 => wEs Γ ks ρ M1 (fun ws M2 => ∃ φ, Γ.Φ f = some φ ∧ φ (vs ++ ((Γ.ps f).drop vs.length).filterMap fun p => (ns.zip ws).lookup p) M2 Q X) X) X) := by simp only [wE]
theorem e_b1 (f : B1) (a : E) (ρ : Sto) (M : Mem) (Q : S → Mem → Prop) (X : Xc → Mem → Prop) : wE Γ (.b1 f a) ρ M Q X = (wE Γ a ρ M (fun x M1 => wB1 f x M1 Q) X) := by simp only [wE]
theorem e_b2 (f : B2) (a : E) (b : E) (ρ : Sto) (M : Mem) (Q : S → Mem → Prop) (X : Xc → Mem → Prop) : wE Γ (.b2 f a b) ρ M Q X = (wE Γ a ρ M (fun x M1 => wE Γ b ρ M1 (fun y M2 => wB2 f x y M2 Q) X) X) := by simp only [wE]
theorem e_isI (a : E) (ts : List String) (ρ : Sto) (M : Mem) (Q : S → Mem → Prop) (X : Xc → Mem → Prop) : wE Γ (.isI a ts) ρ M Q X = (wE Γ a ρ M (fun x M1 => ∃ bs, ts.mapM (fun t => isTyS M1 t x) = some bs ∧ Q (B (bs.any id)) M1) X) := by simp only [wE]
theorem e_isX (a : E) (cs : List Str) (ρ : Sto) (M : Mem) (Q : S → Mem → Prop) (X : Xc → Mem → Prop) : wE Γ (.isX a cs) ρ M Q X = (wE Γ a ρ M (fun x M1 => Γ.cur = some x ∧ wIsX Γ.mro cs x M1 Q) X) := by simp only [wE]
theorem e_xval (a : E) (f : Str) (ρ : Sto) (M : Mem) (Q : S → Mem → Prop) (X : Xc → Mem → Prop) : wE Γ (.xval a f) ρ M Q X = (wE Γ a ρ M (fun x M1 => Γ.cur = some x ∧ wXval f x M1 Q) X) := by simp only [wE]
theorem e_get (d : E) (k : E) (x : E) (ρ : Sto) (M : Mem) (Q : S → Mem → Prop) (X : Xc → Mem → Prop) : wE Γ (.get d k x) ρ M Q X = (wE Γ d ρ M (fun dd M1 => wE Γ k ρ M1 (fun kk M2 => wE Γ x ρ M2 (fun xx M3 => wGet dd kk xx M3 Q) X) X) X) := by simp only [wE]
theorem e_pop (a : E) (ρ : Sto) (M : Mem) (Q : S → Mem → Prop) (X : Xc → Mem → Prop) : wE Γ (.pop a) ρ M Q X = (wE Γ a ρ M (fun x M1 => wPop x M1 Q) X) := by simp only [wE]
theorem e_popAt (a : E) (b : E) (ρ : Sto) (M : Mem) (Q : S → Mem → Prop) (X : Xc → Mem → Prop) : wE Γ (.popAt a b) ρ M Q X = (wE Γ a ρ M (fun x M1 => isTyS M1 "list" x = some true ∧ wE Γ b ρ M1 (fun y M2 => wPopAt x y M2 Q) X) X) := by simp only [wE]
theorem e_index (a : E) (b : E) (ρ : Sto) (M : Mem) (Q : S → Mem → Prop) (X : Xc → Mem → Prop) : wE Γ (.index a b) ρ M Q X = (wE Γ a ρ M (fun x M1 => isTyS M1 "list" x = some true ∧ wE Γ b ρ M1 (fun y M2 => ∃ xs a j, items M2 x = some (xs.map .d) ∧ y = .d a ∧ (okD a = true ∧ okD (.list xs) = true) ∧ xs.findIdx? (fun z => PyData.eqv z a) = some j ∧ Q (I (j : Nat)) M2) X) X) := by simp only [wE]
theorem t_not (a : E) (ρ : Sto) (M : Mem) (Q : Bool → Mem → Prop) (X : Xc → Mem → Prop) : wT Γ (.not a) ρ M Q X = (wT Γ a ρ M (fun b M1 => Q (!b) M1) X) := by simp only [wT]
theorem t_and (a : E) (b : E) (ρ : Sto) (M : Mem) (Q : Bool → Mem → Prop) (X : Xc → Mem → Prop) : wT Γ (.and a b) ρ M Q X = (wT Γ a ρ M (fun k M1 => if k = true then wT Γ b ρ M1 Q X else Q false M1) X) := by simp only [wT]
theorem t_or (a : E) (b : E) (ρ : Sto) (M : Mem) (Q : Bool → Mem → Prop) (X : Xc → Mem → Prop) : wT Γ (.or a b) ρ M Q X = (wT Γ a ρ M (fun k M1 => if k = true then Q true M1 else wT Γ b ρ M1 Q X) X) := by simp only [wT]
theorem a_nil  (ρ : Sto) (M : Mem) (Q : List S → Mem → Prop) (X : Xc → Mem → Prop) : wEs Γ (.nil) ρ M Q X = (Q [] M) := by simp only [wEs]
theorem a_cons (e : E) (es : Es) (ρ : Sto) (M : Mem) (Q : List S → Mem → Prop) (X : Xc → Mem → Prop) : wEs Γ (.cons e es) ρ M Q X = (wE Γ e ρ M (fun v M1 => wEs Γ es ρ M1 (fun vs M2 => Q (v :: vs) M2) X) X) := by simp only [wEs]
theorem o_none  (ρ : Sto) (M : Mem) (Q : Option Int → Mem → Prop) (X : Xc → Mem → Prop) : wO Γ (.none) ρ M Q X = (Q none M) := by simp only [wO]
theorem o_some (e : E) (ρ : Sto) (M : Mem) (Q : Option Int → Mem → Prop) (X : Xc → Mem → Prop) : wO Γ (.some e) ρ M Q X = (wE Γ e ρ M (fun x M1 => ∃ i, int? x = some i ∧ Q (some i) M1) X) := by simp only [wO]
theorem c_none  (ρ : Sto) (M : Mem) (Q : Bool → Mem → Prop) (X : Xc → Mem → Prop) : wC Γ (.none) ρ M Q X = (Q true M) := by simp only [wC]
theorem c_some (e : E) (ρ : Sto) (M : Mem) (Q : Bool → Mem → Prop) (X : Xc → Mem → Prop) : wC Γ (.some e) ρ M Q X = (wT Γ e ρ M Q X) := by simp only [wC]
theorem f_disp (es : Es) (ρ : Sto) (M : Mem) (Q : List S → Mem → Prop) (X : Xc → Mem → Prop) : wF Γ (.disp es) ρ M Q X = (wEs Γ es ρ M (fun vs M1 => wDisp vs M1 Q) X) := by simp only [wF]
theorem f_comp (e : E) (t : Tg) (it : It) (c : Oe) (ρ : Sto) (M : Mem) (Q : List S → Mem → Prop) (X : Xc → Mem → Prop) : wF Γ (.comp e t it c) ρ M Q X = (wI Γ it ρ M (fun r M1 => r.1.length ≤ sizeLine ∧ wLc (tgAt t (wipeS ρ (tgSlots t))) r.2 (wC Γ c) (wE Γ e) r.1 [] M1 Q (fun _ _ => False)) X) := by simp only [wF]
theorem f_comp2 (e : E) (t : Tg) (it : It) (u : Tg) (ju : It) (c : Oe) (ρ : Sto) (M : Mem) (Q : List S → Mem → Prop) (X : Xc → Mem → Prop) : wF Γ (.comp2 e t it u ju c) ρ M Q X = (False) := by simp only [wF]
theorem f_listOf (a : E) (ρ : Sto) (M : Mem) (Q : List S → Mem → Prop) (X : Xc → Mem → Prop) : wF Γ (.listOf a) ρ M Q X = (wE Γ a ρ M (fun x M1 => ∃ xs, items M1 x = some xs ∧ Q xs M1) X) := by simp only [wF]
theorem f_cat (a : E) (b : E) (ρ : Sto) (M : Mem) (Q : List S → Mem → Prop) (X : Xc → Mem → Prop) : wF Γ (.cat a b) ρ M Q X = (wE Γ a ρ M (fun x M1 => wE Γ b ρ M1 (fun y M2 => ∃ xs ys, isTyS M2 "list" x = some true ∧ isTyS M2 "list" y = some true ∧ items M2 x = some xs ∧ items M2 y = some ys ∧ xs.length + ys.length ≤ sizeLine ∧ Q (xs ++ ys) M2) X) X) := by simp only [wF]
theorem f_rep (a : E) (b : E) (ρ : Sto) (M : Mem) (Q : List S → Mem → Prop) (X : Xc → Mem → Prop) : wF Γ (.rep a b) ρ M Q X = (wE Γ a ρ M (fun x M1 => wE Γ b ρ M1 (fun y M2 => ∃ xs j, isTyS M2 "list" x = some true ∧ items M2 x = some xs ∧ y = I j ∧ (-(2 ^ 63) ≤ j ∧ j < 2 ^ 63 ∧ xs.length * j.toNat ≤ sizeLine) ∧ Q (List.replicate j.toNat xs).flatten M2) X) X) := by simp only [wF]
theorem f_slice (a : E) (lo : Oe) (hi : Oe) (ρ : Sto) (M : Mem) (Q : List S → Mem → Prop) (X : Xc → Mem → Prop) : wF Γ (.slice a lo hi) ρ M Q X = (wE Γ a ρ M (fun x M1 => wO Γ lo ρ M1 (fun l M2 => wO Γ hi ρ M2 (fun h M3 => ∃ xs, isTyS M3 "list" x = some true ∧ items M3 x = some xs ∧ Q (cut xs l h) M3) X) X) X) := by simp only [wF]
theorem i_of (e : E) (ρ : Sto) (M : Mem) (Q : List Itm × (Mem → Prop) → Mem → Prop) (X : Xc → Mem → Prop) : wI Γ (.of e) ρ M Q X = (wE Γ e ρ M (fun x M1 => ∃ xs, items M1 x = some xs ∧ Q (xs.map .one, okOf x xs) M1) X) := by simp only [wI]
theorem i_rng (es : Es) (ρ : Sto) (M : Mem) (Q : List Itm × (Mem → Prop) → Mem → Prop) (X : Xc → Mem → Prop) : wI Γ (.rng es) ρ M Q X = (wEs Γ es ρ M (fun vs M1 => wRng vs M1 Q) X) := by simp only [wI]
theorem i_enum (e : E) (ρ : Sto) (M : Mem) (Q : List Itm × (Mem → Prop) → Mem → Prop) (X : Xc → Mem → Prop) : wI Γ (.enum e) ρ M Q X = (wE Γ e ρ M (fun x M1 => ∃ xs, isTyS M1 "list" x = some true ∧ items M1 x = some xs ∧ Q (enumItems xs, okOf x xs) M1) X) := by simp only [wI]
theorem i_zip (a : E) (b : E) (ρ : Sto) (M : Mem) (Q : List Itm × (Mem → Prop) → Mem → Prop) (X : Xc → Mem → Prop) : wI Γ (.zip a b) ρ M Q X = (wE Γ a ρ M (fun x M1 => wE Γ b ρ M1 (fun y M2 => ∃ xs ys, (∃ t, isTyS M2 t x = some true ∧ isTyS M2 t y = some true ∧ (t = "list" ∨ t = "tuple")) ∧ items M2 x = some xs ∧ items M2 y = some ys ∧ Q (zipItems xs ys, fun M => okOf x xs M ∧ okOf y ys M) M2) X) X) := by simp only [wI]
theorem i_rev (e : E) (ρ : Sto) (M : Mem) (Q : List Itm × (Mem → Prop) → Mem → Prop) (X : Xc → Mem → Prop) : wI Γ (.rev e) ρ M Q X = (wE Γ e ρ M (fun x M1 => ∃ xs, items M1 x = some xs ∧ Q (xs.reverse.map .one, okOf x xs) M1) X) := by simp only [wI]
theorem t_var (a : Nat) (ρ : Sto) (M : Mem) (Q : Bool → Mem → Prop) (X : Xc → Mem → Prop) : wT Γ (.var a) ρ M Q X = wE Γ (.var a) ρ M (fun x M1 => ∃ k, truth M1 x = some k ∧ Q k M1) X := by simp only [wT]
theorem t_cst (a : PD) (ρ : Sto) (M : Mem) (Q : Bool → Mem → Prop) (X : Xc → Mem → Prop) : wT Γ (.cst a) ρ M Q X = wE Γ (.cst a) ρ M (fun x M1 => ∃ k, truth M1 x = some k ∧ Q k M1) X := by simp only [wT]
theorem t_neg (a : E) (ρ : Sto) (M : Mem) (Q : Bool → Mem → Prop) (X : Xc → Mem → Prop) : wT Γ (.neg a) ρ M Q X = wE Γ (.neg a) ρ M (fun x M1 => ∃ k, truth M1 x = some k ∧ Q k M1) X := by simp only [wT]
theorem t_ite (a : E) (b : E) (c : E) (ρ : Sto) (M : Mem) (Q : Bool → Mem → Prop) (X : Xc → Mem → Prop) : wT Γ (.ite a b c) ρ M Q X = wE Γ (.ite a b c) ρ M (fun x M1 => ∃ k, truth M1 x = some k ∧ Q k M1) X := by simp only [wT]
theorem t_bin (a : Operator) (b : E) (c : E) (ρ : Sto) (M : Mem) (Q : Bool → Mem → Prop) (X : Xc → Mem → Prop) : wT Γ (.bin a b c) ρ M Q X = wE Γ (.bin a b c) ρ M (fun x M1 => ∃ k, truth M1 x = some k ∧ Q k M1) X := by simp only [wT]
theorem t_cmp (a : CmpOp) (b : E) (c : E) (ρ : Sto) (M : Mem) (Q : Bool → Mem → Prop) (X : Xc → Mem → Prop) : wT Γ (.cmp a b c) ρ M Q X = wE Γ (.cmp a b c) ρ M (fun x M1 => ∃ k, truth M1 x = some k ∧ Q k M1) X := by simp only [wT]
theorem t_chain (a : CmpOp) (b : CmpOp) (c : E) (d : E) (e : E) (ρ : Sto) (M : Mem) (Q : Bool → Mem → Prop) (X : Xc → Mem → Prop) : wT Γ (.chain a b c d e) ρ M Q X = wE Γ (.chain a b c d e) ρ M (fun x M1 => ∃ k, truth M1 x = some k ∧ Q k M1) X := by simp only [wT]
theorem t_tup (a : Es) (ρ : Sto) (M : Mem) (Q : Bool → Mem → Prop) (X : Xc → Mem → Prop) : wT Γ (.tup a) ρ M Q X = wE Γ (.tup a) ρ M (fun x M1 => ∃ k, truth M1 x = some k ∧ Q k M1) X := by simp only [wT]
theorem t_fr (a : F) (ρ : Sto) (M : Mem) (Q : Bool → Mem → Prop) (X : Xc → Mem → Prop) : wT Γ (.fr a) ρ M Q X = wE Γ (.fr a) ρ M (fun x M1 => ∃ k, truth M1 x = some k ∧ Q k M1) X := by simp only [wT]
theorem t_al (a : F) (ρ : Sto) (M : Mem) (Q : Bool → Mem → Prop) (X : Xc → Mem → Prop) : wT Γ (.al a) ρ M Q X = wE Γ (.al a) ρ M (fun x M1 => ∃ k, truth M1 x = some k ∧ Q k M1) X := by simp only [wT]
theorem t_ddisp (a : List Str) (b : Es) (ρ : Sto) (M : Mem) (Q : Bool → Mem → Prop) (X : Xc → Mem → Prop) : wT Γ (.ddisp a b) ρ M Q X = wE Γ (.ddisp a b) ρ M (fun x M1 => ∃ k, truth M1 x = some k ∧ Q k M1) X := by simp only [wT]
theorem t_ix (a : E) (b : E) (ρ : Sto) (M : Mem) (Q : Bool → Mem → Prop) (X : Xc → Mem → Prop) : wT Γ (.ix a b) ρ M Q X = wE Γ (.ix a b) ρ M (fun x M1 => ∃ k, truth M1 x = some k ∧ Q k M1) X := by simp only [wT]
theorem t_sl (a : E) (b : Oe) (c : Oe) (ρ : Sto) (M : Mem) (Q : Bool → Mem → Prop) (X : Xc → Mem → Prop) : wT Γ (.sl a b c) ρ M Q X = wE Γ (.sl a b c) ρ M (fun x M1 => ∃ k, truth M1 x = some k ∧ Q k M1) X := by simp only [wT]
theorem t_rev (a : E) (ρ : Sto) (M : Mem) (Q : Bool → Mem → Prop) (X : Xc → Mem → Prop) : wT Γ (.rev a) ρ M Q X = wE Γ (.rev a) ρ M (fun x M1 => ∃ k, truth M1 x = some k ∧ Q k M1) X := by simp only [wT]
theorem t_call (a : Str) (b : Es) (ρ : Sto) (M : Mem) (Q : Bool → Mem → Prop) (X : Xc → Mem → Prop) : wT Γ (.call a b) ρ M Q X = wE Γ (.call a b) ρ M (fun x M1 => ∃ k, truth M1 x = some k ∧ Q k M1) X := by simp only [wT]
theorem t_callK (a : Str) (b : Es) (c : List Str) (d : Es) (ρ : Sto) (M : Mem) (Q : Bool → Mem → Prop) (X : Xc → Mem → Prop) : wT Γ (.callK a b c d) ρ M Q X = wE Γ (.callK a b c d) ρ M (fun x M1 => ∃ k, truth M1 x = some k ∧ Q k M1) X := by simp only [wT]
theorem t_b1 (a : B1) (b : E) (ρ : Sto) (M : Mem) (Q : Bool → Mem → Prop) (X : Xc → Mem → Prop) : wT Γ (.b1 a b) ρ M Q X = wE Γ (.b1 a b) ρ M (fun x M1 => ∃ k, truth M1 x = some k ∧ Q k M1) X := by simp only [wT]
theorem t_b2 (a : B2) (b : E) (c : E) (ρ : Sto) (M : Mem) (Q : Bool → Mem → Prop) (X : Xc → Mem → Prop) : wT Γ (.b2 a b c) ρ M Q X = wE Γ (.b2 a b c) ρ M (fun x M1 => ∃ k, truth M1 x = some k ∧ Q k M1) X := by simp only [wT]
theorem t_isI (a : E) (b : List String) (ρ : Sto) (M : Mem) (Q : Bool → Mem → Prop) (X : Xc → Mem → Prop) : wT Γ (.isI a b) ρ M Q X = wE Γ (.isI a b) ρ M (fun x M1 => ∃ k, truth M1 x = some k ∧ Q k M1) X := by simp only [wT]
theorem t_isX (a : E) (b : List Str) (ρ : Sto) (M : Mem) (Q : Bool → Mem → Prop) (X : Xc → Mem → Prop) : wT Γ (.isX a b) ρ M Q X = wE Γ (.isX a b) ρ M (fun x M1 => ∃ k, truth M1 x = some k ∧ Q k M1) X := by simp only [wT]
theorem t_xval (a : E) (b : Str) (ρ : Sto) (M : Mem) (Q : Bool → Mem → Prop) (X : Xc → Mem → Prop) : wT Γ (.xval a b) ρ M Q X = wE Γ (.xval a b) ρ M (fun x M1 => ∃ k, truth M1 x = some k ∧ Q k M1) X := by simp only [wT]
theorem t_get (a : E) (b : E) (c : E) (ρ : Sto) (M : Mem) (Q : Bool → Mem → Prop) (X : Xc → Mem → Prop) : wT Γ (.get a b c) ρ M Q X = wE Γ (.get a b c) ρ M (fun x M1 => ∃ k, truth M1 x = some k ∧ Q k M1) X := by simp only [wT]
theorem t_pop (a : E) (ρ : Sto) (M : Mem) (Q : Bool → Mem → Prop) (X : Xc → Mem → Prop) : wT Γ (.pop a) ρ M Q X = wE Γ (.pop a) ρ M (fun x M1 => ∃ k, truth M1 x = some k ∧ Q k M1) X := by simp only [wT]
theorem t_popAt (a : E) (b : E) (ρ : Sto) (M : Mem) (Q : Bool → Mem → Prop) (X : Xc → Mem → Prop) : wT Γ (.popAt a b) ρ M Q X = wE Γ (.popAt a b) ρ M (fun x M1 => ∃ k, truth M1 x = some k ∧ Q k M1) X := by simp only [wT]
theorem t_index (a : E) (b : E) (ρ : Sto) (M : Mem) (Q : Bool → Mem → Prop) (X : Xc → Mem → Prop) : wT Γ (.index a b) ρ M Q X = wE Γ (.index a b) ρ M (fun x M1 => ∃ k, truth M1 x = some k ∧ Q k M1) X := by simp only [wT]
theorem s_asg (t : Tg) (e : E) (ρ : Sto) (M : Mem) (O : Outs) : wS Γ (.asg t e) ρ M O = (wE Γ e ρ M (fun v M1 => wTg t (.one v) ρ fun ρ1 => O.nx ρ1 M1) (fun x M1 => O.ex x ρ M1)) := by simp only [wS]
theorem s_setIx (a : E) (b : E) (e : E) (ρ : Sto) (M : Mem) (O : Outs) : wS Γ (.setIx a b e) ρ M O = (wE Γ e ρ M (fun v M1 => wE Γ a ρ M1 (fun x M2 => wE Γ b ρ M2 (fun y M3 => wPut x y v M3 fun M4 => O.nx ρ M4) (fun x M1 => O.ex x ρ M1)) (fun x M1 => O.ex x ρ M1)) (fun x M1 => O.ex x ρ M1)) := by simp only [wS]
theorem s_par (i : Nat) (j : Nat) (a : E) (b : E) (ρ : Sto) (M : Mem) (O : Outs) : wS Γ (.par i j a b) ρ M O = (wE Γ a ρ M (fun v M1 => wE Γ b ρ M1 (fun w M2 => O.nx ((ρ.set i (some v)).set j (some w)) M2) (fun x M1 => O.ex x ρ M1)) (fun x M1 => O.ex x ρ M1)) := by simp only [wS]
theorem s_aug (i : Nat) (o : Operator) (e : E) (ρ : Sto) (M : Mem) (O : Outs) : wS Γ (.aug i o e) ρ M O = (∃ v, ρ[i]? = some (some v) ∧ wE Γ e ρ M (fun w M1 => wAug o v w fun r => O.nx (ρ.set i (some r)) M1) (fun x M1 => O.ex x ρ M1)) := by simp only [wS]
theorem s_augIx (a : E) (b : E) (o : Operator) (e : E) (ρ : Sto) (M : Mem) (O : Outs) : wS Γ (.augIx a b o e) ρ M O = (wE Γ a ρ M (fun x M1 => wE Γ b ρ M1 (fun y M2 => wIx x y M2 fun v M3 => wE Γ e ρ M3 (fun w M4 => wAug o v w fun r => wPut x y r M4 fun M5 => O.nx ρ M5) (fun x M1 => O.ex x ρ M1)) (fun x M1 => O.ex x ρ M1)) (fun x M1 => O.ex x ρ M1)) := by simp only [wS]
theorem s_expr (e : E) (ρ : Sto) (M : Mem) (O : Outs) : wS Γ (.expr e) ρ M O = (wE Γ e ρ M (fun _ M1 => O.nx ρ M1) (fun x M1 => O.ex x ρ M1)) := by simp only [wS]
theorem s_app (a : E) (e : E) (ρ : Sto) (M : Mem) (O : Outs) : wS Γ (.app a e) ρ M O = (wE Γ a ρ M (fun x M1 => isTyS M1 "list" x = some true ∧ wE Γ e ρ M1 (fun v M2 => ∃ k xs, x = .l k ∧ M2[k]? = some (.lst xs) ∧ xs.length < sizeLine ∧ O.nx ρ (M2.set k (.lst (xs ++ [v])))) (fun x M1 => O.ex x ρ M1)) (fun x M1 => O.ex x ρ M1)) := by simp only [wS]
theorem s_ext (a : E) (e : E) (ρ : Sto) (M : Mem) (O : Outs) : wS Γ (.ext a e) ρ M O = (wE Γ a ρ M (fun x M1 => isTyS M1 "list" x = some true ∧ wE Γ e ρ M1 (fun v M2 => ∃ k xs ys, x = .l k ∧ M2[k]? = some (.lst xs) ∧ items M2 v = some ys ∧ isTyS M2 "list" v = some true ∧ xs.length + ys.length ≤ sizeLine ∧ O.nx ρ (M2.set k (.lst (xs ++ ys)))) (fun x M1 => O.ex x ρ M1)) (fun x M1 => O.ex x ρ M1)) := by simp only [wS]
theorem s_ins (a : E) (b : E) (e : E) (ρ : Sto) (M : Mem) (O : Outs) : wS Γ (.ins a b e) ρ M O = (wE Γ a ρ M (fun x M1 => isTyS M1 "list" x = some true ∧ wE Γ b ρ M1 (fun y M2 => wE Γ e ρ M2 (fun v M3 => ∃ k xs j, x = .l k ∧ y = I (j : Nat) ∧ M3[k]? = some (.lst xs) ∧ j ≤ xs.length ∧ xs.length < sizeLine ∧ O.nx ρ (M3.set k (.lst (xs.take j ++ v :: xs.drop j)))) (fun x M1 => O.ex x ρ M1)) (fun x M1 => O.ex x ρ M1)) (fun x M1 => O.ex x ρ M1)) := by simp only [wS]
theorem s_ret (e : E) (ρ : Sto) (M : Mem) (O : Outs) : wS Γ (.ret e) ρ M O = (wE Γ e ρ M (fun v M1 => O.rt v M1) (fun x M1 => O.ex x ρ M1)) := by simp only [wS]
theorem s_retN  (ρ : Sto) (M : Mem) (O : Outs) : wS Γ (.retN) ρ M O = (O.rt N0 M) := by simp only [wS]
theorem s_cond (c : E) (a : Ss) (b : Ss) (ρ : Sto) (M : Mem) (O : Outs) : wS Γ (.cond c a b) ρ M O = (wT Γ c ρ M (fun k M1 => if k = true then wSs Γ a ρ M1 O else wSs Γ b ρ M1 O) (fun x M1 => O.ex x ρ M1)) := by simp only [wS]
theorem s_loop (t : Tg) (it : It) (b : Ss) (ρ : Sto) (M : Mem) (O : Outs) : wS Γ (.loop t it b) ρ M O = (wI Γ it ρ M (fun r M1 => wFor (wTg t) r.2 (wSs Γ b) r.1 ρ M1 O) (fun x M1 => O.ex x ρ M1)) := by simp only [wS]
theorem s_whl (c : E) (b : Ss) (ρ : Sto) (M : Mem) (O : Outs) : wS Γ (.whl c b) ρ M O = (∃ n, wWhl (wT Γ c) (wSs Γ b) n ρ M O) := by simp only [wS]
theorem s_raise (c : Str) (e : E) (ρ : Sto) (M : Mem) (O : Outs) : wS Γ (.raise c e) ρ M O = (wE Γ e ρ M (fun v M1 => O.ex ⟨c, (if c = "Undefined" then "what" else "value"), v⟩ ρ M1) (fun x M1 => O.ex x ρ M1)) := by simp only [wS]
theorem s_tryX (b : Ss) (hs : Hs) (ρ : Sto) (M : Mem) (O : Outs) : wS Γ (.tryX b hs) ρ M O = (wSs Γ b ρ M { O with ex := fun x ρ1 M1 => wHs Γ hs x ρ1 M1 O }) := by simp only [wS]
theorem s_pass  (ρ : Sto) (M : Mem) (O : Outs) : wS Γ (.pass) ρ M O = (O.nx ρ M) := by simp only [wS]
theorem s_brk  (ρ : Sto) (M : Mem) (O : Outs) : wS Γ (.brk) ρ M O = (O.bk ρ M) := by simp only [wS]
theorem s_cont  (ρ : Sto) (M : Mem) (O : Outs) : wS Γ (.cont) ρ M O = (O.ct ρ M) := by simp only [wS]
theorem b_nil  (ρ : Sto) (M : Mem) (O : Outs) : wSs Γ (.nil) ρ M O = (O.nx ρ M) := by simp only [wSs]
theorem b_cons (s : St) (ss : Ss) (ρ : Sto) (M : Mem) (O : Outs) : wSs Γ (.cons s ss) ρ M O = (wS Γ s ρ M { O with nx := fun ρ1 M1 => wSs Γ ss ρ1 M1 O }) := by simp only [wSs]
theorem h_nil  (x : Xc) (ρ : Sto) (M : Mem) (O : Outs) : wHs Γ (.nil) x ρ M O = (O.ex x ρ M) := by simp only [wHs]
theorem h_cons (c : Str) (i : Nat) (b : Ss) (hs : Hs) (x : Xc) (ρ : Sto) (M : Mem) (O : Outs) : wHs Γ (.cons c i b hs) x ρ M O = (∃ l, Γ.mro x.cls = some l ∧ if l.contains c = true then
        ∀ a dd, wSs { Γ with cur := some (.e a dd x.cls x.fld x.val) } b (ρ.set i (some (.e a dd x.cls x.fld x.val))) M { nx := fun ρ1 M1 => O.nx (ρ1.set i none) M1, rt := O.rt, bk := fun ρ1 M1 => O.bk (ρ1.set i none) M1, ct := fun ρ1 M1 => O.ct (ρ1.set i none) M1, ex := fun _ _ _ => False }
      else wHs Γ hs x ρ M O) := by simp only [wHs]
end
theorem tg_nm (i : Nat) (v : S) (ρ : Sto) (Q : Sto → Prop) : wTg (.nm i) (.one v) ρ Q = Q (ρ.set i (some v)) := by simp only [wTg]
theorem tg_tpt (ts : List Tg) (xs : List PD) (ρ : Sto) (Q : Sto → Prop) : wTg (.tp ts) (.one (.d (.tuple xs))) ρ Q = (xs.length = ts.length ∧ wTgs ts (xs.map .d) ρ Q) := by simp only [wTg]
theorem tg_tpm (ts : List Tg) (ss : List S) (ρ : Sto) (Q : Sto → Prop) : wTg (.tp ts) (.many ss) ρ Q = (ss.length = ts.length ∧ wTgs ts ss ρ Q) := by simp only [wTg]
theorem tgs_nil (ρ : Sto) (Q : Sto → Prop) : wTgs [] [] ρ Q = Q ρ := by simp only [wTgs]
theorem tgs_cons (t : Tg) (ts : List Tg) (s : S) (ss : List S) (ρ : Sto) (Q : Sto → Prop) : wTgs (t :: ts) (s :: ss) ρ Q = wTg t (.one s) ρ (fun ρ1 => wTgs ts ss ρ1 Q) := by simp only [wTgs]
theorem tgAt_eq (t : Tg) (ρ : Sto) (x : Itm) (k : Sto → Prop) : tgAt t ρ x k = wTg t x ρ k := rfl
end G

/-! Layer G, part 2: how plain data stand in the abstract heap of HandS. -/
namespace G
open PySem L2 PySem.Spec PyProof.Rows

/-- the addresses that may change: those of the mutable objects, those of lists in the making -/
structure Loc where
  at_ : List Addr
  tmp : List Addr
def Loc.out (κ : Loc) (a : Addr) : Prop := a ∉ κ.at_ ∧ a ∉ κ.tmp

/-- a list of the module's own -/
def KL (K : PySem.W.Frag) (a : Addr) (xs : List V) : Prop :=
  ∃ (its : List Value) (n : Nat), K.lookup a = some { cls := .type "list", data := .seq its.toArray n } ∧ xs.length ≤ sizeLine ∧ Vals xs its
/-- a list, a tuple that stands still -/
def SL (K : PySem.W.Frag) (H : Hp) (κ : Loc) (a : Addr) (xs : List V) : Prop := (Rd H a (.lst xs) ∧ κ.out a) ∨ KL K a xs
def ST (H : Hp) (κ : Loc) (a : Addr) (xs : List V) : Prop := Rd H a (.tup xs) ∧ κ.out a
theorem KL.sq {K a xs} {H : Hp} (h : KL K a xs) : SqL K H a xs := by
  obtain ⟨its, n, e, z, r⟩ := h
  refine .inr ⟨_, its.toArray, n, e, rfl, rfl, rfl, ?_, by simpa using r⟩
  rw [List.size_toArray, ← r.length]
  exact z
theorem SL.sq {K H κ a xs} (h : SL K H κ a xs) : SqL K H a xs := h.elim (fun h => .inl h.1) KL.sq
theorem ST.sq {K : PySem.W.Frag} {H κ a xs} (h : ST H κ a xs) : SqT K H a xs := .inl h.1

mutual
inductive RP (K : PySem.W.Frag) (H : Hp) (κ : Loc) : V → PD → Prop
  | non : RP K H κ .non .none
  | bl (b : Bool) : RP K H κ (.bl b) (.bool b)
  | int (i : Int) : RP K H κ (.int i) (.int i)
  | str (x : Str) : RP K H κ (.str x) (.str x)
  | lst {a : Addr} {xs : List V} {ds : List PD} : SL K H κ a xs → xs.length ≤ sizeLine → RPs K H κ xs ds → RP K H κ (.ref a) (.list ds)
  | tup {a : Addr} {xs : List V} {ds : List PD} : ST H κ a xs → xs.length ≤ sizeLine → RPs K H κ xs ds → RP K H κ (.ref a) (.tuple ds)
  | dct {a : Addr} : H a = some (.dK []) → κ.out a → RP K H κ (.ref a) (.dict [])
inductive RPs (K : PySem.W.Frag) (H : Hp) (κ : Loc) : List V → List PD → Prop
  | nil : RPs K H κ [] []
  | cons {v : V} {vs : List V} {d : PD} {ds : List PD} : RP K H κ v d → RPs K H κ vs ds → RPs K H κ (v :: vs) (d :: ds)
end
inductive RS (K : PySem.W.Frag) (H : Hp) (κ : Loc) : V → S → Prop
  | d {v : V} {x : PD} : RP K H κ v x → RS K H κ v (.d x)
  | l {a : Addr} {k : Nat} : κ.at_[k]? = some a → RS K H κ (.ref a) (.l k)
  | e {a dd : Addr} {c f : Str} {v : V} {s : S} : H dd = some (.xd [(f, v)]) → κ.out dd → RS K H κ v s → RS K H κ (.ref a) (.e a dd c f s)
abbrev RSs (K : PySem.W.Frag) (H : Hp) (κ : Loc) : List V → List S → Prop := Paired (RS K H κ)

def keyPD : Key → PD
  | .inl i => .int i
  | .inr x => .str x
def RO (K : PySem.W.Frag) (H : Hp) (κ : Loc) (a : Addr) : MO → Prop
  | .lst xs => ∃ vs, H a = some (.lst vs) ∧ vs.length ≤ sizeLine ∧ RSs K H κ vs xs
  | .dct kvs => (∃ kv : List (Key × V), H a = some (.dK kv) ∧ Paired (fun p q => q.1 = keyPD p.1 ∧ RS K H κ p.2 q.2) kv kvs) ∨
      (∃ kv : List (List Key × V), H a = some (.dT kv) ∧ Paired (fun p q => q.1 = PyData.tuple (p.1.map keyPD) ∧ RS K H κ p.2 q.2) kv kvs)
structure RM (K : PySem.W.Frag) (H : Hp) (κ : Loc) (M : Mem) : Prop where
  len : κ.at_.length = M.length
  nd : κ.at_.Nodup
  ob : ∀ (k : Nat) (a : Addr) (o : MO), κ.at_[k]? = some a → M[k]? = some o → RO K H κ a o
  tm : ∀ a ∈ κ.tmp, H a ≠ none ∧ a ∉ κ.at_
structure RSt (K : PySem.W.Frag) (H : Hp) (κ : Loc) (ρ : Sto) (σ : L2.St) : Prop where
  len : ρ.length = σ.length
  here : ∀ (i : Nat) (s : S), ρ[i]? = some (some s) → ∃ v, σ[i]? = some (some v) ∧ RS K H κ v s
/-- the heap has grown; what may change has changed, and some of it is new -/
structure Grow (κ : Loc) (H : Hp) (κ' : Loc) (H' : Hp) : Prop where
  pre : ∃ l, κ'.at_ = κ.at_ ++ l
  keep : ∀ a o, H a = some o → κ.out a → H' a = some o ∧ κ'.out a

section
variable {K : PySem.W.Frag} {H H' H1 H2 : Hp} {κ κ' κ1 κ2 : Loc} {M M' : Mem} {ρ : Sto} {σ : L2.St} {a : Addr} {v : V} {s : S}
theorem Grow.refl : Grow κ H κ H := ⟨⟨[], by simp⟩, fun _ _ h o => ⟨h, o⟩⟩
theorem Grow.trans (g : Grow κ H κ1 H1) (g' : Grow κ1 H1 κ2 H2) : Grow κ H κ2 H2 :=
  ⟨let ⟨l, e⟩ := g.pre; let ⟨l', e'⟩ := g'.pre; ⟨l ++ l', by rw [e', e, List.append_assoc]⟩, fun a o h u => let ⟨h1, u1⟩ := g.keep a o h u; g'.keep a o h1 u1⟩
theorem Rd.grow {a : Addr} {u : HO} (g : Grow κ H κ' H') (r : Rd H a u) (o : κ.out a) : Rd H' a u ∧ κ'.out a := by
  rcases r with r | ⟨ob, r⟩
  · exact ⟨.inl (g.keep _ _ r o).1, (g.keep _ _ r o).2⟩
  · exact ⟨.inr ⟨ob, (g.keep _ _ r o).1⟩, (g.keep _ _ r o).2⟩
theorem SL.grow {xs} (g : Grow κ H κ' H') (h : SL K H κ a xs) : SL K H' κ' a xs := h.elim (fun h => .inl (Rd.grow g h.1 h.2)) .inr
theorem ST.grow {xs} (g : Grow κ H κ' H') (h : ST H κ a xs) : ST H' κ' a xs := Rd.grow g h.1 h.2
mutual
theorem RP.grow (g : Grow κ H κ' H') : ∀ {v : V} {d : PD}, RP K H κ v d → RP K H' κ' v d
  | _, _, .non => .non
  | _, _, .bl b => .bl b
  | _, _, .int i => .int i
  | _, _, .str x => .str x
  | _, _, .lst h z r => .lst (h.grow g) z (RPs.grow g r)
  | _, _, .tup h z r => .tup (h.grow g) z (RPs.grow g r)
  | _, _, .dct h o => .dct (g.keep _ _ h o).1 (g.keep _ _ h o).2
theorem RPs.grow (g : Grow κ H κ' H') : ∀ {vs : List V} {ds : List PD}, RPs K H κ vs ds → RPs K H' κ' vs ds
  | _, _, .nil => .nil
  | _, _, .cons h t => .cons (RP.grow g h) (RPs.grow g t)
end
theorem RS.grow (g : Grow κ H κ' H') {v : V} {s : S} (h : RS K H κ v s) : RS K H' κ' v s := by
  induction h with
  | d h => exact .d (h.grow g)
  | l h =>
    obtain ⟨l, e⟩ := g.pre
    exact .l (by rw [e, List.getElem?_append_left (List.getElem?_eq_some_iff.mp h).1]; exact h)
  | e h o r ih => exact .e (g.keep _ _ h o).1 (g.keep _ _ h o).2 ih
theorem RSs.grow (g : Grow κ H κ' H') {vs : List V} {ss : List S} (h : RSs K H κ vs ss) : RSs K H' κ' vs ss := Paired.mapP h fun _ _ r => r.grow g
theorem RSt.grow (g : Grow κ H κ' H') (h : RSt K H κ ρ σ) : RSt K H' κ' ρ σ := ⟨h.len, fun i s e => let ⟨v, e1, r⟩ := h.here i s e; ⟨v, e1, r.grow g⟩⟩
theorem RSt.set (h : RSt K H κ ρ σ) (r : RS K H κ v s) (i : Nat) : RSt K H κ (ρ.set i (some s)) (σ.set i (some v)) := by
  refine ⟨by simp [h.len], fun j u e => ?_⟩
  by_cases hj : i = j
  · subst hj
    by_cases hi : i < ρ.length
    · rw [List.getElem?_set_self hi] at e
      cases e
      exact ⟨v, by rw [List.getElem?_set_self (by rw [← h.len]; exact hi)], r⟩
    · rw [List.getElem?_eq_none (by simp; omega)] at e
      cases e
  · rw [List.getElem?_set_ne hj] at e ⊢
    exact h.here j u e
theorem RSt.unset (h : RSt K H κ ρ σ) (i : Nat) (x : Option V) : RSt K H κ (ρ.set i none) (σ.set i x) := by
  refine ⟨by simp [h.len], fun j u e => ?_⟩
  by_cases hj : i = j
  · subst hj
    by_cases hi : i < ρ.length
    · rw [List.getElem?_set_self hi] at e
      cases e
    · rw [List.getElem?_eq_none (by simp; omega)] at e
      cases e
  · rw [List.getElem?_set_ne hj] at e ⊢
    exact h.here j u e
theorem RO.grow {o : MO} (g : Grow κ H κ' H') (h : RO K H κ a o) (ha : H' a = H a) : RO K H' κ' a o := by
  cases o with
  | lst xs =>
    obtain ⟨vs, h1, h2, h3⟩ := h
    exact ⟨vs, ha.trans h1, h2, RSs.grow g h3⟩
  | dct kvs =>
    rcases h with ⟨kv, h1, h2⟩ | ⟨kv, h1, h2⟩
    · exact .inl ⟨kv, ha.trans h1, Paired.mapP h2 fun _ _ z => ⟨z.1, z.2.grow g⟩⟩
    · exact .inr ⟨kv, ha.trans h1, Paired.mapP h2 fun _ _ z => ⟨z.1, z.2.grow g⟩⟩
theorem RO.some {o : MO} (h : RO K H κ a o) : H a ≠ none := by
  cases o with
  | lst xs => obtain ⟨vs, h1, _⟩ := h; rw [h1]; simp
  | dct kvs => rcases h with ⟨kv, h1, h2⟩ | ⟨kv, h1, h2⟩ <;> (rw [h1]; simp)
theorem RM.has (m : RM K H κ M) (h : a ∈ κ.at_) : H a ≠ none := by
  obtain ⟨k, hk, e⟩ := List.mem_iff_getElem.mp h
  have h1 : κ.at_[k]? = some a := by rw [List.getElem?_eq_getElem hk, e]
  have h2 : k < M.length := by rw [← m.len]; exact hk
  exact (m.ob k a M[k] h1 (List.getElem?_eq_getElem h2)).some
/-- a new address may not be one of those that change -/
theorem RM.out (m : RM K H κ M) (h : H a = none) : κ.out a := ⟨fun z => m.has z h, fun z => (m.tm a z).1 h⟩
/-- a new object is laid -/
theorem Grow.new (m : RM K H κ M) {p : Addr} {o : HO} (h : H p = none) : Grow κ H κ (upd H p o) :=
  ⟨⟨[], by simp⟩, fun a u e ou => ⟨by rw [upd_ne (ne_of_none e h)]; exact e, ou⟩⟩
theorem RM.new (m : RM K H κ M) {p : Addr} {o : HO} (h : H p = none) : RM K (upd H p o) κ M := by
  refine ⟨m.len, m.nd, fun k a u e1 e2 => ?_, fun a ha => ?_⟩
  · have h1 := m.ob k a u e1 e2
    refine h1.grow (Grow.new m h) (upd_ne ?_)
    rintro rfl
    exact h1.some h
  · obtain ⟨h1, h2⟩ := m.tm a ha
    refine ⟨?_, h2⟩
    rw [upd_ne (fun e => h1 (by rw [e]; exact h))]
    exact h1
/-- an object that may change changes -/
theorem Grow.put (m : RM K H κ M) {k : Nat} {o : HO} (e : κ.at_[k]? = some a) : Grow κ H κ (upd H a o) :=
  ⟨⟨[], by simp⟩, fun b u eb ou => ⟨by rw [upd_ne (fun z => ou.1 (by rw [z]; exact List.mem_of_getElem? e))]; exact eb, ou⟩⟩
theorem RM.put (m : RM K H κ M) {k : Nat} {o : HO} {mo : MO} (e : κ.at_[k]? = some a) (r : RO K (upd H a o) κ a mo) : RM K (upd H a o) κ (M.set k mo) := by
  refine ⟨by simp [m.len], m.nd, fun j b u e1 e2 => ?_, fun b hb => ?_⟩
  · by_cases hj : k = j
    · subst hj
      rw [e] at e1
      cases e1
      rw [List.getElem?_set_self (by rw [← m.len]; exact (List.getElem?_eq_some_iff.mp e).1)] at e2
      cases e2
      exact r
    · rw [List.getElem?_set_ne hj] at e2
      refine (m.ob j b u e1 e2).grow (Grow.put m e) (upd_ne ?_)
      rintro rfl
      obtain ⟨i1, q1⟩ := List.getElem?_eq_some_iff.mp e
      obtain ⟨i2, q2⟩ := List.getElem?_eq_some_iff.mp e1
      exact hj ((List.getElem_inj m.nd).mp (q1.trans q2.symm))
  · obtain ⟨h1, h2⟩ := m.tm b hb
    refine ⟨?_, h2⟩
    rw [upd_ne (fun z => h2 (by rw [z]; exact List.mem_of_getElem? e))]
    exact h1
def Loc.more (κ : Loc) (p : Addr) : Loc := ⟨κ.at_ ++ [p], κ.tmp⟩
/-- what is new becomes an object that may change -/
theorem Grow.more (m : RM K H κ M) {p : Addr} {o : HO} (h : H p = none) : Grow κ H (κ.more p) (upd H p o) :=
  ⟨⟨[p], rfl⟩, fun a u e ou => ⟨by rw [upd_ne (ne_of_none e h)]; exact e, by
    refine ⟨fun z => ?_, ou.2⟩
    rcases List.mem_append.mp z with z | z
    · exact ou.1 z
    · have : a = p := by simpa using z
      rw [this, h] at e; cases e⟩⟩
theorem RM.more (m : RM K H κ M) {p : Addr} {o : HO} {mo : MO} (h : H p = none) (r : RO K (upd H p o) (κ.more p) p mo) : RM K (upd H p o) (κ.more p) (M ++ [mo]) := by
  have hn : p ∉ κ.at_ := (m.out h).1
  refine ⟨by simp [Loc.more, m.len], ?_, fun j b u e1 e2 => ?_, fun b hb => ?_⟩
  · show (κ.at_ ++ [p]).Nodup
    rw [List.nodup_append]
    exact ⟨m.nd, by simp, fun x hx y hy e => hn (by
      have h1 : y = p := by simpa using hy
      rw [← h1, ← e]
      exact hx)⟩
  · by_cases hj : j < κ.at_.length
    · have e1' : κ.at_[j]? = Option.some b := by
        have : (κ.at_ ++ [p])[j]? = Option.some b := e1
        rwa [List.getElem?_append_left hj] at this
      rw [List.getElem?_append_left (by rw [← m.len]; exact hj)] at e2
      have h1 := m.ob j b u e1' e2
      refine h1.grow (Grow.more m h) (upd_ne ?_)
      rintro rfl
      exact h1.some h
    · have hj2 : j = κ.at_.length := by
        have := (List.getElem?_eq_some_iff.mp e1).1
        simp [Loc.more] at this
        omega
      subst hj2
      have : (κ.at_ ++ [p])[κ.at_.length]? = Option.some b := e1
      rw [List.getElem?_append_right (Nat.le_refl _), Nat.sub_self] at this
      cases this
      rw [m.len, List.getElem?_append_right (Nat.le_refl _), Nat.sub_self] at e2
      cases e2
      exact r
  · obtain ⟨h1, h2⟩ := m.tm b hb
    have hb2 : b ≠ p := fun e => h1 (by rw [e]; exact h)
    refine ⟨by rw [upd_ne hb2]; exact h1, fun z => ?_⟩
    rcases List.mem_append.mp z with z | z
    · exact h2 z
    · exact hb2 (by simpa using z)
theorem more_last {p : Addr} : (κ.more p).at_[κ.at_.length]? = Option.some p := by
  show (κ.at_ ++ [p])[κ.at_.length]? = _
  rw [List.getElem?_append_right (Nat.le_refl _), Nat.sub_self] <;> rfl
/-- .. and the lists in the making stand -/
structure Gr (κ : Loc) (H : Hp) (κ' : Loc) (H' : Hp) : Prop extends Grow κ H κ' H' where
  tmp : κ'.tmp = κ.tmp
  st : ∀ a ∈ κ.tmp, H' a = H a
theorem Gr.refl : Gr κ H κ H := ⟨.refl, rfl, fun _ _ => rfl⟩
theorem Gr.trans (g : Gr κ H κ1 H1) (g' : Gr κ1 H1 κ2 H2) : Gr κ H κ2 H2 := ⟨g.toGrow.trans g'.toGrow, g'.tmp.trans g.tmp, fun a h => (g'.st a (by rw [g.tmp]; exact h)).trans (g.st a h)⟩
theorem RM.tmNe (m : RM K H κ M) {p : Addr} (h : H p = none) : ∀ a ∈ κ.tmp, a ≠ p := fun a ha e => (m.tm a ha).1 (by rw [e]; exact h)
theorem Gr.new (m : RM K H κ M) {p : Addr} {o : HO} (h : H p = none) : Gr κ H κ (upd H p o) := ⟨Grow.new m h, rfl, fun a ha => upd_ne (m.tmNe h a ha)⟩
theorem Gr.put (m : RM K H κ M) {k : Nat} {o : HO} (e : κ.at_[k]? = some a) : Gr κ H κ (upd H a o) := ⟨Grow.put m e, rfl, fun b hb => upd_ne fun z => (m.tm b hb).2 (by rw [z]; exact List.mem_of_getElem? e)⟩
theorem Gr.more (m : RM K H κ M) {p : Addr} {o : HO} (h : H p = none) : Gr κ H (κ.more p) (upd H p o) := ⟨Grow.more m h, rfl, fun a ha => upd_ne (m.tmNe h a ha)⟩
theorem Gr.forget (g : Gr κ H κ' H') : Gr κ H κ H' := ⟨⟨⟨[], by simp⟩, fun a o h u => ⟨(g.keep a o h u).1, u⟩⟩, rfl, g.st⟩

/-! ### lists in the making -/
def Loc.on (κ : Loc) (D : Addr) : Loc := ⟨κ.at_, D :: κ.tmp⟩
def Loc.off (κ : Loc) : Loc := ⟨κ.at_, κ.tmp.tail⟩
theorem Loc.out_on {D : Addr} (h : (κ.on D).out a) : κ.out a ∧ a ≠ D := ⟨⟨h.1, fun z => h.2 (List.mem_cons_of_mem _ z)⟩, fun e => h.2 (by rw [e]; exact List.mem_cons_self)⟩
theorem Loc.on_out {D : Addr} (h : κ.out a) (n : a ≠ D) : (κ.on D).out a := ⟨h.1, fun z => (List.mem_cons.mp z).elim n h.2⟩
/-- D is laid and made -/
theorem Grow.on (m : RM K H κ M) {D : Addr} {o : HO} (h : H D = none) : Grow κ H (κ.on D) (upd H D o) :=
  ⟨⟨[], by simp [Loc.on]⟩, fun a u e ou => ⟨by rw [upd_ne (ne_of_none e h)]; exact e, Loc.on_out ou (ne_of_none e h)⟩⟩
theorem RM.on (m : RM K H κ M) {D : Addr} {o : HO} (h : H D = none) : RM K (upd H D o) (κ.on D) M := by
  refine ⟨m.len, m.nd, fun k a u e1 e2 => ?_, fun a ha => ?_⟩
  · have h1 := m.ob k a u e1 e2
    refine h1.grow (Grow.on m h) (upd_ne ?_)
    rintro rfl
    exact h1.some h
  · rcases List.mem_cons.mp ha with rfl | ha
    · exact ⟨by rw [upd_same]; simp, (m.out h).1⟩
    · obtain ⟨h1, h2⟩ := m.tm a ha
      refine ⟨?_, h2⟩
      rw [upd_ne (fun e => h1 (by rw [e]; exact h))]
      exact h1
/-- D grows -/
theorem Grow.tick {D : Addr} {o : HO} : Grow (κ.on D) H (κ.on D) (upd H D o) :=
  ⟨⟨[], by simp⟩, fun a u e ou => ⟨by rw [upd_ne (Loc.out_on ou).2]; exact e, ou⟩⟩
theorem RM.tick {D : Addr} {o : HO} (m : RM K H (κ.on D) M) : RM K (upd H D o) (κ.on D) M := by
  have hD := (m.tm D List.mem_cons_self).2
  refine ⟨m.len, m.nd, fun k a u e1 e2 => (m.ob k a u e1 e2).grow Grow.tick (upd_ne ?_), fun a ha => ?_⟩
  · rintro rfl
    exact hD (List.mem_of_getElem? e1)
  · obtain ⟨h1, h2⟩ := m.tm a ha
    refine ⟨?_, h2⟩
    by_cases e : a = D
    · rw [e, upd_same]; simp
    · rw [upd_ne e]; exact h1
/-- D is made: it stands still from now on -/
theorem Grow.off {D : Addr} : Grow (κ.on D) H κ H := ⟨⟨[], by simp [Loc.on]⟩, fun _ _ e ou => ⟨e, (Loc.out_on ou).1⟩⟩
theorem RM.off {D : Addr} (m : RM K H (κ.on D) M) : RM K H κ M :=
  ⟨m.len, m.nd, fun k a u e1 e2 => (m.ob k a u e1 e2).grow Grow.off rfl, fun a ha => m.tm a (List.mem_cons_of_mem _ ha)⟩
/-- .. or is an object that may change -/
theorem Grow.offMore {D : Addr} : Grow (κ.on D) H (κ.more D) H := ⟨⟨[D], rfl⟩, fun a _ e ou => ⟨e, fun z => (List.mem_append.mp z).elim (Loc.out_on ou).1.1 fun z => (Loc.out_on ou).2 (by simpa using z), (Loc.out_on ou).1.2⟩⟩
theorem RM.offMore {D : Addr} {mo : MO} (m : RM K H (κ.on D) M) (hn : D ∉ κ.tmp) (r : RO K H (κ.more D) D mo) : RM K H (κ.more D) (M ++ [mo]) := by
  have hD : D ∉ κ.at_ := (m.tm D List.mem_cons_self).2
  have hlen : κ.at_.length = M.length := m.len
  refine ⟨by simp [Loc.more, hlen], ?_, fun j b u e1 e2 => ?_, fun b hb => ?_⟩
  · show (κ.at_ ++ [D]).Nodup
    rw [List.nodup_append]
    exact ⟨m.nd, by simp, fun x hx y hy e => hD (by
      have h1 : y = D := by simpa using hy
      rw [← h1, ← e]
      exact hx)⟩
  · have e1 : (κ.at_ ++ [D])[j]? = Option.some b := e1
    by_cases hj : j < κ.at_.length
    · rw [List.getElem?_append_left hj] at e1
      rw [List.getElem?_append_left (by rw [← hlen]; exact hj)] at e2
      exact (m.ob j b u e1 e2).grow Grow.offMore rfl
    · have hj2 : j = κ.at_.length := by
        have := (List.getElem?_eq_some_iff.mp e1).1
        simp at this
        omega
      subst hj2
      rw [List.getElem?_append_right (Nat.le_refl _), Nat.sub_self] at e1
      cases e1
      rw [hlen, List.getElem?_append_right (Nat.le_refl _), Nat.sub_self] at e2
      cases e2
      exact r
  · obtain ⟨h1, h2⟩ := m.tm b (List.mem_cons_of_mem _ hb)
    refine ⟨h1, fun z => ?_⟩
    rcases List.mem_append.mp z with z | z
    · exact h2 z
    · have : b = D := by simpa using z
      exact hn (by rw [← this]; exact hb)

/-- the objects that came behind a point are forgotten -/
theorem Grow.forget (g : Grow κ H κ' H') : Grow κ H κ H' := ⟨⟨[], by simp⟩, fun a o h u => ⟨(g.keep a o h u).1, u⟩⟩
end

section
variable {K : PySem.W.Frag} {H H' : Hp} {κ κ' : Loc} {vs : List V} {ds : List PD} {ss : List S}
theorem RPs.length : ∀ {vs : List V} {ds : List PD}, RPs K H κ vs ds → vs.length = ds.length
  | _, _, .nil => rfl
  | _, _, .cons _ t => by rw [List.length_cons, List.length_cons, RPs.length t]
theorem RPs.get : ∀ {vs : List V} {ds : List PD} {i : Nat} {v : V}, RPs K H κ vs ds → vs[i]? = some v → ∃ d, ds[i]? = some d ∧ RP K H κ v d
  | _, _, _, _, .nil, e => by simp at e
  | _, _, 0, _, .cons r _, e => by simp at e; subst e; exact ⟨_, rfl, r⟩
  | _, _, i + 1, v, .cons _ t, e => by simpa using RPs.get (i := i) t (by simpa using e)
theorem RPs.get' : ∀ {vs : List V} {ds : List PD} {i : Nat} {d : PD}, RPs K H κ vs ds → ds[i]? = some d → ∃ v, vs[i]? = some v ∧ RP K H κ v d
  | _, _, _, _, .nil, e => by simp at e
  | _, _, 0, _, .cons r _, e => by simp at e; subst e; exact ⟨_, rfl, r⟩
  | _, _, i + 1, v, .cons _ t, e => by simpa using RPs.get' (i := i) t (by simpa using e)
theorem RPs.toS : ∀ {vs : List V} {ds : List PD}, RPs K H κ vs ds → RSs K H κ vs (ds.map .d)
  | _, _, .nil => .nil
  | _, _, .cons r t => .cons (.d r) (RPs.toS t)
theorem RSs.toP : ∀ {vs : List V} {ss : List S} {ds : List PD}, RSs K H κ vs ss → dataAll ss = some ds → RPs K H κ vs ds
  | _, _, _, .nil, e => by cases e; exact .nil
  | _, _, ds, .cons (b := .d x) (l₂ := r) h t, e => by
    cases e1 : dataAll r with
    | none => rw [dataAll, e1] at e; cases e
    | some ys =>
      rw [dataAll, e1] at e
      cases e
      cases h with
      | d h => exact .cons h (RSs.toP t e1)
  | _, _, _, .cons (b := .l k) h t, e => by cases e
  | _, _, _, .cons (b := .e ..) h t, e => by cases e
theorem RSs.toP' (h : RSs K H κ vs (ds.map .d)) : RPs K H κ vs ds := h.toP (dataAll_map ds)
theorem RSs.length (h : RSs K H κ vs ss) : vs.length = ss.length := Paired.length h
theorem Pd.get {α β : Type} {F : α → β → Prop} : ∀ {xs : List α} {ys : List β} {i : Nat} {x : α}, Paired F xs ys → xs[i]? = some x → ∃ y, ys[i]? = some y ∧ F x y
  | _, _, _, _, .nil, e => by simp at e
  | _, _, 0, _, .cons r _, e => by simp at e; subst e; exact ⟨_, rfl, r⟩
  | _, _, i + 1, v, .cons _ t, e => by simpa using Pd.get (i := i) t (by simpa using e)
theorem Pd.get' {α β : Type} {F : α → β → Prop} : ∀ {xs : List α} {ys : List β} {i : Nat} {y : β}, Paired F xs ys → ys[i]? = some y → ∃ x, xs[i]? = some x ∧ F x y
  | _, _, _, _, .nil, e => by simp at e
  | _, _, 0, _, .cons r _, e => by simp at e; subst e; exact ⟨_, rfl, r⟩
  | _, _, i + 1, v, .cons _ t, e => by simpa using Pd.get' (i := i) t (by simpa using e)
theorem Pd.append {α β : Type} {F : α → β → Prop} : ∀ {xs xs' : List α} {ys ys' : List β}, Paired F xs ys → Paired F xs' ys' → Paired F (xs ++ xs') (ys ++ ys')
  | _, _, _, _, .nil, s => s
  | _, _, _, _, .cons r t, s => .cons r (Pd.append t s)
theorem Pd.take {α β : Type} {F : α → β → Prop} : ∀ {xs : List α} {ys : List β} (n : Nat), Paired F xs ys → Paired F (xs.take n) (ys.take n)
  | _, _, 0, _ => by simpa using Paired.nil
  | _, _, _ + 1, .nil => by simpa using Paired.nil
  | _, _, n + 1, .cons r t => .cons r (Pd.take n t)
theorem Pd.drop {α β : Type} {F : α → β → Prop} : ∀ {xs : List α} {ys : List β} (n : Nat), Paired F xs ys → Paired F (xs.drop n) (ys.drop n)
  | _, _, 0, h => h
  | _, _, _ + 1, .nil => by simpa using Paired.nil
  | _, _, n + 1, .cons r t => Pd.drop n t
theorem Pd.set {α β : Type} {F : α → β → Prop} {x : α} {y : β} (r : F x y) : ∀ {xs : List α} {ys : List β} (i : Nat), Paired F xs ys → Paired F (xs.set i x) (ys.set i y)
  | _, _, _, .nil => .nil
  | _, _, 0, .cons _ t => .cons r t
  | _, _, i + 1, .cons q t => .cons q (Pd.set r i t)
theorem Pd.erase {α β : Type} {F : α → β → Prop} : ∀ {xs : List α} {ys : List β} (i : Nat), Paired F xs ys → Paired F (xs.eraseIdx i) (ys.eraseIdx i)
  | _, _, _, .nil => .nil
  | _, _, 0, .cons _ t => t
  | _, _, i + 1, .cons q t => .cons q (Pd.erase i t)
theorem Pd.dropLast {α β : Type} {F : α → β → Prop} {xs : List α} {ys : List β} (h : Paired F xs ys) : Paired F xs.dropLast ys.dropLast := by
  rw [List.dropLast_eq_take, List.dropLast_eq_take, Paired.length h]
  exact Pd.take _ h
theorem Pd.reverse {α β : Type} {F : α → β → Prop} {xs : List α} {ys : List β} (h : Paired F xs ys) : Paired F xs.reverse ys.reverse := by
  induction h with
  | nil => exact .nil
  | cons r t ih => rw [List.reverse_cons, List.reverse_cons]; exact Pd.append ih (.cons r .nil)
theorem Pd.rep {α β : Type} {F : α → β → Prop} {xs : List α} {ys : List β} (h : Paired F xs ys) : ∀ k : Nat, Paired F (List.replicate k xs).flatten (List.replicate k ys).flatten
  | 0 => .nil
  | k + 1 => by rw [List.replicate_succ, List.replicate_succ, List.flatten_cons, List.flatten_cons]; exact Pd.append h (Pd.rep h k)
theorem Pd.cut {α β : Type} {F : α → β → Prop} {xs : List α} {ys : List β} (h : Paired F xs ys) (lo hi : Option Int) : Paired F (cut xs lo hi) (cut ys lo hi) := by
  unfold G.cut
  rw [Paired.length h]
  exact Pd.take _ (Pd.drop _ h)
end

/-! ### data as the library reads them -/
section
variable {X : Cx} {pins : List (Addr × Obj)} {σ : L2.St} {H : Hp} {s : Shared} {κ : Loc}
theorem SL.get {a : Addr} {xs : List V} (I : Inv X pins σ H s) (h : SL X.K H κ a xs) : ∃ its : List Value, Vals xs its ∧ PlainL s.heap a its.toArray := let ⟨its, r, p, _⟩ := I.list h.sq; ⟨its, r, p⟩
theorem ST.get {a : Addr} {xs : List V} (I : Inv X pins σ H s) (h : ST H κ a xs) : ∃ its : List Value, Vals xs its ∧ IsTup s.heap a its.toArray := let ⟨its, r, p, _⟩ := I.tuple h.sq; ⟨its, r, p⟩
theorem SL.obj {a : Addr} {xs : List V} (I : Inv X pins σ H s) (h : SL X.K H κ a xs) : ∃ (its : List Value) (n : Nat), Vals xs its ∧ xs.length ≤ sizeLine ∧ s.heap.get? a = some { cls := .type "list", data := .seq its.toArray n } := by
  rcases h with ⟨h, _⟩ | ⟨its, n, e, z, r⟩
  · obtain ⟨z, its, n, r, e⟩ := h.ok I.hok
    exact ⟨its, n, r, z, e⟩
  · exact ⟨its, n, r, z, I.kIn a _ e⟩
mutual
theorem RP.reads (I : Inv X pins σ H s) : ∀ {v : V} {d : PD} {u : Value}, RP X.K H κ v d → RelV v u → ∃ as, Reads s.heap u d as
  | _, _, _, .non, r => by cases r; exact ⟨_, .none⟩
  | _, _, _, .bl b, r => by cases r; exact ⟨_, .bool b⟩
  | _, _, _, .int i, r => by obtain ⟨t, rfl⟩ := r; exact ⟨_, .int i t⟩
  | _, _, _, .str x, r => by obtain ⟨t, rfl⟩ := r; exact ⟨_, .str x t⟩
  | _, _, _, .lst h z rs, r => by
    cases r
    obtain ⟨its, rv, o, n, e, c, _, d⟩ := h.get I
    obtain ⟨as, q⟩ := RPs.reads I rs rv
    exact ⟨_, .list e c d (by simpa using q)⟩
  | _, _, _, .tup h z rs, r => by
    cases r
    obtain ⟨its, rv, o, e, c, n, d⟩ := h.get I
    obtain ⟨as, q⟩ := RPs.reads I rs rv
    exact ⟨_, .tuple e c d (by simpa using q)⟩
  | _, _, _, .dct h o, r => by
    cases r
    obtain ⟨_, _, vs, kv, ob, es, ep, e, ex, d, ko, pr, _⟩ := I.hok _ _ h
    cases kv
    have e0 : es.toList = [] := by
      cases q : es.toList with
      | nil => rfl
      | cons x r => rw [q] at pr; cases pr
    refine ⟨_, .dict (kvs := []) e ex.1 d (as := []) (bs := []) ?_ ?_⟩
    · rw [e0]; exact .nil
    · rw [e0]; exact .nil
theorem RPs.reads (I : Inv X pins σ H s) : ∀ {vs : List V} {ds : List PD} {us : List Value}, RPs X.K H κ vs ds → Vals vs us → ∃ as, ReadsAll s.heap us ds as
  | _, _, _, .nil, r => by cases r; exact ⟨_, .nil⟩
  | _, _, _, .cons h t, r => by
    cases r with
    | cons r1 r2 =>
      obtain ⟨as, q1⟩ := RP.reads I h r1
      obtain ⟨bs, q2⟩ := RPs.reads I t r2
      exact ⟨_, .cons q1 q2⟩
end
end
end G

/-! Layer G, part 3: the primitives, by values. -/
namespace G
open PySem L2 PySem.Spec PyProof.Rows

def Post (K : PySem.W.Frag) (H : Hp) (κ : Loc) (Q : VK) : S → Mem → Prop := fun z M' => ∀ κ' v H', Gr κ H κ' H' → RS K H' κ' v z → RM K H' κ' M' → Q v H'
section
variable {K : PySem.W.Frag} {H H' : Hp} {κ κ' : Loc} {Q : VK} {z : S} {M : Mem} {v : V} {p a : Addr} {o : HO}
theorem Post.at (h : Post K H κ Q z M) (r : RS K H κ v z) (m : RM K H κ M) : Q v H := h κ v H .refl r m
theorem Post.new (h : Post K H κ Q z M) (m : RM K H κ M) (n : H p = none) (r : RS K (upd H p o) κ v z) : Q v (upd H p o) := h κ v _ (Gr.new m n) r (m.new n)
theorem Post.grow (g : Gr κ H κ' H') (h : Post K H κ Q z M) : Post K H' κ' Q z M := fun κ1 v1 H1 g1 r m => h κ1 v1 H1 (g.trans g1) r m
/-- a new tuple, a new list of values that stand -/
theorem rp_tup {vs : List V} {ds : List PD} (m : RM K H κ M) (n : H p = none) (z : vs.length ≤ sizeLine) (r : RPs K H κ vs ds) : RS K (upd H p (.tup vs)) κ (.ref p) (.d (.tuple ds)) :=
  .d (.tup ⟨.of upd_same, m.out n⟩ z (r.grow (Grow.new m n)))
theorem rp_lst {vs : List V} {ds : List PD} (m : RM K H κ M) (n : H p = none) (z : vs.length ≤ sizeLine) (r : RPs K H κ vs ds) : RS K (upd H p (.lst vs)) κ (.ref p) (.d (.list ds)) :=
  .d (.lst (.inl ⟨.of upd_same, m.out n⟩) z (r.grow (Grow.new m n)))
end
def r2 (K : PySem.W.Frag) (f : S → S → Mem → (S → Mem → Prop) → Prop) : R2 := fun x y H Q => ∃ κ M sx sy, RM K H κ M ∧ RS K H κ x sx ∧ RS K H κ y sy ∧ f sx sy M (Post K H κ Q)
def r1 (K : PySem.W.Frag) (f : S → Mem → (S → Mem → Prop) → Prop) : List V → Hp → VK → Prop := fun vs H Q => ∃ κ M x sx, vs = [x] ∧ RM K H κ M ∧ RS K H κ x sx ∧ f sx M (Post K H κ Q)

/-! ### tuples times an int -/
section
variable {prog : Program} {w : World} {A : Around} {E : Value → Shared → Prop} {s : Shared}
theorem g_one' (l : Addr) (items : Array Value) (n : Nat) (dd : Option Addr) (sl : Array (Option Value)) (u : Tok) :
    Meets (Builtin.«tuple.__mul__» ⟨[.ref l, .int 1 u], []⟩) (fun _ R s => s.heap.get? l = some { cls := .type "tuple", dict := dd, data := .seq items n, slots := sl } ∧ R (.ok (.ret (Value.ref l))) s) :=
  .of_wp fun prog w A R s h => by
    obtain ⟨hp, g, d, tk, os⟩ := s
    obtain ⟨hl, h⟩ := h
    have f1 := AutoSeq1.idx_int
    have c1 : (items.isEmpty || (1 : Int) == 1) = true := by simp
    wp_walk using wpAny_loadPart' hl
    repeat (first
      | (refine wpAny_ite_true (decide_eq_true (by first | exact c1 | simp)) ?_
         wp_walk using wpAny_loadPart' hl)
      | (refine wpAny_ite_false (decide_eq_false (by simp)) ?_
         wp_walk using wpAny_loadPart' hl))
    exact ⟨_, rfl, h⟩
theorem g_zero' (l : Addr) (items : Array Value) (n : Nat) (dd : Option Addr) (sl : Array (Option Value)) (u : Tok) (hne : items.isEmpty = false) :
    Meets (Builtin.«tuple.__mul__» ⟨[.ref l, .int 0 u], []⟩) (fun _ R s => s.heap.get? l = some { cls := .type "tuple", dict := dd, data := .seq items n, slots := sl } ∧
      R (.ok (.ret (Value.ref s.heap.objs.size))) { s with heap := s.heap.push { cls := .type "tuple", data := .seq #[] }, toks := s.toks }) :=
  .of_wp fun prog w A R s h => by
    obtain ⟨hp, g, d, tk, os⟩ := s
    obtain ⟨hl, h⟩ := h
    have f1 := AutoSeq1.idx_int
    wp_walk using wpAny_loadPart' hl
    repeat (first
      | (refine wpAny_ite_true (decide_eq_true (by simp)) ?_
         wp_walk using wpAny_loadPart' hl)
      | (refine wpAny_ite_false (decide_eq_false (by first | (rw [hne]; decide) | simp)) ?_
         wp_walk using wpAny_loadPart' hl))
    exact ⟨_, rfl, h⟩
end

section
variable {X : Cx}
theorem op_repZ : OpR X (binaryOp .Mult) (fun x y H Q => ∃ l k xs, x = .ref l ∧ y = .int k ∧ Rd H l (.tup xs) ∧ xs ≠ [] ∧ (k = 0 ∨ k = 1) ∧ (k = 1 → Q (.ref l) H) ∧ (k = 0 → ∀ p, H p = none → Q (.ref p) (upd H p (.tup [])))) := by
  intro pins s σ H x y v u Q I rx ry h
  obtain ⟨l, k, xs, rfl, rfl, hT, hne, hk, q1, q0⟩ := h
  cases rx
  obtain ⟨t, rfl⟩ := ry
  obtain ⟨z, its, r, o, ho, hc, n, hd⟩ := hT.ok I.hok
  have hobj : s.heap.get? l = some o := ho
  obtain ⟨its', r', ⟨⟨cls, dd, data, sl⟩, ho', hc', n', hd'⟩, hs⟩ := I.tuple (show SqT X.K H l xs from .inl hT)
  simp only at hc' hd'
  subst hc' hd'
  have hn : its' ≠ [] := fun e => hne (by
    subst e
    cases r'
    rfl)
  have hi : its'.toArray.isEmpty = false := by
    cases its' with
    | nil => exact absurd rfl hn
    | cons a b => rfl
  rcases hk with rfl | rfl
  · refine wpAny_binaryOp_repeat_ref (T := "tuple") (U := "int") (by decide) ⟨_, ho', rfl⟩ (fun s' => typeIs_int s' 0 t) noFill_tuple_mul F.fills_int_mul F.slot_int_rmul repeat_tuple F.slot_int_index.lookup
      (call_meets F.slot_int_rmul (typeIs_int s 0 t) F.entry_int_rmul (F.args_int_rmul_2 _ _) (int_rmul_tuple 0 t l its'.toArray n' dd sl)
        ⟨ho', rfl, ⟨_, ho', rfl⟩, call_meets F.slot_tuple_mul ⟨_, ho', rfl⟩ F.entry_tuple_mul (F.args_tuple_mul_2 _ _) (g_zero' l its'.toArray n' dd sl t hi) ⟨ho', ?_⟩⟩)
    refine ⟨.ref s.heap.objs.size, _, I.laid (t' := s.toks) (o := .tup []) (fun b ob q => Heap.get?_push_of_some _ q) (Nat.le_refl _) ?_, rfl, q0 rfl _ (I.hok.fresh (Nat.le_refl _))⟩
    exact ⟨Nat.zero_le _, [], .nil, IsTup.new _ _⟩
  · refine wpAny_binaryOp_repeat_ref (T := "tuple") (U := "int") (by decide) ⟨_, ho', rfl⟩ (fun s' => typeIs_int s' 1 t) noFill_tuple_mul F.fills_int_mul F.slot_int_rmul repeat_tuple F.slot_int_index.lookup
      (call_meets F.slot_int_rmul (typeIs_int s 1 t) F.entry_int_rmul (F.args_int_rmul_2 _ _) (int_rmul_tuple 1 t l its'.toArray n' dd sl)
        ⟨ho', rfl, ⟨_, ho', rfl⟩, call_meets F.slot_tuple_mul ⟨_, ho', rfl⟩ F.entry_tuple_mul (F.args_tuple_mul_2 _ _) (g_one' l its'.toArray n' dd sl t) ⟨ho', ?_⟩⟩)
    exact ⟨.ref l, H, I, rfl, q1 rfl⟩

end
end G

/-! Layer G, part 3b: operators and comparisons keep what wBin, wCmp say. -/
namespace G
open PySem L2 PySem.Spec PyProof.Rows
section
variable {X : Cx}
theorem PowOk.ok {i j : Int} (h : PowOk i j) : CPow i j := h
theorem flat_len (xs : List PD) : ∀ k : Nat, (List.replicate k xs).flatten.length = k * xs.length
  | 0 => by simp
  | k + 1 => by rw [List.replicate_succ, List.flatten_cons, List.length_append, flat_len xs k, Nat.succ_mul]; omega
theorem flat_lenV (xs : List V) : ∀ k : Nat, (List.replicate k xs).flatten.length = k * xs.length
  | 0 => by simp
  | k + 1 => by rw [List.replicate_succ, List.flatten_cons, List.length_append, flat_lenV xs k, Nat.succ_mul]; omega
theorem RPs.append {K H κ} : ∀ {vs ws : List V} {ds es : List PD}, RPs K H κ vs ds → RPs K H κ ws es → RPs K H κ (vs ++ ws) (ds ++ es)
  | _, _, _, _, .nil, h => h
  | _, _, _, _, .cons r t, h => .cons r (RPs.append t h)
theorem RPs.ofS {K H κ} {vs : List V} {ds : List PD} (h : RSs K H κ vs (ds.map .d)) : RPs K H κ vs ds := RSs.toP' h
theorem RPs.rep {K H κ} {vs : List V} {ds : List PD} (h : RPs K H κ vs ds) : ∀ k : Nat, RPs K H κ (List.replicate k vs).flatten (List.replicate k ds).flatten
  | 0 => .nil
  | k + 1 => by rw [List.replicate_succ, List.replicate_succ, List.flatten_cons, List.flatten_cons]; exact RPs.append h (RPs.rep h k)
theorem RPs.cut' {K H κ} {vs : List V} {ds : List PD} (h : RPs K H κ vs ds) (lo hi : Option Int) : RPs K H κ (G.cut vs lo hi) (G.cut ds lo hi) := by
  have h1 := Pd.cut h.toS lo hi
  have e : G.cut (ds.map S.d) lo hi = (G.cut ds lo hi).map .d := by
    unfold G.cut
    rw [List.length_map, List.map_take, List.map_drop]
  rw [e] at h1
  exact RSs.toP' h1
theorem RPs.reverse {K H κ} {vs : List V} {ds : List PD} (h : RPs K H κ vs ds) : RPs K H κ vs.reverse ds.reverse := by
  have h1 := Pd.reverse h.toS
  rw [← List.map_reverse] at h1
  exact RSs.toP' h1
theorem nil_of_len {α : Type} {xs : List α} {β : Type} {ys : List β} (h : xs.length = ys.length) (e : ys = []) : xs = [] := by
  subst e
  exact List.eq_nil_of_length_eq_zero h
theorem ok_bin (o : Operator) : OpR X (binaryOp o) (r2 X.K (wBin o)) := by
  intro pins s σ H x y v u Q I rx ry h
  obtain ⟨κ, M, sx, sy, hm, h1, h2, h⟩ := h
  unfold wBin at h
  split at h
  · cases h1 with | d h1 => cases h1; cases h2 with | d h2 => cases h2; exact op_add pins s σ H _ _ v u Q I rx ry ⟨_, _, rfl, rfl, h.at (.d (.int _)) hm⟩
  · cases h1 with | d h1 => cases h1; cases h2 with | d h2 => cases h2; exact op_sub pins s σ H _ _ v u Q I rx ry ⟨_, _, rfl, rfl, h.at (.d (.int _)) hm⟩
  · obtain ⟨hc, h⟩ := h
    cases h1 with
    | d h1 =>
      cases h1
      cases h2 with
      | d h2 =>
        cases h2
        rcases hc with hc | hc
        · exact op_mul pins s σ H _ _ v u Q I rx ry ⟨_, _, rfl, rfl, hc, h.at (.d (.int _)) hm⟩
        · exact op_mulW pins s σ H _ _ v u Q I rx ry ⟨_, _, rfl, rfl, hc, h.at (.d (.int _)) hm⟩
  · obtain ⟨⟨h0, hc⟩, h⟩ := h
    cases h1 with
    | d h1 =>
      cases h1
      cases h2 with
      | d h2 =>
        cases h2
        rcases hc with hc | hc
        · exact op_fdiv pins s σ H _ _ v u Q I rx ry ⟨_, _, rfl, rfl, ⟨h0, hc⟩, h.at (.d (.int _)) hm⟩
        · exact op_fdivW pins s σ H _ _ v u Q I rx ry ⟨_, _, rfl, rfl, ⟨h0, hc⟩, h.at (.d (.int _)) hm⟩
  · obtain ⟨hc, h⟩ := h
    cases h1 with | d h1 => cases h1; cases h2 with | d h2 => cases h2; exact op_mod pins s σ H _ _ v u Q I rx ry ⟨_, _, rfl, rfl, hc, h.at (.d (.int _)) hm⟩
  · obtain ⟨hc, h⟩ := h
    cases h1 with | d h1 => cases h1; cases h2 with | d h2 => cases h2; exact op_pow pins s σ H _ _ v u Q I rx ry ⟨_, _, rfl, rfl, hc, h.at (.d (.int _)) hm⟩
  · obtain ⟨hc, h⟩ := h
    cases h1 with | d h1 => cases h1; cases h2 with | d h2 => cases h2; exact op_shl pins s σ H _ _ v u Q I rx ry ⟨_, _, rfl, rfl, hc, h.at (.d (.int _)) hm⟩
  · obtain ⟨hz, h⟩ := h
    cases h1 with
    | d h1 =>
      cases h1 with
      | tup t1 z1 r1 =>
        cases h2 with
        | d h2 =>
          cases h2 with
          | tup t2 z2 r2 =>
            refine op_catA pins s σ H _ _ v u Q I rx ry ⟨_, _, _, _, rfl, rfl, t1.sq, t2.sq, by rw [r1.length, r2.length]; exact hz, fun e => ?_, fun n e => ?_, fun n1 n2 p hp => ?_⟩
            · subst e
              cases r1
              exact h.at (.d (.tup t2 z2 r2)) hm
            · subst e
              cases r2
              rw [List.append_nil] at h
              exact h.at (.d (.tup t1 z1 r1)) hm
            · exact h.new hm hp (rp_tup hm hp (by rw [List.length_append, r1.length, r2.length]; exact hz) (r1.append r2))
  · obtain ⟨hz, h⟩ := h
    cases h1 with | d h1 => cases h1; cases h2 with | d h2 => cases h2; exact op_add_str pins s σ H _ _ v u Q I rx ry ⟨_, _, rfl, rfl, hz, h.at (.d (.str _)) hm⟩
  · rename_i xs j
    obtain ⟨⟨hne, hz, h0, h3⟩, h⟩ := h
    cases h1 with
    | d h1 =>
      cases h1 with
      | @tup a vs ds t1 z1 r1 =>
        cases h2 with
        | d h2 =>
          cases h2
          have hv : vs ≠ [] := fun e => hne (nil_of_len r1.length.symm e)
          by_cases hj : 2 ≤ j
          · refine op_repT pins s σ H _ _ v u Q I rx ry ⟨_, _, _, rfl, rfl, t1.sq, hv, hj, h3, by rw [r1.length]; exact hz, fun p hp => ?_⟩
            refine h.new hm hp (rp_tup hm hp ?_ (r1.rep _))
            rw [flat_lenV, r1.length, sizeLine_eq]
            have : j.toNat * xs.length ≤ 1000 * 1000 := Nat.mul_le_mul (by omega) hz
            omega
          · refine op_repZ pins s σ H _ _ v u Q I rx ry ⟨_, _, _, rfl, rfl, t1.1, hv, by omega, fun e => ?_, fun e p hp => ?_⟩
            · subst e
              have e2 : (List.replicate (Int.toNat 1) xs).flatten = xs := by simp
              rw [e2] at h
              exact h.at (.d (.tup t1 z1 r1)) hm
            · subst e
              have e2 : (List.replicate (Int.toNat 0) xs).flatten = [] := by simp
              rw [e2] at h
              exact h.new hm hp (rp_tup hm hp (Nat.zero_le _) .nil)
  · exact h.elim

/-! ### comparisons -/
theorem okD_plain {x : PD} (h : okD x = true) : x.plain = true := (Bool.and_eq_true_iff.mp h).1
theorem okD_depth {x : PD} (h : okD x = true) : x.depth ≤ 60 := of_decide_eq_true (Bool.and_eq_true_iff.mp h).2
theorem pd_reads {pins : List (Addr × Obj)} {σ : L2.St} {H : Hp} {s : Shared} {κ : Loc} {M : Mem} {x : V} {sx : S} {d : PD} {v : Value} (I : Inv X pins σ H s) (m : RM X.K H κ M) (h : RS X.K H κ x sx) (e : pd M sx = some d) (r : RelV x v) : ∃ as, Reads s.heap v d as := by
  cases h with
  | d h => cases e; exact h.reads I r
  | e _ _ _ => cases e
  | @l a k h =>
    cases r
    unfold pd at e
    dsimp only at e
    split at e
    · rename_i xs hx
      cases e1 : dataAll xs with
      | none => rw [e1] at e; cases e
      | some ds =>
        rw [e1] at e
        cases e
        obtain ⟨vs, ha, hz, rs⟩ := m.ob k a _ h hx
        obtain ⟨_, its, n, rv, eo⟩ := I.hok a _ ha
        obtain ⟨as, q⟩ := (rs.toP e1).reads I rv
        exact ⟨_, .list eo rfl rfl (by simpa using q)⟩
    · cases e
section
variable {pins : List (Addr × Obj)} {σ : L2.St} {H : Hp} {s : Shared} {κ : Loc} {M : Mem} {Q : VK} {b : Bool}
theorem fin_B (I : Inv X pins σ H s) (m : RM X.K H κ M) (h : Post X.K H κ Q (B b) M) : EP X pins σ Q (.bool b) s := ⟨.bl b, H, I, rfl, h.at (.d (.bl b)) m⟩
end
theorem ok_ord (hu : X.A.units + 100 < cLine) (o : CmpOp) (f : PD → PD → Bool) (g : Int → Int → Bool)
    (ho : OpR X (compareOp o) (rI0 fun i j => .bl (g i j)))
    (hd : ∀ {A : Around} {E : Value → Shared → Prop} {s : Shared} {a b : Value} {da db : PyData} {as bs : List Addr} {Q : Value → Shared → Prop}, Reads s.heap a da as → Reads s.heap b db bs → PySem.W.alike da db = true → da ≠ .none → A.units + min da.depth db.depth < cLine → Q (.bool (f da db)) s → wpAny (model X.prog X.w) A (compareOp o a b) Q E s) :
    OpR X (compareOp o) (r2 X.K (wOrd f g)) := by
  intro pins s σ H x y v u Q I rx ry h
  obtain ⟨κ, M, sx, sy, hm, h1, h2, h⟩ := h
  unfold wOrd at h
  split at h
  · cases h1 with | d h1 => cases h1; cases h2 with | d h2 => cases h2; exact ho pins s σ H _ _ v u Q I rx ry ⟨_, _, rfl, rfl, h.at (.d (.bl _)) hm⟩
  · obtain ⟨⟨k1, k2, k3⟩, h⟩ := h
    obtain ⟨as, q1⟩ := pd_reads I hm h1 rfl rx
    obtain ⟨bs, q2⟩ := pd_reads I hm h2 rfl ry
    have d1 := okD_depth k1
    exact hd q1 q2 k3 (fun z => nomatch z) (by omega) (fin_B I hm h)
  · exact h.elim
theorem ok_eq (hu : X.A.units + 100 < cLine) : OpR X (compareOp .Eq) (r2 X.K (wCmp .Eq)) := by
  intro pins s σ H x y v u Q I rx ry h
  obtain ⟨κ, M, sx, sy, hm, h1, h2, h⟩ := h
  unfold wCmp at h
  dsimp only at h
  split at h
  · rename_i a b ea eb
    obtain ⟨k1, k2, h⟩ := h
    obtain ⟨as, q1⟩ := pd_reads I hm h1 ea rx
    obtain ⟨bs, q2⟩ := pd_reads I hm h2 eb ry
    have d1 := okD_depth k1
    exact PySem.SeqAt.eq_plain q1 q2 (okD_plain k1) (okD_plain k2) (by omega) (fin_B I hm h)
  · exact h.elim
theorem ok_ne (hu : X.A.units + 100 < cLine) : OpR X (compareOp .NotEq) (r2 X.K (wCmp .NotEq)) := by
  intro pins s σ H x y v u Q I rx ry h
  obtain ⟨κ, M, sx, sy, hm, h1, h2, h⟩ := h
  unfold wCmp at h
  dsimp only at h
  split at h
  · rename_i a b ea eb
    obtain ⟨k1, k2, h⟩ := h
    obtain ⟨as, q1⟩ := pd_reads I hm h1 ea rx
    obtain ⟨bs, q2⟩ := pd_reads I hm h2 eb ry
    have d1 := okD_depth k1
    exact PySem.SeqAt.ne_plain q1 q2 (okD_plain k1) (okD_plain k2) (by omega) (fin_B I hm h)
  · exact h.elim
theorem plainAll_of {xs : List PD} (h : okD (.list xs) = true) : PyData.plainAll xs = true := by
  have := okD_plain h
  simpa [PyData.plain] using this
theorem plainAll_of' {xs : List PD} (h : okD (.tuple xs) = true) : PyData.plainAll xs = true := by
  have := okD_plain h
  simpa [PyData.plain] using this
theorem ok_in (hu : X.A.units + 100 < cLine) : OpR X (compareOp .In) (r2 X.K (wCmp .In)) := by
  intro pins s σ H x y v u Q I rx ry h
  obtain ⟨κ, M, sx, sy, hm, h1, h2, h⟩ := h
  unfold wCmp at h
  dsimp only at h
  split at h
  · rename_i a b ea eb
    obtain ⟨as, q1⟩ := pd_reads I hm h1 ea rx
    obtain ⟨bs, q2⟩ := pd_reads I hm h2 eb ry
    unfold wIn at h
    split at h
    · rename_i h3 h4
      cases h3; cases h4
      obtain ⟨⟨k1, k2⟩, h⟩ := h
      have d1 := okD_depth k1
      exact PySem.SeqAt.in_list_data q2 q1 (plainAll_of k2) (okD_plain k1) (by omega) (fin_B I hm h)
    · rename_i h3 h4
      cases h3; cases h4
      obtain ⟨⟨k1, k2⟩, h⟩ := h
      have d1 := okD_depth k1
      exact PySem.SeqAt.in_tuple_data q2 q1 (plainAll_of' k2) (okD_plain k1) (by omega) (fin_B I hm h)
    · exact h.elim
  · exact h.elim
theorem ok_nin (hu : X.A.units + 100 < cLine) : OpR X (compareOp .NotIn) (r2 X.K (wCmp .NotIn)) := by
  intro pins s σ H x y v u Q I rx ry h
  obtain ⟨κ, M, sx, sy, hm, h1, h2, h⟩ := h
  unfold wCmp at h
  dsimp only at h
  split at h
  · rename_i a b ea eb
    obtain ⟨as, q1⟩ := pd_reads I hm h1 ea rx
    obtain ⟨bs, q2⟩ := pd_reads I hm h2 eb ry
    unfold wIn at h
    split at h
    · rename_i h3 h4
      cases h3; cases h4
      obtain ⟨⟨k1, k2⟩, h⟩ := h
      have d1 := okD_depth k1
      exact PySem.SeqAt.notIn_list_data q2 q1 (plainAll_of k2) (okD_plain k1) (by omega) (fin_B I hm h)
    · rename_i h3 h4
      cases h3; cases h4
      obtain ⟨⟨k1, k2⟩, h⟩ := h
      have d1 := okD_depth k1
      exact PySem.SeqAt.notIn_tuple_data q2 q1 (plainAll_of' k2) (okD_plain k1) (by omega) (fin_B I hm h)
    · exact h.elim
  · exact h.elim
theorem bool_dec (a b : Bool) : decide (a = b) = (a == b) := by cases a <;> cases b <;> rfl
theorem ok_is : OpR X (compareOp .Is) (r2 X.K (wCmp .Is)) := by
  intro pins s σ H x y v u Q I rx ry h
  obtain ⟨κ, M, sx, sy, hm, h1, h2, h⟩ := h
  unfold wCmp at h
  dsimp only at h
  split at h
  case h_2 =>
    cases h1 with | d h1 => cases h1; cases h2 with | d h2 => cases h2; exact op_is_bl pins s σ H _ _ v u Q I rx ry ⟨_, _, rfl, rfl, by rw [bool_dec]; exact h.at (.d (.bl _)) hm⟩
  case h_9 => exact h.elim
  all_goals
    cases h2 with
    | d h2 =>
      cases h2
      refine op_isN pins s σ H _ _ v u Q I rx ry ⟨rfl, ?_⟩
      first
        | (cases h1 with | d h1 => cases h1; exact h.at (.d (.bl _)) hm)
        | (cases h1 with | l h1 => exact h.at (.d (.bl _)) hm)
theorem ok_isn : OpR X (compareOp .IsNot) (r2 X.K (wCmp .IsNot)) := by
  intro pins s σ H x y v u Q I rx ry h
  obtain ⟨κ, M, sx, sy, hm, h1, h2, h⟩ := h
  unfold wCmp at h
  dsimp only at h
  split at h
  case h_2 =>
    cases h1 with | d h1 => cases h1; cases h2 with | d h2 => cases h2; exact op_isnot_bl pins s σ H _ _ v u Q I rx ry ⟨_, _, rfl, rfl, by rw [bool_dec]; exact h.at (.d (.bl _)) hm⟩
  case h_9 => exact h.elim
  all_goals
    cases h2 with
    | d h2 =>
      cases h2
      refine op_notN pins s σ H _ _ v u Q I rx ry ⟨rfl, ?_⟩
      first
        | (cases h1 with | d h1 => cases h1; exact h.at (.d (.bl _)) hm)
        | (cases h1 with | l h1 => exact h.at (.d (.bl _)) hm)
theorem ok_cmp (hu : X.A.units + 100 < cLine) (o : CmpOp) : OpR X (compareOp o) (r2 X.K (wCmp o)) := by
  cases o with
  | Eq => exact ok_eq hu
  | NotEq => exact ok_ne hu
  | Lt => exact ok_ord hu .Lt _ _ op_lt PySem.W.lt_data
  | LtE => exact ok_ord hu .LtE _ _ op_le PySem.W.le_data
  | Gt => exact ok_ord hu .Gt _ _ op_gt PySem.W.gt_data
  | GtE => exact ok_ord hu .GtE _ _ op_ge PySem.W.ge_data
  | Is => exact ok_is
  | IsNot => exact ok_isn
  | In => exact ok_in hu
  | NotIn => exact ok_nin hu
end
end G

/-! Layer G, part 3c: built-in functions, subscripts, slices, methods keep what their primitives say. -/
namespace G
open PySem L2 PySem.Spec PyProof.Rows
section
variable {X : Cx} {pins : List (Addr × Obj)} {σ : L2.St} {H : Hp} {s : Shared} {κ : Loc} {M : Mem} {Q : VK}
/-- the items of a list or tuple, as they stand -/
theorem items_at {K : PySem.W.Frag} (m : RM K H κ M) {x : V} {sx : S} {xs : List S} (h : RS K H κ x sx) (e : items M sx = some xs) :
    ∃ a vs, x = .ref a ∧ vs.length ≤ sizeLine ∧ RSs K H κ vs xs ∧ (SqL K H a vs ∨ SqT K H a vs) ∧ ((∃ k, sx = .l k ∧ κ.at_[k]? = some a ∧ H a = some (.lst vs)) ∨ (∃ d, sx = .d d)) := by
  unfold items at e
  split at e
  · cases e
    cases h with
    | d h =>
      cases h with
      | lst h z r => exact ⟨_, _, rfl, z, r.toS, .inl h.sq, .inr ⟨_, rfl⟩⟩
  · cases e
    cases h with
    | d h =>
      cases h with
      | tup h z r => exact ⟨_, _, rfl, z, r.toS, .inr h.sq, .inr ⟨_, rfl⟩⟩
  · split at e
    · rename_i hk
      cases e
      cases h with
      | l h =>
        obtain ⟨vs, ha, z, r⟩ := m.ob _ _ _ h hk
        exact ⟨_, vs, rfl, z, r, .inl (SqL.of ha), .inl ⟨_, rfl, h, ha⟩⟩
    · cases e
  · cases e
theorem RPs.ints {K : PySem.W.Frag} : ∀ {vs : List V} {ns : List Int}, RPs K H κ vs (ns.map .int) → vs = ns.map V.int
  | _, [], .nil => rfl
  | _, n :: ns, .cons h t => by
    cases h
    rw [List.map_cons, RPs.ints t]
theorem ints_S {ns : List Int} : ns.map I = (ns.map PyData.int).map .d := by rw [List.map_map]; rfl
theorem bools_S {ns : List Bool} : ns.map B = (ns.map PyData.bool).map .d := by rw [List.map_map]; rfl
theorem truthy_bools (bs : List Bool) : (bs.map PyData.bool).all PyData.truthy = bs.all id ∧ (bs.map PyData.bool).any PyData.truthy = bs.any id := by
  induction bs with
  | nil => exact ⟨rfl, rfl⟩
  | cons b r ih =>
    rw [List.map_cons, List.all_cons, List.any_cons, List.all_cons, List.any_cons, ih.1, ih.2]
    exact ⟨rfl, rfl⟩
theorem plain_bools : ∀ bs : List Bool, PyData.plainAll (bs.map PyData.bool) = true
  | [] => rfl
  | b :: r => by simp [PyData.plainAll, PyData.plain, plain_bools r]
theorem fits_bools (bs : List Bool) : ∀ x ∈ bs.map PyData.bool, x.fits63 := by
  intro x hx
  obtain ⟨b, _, rfl⟩ := List.mem_map.mp hx
  trivial

theorem tru_at {K : PySem.W.Frag} (m : RM K H κ M) {x : V} {sx : S} {k : Bool} (h : RS K H κ x sx) (e : truth M sx = some k) : TruV K x H k := by
  unfold truth at e
  split at e
  · cases e; cases h with | d h => cases h; rfl
  · cases e; cases h with | d h => cases h; rfl
  · cases e; cases h with | d h => cases h; rfl
  · cases e
    cases h with
    | d h =>
      cases h with
      | lst h z r => exact .inl ⟨_, h.sq, by cases r <;> rfl⟩
  · cases e
    cases h with
    | d h =>
      cases h with
      | tup h z r => exact .inr (.inl ⟨_, h.sq, by cases r <;> rfl⟩)
  · split at e
    · rename_i hk
      cases e
      cases h with
      | l h =>
        obtain ⟨vs, ha, z, r⟩ := m.ob _ _ _ h hk
        exact .inl ⟨_, SqL.of ha, by cases r <;> rfl⟩
    · cases e
  · cases e
theorem vals_ref1 {a : Addr} {us : List Value} (r : Vals [V.ref a] us) : us = [Value.ref a] := Vals.ref1 r
/-- a built-in that looks at a list or tuple of plain data -/
theorem data_at (I : Inv X pins σ H s) (m : RM X.K H κ M) {x : V} {sx : S} {ds : List PD} (h : RS X.K H κ x sx) (e : items M sx = some (ds.map .d)) :
    ∃ a its as, x = .ref a ∧ its.length = ds.length ∧ ReadsAll s.heap its ds as ∧ (∀ (i : Nat) (d : PD), ds[i]? = some d → ∃ (v : V) (u : Value), its[i]? = some u ∧ RelV v u ∧ RP X.K H κ v d) ∧ (PlainL s.heap a its.toArray ∨ IsTup s.heap a its.toArray) := by
  obtain ⟨a, vs, rfl, z, r, h1, _⟩ := items_at m h e
  have rp := RSs.toP' r
  have fin : ∀ its : List Value, Vals vs its → (∀ (i : Nat) (d : PD), ds[i]? = some d → ∃ (v : V) (u : Value), its[i]? = some u ∧ RelV v u ∧ RP X.K H κ v d) := fun its rv i d hd => by
    obtain ⟨v, hv, q⟩ := rp.get' hd
    obtain ⟨u, hu, ru⟩ := rv.get hv
    exact ⟨v, u, hu, ru, q⟩
  rcases h1 with h1 | h1
  · obtain ⟨its, rv, p, _⟩ := I.list h1
    obtain ⟨as, q⟩ := rp.reads I rv
    exact ⟨a, its, as, rfl, by rw [← rv.length, rp.length], q, fin its rv, .inl p⟩
  · obtain ⟨its, rv, p, _⟩ := I.tuple h1
    obtain ⟨as, q⟩ := rp.reads I rv
    exact ⟨a, its, as, rfl, by rw [← rv.length, rp.length], q, fin its rv, .inr p⟩
theorem ints_are : ∀ {ns : List Int} {us : List Value} {as : List Addr} {h : Heap}, ReadsAll h us (ns.map .int) as → IntsAre us ns
  | [], _, _, _, .nil => .nil
  | n :: ns, _, _, _, .cons r t => by
    cases r
    exact .cons _ _ (ints_are t)
theorem depthAll_le {xs : List PD} (h : okD (.list xs) = true) : PyData.depthAll xs ≤ 59 := by
  have := okD_depth h
  simp only [PyData.depth] at this
  omega
theorem rlen {h : Heap} : ∀ {us : List Value} {ds : List PD} {as : List Addr}, ReadsAll h us ds as → us.length = ds.length
  | _, _, _, .nil => rfl
  | _, _, _, .cons _ t => by rw [List.length_cons, List.length_cons, rlen t]
theorem plain_mem' : ∀ {xs : List PD}, PyData.plainAll xs = true → ∀ x ∈ xs, x.plain = true
  | y :: ys, h, x, hx => by
    rw [PyData.plainAll, Bool.and_eq_true] at h
    rcases List.mem_cons.mp hx with rfl | hx
    · exact h.1
    · exact plain_mem' h.2 x hx
theorem best_rp (I : Inv X pins σ H s) {h' : Heap} (k : ∀ b o, s.heap.get? b = some o → h'.get? b = some o) {y : PD} {ys : List PD} {its : List Value} {as : List Addr} (hp : PyData.plainAll (y :: ys) = true) (ra : ReadsAll s.heap its (y :: ys) as)
    (hg : ∀ (i : Nat) (d : PD), (y :: ys)[i]? = some d → ∃ (v : V) (u : Value), its[i]? = some u ∧ RelV v u ∧ RP X.K H κ v d) {i : Nat} {u : Value} {m : PD} {bs : List Addr} (hi : its[i]? = some u) (r : Reads h' u m bs) : ∃ v, RelV v u ∧ RP X.K H κ v m := by
  have hl : its.length = (y :: ys).length := rlen ra
  have hi2 : i < (y :: ys).length := by rw [← hl]; exact (List.getElem?_eq_some_iff.mp hi).1
  obtain ⟨v, u', hu, ru, rp⟩ := hg i _ (List.getElem?_eq_getElem hi2)
  rw [hi] at hu
  cases hu
  obtain ⟨cs, q⟩ := rp.reads I ru
  have e := PySem.SeqAt.plain_unique _ m u cs bs (plain_mem' hp _ (List.getElem_mem hi2)) (Reads.keeps k q) r
  rw [← e] at *
  exact ⟨v, ru, rp⟩
end
end G

/-! Layer G, part 3d: the built-in functions of one argument, isinstance. -/
namespace G
open PySem L2 PySem.Spec PyProof.Rows
section
variable {X : Cx}
theorem ok_len : CallR X (.builtin "len") (r1 X.K (wB1 .len)) := by
  intro pins s σ H vs us Q I rv h
  obtain ⟨κ, M, x, sx, rfl, hm, h1, xs, e, h⟩ := h
  obtain ⟨a, vs, rfl, z, r, hs, _⟩ := items_at hm h1 e
  refine call_len pins s σ H _ us Q I rv ⟨_, vs.length, rfl, ?_, ?_⟩
  · rcases hs with hs | hs
    · exact .inl ⟨_, hs, rfl⟩
    · exact .inr ⟨_, hs, rfl⟩
  · rw [r.length]
    exact h.at (.d (.int _)) hm
theorem ok_tuple : CallR X (.type "tuple") (r1 X.K (wB1 .tuple)) := by
  intro pins s σ H vs us Q I rv h
  obtain ⟨κ, M, x, sx, rfl, hm, h1, h⟩ := h
  dsimp only [wB1] at h
  split at h
  · cases h1 with
    | d h1 =>
      cases h1 with
      | tup t z r => exact call_tuple_of pins s σ H _ us Q I rv ⟨_, _, rfl, .inr ⟨t.sq, h.at (.d (.tup t z r)) hm⟩⟩
  · cases h1 with
    | d h1 =>
      cases h1 with
      | lst t z r => exact call_tuple_of pins s σ H _ us Q I rv ⟨_, _, rfl, .inl ⟨t.sq, fun l hl => h.new hm hl (rp_tup hm hl z r)⟩⟩
  · obtain ⟨xs, hk, h⟩ := h
    cases h1 with
    | l h1 =>
      obtain ⟨ws, ha, z, r⟩ := hm.ob _ _ _ h1 hk
      exact call_tuple_of pins s σ H _ us Q I rv ⟨_, _, rfl, .inl ⟨SqL.of ha, fun l hl => h.new hm hl (rp_tup hm hl z (RSs.toP' r))⟩⟩
  · exact h.elim
theorem ok_list : CallR X (.type "list") (r1 X.K (wB1 .list)) := by
  intro pins s σ H vs us Q I rv h
  obtain ⟨κ, M, x, sx, rfl, hm, h1, xs, e, h⟩ := h
  obtain ⟨a, vs, rfl, z, r, hs, _⟩ := items_at hm h1 e
  exact call_list_of pins s σ H _ us Q I rv ⟨_, _, rfl, hs, fun l hl => h.new hm hl (rp_lst hm hl z (RSs.toP' r))⟩
theorem ok_int : CallR X (.type "int") (r1 X.K (wB1 .int)) := by
  intro pins s σ H vs us Q I rv h
  obtain ⟨κ, M, x, sx, rfl, hm, h1, h⟩ := h
  dsimp only [wB1] at h
  split at h
  · cases h1 with | d h1 => cases h1; exact call_int1 pins s σ H _ us Q I rv (.inl ⟨_, rfl, h.at (.d (.int _)) hm⟩)
  · cases h1 with | d h1 => cases h1; exact call_int1 pins s σ H _ us Q I rv (.inr ⟨_, rfl, h.at (.d (.int _)) hm⟩)
  · exact h.elim
theorem ok_bool : CallR X (.type "bool") (r1 X.K (wB1 .bool)) := by
  intro pins s σ H vs us Q I rv h
  obtain ⟨κ, M, x, sx, rfl, hm, h1, h⟩ := h
  dsimp only [wB1] at h
  split at h
  · cases h1 with | d h1 => cases h1; exact call_bool1 pins s σ H _ us Q I rv (.inl ⟨_, rfl, h.at (.d (.bl _)) hm⟩)
  · cases h1 with | d h1 => cases h1; exact call_bool1 pins s σ H _ us Q I rv (.inr ⟨_, rfl, h.at (.d (.bl _)) hm⟩)
  · exact h.elim
theorem ok_str : CallR X (.type "str") (r1 X.K (wB1 .str)) := by
  intro pins s σ H vs us Q I rv h
  obtain ⟨κ, M, x, sx, rfl, hm, h1, h⟩ := h
  dsimp only [wB1] at h
  split at h
  · cases h1 with | d h1 => cases h1; exact call_str_int pins s σ H _ us Q I rv ⟨_, rfl, h.1, h.2.at (.d (.str _)) hm⟩
  · exact h.elim
theorem ok_abs : CallR X (.builtin "abs") (r1 X.K (wB1 .abs)) := by
  intro pins s σ H vs us Q I rv h
  obtain ⟨κ, M, x, sx, rfl, hm, h1, h⟩ := h
  dsimp only [wB1] at h
  split at h
  · cases h1 with | d h1 => cases h1; exact call_abs pins s σ H _ us Q I rv ⟨_, rfl, h.at (.d (.int _)) hm⟩
  · exact h.elim
theorem ok_sum (hc : X.calm = true) : CallR X (.builtin "sum") (r1 X.K (wB1 .sum)) := by
  intro pins s σ H vs us Q I rv h
  obtain ⟨κ, M, x, sx, rfl, hm, h1, ns, e, h⟩ := h
  rw [ints_S] at e
  obtain ⟨a, its, as, rfl, hl, ra, hg, hp⟩ := data_at I hm h1 e
  rw [vals_ref1 rv]
  have hi := ints_are ra
  rcases hp with hp | hp
  · exact sum_raw (I.ok.hd hc) hp.isList hi fun h' tk t' hk => ⟨.int _, H, I.kept hk, ⟨_, rfl⟩, h.at (.d (.int _)) hm⟩
  · obtain ⟨xs, e1⟩ := hi.allInts.items
    have hn : numsOf (intItems xs).toList = ns := by rw [← e1]; exact hi.numsOf
    rw [nums_intItems] at hn
    have hp' : s.heap.IsTuple a (intItems xs) := by rw [← e1]; exact hp
    refine PySem.W.ktm_sumG (I.ok.hd hc) hp' fun h' tk t' hk => ?_
    rw [preSum_eq, List.take_of_length_le (by simp), hn]
    exact ⟨.int _, H, I.kept hk, ⟨_, rfl⟩, h.at (.d (.int _)) hm⟩
theorem ok_all (hc : X.calm = true) : CallR X (.builtin "all") (r1 X.K (wB1 .all)) := by
  intro pins s σ H vs us Q I rv h
  obtain ⟨κ, M, x, sx, rfl, hm, h1, bs, e, h⟩ := h
  rw [bools_S] at e
  obtain ⟨a, its, as, rfl, hl, ra, hg, hp⟩ := data_at I hm h1 e
  rw [vals_ref1 rv]
  rcases hp with hp | hp
  · refine PySem.W.all_list_data (I.ok.hd hc) hp.isList (by simpa using ra) (plain_bools bs) (fits_bools bs) fun h' tk hk => ?_
    rw [(truthy_bools bs).1]
    exact ⟨.bl _, H, I.kept hk, rfl, h.at (.d (.bl _)) hm⟩
  · refine PySem.W.all_tuple_data (I.ok.hd hc) hp (by simpa using ra) (plain_bools bs) (fits_bools bs) fun h' tk hk => ?_
    rw [(truthy_bools bs).1]
    exact ⟨.bl _, H, I.kept hk, rfl, h.at (.d (.bl _)) hm⟩
theorem ok_any (hc : X.calm = true) : CallR X (.builtin "any") (r1 X.K (wB1 .any)) := by
  intro pins s σ H vs us Q I rv h
  obtain ⟨κ, M, x, sx, rfl, hm, h1, bs, e, h⟩ := h
  rw [bools_S] at e
  obtain ⟨a, its, as, rfl, hl, ra, hg, hp⟩ := data_at I hm h1 e
  rw [vals_ref1 rv]
  rcases hp with hp | hp
  · refine PySem.W.any_list_data (I.ok.hd hc) hp.isList (by simpa using ra) (plain_bools bs) (fits_bools bs) fun h' tk hk => ?_
    rw [(truthy_bools bs).2]
    exact ⟨.bl _, H, I.kept hk, rfl, h.at (.d (.bl _)) hm⟩
  · refine PySem.W.any_tuple_data (I.ok.hd hc) hp (by simpa using ra) (plain_bools bs) (fits_bools bs) fun h' tk hk => ?_
    rw [(truthy_bools bs).2]
    exact ⟨.bl _, H, I.kept hk, rfl, h.at (.d (.bl _)) hm⟩
theorem ok_max (hc : X.calm = true) (hu : X.A.units + 100 < cLine) : CallR X (.builtin "max") (r1 X.K (wB1 .max)) := by
  intro pins s σ H vs us Q I rv h
  obtain ⟨κ, M, x, sx, rfl, hm, h1, y, ys, e, ⟨k1, k2⟩, h⟩ := h
  obtain ⟨a, its, as, rfl, hl, ra, hg, hp⟩ := data_at I hm h1 e
  rw [vals_ref1 rv]
  have d1 := depthAll_le k1
  rcases hp with hp | hp
  · refine PySem.W.max_list_data (I.ok.hd hc) hp.isList (by simpa using ra) k2 (by omega) fun i v h' tk bs hv r hk => ?_
    obtain ⟨w, rw', rp⟩ := best_rp I hk (plainAll_of k1) ra hg (by simpa using hv) r
    exact ⟨w, H, I.kept hk, rw', h.at (.d rp) hm⟩
  · refine PySem.W.max_tuple_data (I.ok.hd hc) hp (by simpa using ra) k2 (by omega) fun i v h' tk bs hv r hk => ?_
    obtain ⟨w, rw', rp⟩ := best_rp I hk (plainAll_of k1) ra hg (by simpa using hv) r
    exact ⟨w, H, I.kept hk, rw', h.at (.d rp) hm⟩
theorem ok_min (hc : X.calm = true) (hu : X.A.units + 100 < cLine) : CallR X (.builtin "min") (r1 X.K (wB1 .min)) := by
  intro pins s σ H vs us Q I rv h
  obtain ⟨κ, M, x, sx, rfl, hm, h1, y, ys, e, ⟨k1, k2⟩, h⟩ := h
  obtain ⟨a, its, as, rfl, hl, ra, hg, hp⟩ := data_at I hm h1 e
  rw [vals_ref1 rv]
  have d1 := depthAll_le k1
  rcases hp with hp | hp
  · refine PySem.W.min_list_data (I.ok.hd hc) hp.isList (by simpa using ra) k2 (by omega) fun i v h' tk bs hv r hk => ?_
    obtain ⟨w, rw', rp⟩ := best_rp I hk (plainAll_of k1) ra hg (by simpa using hv) r
    exact ⟨w, H, I.kept hk, rw', h.at (.d rp) hm⟩
  · refine PySem.W.min_tuple_data (I.ok.hd hc) hp (by simpa using ra) k2 (by omega) fun i v h' tk bs hv r hk => ?_
    obtain ⟨w, rw', rp⟩ := best_rp I hk (plainAll_of k1) ra hg (by simpa using hv) r
    exact ⟨w, H, I.kept hk, rw', h.at (.d rp) hm⟩
theorem ok_repr (hu : X.A.units + 100 < cLine) (hg : X.A.guards = some []) : CallR X (.builtin "repr") (r1 X.K (wB1 .repr)) := by
  intro pins s σ H vs us Q I rv h
  obtain ⟨κ, M, x, sx, rfl, hm, h1, a, e, ⟨k0, k1, k2, k3⟩, h⟩ := h
  obtain ⟨u, rfl, ru⟩ := vals1 rv
  obtain ⟨as, r⟩ := pd_reads I hm h1 e ru
  have fin : ∀ h' t tk, (∀ b o, s.heap.get? b = some o → h'.get? b = some o) → EP X pins σ Q (.str a.shown t) { s with heap := h', toks := tk } := fun h' t tk k => ⟨.str _, H, I.kept k, ⟨_, rfl⟩, h.at (.d (.str _)) hm⟩
  have hs : a.hasDict = true → sysModules ∉ as := by
    intro hd
    rcases k0 with k0 | k0
    · rw [k0] at hd; cases hd
    · subst k0
      cases h1 with
      | d h1 =>
        cases e
        cases h1 with
        | dct ha ho =>
          cases ru
          obtain ⟨_, hsm, vs, kv, ob, es, ep, eo, ex, d, ko, pr, _⟩ := I.hok _ _ ha
          cases kv
          have e0 : es.toList = [] := by
            cases q : es.toList with
            | nil => rfl
            | cons x r => rw [q] at pr; cases pr
          cases r with
          | dict h1' h2' h3' h4' h5' =>
            rw [eo] at h1'
            cases h1'
            rw [d] at h3'
            cases h3'
            rw [e0] at h4' h5'
            cases h4'
            cases h5'
            intro z
            simp only [List.append_nil, List.mem_singleton] at z
            subst z; simp at hsm
      | e _ _ _ => cases e
      | l h1 =>
        unfold pd at e
        dsimp only at e
        split at e
        · rename_i xs _
          cases q : dataAll xs with
          | none => rw [q] at e; cases e
          | some ds => rw [q] at e; cases e
        · cases e
  cases r with
  | none => exact P.repr_of_none (fin s.heap _ _ fun _ _ z => z)
  | bool b =>
    cases b <;> exact P.repr_of_bool (fin s.heap _ _ fun _ _ z => z)
  | int i t => exact P.repr_of_int (by simpa [PyData.showable] using k1) (fin s.heap _ _ fun _ _ z => z)
  | str z t => exact P.repr_of_str (fin s.heap _ _ fun _ _ z => z) k2
  | list q1 q2 q3 q4 => exact repr_of_reads' (.list q1 q2 q3 q4) k1 hs hg (by omega) (fun _ _ z => z) fin k2
  | tuple q1 q2 q3 q4 => exact repr_of_reads' (.tuple q1 q2 q3 q4) k1 hs hg (by omega) (fun _ _ z => z) fin k2
  | dict q1 q2 q3 q4 q5 => exact repr_of_reads' (.dict q1 q2 q3 q4 q5) k1 hs hg (by omega) (fun _ _ z => z) fin k2
end
end G

/-! Layer G, part 3e: isinstance; max and min of two; subscripts; slices; methods. -/
namespace G
open PySem L2 PySem.Spec PyProof.Rows
def six : List String := ["int", "bool", "str", "list", "tuple", "dict"]
section
variable {X : Cx} {K : PySem.W.Frag} {H : Hp} {κ : Loc} {M : Mem}
theorem Rd.lstTy {a : Addr} {xs : List V} (h : Rd H a (.lst xs)) : TyX K H (.ref a) (.type "list") := by
  rcases h with h | ⟨o, h⟩
  · exact .base (.lst h)
  · exact .base (.frz h)
theorem Rd.tupTy {a : Addr} {xs : List V} (h : Rd H a (.tup xs)) : TyX K H (.ref a) (.type "tuple") := by
  rcases h with h | ⟨o, h⟩
  · exact .base (.tup h)
  · exact .fTuple h
theorem kit_six (n : String) (f : String → Bool) (h : six.all (fun t => kitB n t == some (f t)) = true) {t : String} (ht : t ∈ six) : kitB n t = some (f t) := by
  have := List.all_eq_true.mp h t ht
  simpa using this
theorem ty_at (m : RM K H κ M) {x : V} {s : S} (h : RS K H κ x s) (ne : ∃ t b, isTyS M t s = some b) : ∃ n, TyX K H x (.type n) ∧ ∀ t b, t ∈ six → isTyS M t s = some b → kitB n t = some b := by
  have k1 : ∀ (n : String) (f : String → Bool), six.all (fun t => kitB n t == some (f t)) = true → ∀ t b, t ∈ six → some (f t) = some b → kitB n t = some b := fun n f hf t b ht e => by
    rw [kit_six n f hf ht]; exact e
  cases h with
  | d h =>
    cases h with
    | non => exact ⟨_, .base .non, fun t b ht e => k1 "NoneType" (fun t => isTy t .none) (by decide +kernel) t b ht e⟩
    | bl y => exact ⟨_, .base (.bl y), fun t b ht e => k1 "bool" (fun t => isTy t (.bool y)) (by cases y <;> decide +kernel) t b ht e⟩
    | int i =>
      refine ⟨_, .base (.int i), fun t b ht e => k1 "int" (fun t => isTy t (.int 0)) (by decide +kernel) t b ht (e.symm ▸ ?_)⟩
      simp only [six, List.mem_cons, List.not_mem_nil, or_false] at ht
      rcases ht with rfl | rfl | rfl | rfl | rfl | rfl <;> rfl
    | str y =>
      refine ⟨_, .base (.str y), fun t b ht e => k1 "str" (fun t => isTy t (.str ⟨#[]⟩)) (by decide +kernel) t b ht (e.symm ▸ ?_)⟩
      simp only [six, List.mem_cons, List.not_mem_nil, or_false] at ht
      rcases ht with rfl | rfl | rfl | rfl | rfl | rfl <;> rfl
    | lst q z r =>
      refine ⟨_, ?_, fun t b ht e => k1 "list" (fun t => isTy t (.list [])) (by decide +kernel) t b ht (e.symm ▸ ?_)⟩
      · rcases q with ⟨q, _⟩ | ⟨its, n, q, _⟩
        · exact Rd.lstTy q
        · exact .kList q rfl
      simp only [six, List.mem_cons, List.not_mem_nil, or_false] at ht
      rcases ht with rfl | rfl | rfl | rfl | rfl | rfl <;> rfl
    | tup q z r =>
      refine ⟨_, Rd.tupTy q.1, fun t b ht e => k1 "tuple" (fun t => isTy t (.tuple [])) (by decide +kernel) t b ht (e.symm ▸ ?_)⟩
      simp only [six, List.mem_cons, List.not_mem_nil, or_false] at ht
      rcases ht with rfl | rfl | rfl | rfl | rfl | rfl <;> rfl
    | dct q o =>
      exact ⟨_, .base (.dK q), fun t b ht e => k1 "dict" (fun t => isTy t (.dict [])) (by decide +kernel) t b ht e⟩
  | e h o r =>
    obtain ⟨t, b, z⟩ := ne
    cases z
  | @l a k h =>
    cases hM : M[k]? with
    | none =>
      have h1 := (List.getElem?_eq_some_iff.mp h).1
      rw [m.len] at h1
      rw [List.getElem?_eq_getElem h1] at hM
      cases hM
    | some o =>
      cases o with
      | lst xs =>
        obtain ⟨vs, ha, _⟩ := m.ob k a _ h hM
        refine ⟨_, .base (.lst ha), fun t b ht e => k1 "list" (fun t => t == "list") (by decide +kernel) t b ht ?_⟩
        unfold isTyS at e
        dsimp only at e
        rw [hM] at e
        exact e
      | dct kvs =>
        refine ⟨"dict", ?_, fun t b ht e => k1 "dict" (fun t => t == "dict") (by decide +kernel) t b ht ?_⟩
        · rcases m.ob k a _ h hM with ⟨kv, ha, _⟩ | ⟨kv, ha, _⟩
          · exact .base (.dK ha)
          · exact .base (.dT ha)
        · unfold isTyS at e
          dsimp only at e
          rw [hM] at e
          exact e
theorem kit_any {n : String} : ∀ {ts : List String} {bs : List Bool}, (List.mapM (fun t => (if t ∈ six then kitB n t else none)) ts) = some bs → PySem.W.kitAny K (.type n) (ts.map Value.type) = some (bs.any id)
  | [], bs, h => by
    simp at h
    subst h
    rfl
  | t :: ts, bs, h => by
    rw [List.mapM_cons] at h
    by_cases ht : t ∈ six
    · rw [if_pos ht] at h
      cases hk : kitB n t with
      | none => rw [hk] at h; cases h
      | some b =>
        rw [hk] at h
        cases hr : List.mapM (fun t => (if t ∈ six then kitB n t else none)) ts with
        | none => rw [hr] at h; cases h
        | some cs =>
          rw [hr] at h
          cases h
          have ih := kit_any hr
          rw [List.map_cons, List.any_cons]
          cases b with
          | true => exact kitAny_cons (kit_ty hk) (fun z => by cases z) fun _ => rfl
          | false => exact kitAny_cons (kit_ty hk) (fun _ => ih) fun z => by cases z
    · rw [if_neg ht] at h
      cases h
theorem clsTys (ts : List String) : Paired ClsV (ts.map V.ty) (ts.map Value.type) := by
  induction ts with
  | nil => exact .nil
  | cons t r ih => exact .cons (.ty t) ih
theorem mapM_six {M : Mem} {n : String} {s : S} (h : ∀ t b, t ∈ six → isTyS M t s = some b → kitB n t = some b) : ∀ {ts : List String} {bs : List Bool}, (∀ t ∈ ts, t ∈ six) → ts.mapM (fun t => isTyS M t s) = some bs → List.mapM (fun t => (if t ∈ six then kitB n t else none)) ts = some bs
  | [], bs, _, e => by simpa using e
  | t :: ts, bs, hs, e => by
    rw [List.mapM_cons] at e ⊢
    rw [if_pos (hs t List.mem_cons_self)]
    cases hk : isTyS M t s with
    | none => rw [hk] at e; cases e
    | some b =>
      rw [hk] at e
      rw [h t b (hs t List.mem_cons_self) hk]
      cases hr : ts.mapM (fun t => isTyS M t s) with
      | none => rw [hr] at e; cases e
      | some cs =>
        rw [hr] at e
        cases e
        rw [mapM_six h (fun t ht => hs t (List.mem_cons_of_mem _ ht)) hr]
        rfl
/-! ### isinstance: one class, a tuple of classes -/
def wIsI (ts : List String) (x : S) (M : Mem) (Q : S → Mem → Prop) : Prop := ∃ bs, ts.mapM (fun t => isTyS M t x) = some bs ∧ Q (B (bs.any id)) M
theorem ok_isi {t : String} (ht : t ∈ six) : CallR X (.builtin "isinstance") (fun vs H Q => ∃ κ M x sx, vs = [x, .ty t] ∧ RM X.K H κ M ∧ RS X.K H κ x sx ∧ wIsI [t] sx M (Post X.K H κ Q)) := by
  intro pins s σ H vs us Q I rv h
  obtain ⟨κ, M, x, sx, rfl, hm, h1, bs, e, h⟩ := h
  rw [List.mapM_cons] at e
  cases hb : isTyS M t sx with
  | none => rw [hb] at e; cases e
  | some b =>
    obtain ⟨n, ty, hk⟩ := ty_at hm h1 ⟨t, b, hb⟩
    rw [hb] at e
    cases e
    have h := h.at (.d (.bl _)) hm
    have e2 : (b :: List.reverse (α := Bool) [] |>.any id) = b := by simp
    have h : Q (.bl b) H := by rw [← e2]; exact h
    exact call_isi pins s σ H _ us Q I rv ⟨x, .ty t, _, .type t, b, rfl, .ty t, ty, kit_ty (hk t b ht hb), h⟩
theorem ok_isiT {ts : List String} (ht : ∀ t ∈ ts, t ∈ six) (hne : ts ≠ []) : CallR X (.builtin "isinstance") (fun vs H Q => ∃ κ M x p sx, vs = [x, .ref p] ∧ H p = some (.tup (ts.map V.ty)) ∧ RM X.K H κ M ∧ RS X.K H κ x sx ∧ wIsI ts sx M (Post X.K H κ Q)) := by
  intro pins s σ H vs us Q I rv h
  obtain ⟨κ, M, x, p, sx, rfl, hp, hm, h1, bs, e, h⟩ := h
  have ne : ∃ t b, isTyS M t sx = some b := by
    cases ts with
    | nil => exact absurd rfl hne
    | cons t ts =>
      rw [List.mapM_cons] at e
      cases hb : isTyS M t sx with
      | none => rw [hb] at e; cases e
      | some b => exact ⟨t, b, hb⟩
  obtain ⟨n, ty, hk⟩ := ty_at hm h1 ne
  have h := h.at (.d (.bl _)) hm
  exact call_isiT pins s σ H _ us Q I rv ⟨x, p, _, _, ts.map Value.type, _, rfl, hp, clsTys ts, ty, kit_any (mapM_six hk ht e), h⟩
end
section
variable {X : Cx}
/-! ### max, min of two ints -/
def rB2 (K : PySem.W.Frag) (f : B2) : List V → Hp → VK → Prop := fun vs H Q => ∃ κ M x y sx sy, vs = [x, y] ∧ RM K H κ M ∧ RS K H κ x sx ∧ RS K H κ y sy ∧ wB2 f sx sy M (Post K H κ Q)
theorem ok_max2 (hc : X.calm = true) : CallR X (.builtin "max") (rB2 X.K .max) := by
  intro pins s σ H vs us Q I rv h
  obtain ⟨κ, M, x, y, sx, sy, rfl, hm, h1, h2, h⟩ := h
  dsimp only [wB2] at h
  split at h
  · cases h1 with | d h1 => cases h1; cases h2 with | d h2 => cases h2; exact call_max2 hc pins s σ H _ us Q I rv ⟨_, _, rfl, h.at (.d (.int _)) hm⟩
  · rename_i e; cases e
  · exact False.elim h
theorem ok_min2 (hc : X.calm = true) : CallR X (.builtin "min") (rB2 X.K .min) := by
  intro pins s σ H vs us Q I rv h
  obtain ⟨κ, M, x, y, sx, sy, rfl, hm, h1, h2, h⟩ := h
  dsimp only [wB2] at h
  split at h
  · rename_i e; cases e
  · cases h1 with | d h1 => cases h1; cases h2 with | d h2 => cases h2; exact call_min2 hc pins s σ H _ us Q I rv ⟨_, _, rfl, h.at (.d (.int _)) hm⟩
  · exact False.elim h

/-! ### subscripts -/
theorem RPs.at {K H κ} {vs : List V} {ds : List PD} {i : Int} {d : PD} (h : RPs K H κ vs ds) (e : atI ds i = some d) : ∃ v, atI vs i = some v ∧ RP K H κ v d := by
  unfold atI at e ⊢
  rw [h.length]
  cases q : ixN ds.length i with
  | none => rw [q] at e; cases e
  | some j =>
    rw [q] at e
    exact h.get' e
theorem RSs.at {K H κ} {vs : List V} {ds : List S} {i : Int} {d : S} (h : RSs K H κ vs ds) (e : atI ds i = some d) : ∃ v, atI vs i = some v ∧ RS K H κ v d := by
  unfold atI at e ⊢
  rw [h.length]
  cases q : ixN ds.length i with
  | none => rw [q] at e; cases e
  | some j =>
    rw [q] at e
    exact Pd.get' h e
theorem ok_ix : IxR X (r2 X.K wIx) := by
  intro value slice pins s σ H x y v u Q I rx ry h hs
  obtain ⟨κ, M, sx, sy, hm, h1, h2, h⟩ := h
  unfold wIx at h
  split at h
  · obtain ⟨d, e, h⟩ := h
    cases h1 with
    | d h1 =>
      cases h1 with
      | lst t z r =>
        cases h2 with
        | d h2 =>
          cases h2
          obtain ⟨w, e2, rw'⟩ := r.at e
          exact ix_list value slice pins s σ H _ _ v u Q I rx ry ⟨_, _, _, _, rfl, rfl, t.sq, e2, h.at (.d rw') hm⟩ hs
  · obtain ⟨d, e, h⟩ := h
    cases h1 with
    | d h1 =>
      cases h1 with
      | tup t z r =>
        cases h2 with
        | d h2 =>
          cases h2
          obtain ⟨w, e2, rw'⟩ := r.at e
          exact ix_tup value slice pins s σ H _ _ v u Q I rx ry ⟨_, _, _, _, rfl, rfl, t.sq, e2, h.at (.d rw') hm⟩ hs
  · obtain ⟨xs, d, hk, e, h⟩ := h
    cases h1 with
    | l h1 =>
      cases h2 with
      | d h2 =>
        cases h2
        obtain ⟨vs, ha, z, r⟩ := hm.ob _ _ _ h1 hk
        obtain ⟨w, e2, rw'⟩ := RSs.at r e
        exact ix_list value slice pins s σ H _ _ v u Q I rx ry ⟨_, _, _, _, rfl, rfl, SqL.of ha, e2, h.at rw' hm⟩ hs
  · exact h.elim
/-- .. for op= -/
theorem get_list {p : Addr} {xs : List V} {i : Int} {z : V} {pins : List (Addr × Obj)} {σ : L2.St} {H : Hp} {s : Shared} {u : Value} {Q : VK} (I : Inv X pins σ H s) (ru : RelV (.int i) u) (hq : SqL X.K H p xs) (he : atI xs i = some z) (q : Q z H) :
    wpAny (model X.prog X.w) X.A (getItem (.ref p) u) (EP X pins σ Q) X.xe s := by
  obtain ⟨t, rfl⟩ := ru
  obtain ⟨its, r, pl, hz⟩ := I.list hq
  obtain ⟨j, h1, h2, h3, h4, h5⟩ := atI_get he
  obtain ⟨w, ew, rw'⟩ := r.get h2
  have hl := r.length
  have hn := line63
  have fin : EP X pins σ Q w s := ⟨z, H, I, rw', q⟩
  by_cases h0 : 0 ≤ i
  · have hj : i.toNat = j := by
      rw [seqIndex_of h0 h5] at h1
      exact Option.some.inj h1
    exact wpAny_getItem_list pl.isList h0 (by omega) (by rw [hj]; simpa using ew) fin
  · have hj : (i + (its.toArray.size : Int)).toNat = j := by
      rw [seqIndex_neg (by omega) h4] at h1
      rw [List.size_toArray, ← hl]
      exact Option.some.inj h1
    exact wpAny_getItem_list_neg pl.isList (by omega) (by rw [List.size_toArray] <;> omega) (by omega) (by rw [hj]; simpa using ew) fin
theorem ok_get : PGet X (r2 X.K wIx) := by
  intro pins s σ H x y v u Q I rx ry h
  obtain ⟨κ, M, sx, sy, hm, h1, h2, h⟩ := h
  unfold wIx at h
  split at h
  · obtain ⟨d, e, h⟩ := h
    cases h1 with
    | d h1 =>
      cases h1 with
      | lst t z r =>
        cases h2 with
        | d h2 =>
          cases h2
          obtain ⟨w, e2, rw'⟩ := r.at e
          cases rx
          exact get_list I ry t.sq e2 (h.at (.d rw') hm)
  · obtain ⟨d, e, h⟩ := h
    cases h1 with
    | d h1 =>
      cases h1 with
      | tup t z r =>
        cases h2 with
        | d h2 =>
          cases h2
          obtain ⟨w, e2, rw'⟩ := r.at e
          cases rx
          obtain ⟨t', rfl⟩ := ry
          obtain ⟨its, r', pl, hz⟩ := I.tuple t.sq
          obtain ⟨j, g1, g2, g3, g4, g5⟩ := atI_get e2
          obtain ⟨u, ew, ru⟩ := r'.get g2
          have hl := r'.length
          have hn := line63
          exact getItem_tuple (j := j) pl (by omega) (by omega) (by rw [List.size_toArray, ← hl]; exact g1) (by simpa using ew) ⟨_, H, I, ru, h.at (.d rw') hm⟩
  · obtain ⟨xs, d, hk, e, h⟩ := h
    cases h1 with
    | l h1 =>
      cases h2 with
      | d h2 =>
        cases h2
        obtain ⟨vs, ha, z, r⟩ := hm.ob _ _ _ h1 hk
        obtain ⟨w, e2, rw'⟩ := RSs.at r e
        cases rx
        exact get_list I ry (SqL.of ha) e2 (h.at rw' hm)
  · exact h.elim

/-! ### slices -/
theorem cutV_eq (xs : List V) (lo hi : Option Int) : cutV xs lo hi = G.cut xs lo hi := rfl
theorem sIx_le (n d : Nat) (o : Option Int) (h : d ≤ n) : HT.sIx n d o ≤ n := by
  cases o with
  | none => exact h
  | some i =>
    unfold HT.sIx
    dsimp only
    split <;> omega
theorem cut_whole {α : Type} (xs : List α) (lo hi : Option Int) (h : HT.sIx xs.length 0 lo = 0 ∧ HT.sIx xs.length xs.length hi = xs.length) : G.cut xs lo hi = xs := by
  unfold G.cut
  rw [h.1, h.2]
  simp
theorem cut_len {α : Type} (xs : List α) (lo hi : Option Int) : (G.cut xs lo hi).length ≤ xs.length := by
  unfold G.cut
  rw [List.length_take, List.length_drop]
  omega
theorem ok_sl : SlR X (fun x lo hi H Q => ∃ κ M sx, RM X.K H κ M ∧ RS X.K H κ x sx ∧ wSl sx lo hi M (Post X.K H κ Q)) := by
  intro pins s σ H x v vl vu lo hi sl Q I rx hs pl pu h
  obtain ⟨κ, M, sx, hm, h1, h⟩ := h
  unfold wSl at h
  split at h
  · cases h1 with
    | d h1 =>
      cases h1 with
      | lst t z r => exact sl_list pins s σ H _ v vl vu lo hi sl Q I rx hs pl pu ⟨_, _, rfl, t.sq, fun p hp => h.new hm hp (rp_lst hm hp (Nat.le_trans (cutV_length _ _ _) z) (r.cut' lo hi))⟩
  · cases h1 with
    | d h1 =>
      cases h1 with
      | tup t z r =>
        refine sl_tupA pins s σ H _ v vl vu lo hi sl Q I rx hs pl pu ⟨_, _, rfl, t.sq, fun w => ?_, fun w p hp => ?_⟩
        · rw [cut_whole _ _ _ (by rw [← r.length]; exact w)] at h
          exact h.at (.d (.tup t z r)) hm
        · exact h.new hm hp (rp_tup hm hp (Nat.le_trans (cutV_length _ _ _) z) (r.cut' lo hi))
  · obtain ⟨xs, hk, h⟩ := h
    cases h1 with
    | l h1 =>
      obtain ⟨vs, ha, z, r⟩ := hm.ob _ _ _ h1 hk
      exact sl_list pins s σ H _ v vl vu lo hi sl Q I rx hs pl pu ⟨_, _, rfl, SqL.of ha, fun p hp => h.new hm hp (rp_lst hm hp (Nat.le_trans (cutV_length _ _ _) z) ((RSs.toP' r).cut' lo hi))⟩
  · exact h.elim
end
end G

/-! Layer G, part 3f: new lists; lists' methods. -/
namespace G
open PySem L2 PySem.Spec PyProof.Rows

/-- what is wanted of a new list of values -/
def PostL (K : PySem.W.Frag) (H : Hp) (κ : Loc) (Q : VK) : List S → Mem → Prop := fun ss M' => ∀ (κ' : Loc) (D : Addr) (vs : List V) (H' : Hp), Grow κ H (κ'.on D) H' → κ'.tmp = κ.tmp → (∀ a ∈ κ.tmp, H' a = H a) → D ∉ κ.tmp → H' D = some (.lst vs) → vs.length ≤ sizeLine → RSs K H' (κ'.on D) vs ss → RM K H' (κ'.on D) M' → Q (.ref D) H'
section
variable {K : PySem.W.Frag} {H H' : Hp} {κ κ' : Loc} {Q : VK} {ss : List S} {M : Mem} {v : V} {p a : Addr} {o : HO} {vs : List V}
theorem PostL.new (h : PostL K H κ Q ss M) (m : RM K H κ M) (n : H p = none) (z : vs.length ≤ sizeLine) (r : RSs K H κ vs ss) : Q (.ref p) (upd H p (.lst vs)) :=
  h κ p vs _ (Grow.on m n) rfl (fun a ha => upd_ne (m.tmNe n a ha)) (fun z => (m.tm p z).1 n) upd_same z (r.grow (Grow.on m n)) (m.on n)
theorem PostL.grow (g : Gr κ H κ' H') (h : PostL K H κ Q ss M) : PostL K H' κ' Q ss M := fun κ1 D vs H1 g1 t st hD e z r m =>
  h κ1 D vs H1 (g.toGrow.trans g1) (t.trans g.tmp) (fun a ha => (st a (by rw [g.tmp]; exact ha)).trans (g.st a ha)) (by rw [← g.tmp]; exact hD) e z r m
theorem Loc.tmp_eq {κ κ' : Loc} (h : κ'.tmp = κ.tmp) : True := trivial
theorem PostL.fr {xs : List PD} (h : Post K H κ Q (.d (.list xs)) M) (e : dataAll ss = some xs) : PostL K H κ Q ss M := fun κ1 D vs H1 g1 t st hD hd z r m =>
  h κ1 (.ref D) H1 ⟨g1.trans Grow.off, t, st⟩ (.d (.lst (.inl ⟨.of hd, ⟨(m.tm D List.mem_cons_self).2, by rw [t]; exact hD⟩⟩) z (RSs.toP (RSs.grow Grow.off r) e))) m.off
theorem PostL.al (h : Post K H κ Q (.l M.length) (M ++ [.lst ss])) : PostL K H κ Q ss M := fun κ1 D vs H1 g1 t st hD hd z r m => by
  refine h (κ1.more D) (.ref D) H1 ⟨g1.trans Grow.offMore, t, st⟩ (.l ?_) (m.offMore (by rw [t]; exact hD) ⟨vs, hd, z, r.grow Grow.offMore⟩)
  have e : κ1.at_.length = M.length := m.len
  rw [← e]
  exact more_last
end

section
variable {X : Cx}
/-- a list, as its object stands -/
theorem obj_at {pins : List (Addr × Obj)} {σ : L2.St} {H : Hp} {s : Shared} {κ : Loc} {M : Mem} (I : Inv X pins σ H s) (m : RM X.K H κ M) {x : V} {sx : S} {xs : List S} (h : RS X.K H κ x sx) (t : isTyS M "list" sx = some true) (e : items M sx = some xs) :
    ∃ a vs its n, x = .ref a ∧ vs.length ≤ sizeLine ∧ RSs X.K H κ vs xs ∧ Vals vs its ∧ s.heap.get? a = some { cls := .type "list", data := .seq its.toArray n } := by
  unfold items at e
  split at e
  · cases e
    cases h with
    | d h =>
      cases h with
      | lst h z r =>
        obtain ⟨its, n, rv, _, eo⟩ := h.obj I
        exact ⟨_, _, its, n, rfl, z, r.toS, rv, eo⟩
  · simp [isTyS, isTy] at t
  · split at e
    · rename_i hk
      cases e
      cases h with
      | l h =>
        obtain ⟨vs, ha, z, r⟩ := m.ob _ _ _ h hk
        obtain ⟨_, its, n, rv, eo⟩ := I.hok _ _ ha
        exact ⟨_, _, its, n, rfl, z, r, rv, eo⟩
    · cases e
  · cases e
theorem ok_cat : OpR X (binaryOp .Add) (fun x y H Q => ∃ κ M sx sy xs ys, RM X.K H κ M ∧ RS X.K H κ x sx ∧ RS X.K H κ y sy ∧ isTyS M "list" sx = some true ∧ isTyS M "list" sy = some true ∧ items M sx = some xs ∧ items M sy = some ys ∧ xs.length + ys.length ≤ sizeLine ∧ PostL X.K H κ Q (xs ++ ys) M) := by
  intro pins s σ H x y v u Q I rx ry h
  obtain ⟨κ, M, sx, sy, xs, ys, m, h1, h2, t1, t2, e1, e2, hz, h⟩ := h
  obtain ⟨a, vs, its, n, rfl, z1, r1, rv1, o1⟩ := obj_at I m h1 t1 e1
  obtain ⟨b, ws, jts, n2, rfl, z2, r2, rv2, o2⟩ := obj_at I m h2 t2 e2
  cases rx
  cases ry
  have l1 := r1.length
  have l2 := r2.length
  have l3 := rv1.length
  have l4 := rv2.length
  refine PySem.P.add_list o1 o2 ?_ (by rw [List.size_toArray, List.size_toArray]; omega)
  have ea : its.toArray ++ jts.toArray = (its ++ jts).toArray := by simp
  rw [ea]
  exact ⟨.ref _, _, I.lnew (t' := s.toks) (rv1.append rv2) (by rw [List.length_append]; omega), rfl, h.new m I.fresh (by rw [List.length_append]; omega) (Pd.append r1 r2)⟩
theorem ok_rep : OpR X (binaryOp .Mult) (fun x y H Q => ∃ κ M sx sy xs j, RM X.K H κ M ∧ RS X.K H κ x sx ∧ RS X.K H κ y sy ∧ isTyS M "list" sx = some true ∧ items M sx = some xs ∧ sy = G.I j ∧ (-(2 ^ 63) ≤ j ∧ j < 2 ^ 63 ∧ xs.length * j.toNat ≤ sizeLine) ∧ PostL X.K H κ Q (List.replicate j.toNat xs).flatten M) := by
  intro pins s σ H x y v u Q I rx ry h
  obtain ⟨κ, M, sx, sy, xs, k, m, h1', h2', t1, e1, rfl, ⟨h1, h2, hz⟩, h⟩ := h
  obtain ⟨l, vs, its, n, rfl, z1, r1, r, e⟩ := obj_at I m h1' t1 e1
  cases h2' with
  | d h2' =>
  cases h2'
  cases rx
  obtain ⟨t, rfl⟩ := ry
  have hl := r.length
  have hl2 := r1.length
  have hlen : its.toArray.size * k.toNat ≤ sizeLine := by rw [List.size_toArray, ← hl, hl2]; exact hz
  have hcap : ¬ its.toArray.size * k.toNat > (2 ^ 63 - 1) / 8 := by
    have : (sizeLine : Nat) ≤ (2 ^ 63 - 1) / 8 := by decide
    omega
  have hfit : ¬ (!Builtin.List.listFitsIndex k) = true := by
    rw [fitsIndex_both h1 h2]
    exact Bool.false_ne_true
  have hlong : ¬ Builtin.List.listTooLong (its.toArray.size * k.toNat) = true := by
    rw [notLongL hlen]
    exact Bool.false_ne_true
  have hnew : List.foldl (fun x1 x2 => x1 ++ x2) #[] (List.replicate (if its.toArray.isEmpty = true then 0 else k.toNat) its.toArray) = (List.replicate k.toNat its).flatten.toArray := by
    have f0 : ∀ m : Nat, List.foldl (fun x1 x2 => x1 ++ x2) #[] (List.replicate m its.toArray) = (List.replicate m its).flatten.toArray := fun m => by
      have := foldl_rep its m []
      rw [List.nil_append] at this
      exact this
    rw [f0]
    cases its with
    | nil => simp
    | cons a r' => rw [if_neg (by simp)]
  refine wpAny_binaryOp_repeat_ref (T := "list") (U := "int") (by decide) ⟨_, e, rfl⟩ (fun s' => typeIs_int s' k t) noFill_list_mul F.fills_int_mul F.slot_int_rmul repeat_list F.slot_int_index.lookup
    (call_meets F.slot_int_rmul (typeIs_int s k t) F.entry_int_rmul (F.args_int_rmul_2 _ _) (int___rmul___int_list k t l its.toArray n)
      ⟨e, rfl, ⟨_, e, rfl⟩, call_meets F.slot_list_mul ⟨_, e, rfl⟩ F.entry_list_mul (F.args_list_mul_2 _ _) (AutoListH.list___mul___list_int_3 l its.toArray n k t hfit hcap hlong) ⟨e, ?_⟩⟩)
  rw [hnew]
  have hlv : (List.replicate k.toNat vs).flatten.length ≤ sizeLine := by rw [flat_lenV, hl2, Nat.mul_comm]; exact hz
  exact ⟨.ref _, _, I.lnew (t' := s.toks) (r.rep k.toNat) hlv, rfl, h.new m I.fresh hlv (Pd.rep r1 _)⟩
theorem ok_slL : SlR X (fun x lo hi H Q => ∃ κ M sx xs, RM X.K H κ M ∧ RS X.K H κ x sx ∧ isTyS M "list" sx = some true ∧ items M sx = some xs ∧ PostL X.K H κ Q (G.cut xs lo hi) M) := by
  intro pins s σ H x v vl vu lo hi sl Q I rx hs pl pu h
  obtain ⟨κ, M, sx, xs, m, h1, t1, e1, h⟩ := h
  obtain ⟨a, vs, its, n, rfl, z1, r1, r, e⟩ := obj_at I m h1 t1 e1
  have hq : SqL X.K H a vs := by
    obtain ⟨a', vs', ea, _, r', hs', _⟩ := items_at m h1 e1
    cases ea
    rcases hs' with hs' | hs'
    · obtain ⟨its', rv', ⟨o, n', e', _, _, d'⟩, _⟩ := I.list hs'
      rw [e] at e'
      cases e'
      injection d' with d1 _
      have : its = its' := by simpa using congrArg Array.toList d1
      subst this
      rw [Vals.inj r rv']
      exact hs'
    · obtain ⟨its', rv', ⟨o, e', c', _⟩, _⟩ := I.tuple hs'
      rw [e] at e'
      cases e'
      have z : Value.type "list" = Value.type "tuple" := c'
      injection z with z
      exact absurd z (by decide)
  exact sl_list pins s σ H _ v vl vu lo hi sl Q I rx hs pl pu ⟨_, _, rfl, hq, fun p hp => h.new m hp (Nat.le_trans (cutV_length _ _ _) z1) (Pd.cut r1 lo hi)⟩
theorem ok_listOf : CallR X (.type "list") (fun vs H Q => ∃ κ M x sx xs, vs = [x] ∧ RM X.K H κ M ∧ RS X.K H κ x sx ∧ items M sx = some xs ∧ PostL X.K H κ Q xs M) := by
  intro pins s σ H vs us Q I rv h
  obtain ⟨κ, M, x, sx, xs, rfl, m, h1, e, h⟩ := h
  obtain ⟨a, vs, rfl, z, r, hs, _⟩ := items_at m h1 e
  exact call_list_of pins s σ H _ us Q I rv ⟨_, _, rfl, hs, fun l hl => h.new m hl z r⟩

/-! ### methods -/
def PostM (K : PySem.W.Frag) (H : Hp) (κ : Loc) (Q : Hp → Prop) : Mem → Prop := fun M' => ∀ κ' H', Gr κ H κ' H' → RM K H' κ' M' → Q H'
theorem PostM.put {K : PySem.W.Frag} {H : Hp} {κ : Loc} {M : Mem} {Q : Hp → Prop} {k : Nat} {a : Addr} {vs : List V} {ss : List S} (h : PostM K H κ Q (M.set k (.lst ss))) (m : RM K H κ M) (e : κ.at_[k]? = some a) (z : vs.length ≤ sizeLine) (r : RSs K H κ vs ss) : Q (upd H a (.lst vs)) :=
  h κ _ (Gr.put m e) (m.put e ⟨vs, upd_same, z, r.grow (Grow.put m e)⟩)
theorem ty_list {K : PySem.W.Frag} {H : Hp} {κ : Loc} {M : Mem} (m : RM K H κ M) {x : V} {s : S} (h : RS K H κ x s) (t : isTyS M "list" s = some true) : tyV K "list" x H := by
  cases h with
  | d h =>
    cases h with
    | lst h z r => exact .inl ⟨rfl, _, h.sq⟩
    | _ => simp [isTyS, isTy] at t
  | e _ _ _ => cases t
  | @l a k h =>
    unfold isTyS at t
    dsimp only at t
    split at t
    · rename_i hk
      obtain ⟨vs, ha, _⟩ := m.ob _ _ _ h hk
      exact .inl ⟨rfl, _, SqL.of ha⟩
    · cases t
    · cases t
theorem ok_append : MtR X "list.append" (fun x vs H Q => ∃ κ M k xs y sy, vs = [y] ∧ RM X.K H κ M ∧ RS X.K H κ x (.l k) ∧ RS X.K H κ y sy ∧ M[k]? = some (.lst xs) ∧ xs.length < sizeLine ∧ PostM X.K H κ (Q .non) (M.set k (.lst (xs ++ [sy])))) := by
  intro pins s σ H x vs v us Q I rx rv h
  obtain ⟨κ, M, k, xs, y, sy, rfl, m, h1, h2, hk, hz, h⟩ := h
  cases h1 with
  | l h1 =>
    obtain ⟨ws, ha, z, r⟩ := m.ob _ _ _ h1 hk
    have hl := r.length
    exact mt_append pins s σ H _ _ v us Q I rx rv ⟨_, ws, y, rfl, rfl, ha, by omega, h.put m h1 (by rw [List.length_append, List.length_singleton]; omega) (Pd.append r (.cons h2 .nil))⟩
theorem ok_extend : MtR X "list.extend" (fun x vs H Q => ∃ κ M k xs y sy ys, vs = [y] ∧ RM X.K H κ M ∧ RS X.K H κ x (.l k) ∧ RS X.K H κ y sy ∧ M[k]? = some (.lst xs) ∧ items M sy = some ys ∧ isTyS M "list" sy = some true ∧ xs.length + ys.length ≤ sizeLine ∧ PostM X.K H κ (Q .non) (M.set k (.lst (xs ++ ys)))) := by
  intro pins s σ H x vs v us Q I rx rv h
  obtain ⟨κ, M, k, xs, y, sy, ys, rfl, m, h1, h2, hk, e2, t2, hz, h⟩ := h
  cases h1 with
  | @l a _ h1 =>
    obtain ⟨ws, ha, z, r⟩ := m.ob _ _ _ h1 hk
    have hl := r.length
    obtain ⟨b, ws2, its2, n2, rfl, z2, r2, rv2, o2⟩ := obj_at I m h2 t2 e2
    have hl2 := r2.length
    cases rx
    obtain ⟨u, rfl, ru⟩ := rv.one
    cases ru
    obtain ⟨z, its, n, r', hl', e⟩ := I.lstM ha
    have hl3 := rv2.length
    have hsz : its.toArray.size + its2.toArray.size ≤ sizeLine := by rw [List.size_toArray, List.size_toArray]; omega
    have hlong : ¬ (!its.toArray.isEmpty && Builtin.List.listTooLong (its.toArray.size + its2.toArray.size)) = true := by
      rw [notLongL hsz, Bool.and_false]
      exact Bool.false_ne_true
    have hlen : (ws ++ ws2).length ≤ sizeLine := by rw [List.length_append]; omega
    refine call_meets F.slot_list_extend ⟨_, e, rfl⟩ F.entry_list_extend (F.args_list_extend_2 _ _)
      (AutoSeq1.list_extend_list_list_0 a its.toArray n b its2.toArray n2 hlong (by rw [List.size_toArray]; omega) (by omega)) ⟨e, o2, ?_⟩
    exact ⟨.non, _, I.lset (its' := its ++ its2) ha e (by simp) (r'.append rv2) hlen, rfl, h.put m h1 hlen (Pd.append r r2)⟩
theorem ok_pop : MtR X "list.pop" (fun x vs H Q => ∃ κ M sx, vs = [] ∧ RM X.K H κ M ∧ RS X.K H κ x sx ∧ wPop sx M (Post X.K H κ Q)) := by
  intro pins s σ H x vs v us Q I rx rv h
  obtain ⟨κ, M, sx, rfl, m, h1, h⟩ := h
  unfold wPop at h
  split at h
  · obtain ⟨xs, y, hk, hy, h⟩ := h
    cases h1 with
    | l h1 =>
      obtain ⟨ws, ha, z, r⟩ := m.ob _ _ _ h1 hk
      obtain ⟨w, hw, rw'⟩ := Pd.get' r hy
      refine mt_pop pins s σ H _ _ v us Q I rx rv ⟨_, ws, w, rfl, rfl, ha, by rw [r.length]; exact hw, ?_⟩
      have g := Gr.put (o := .lst ws.dropLast) m h1
      exact h κ w _ g (rw'.grow g.toGrow) (m.put h1 ⟨_, upd_same, by rw [List.length_dropLast]; omega, RSs.grow g.toGrow (Pd.dropLast r)⟩)
  · exact h.elim
theorem ok_popAt : MtR X "list.pop" (fun x vs H Q => ∃ κ M y sx sy, vs = [y] ∧ RM X.K H κ M ∧ RS X.K H κ x sx ∧ RS X.K H κ y sy ∧ wPopAt sx sy M (Post X.K H κ Q)) := by
  intro pins s σ H x vs v us Q I rx rv h
  obtain ⟨κ, M, y, sx, sy, rfl, m, h1, h2, h⟩ := h
  unfold wPopAt at h
  split at h
  · obtain ⟨xs, j, d, hk, ⟨i1, i2⟩, hj, hd, h⟩ := h
    cases h1 with
    | l h1 =>
      cases h2 with
      | d h2 =>
        cases h2
        obtain ⟨ws, ha, z, r⟩ := m.ob _ _ _ h1 hk
        obtain ⟨w, hw, rw'⟩ := Pd.get' r hd
        refine mt_popAt pins s σ H _ _ v us Q I rx rv ⟨_, ws, _, j, w, rfl, rfl, ha, i1, i2, ?_, hw, ?_⟩
        · rw [r.length]; exact (ixN_seq hj).1
        · have g := Gr.put (o := .lst (ws.eraseIdx j)) m h1
          exact h κ w _ g (rw'.grow g.toGrow) (m.put h1 ⟨_, upd_same, Nat.le_trans (len_erase ws j) z, RSs.grow g.toGrow (Pd.erase j r)⟩)
  · exact h.elim
theorem ok_insert : MtR X "list.insert" (fun x vs H Q => ∃ κ M k xs j y sy, vs = [.int (j : Nat), y] ∧ RM X.K H κ M ∧ RS X.K H κ x (.l k) ∧ RS X.K H κ y sy ∧ M[k]? = some (.lst xs) ∧ j ≤ xs.length ∧ xs.length < sizeLine ∧ PostM X.K H κ (Q .non) (M.set k (.lst (xs.take j ++ sy :: xs.drop j)))) := by
  intro pins s σ H x vs v us Q I rx rv h
  obtain ⟨κ, M, k, xs, j, y, sy, rfl, m, h1, h2, hk, hj, hz, h⟩ := h
  cases h1 with
  | l h1 =>
    obtain ⟨ws, ha, z, r⟩ := m.ob _ _ _ h1 hk
    have hl := r.length
    have hn := line63
    refine mt_insert pins s σ H _ _ v us Q I rx rv ⟨_, ws, _, y, rfl, rfl, ha, by omega, by omega, by omega, ?_⟩
    rw [Int.toNat_natCast, List.append_assoc, List.singleton_append]
    refine h.put m h1 ?_ (Pd.append (Pd.take j r) (.cons h2 (Pd.drop j r)))
    rw [List.length_append, List.length_cons, List.length_take, List.length_drop]
    omega
/-! ### xs[i] = v -/
theorem ok_put : PSet X (fun o i v H Q => ∃ κ M so si sv, RM X.K H κ M ∧ RS X.K H κ o so ∧ RS X.K H κ i si ∧ RS X.K H κ v sv ∧ wPut so si sv M (PostM X.K H κ Q)) := by
  intro pins s σ H o i v ov iv u Q I ro ri rv h
  obtain ⟨κ, M, so, si, sv, m, h1, h2, h3, h⟩ := h
  unfold wPut at h
  split at h
  · obtain ⟨xs, j, hk, hj, h⟩ := h
    cases h1 with
    | l h1 =>
      cases h2 with
      | d h2 =>
        cases h2
        obtain ⟨ws, ha, z, r⟩ := m.ob _ _ _ h1 hk
        exact set_list pins s σ H _ _ v ov iv u Q I ro ri rv ⟨_, ws, _, j, rfl, rfl, ha, by rw [r.length]; exact hj, h.put m h1 (by rw [List.length_set]; exact z) (Pd.set h3 j r)⟩
  · exact h.elim
end
end G

/-! Layer G, part 4: the judgements; expressions. -/
namespace G
open PySem L2 PySem.Spec PyProof.Rows

/-- an exception as it lies in the heap -/
def RX (mg : Str → Option Value) (K : PySem.W.Frag) (H : Hp) (κ : Loc) (cls : Value) (d : Option Addr) (x : Xc) : Prop :=
  ∃ C dd v, mg x.cls = some (.ref C) ∧ cls = .ref C ∧ d = some dd ∧ H dd = some (.xd [(x.fld, v)]) ∧ κ.out dd ∧ RS K H κ v x.val
def PX (mg : Str → Option Value) (K : PySem.W.Frag) (H : Hp) (κ : Loc) (E : XK) : Xc → Mem → Prop := fun x M' => ∀ κ' cls d H', Gr κ H κ' H' → RX mg K H' κ' cls d x → RM K H' κ' M' → E cls d H'
theorem PX.grow {mg K H κ H' κ' E x M} (g : Gr κ H κ' H') (h : PX mg K H κ E x M) : PX mg K H' κ' E x M := fun κ1 c d H1 g1 r m => h κ1 c d H1 (g.trans g1) r m
/-- a function's promise by its spec -/
def spOf (mg : Str → Option Value) (K : PySem.W.Frag) (n : Nat) (φ : FSpec) : Sp := fun vs H Q E => ∃ κ M ss, vs.length = n ∧ RM K H κ M ∧ RSs K H κ vs ss ∧ φ ss M (Post K H κ Q) (PX mg K H κ E)
/-- as FnOk, where nothing is printed around -/
structure FnG (P : Program) (w : World) (K : PySem.W.Frag) (mg : Str → Option Value) (base : Heap) (k : Nat) (f : Addr) (fd : FuncData) (ps : List Str) (sp : Sp) : Prop where
  len : ∀ vs H Q E, sp vs H Q E → vs.length = ps.length
  run : ∀ (A : Around) (outer : List PySem.Env) (s : Shared) (H : Hp) (args : Args) (us : List Value) (vs : List V) (Q : VK) (E : XK), Room k A → A.guards = some [] → Env0 P w K mg base A outer s H → BindsTo s fd args (ps.zip us) → Vals vs us → sp vs H Q E →
    codeAny (model P w) A (.call (.ref f) args) (CR (L2.CX P w) outer P w H s Q E) s
theorem FnG.mono {P w K mg base j k f fd ps sp} (F : FnG P w K mg base j f fd ps sp) (h : j ≤ k) : FnG P w K mg base k f fd ps sp :=
  ⟨F.len, fun A outer s H args us vs Q E hr => F.run A outer s H args us vs Q E (hr.mono h)⟩
/-- a call's values in the parameters' order: n of them by place, the others by name -/
def reord {α : Type} (ps : List Str) (n : Nat) (ks : List Str) (us ws : List α) : List α := us ++ (ps.drop n).filterMap fun p => (ks.zip ws).lookup p
def KB (fd : FuncData) (ps : List Str) (n : Nat) (ks : List Str) : Prop := ∀ (s : Shared) (us ws : List Value), us.length = n → ws.length = ks.length → BindsTo s fd ⟨us, ks.zip ws⟩ (ps.zip (reord ps n ks us ws))
/-- each of the other parameters has a name, all names are told -/
def kwsOk (ps : List Str) (n : Nat) (ks : List Str) : Bool := decide (n ≤ ps.length) && (ps.drop n).all (fun p => ks.contains p)
def CallOk (X : Cx) (kws : List (Str × Nat × List Str)) (f : Str) (ps : List Str) (φ : FSpec) : Prop :=
  ∃ (k : Nat) (a : Addr) (fd : FuncData), FnG X.prog X.w X.K X.mg X.base k a fd ps (spOf X.mg X.K ps.length φ) ∧ Room k X.A ∧ X.mg f = some (.ref a) ∧ PySem.W.keepIn X.K (.ref a) = true ∧ Binds X.K fd ps [] ∧ (f == ("__debug__" : Str)) = false ∧
    ∀ q ∈ kws, q.1 = f → KB fd ps q.2.1 q.2.2
/-- the built-in names that may be called -/
def bnames : List Str := ["len", "tuple", "list", "int", "bool", "str", "repr", "abs", "sum", "all", "any", "max", "min", "isinstance", "range", "enumerate", "zip", "reversed", "sorted", "dict"]
/-- what the text's check goes by: the slots' names, the scope, the functions and the classes that are known, whether a suite runs, its name's slot -/
structure CT where
  N : List Str
  sc : Scope
  fs : List (Str × List Str)
  ks : List (Str × Nat × List Str)
  cs : List Str
  hs : List Str
  cm : Bool
/-- the class that a name tells -/
def HName (mg : Str → Option Value) (c : Str) (cv : Value) : Prop := (c == ("__debug__" : Str)) = false ∧ ((mg c = some cv ∧ ∃ C, cv = .ref C) ∨ (mg c = none ∧ bootBuiltins c = some cv ∧ c ≠ "__name__" ∧ ∃ n, cv = .type n))
/-- what isinstance and a clause say of an error of the class at C -/
structure XOk (K : PySem.W.Frag) (mg : Str → Option Value) (C : Addr) (l : List Str) (hs : List Str) : Prop where
  cl : (PySem.W.clsIn K C).isSome = true
  ga : PySem.W.findIn K (.ref C) "__getattribute__" = some (some (.builtin "BaseException.__getattribute__"))
  gg : PySem.W.findIn K (.ref C) "__getattr__" = some none
  exC : PySem.W.subIn K (.ref C) (.type "BaseException") = some true
  hdC : PySem.W.hasDictIn K C = true
  ca : PySem.W.findIn K (.ref C) "__class__" = some (some (.builtin "object.__class__"))
  sp : PySem.W.specialIn K (.builtin "object.__class__") "__get__" = some (some (.builtin "getset_descriptor.__get__"))
  tk : PySem.W.takesIn K (.builtin "object.__class__") = some true
  mo : PySem.W.mroIn K C (.type "object") = some true
  nv : PySem.W.findIn K (.ref C) "value" = some none
  nw : PySem.W.findIn K (.ref C) "what" = some none
  hs : ∀ c ∈ hs, ∃ cv, HName mg c cv ∧ PySem.W.exmOne K (.ref C) cv = some (l.contains c) ∧ PySem.W.kitOne K (.ref C) cv = some (l.contains c)
def nostar : Expr → Bool
  | .Starred .. => false
  | _ => true
/-- __init__'s body -/
inductive IniBody (par fld : Str) : List Stmt → Prop
  | mk (p0 p1 p2 p3 p4 p5 p6 p7 p8 p9 : Pos) (j : Nat) (msg : Str) (hl : (p2.endLine == p4.line) = true) : IniBody par fld
      [.Expr (.Call (.Attribute (.Call (.Name "super" p0) [] [] p1) "__init__" p2) [.Constant (.str msg) j p3] [] p4) p5, .Assign [.Attribute (.Name "self" p6) fld p7] (.Name par p8) p9]
/-- what is known of the class -/
structure ExC (prog : Program) (K : PySem.W.Frag) (mg : Str → Option Value) (C fI cc cda : Addr) (par fld : Str) : Prop where
  cls : ∃ nm q N bs bm sn sub ab col dd k0 k1 k2 k3 k5, K.lookup C = some (excClassObj nm q C N bs bm true sn sub ab col dd k0 k1 k2 k3 k5 "ValueError.__new__") ∧ PySem.HandSPX.refsVE bm = true
  sa : PySem.W.findIn K (.ref C) "__setattr__" = some (some (.builtin "object.__setattr__"))
  exC : PySem.W.subIn K (.ref C) (.type "BaseException") = some true
  veC : PySem.W.subIn K (.ref C) (.type "ValueError") = some true
  tyC : PySem.W.typeIn K (.ref C) = some (.type "type")
  kC : PySem.W.keepIn K (.ref C) = true
  ini : PySem.W.findIn K (.ref C) "__init__" = some (some (.ref fI))
  tyI : PySem.W.typeIn K (.ref fI) = some (.type "function")
  fn : ∃ oc od qual params body scope kV doc pm an ct osl ccl cdd vs ccs file tf, K.lookup fI = some ⟨oc, od, .func (PySem.W.ksFn "__init__" qual params body scope .none kV doc pm an (.ref cda) ct cc), osl⟩ ∧ PySem.W.codeIn K (.ref cda) qual = true ∧
    IniBody par fld body ∧ K.lookup cda = some ⟨ccl, cdd, .fields vs, ccs⟩ ∧ vs[2]? = some (.str file tf) ∧ ((prog.main.file : Str) == file) = true ∧
    (∀ us : List Value, us.length = 2 → bindArgs (PySem.W.ksFn "__init__" qual params body scope .none kV doc pm an (.ref cda) ct cc) ⟨us, []⟩ = pure ((["self", par] : List Str).zip us)) ∧
    (params.posonlyargs ++ params.args).head?.map (·.arg) = some "self" ∧ scope.kind = .function ∧ scope.isCoroutine = false ∧ scope.isGenerator = false ∧ (∀ x ∈ scope.names, x.2 ≠ .cell) ∧
    scope.names.lookup ("super" : Str) = some .globalImplicit ∧ scope.names.lookup ("__class__" : Str) = some .free ∧ scope.names.lookup ("self" : Str) = some .local ∧ scope.names.lookup par = some .local
  cell : ∃ cl cld csl, K.lookup cc = some ⟨cl, cld, .cell (some (.ref C)), csl⟩
  mro : PySem.W.mroIn K C (.ref C) = some true
  sup : PySem.W.ks_superIn K C C "__init__" = some (some (.builtin "ValueError.__init__"))
  nosup : mg "super" = none
  notop : (prog.main.scope.names.lookup ("super" : Str)).isSome = false
  cst : PySem.W.nsIn K cStatics "thirdparty.any" = some none
  nof : PySem.W.findIn K (.ref C) fld = some none
  parD : (par == ("__debug__" : Str)) = false ∧ ("self" : Str) ≠ par
  sw : True

structure GOk (X : Cx) (Γ : Env) (W : WX) (T : CT) : Prop where
  eN : X.N = T.N
  eS : X.env.scope = T.sc
  nd : X.N.Nodup
  calm : T.cm = true → X.calm = true
  hu : X.A.units + 100 < cLine
  gu : X.A.guards = some []
  bt : ∀ x ∈ bnames, X.mg x = none
  fk : ∀ f ∈ T.fs, (∃ φ, Γ.Φ f.1 = some φ) ∧ Γ.ps f.1 = f.2
  fn : T.cm = true → ∀ f φ, Γ.Φ f = some φ → CallOk X T.ks f (Γ.ps f) φ
  tk : Takes X W
  mo : Γ.Mo
  dp : X.A.depth + 10 < recursionLimit
  cl : ∀ c ∈ T.cs, ∃ C fI cc cda par, X.mg c = some (.ref C) ∧ (c == ("__debug__" : Str)) = false ∧ ExC X.prog X.K X.mg C fI cc cda par (if c = "Undefined" then "what" else "value")
  xo : ∀ c l C, Γ.mro c = some l → X.mg c = some (.ref C) → XOk X.K X.mg C l T.hs
  cu : ∀ a dd c f v, Γ.cur = some (.e a dd c f v) → ∃ (X0 : Cx) (oe : Obj) (pn : List (Addr × Obj)) (C : Addr), X = X0.suite a ((a, oe) :: pn) ∧ Zc (.ref C) (some dd) oe ∧ (∃ vs, oe.data = .fields vs) ∧ X.mg c = some (.ref C) ∧ ∃ l, Γ.mro c = some l
  xm : ∀ c l, Γ.mro c = some l → ∃ C, X.mg c = some (.ref C)
  hn : ∀ c ∈ T.hs, ∃ cv, HName X.mg c cv
  cn : T.cm = true → Γ.cur = none

abbrev XW (W : WX) (σ : L2.St) : XK := fun c d H' => W c d σ H'
def PostB (K : PySem.W.Frag) (H : Hp) (κ : Loc) {α : Type} (Q : α → Hp → Prop) : α → Mem → Prop := fun b M' => ∀ κ' H', Gr κ H κ' H' → RM K H' κ' M' → Q b H'
def PostA (K : PySem.W.Frag) (H : Hp) (κ : Loc) (Q : List V → Hp → Prop) : List S → Mem → Prop := fun ss M' => ∀ κ' vs H', Gr κ H κ' H' → RSs K H' κ' vs ss → RM K H' κ' M' → Q vs H'
section
variable (X : Cx) (Γ : Env) (W : WX)
def gE (e : E) : TE := fun σ H Q => ∃ κ ρ M, RSt X.K H κ ρ σ ∧ RM X.K H κ M ∧ wE Γ e ρ M (Post X.K H κ Q) (PX X.mg X.K H κ (XW W σ))
def gT (e : E) : TT := fun σ H Q => ∃ κ ρ M, RSt X.K H κ ρ σ ∧ RM X.K H κ M ∧ wT Γ e ρ M (PostB X.K H κ Q) (PX X.mg X.K H κ (XW W σ))
def gA (es : Es) : TA := fun σ H Q => ∃ κ ρ M, RSt X.K H κ ρ σ ∧ RM X.K H κ M ∧ wEs Γ es ρ M (PostA X.K H κ Q) (PX X.mg X.K H κ (XW W σ))
def gO (o : Oe) : TO := fun σ H Q => ∃ κ ρ M, RSt X.K H κ ρ σ ∧ RM X.K H κ M ∧ wO Γ o ρ M (PostB X.K H κ Q) (PX X.mg X.K H κ (XW W σ))
def gC (o : Oe) : TT := fun σ H Q => ∃ κ ρ M, RSt X.K H κ ρ σ ∧ RM X.K H κ M ∧ wC Γ o ρ M (PostB X.K H κ Q) (PX X.mg X.K H κ (XW W σ))
def gF (f : F) : TE := fun σ H Q => ∃ κ ρ M, RSt X.K H κ ρ σ ∧ RM X.K H κ M ∧ wF Γ f ρ M (PostL X.K H κ Q) (PX X.mg X.K H κ (XW W σ))
end
theorem _root_.L2.PE.mono {X : Cx} {e : Expr} {t t' : TE} (h : PE X e t) (m : ∀ σ H Q, t' σ H Q → t σ H Q) : PE X e t' := ⟨fun pins s σ H Q I q => h.run pins s σ H Q I (m _ _ _ q)⟩
theorem _root_.L2.PT.mono {X : Cx} {e : Expr} {t t' : TT} (h : PT X e t) (m : ∀ σ H Q, t' σ H Q → t σ H Q) : PT X e t' := ⟨fun pins s σ H Q I q => h.run pins s σ H Q I (m _ _ _ q)⟩
theorem _root_.L2.PW.mono {X : Cx} {e : Expr} {t t' : TT} (h : PW X e t) (m : ∀ σ H Q, t' σ H Q → t σ H Q) : PW X e t' := ⟨fun wh pins s σ H Q I q => h.run wh pins s σ H Q I (m _ _ _ q)⟩
theorem _root_.L2.PA.mono {X : Cx} {e : List Expr} {t t' : TA} (h : PA X e t) (m : ∀ σ H Q, t' σ H Q → t σ H Q) : PA X e t' := ⟨fun p pins s σ H Q I q => h.run p pins s σ H Q I (m _ _ _ q)⟩
theorem _root_.L2.PO.mono {X : Cx} {e : Option Expr} {t t' : TO} (h : PO X e t) (m : ∀ σ H Q, t' σ H Q → t σ H Q) : PO X e t' := ⟨fun pins s σ H Q I q => h.run pins s σ H Q I (m _ _ _ q)⟩

section
variable {X : Cx} {Γ : Env} {W : WX} {κ κ0 : Loc} {H H0 : Hp} {ρ : Sto} {σ : L2.St} {M : Mem}
theorem gE.go {e : E} {P : S → Mem → Prop} {C : VK} (mo : Γ.Mo) (g : Gr κ0 H0 κ H) (rs : RSt X.K H κ ρ σ) (rm : RM X.K H κ M) (h : wE Γ e ρ M P (PX X.mg X.K H0 κ0 (XW W σ)))
    (c : ∀ z M1 κ1 x H1, P z M1 → Gr κ H κ1 H1 → RS X.K H1 κ1 x z → RM X.K H1 κ1 M1 → C x H1) : gE X Γ W e σ H C :=
  ⟨κ, ρ, M, rs, rm, mE mo e ρ _ _ _ _ _ (fun z M1 p κ1 x H1 g r m => c z M1 κ1 x H1 p g r m) (fun _ _ q => q.grow g) h⟩
theorem gT.go {e : E} {P : Bool → Mem → Prop} {C : Bool → Hp → Prop} (mo : Γ.Mo) (g : Gr κ0 H0 κ H) (rs : RSt X.K H κ ρ σ) (rm : RM X.K H κ M) (h : wT Γ e ρ M P (PX X.mg X.K H0 κ0 (XW W σ)))
    (c : ∀ z M1 κ1 H1, P z M1 → Gr κ H κ1 H1 → RM X.K H1 κ1 M1 → C z H1) : gT X Γ W e σ H C :=
  ⟨κ, ρ, M, rs, rm, mT mo e ρ _ _ _ _ _ (fun z M1 p κ1 H1 g m => c z M1 κ1 H1 p g m) (fun _ _ q => q.grow g) h⟩
theorem gA.go {e : Es} {P : List S → Mem → Prop} {C : List V → Hp → Prop} (mo : Γ.Mo) (g : Gr κ0 H0 κ H) (rs : RSt X.K H κ ρ σ) (rm : RM X.K H κ M) (h : wEs Γ e ρ M P (PX X.mg X.K H0 κ0 (XW W σ)))
    (c : ∀ z M1 κ1 x H1, P z M1 → Gr κ H κ1 H1 → RSs X.K H1 κ1 x z → RM X.K H1 κ1 M1 → C x H1) : gA X Γ W e σ H C :=
  ⟨κ, ρ, M, rs, rm, mEs mo e ρ _ _ _ _ _ (fun z M1 p κ1 x H1 g r m => c z M1 κ1 x H1 p g r m) (fun _ _ q => q.grow g) h⟩
theorem gO.go {e : Oe} {P : Option Int → Mem → Prop} {C : Option Int → Hp → Prop} (mo : Γ.Mo) (g : Gr κ0 H0 κ H) (rs : RSt X.K H κ ρ σ) (rm : RM X.K H κ M) (h : wO Γ e ρ M P (PX X.mg X.K H0 κ0 (XW W σ)))
    (c : ∀ z M1 κ1 H1, P z M1 → Gr κ H κ1 H1 → RM X.K H1 κ1 M1 → C z H1) : gO X Γ W e σ H C :=
  ⟨κ, ρ, M, rs, rm, mO mo e ρ _ _ _ _ _ (fun z M1 p κ1 H1 g m => c z M1 κ1 H1 p g m) (fun _ _ q => q.grow g) h⟩

variable {T : CT} {a b c : E} {a' b' c' : Expr} {pos p2 p3 : Pos}
theorem j_var {i : Nat} {x : Str} (hi : X.N[i]? = some x) (hv : Vis X.env.scope x) (hd : (x == ("__debug__" : Str)) = false) (hc : (x == ("__classdict__" : Str)) = false) : PE X (.Name x pos) (gE X Γ W (.var i)) :=
  (pe_var hi hv hd hc).mono fun σ H Q ⟨κ, ρ, M, rs, rm, h⟩ => by
    simp only [wE] at h
    obtain ⟨s, e, h⟩ := h
    obtain ⟨v, e2, r⟩ := rs.here _ _ e
    exact ⟨v, e2, h.at r rm⟩
theorem j_cst_int {i : Int} {j : Nat} : PE X (.Constant (.int i) j pos) (gE X Γ W (.cst (.int i))) := pe_int.mono fun σ H Q ⟨κ, ρ, M, rs, rm, h⟩ => by
  simp only [wE] at h
  exact h.at (.d (.int i)) rm
theorem j_cst_bool {i : Bool} {j : Nat} : PE X (.Constant (.bool i) j pos) (gE X Γ W (.cst (.bool i))) := pe_bl.mono fun σ H Q ⟨κ, ρ, M, rs, rm, h⟩ => by
  simp only [wE] at h
  exact h.at (.d (.bl i)) rm
theorem j_cst_none {j : Nat} : PE X (.Constant .none j pos) (gE X Γ W (.cst .none)) := pe_non.mono fun σ H Q ⟨κ, ρ, M, rs, rm, h⟩ => by
  simp only [wE] at h
  exact h.at (.d .non) rm
theorem j_cst_str {i : Str} {j : Nat} : PE X (.Constant (.str i) j pos) (gE X Γ W (.cst (.str i))) := pe_str.mono fun σ H Q ⟨κ, ρ, M, rs, rm, h⟩ => by
  simp only [wE] at h
  exact h.at (.d (.str i)) rm
theorem j_cst_dict : PE X (.Dict [] [] pos) (gE X Γ W (.cst (.dict []))) := pe_dnewK.mono fun σ H Q ⟨κ, ρ, M, rs, rm, h⟩ p hp => by
  simp only [wE] at h
  exact h.new rm hp (.d (.dct upd_same ⟨fun z => rm.has z hp, fun z => (rm.tm p z).1 hp⟩))
theorem j_neg (G : GOk X Γ W T) (ha : PE X a' (gE X Γ W a)) : PE X (.UnaryOp .USub a' pos) (gE X Γ W (.neg a)) := (pe_un un_neg ha).mono fun σ H Q ⟨κ, ρ, M, rs, rm, h⟩ => by
  simp only [wE] at h
  refine gE.go G.mo .refl rs rm h fun x M1 κ1 v H1 ⟨i, e, h⟩ g r m => ?_
  unfold int? at e
  split at e
  · cases e
    cases r with
    | d r => cases r; exact ⟨_, rfl, h _ _ _ g (.d (.int _)) m⟩
  · cases e
theorem j_bin (G : GOk X Γ W T) (o : Operator) (ha : PE X a' (gE X Γ W a)) (hb : PE X b' (gE X Γ W b)) : PE X (.BinOp a' o b' pos) (gE X Γ W (.bin o a b)) := (pe_op (ok_bin o) ha hb).mono fun σ H Q ⟨κ, ρ, M, rs, rm, h⟩ => by
  simp only [wE] at h
  refine gE.go G.mo .refl rs rm h fun x M1 κ1 vx H1 p1 g1 r1 m1 => ?_
  refine gE.go G.mo g1 (rs.grow g1.toGrow) m1 p1 fun y M2 κ2 vy H2 p2 g2 r2 m2 => ?_
  exact ⟨κ2, M2, x, y, m2, r1.grow g2.toGrow, r2, wBin_mo (fun z M3 q => q.grow (g1.trans g2)) p2⟩
theorem j_cmp (G : GOk X Γ W T) (o : CmpOp) (ha : PE X a' (gE X Γ W a)) (hb : PE X b' (gE X Γ W b)) (hm : behindInMarks o b' = false) : PE X (.Compare a' [o] [b'] pos) (gE X Γ W (.cmp o a b)) := (pe_cmpR (ok_cmp G.hu o) ha hb hm).mono fun σ H Q ⟨κ, ρ, M, rs, rm, h⟩ => by
  simp only [wE] at h
  refine gE.go G.mo .refl rs rm h fun x M1 κ1 vx H1 p1 g1 r1 m1 => ?_
  refine gE.go G.mo g1 (rs.grow g1.toGrow) m1 p1 fun y M2 κ2 vy H2 p2 g2 r2 m2 => ?_
  exact ⟨κ2, M2, x, y, m2, r1.grow g2.toGrow, r2, wCmp_mo (fun z M3 q => q.grow (g1.trans g2)) p2⟩
/-- a comparison tells a bool -/
theorem wOrd_B {f g x y} {M : Mem} {P : S → Mem → Prop} (h : wOrd f g x y M P) : wOrd f g x y M fun z M1 => (∃ b, z = B b) ∧ P z M1 := by
  unfold wOrd at h ⊢
  split at h
  · exact ⟨⟨_, rfl⟩, h⟩
  · exact ⟨h.1, ⟨_, rfl⟩, h.2⟩
  · exact h
theorem wIn_B {f x y} {M : Mem} {P : S → Mem → Prop} (h : wIn x y f M P) : wIn x y f M fun z M1 => (∃ b, z = B b) ∧ P z M1 := by
  unfold wIn at h ⊢
  split at h
  · exact ⟨h.1, ⟨_, rfl⟩, h.2⟩
  · exact ⟨h.1, ⟨_, rfl⟩, h.2⟩
  · exact h
theorem wCmp_B {o : CmpOp} {x y : S} {M : Mem} {P : S → Mem → Prop} (h : wCmp o x y M P) : wCmp o x y M fun z M1 => (∃ b, z = B b) ∧ P z M1 := by
  cases o <;> unfold wCmp at h ⊢ <;> dsimp only at h ⊢
  case Lt => exact wOrd_B h
  case LtE => exact wOrd_B h
  case Gt => exact wOrd_B h
  case GtE => exact wOrd_B h
  all_goals
    split at h <;> first
      | exact ⟨⟨_, rfl⟩, h⟩
      | exact wIn_B h
      | exact ⟨h.1, h.2.1, ⟨_, rfl⟩, h.2.2⟩
      | exact h
theorem tt_cmp (G : GOk X Γ W T) (o : CmpOp) (ha : PE X a' (gE X Γ W a)) (hb : PE X b' (gE X Γ W b)) (hm : behindInMarks o b' = false) : PT X (.Compare a' [o] [b'] pos) (gT X Γ W (.cmp o a b)) := (pt_cmpR (ok_cmp G.hu o) ha hb hm).mono fun σ H Q ⟨κ, ρ, M, rs, rm, h⟩ => by
  simp only [wT, wE] at h
  refine gE.go G.mo .refl rs rm h fun x M1 κ1 vx H1 p1 g1 r1 m1 => ?_
  refine gE.go G.mo g1 (rs.grow g1.toGrow) m1 p1 fun y M2 κ2 vy H2 p2 g2 r2 m2 => ?_
  refine ⟨κ2, M2, x, y, m2, r1.grow g2.toGrow, r2, wCmp_mo (fun z M3 ⟨⟨k0, ez⟩, k, e, q⟩ κ3 v3 H3 g3 r3 m3 => ?_) (wCmp_B p2)⟩
  subst ez
  cases e
  cases r3 with
  | d r3 => cases r3; exact ⟨_, rfl, q κ3 H3 ((g1.trans g2).trans g3) m3⟩
theorem j_chain (G : GOk X Γ W T) (o p : CmpOp) (ha : PE X a' (gE X Γ W a)) (hb : PE X b' (gE X Γ W b)) (hc : PE X c' (gE X Γ W c)) (hm : lastMarks [o, p] [b', c'] = false) : PE X (.Compare a' [o, p] [b', c'] pos) (gE X Γ W (.chain o p a b c)) :=
  (pe_chain (ok_cmp G.hu o) (ok_cmp G.hu p) ha hb hc hm).mono fun σ H Q ⟨κ, ρ, M, rs, rm, h⟩ => by
  simp only [wE] at h
  refine gE.go G.mo .refl rs rm h fun x M1 κ1 vx H1 p1 g1 r1 m1 => ?_
  refine gE.go G.mo g1 (rs.grow g1.toGrow) m1 p1 fun y M2 κ2 vy H2 p2 g2 r2 m2 => ?_
  have g12 := g1.trans g2
  refine ⟨κ2, M2, x, y, m2, r1.grow g2.toGrow, r2, wCmp_mo (fun z M3 ⟨k, e, q⟩ κ3 v3 H3 g3 r3 m3 => ?_) p2⟩
  subst e
  cases r3 with
  | d r3 =>
    cases r3
    refine ⟨k, rfl, ?_⟩
    have g13 := g12.trans g3
    cases k with
    | false => exact q κ3 _ H3 g13 (.d (.bl false)) m3
    | true =>
      refine gE.go G.mo g13 (rs.grow g13.toGrow) m3 q fun w M4 κ4 v4 H4 p4 g4 r4 m4 => ?_
      exact ⟨κ4, M4, y, w, m4, r2.grow (g3.trans g4).toGrow, r4, wCmp_mo (fun z M5 q => q.grow (g13.trans g4)) p4⟩
theorem tt_chain (G : GOk X Γ W T) (o p : CmpOp) (ha : PE X a' (gE X Γ W a)) (hb : PE X b' (gE X Γ W b)) (hc : PE X c' (gE X Γ W c)) (hm : lastMarks [o, p] [b', c'] = false) : PT X (.Compare a' [o, p] [b', c'] pos) (gT X Γ W (.chain o p a b c)) :=
  (pt_chain (ok_cmp G.hu o) (ok_cmp G.hu p) ha hb hc hm).mono fun σ H Q ⟨κ, ρ, M, rs, rm, h⟩ => by
  simp only [wT, wE] at h
  refine gE.go G.mo .refl rs rm h fun x M1 κ1 vx H1 p1 g1 r1 m1 => ?_
  refine gE.go G.mo g1 (rs.grow g1.toGrow) m1 p1 fun y M2 κ2 vy H2 p2 g2 r2 m2 => ?_
  have g12 := g1.trans g2
  refine ⟨κ2, M2, x, y, m2, r1.grow g2.toGrow, r2, wCmp_mo (fun z M3 ⟨k, e, q⟩ κ3 v3 H3 g3 r3 m3 => ?_) p2⟩
  subst e
  cases r3 with
  | d r3 =>
    cases r3
    refine ⟨k, rfl, ?_⟩
    have g13 := g12.trans g3
    cases k with
    | false =>
      obtain ⟨k', e', q⟩ := q
      cases e'
      exact ⟨_, rfl, q κ3 H3 g13 m3⟩
    | true =>
      refine gE.go G.mo g13 (rs.grow g13.toGrow) m3 q fun w M4 κ4 v4 H4 p4 g4 r4 m4 => ?_
      refine ⟨κ4, M4, y, w, m4, r2.grow (g3.trans g4).toGrow, r4, wCmp_mo (fun z M5 ⟨⟨k0, ez⟩, k, e, q⟩ κ5 v5 H5 g5 r5 m5 => ?_) (wCmp_B p4)⟩
      subst ez
      cases e
      cases r5 with
      | d r5 => cases r5; exact ⟨_, rfl, q κ5 H5 ((g13.trans g4).trans g5) m5⟩
/-! ### truth -/
theorem tt_val (G : GOk X Γ W T) (ha : PE X a' (gE X Γ W a)) (he : ∀ whole, isTrue a' X.env whole = (do let v ← whole; standAt a'.pos; holding [v] (truthy v)))
    (hw : ∀ ρ M Q E, wT Γ a ρ M Q E = wE Γ a ρ M (fun x M1 => ∃ k, truth M1 x = some k ∧ Q k M1) E) : PT X a' (gT X Γ W a) := (pt_truth ha he).mono fun σ H Q ⟨κ, ρ, M, rs, rm, h⟩ => by
  rw [hw] at h
  refine gE.go G.mo .refl rs rm h fun x M1 κ1 vx H1 ⟨k, e, q⟩ g1 r1 m1 => ?_
  exact ⟨k, tru_at m1 r1 e, q κ1 H1 g1 m1⟩
theorem j_not (G : GOk X Γ W T) (ha : PE X a' (gE X Γ W a)) : PE X (.UnaryOp .Not a' pos) (gE X Γ W (.not a)) := (pe_notT ha).mono fun σ H Q ⟨κ, ρ, M, rs, rm, h⟩ => by
  simp only [wE] at h
  refine gE.go G.mo .refl rs rm h fun x M1 κ1 vx H1 ⟨k, e, q⟩ g1 r1 m1 => ?_
  exact ⟨k, tru_at m1 r1 e, q κ1 _ H1 g1 (.d (.bl _)) m1⟩
theorem tt_not (G : GOk X Γ W T) (ha : PT X a' (gT X Γ W a)) : PT X (.UnaryOp .Not a' pos) (gT X Γ W (.not a)) := (pt_not ha).mono fun σ H Q ⟨κ, ρ, M, rs, rm, h⟩ => by
  simp only [wT] at h
  exact gT.go G.mo .refl rs rm h fun k M1 κ1 H1 q g1 m1 => q κ1 H1 g1 m1
theorem j_and {rest : List Expr} (G : GOk X Γ W T) (ha : PE X a' (gE X Γ W a)) (hb : PE X (.BoolOp .And (b' :: rest) pos) (gE X Γ W b)) : PE X (.BoolOp .And (a' :: b' :: rest) pos) (gE X Γ W (.and a b)) := (pe_andT ha hb).mono fun σ H Q ⟨κ, ρ, M, rs, rm, h⟩ => by
  simp only [wE] at h
  refine gE.go G.mo .refl rs rm h fun x M1 κ1 vx H1 ⟨k, e, q⟩ g1 r1 m1 => ⟨k, tru_at m1 r1 e, ?_⟩
  cases k with
  | true => exact gE.go G.mo g1 (rs.grow g1.toGrow) m1 q fun y M2 κ2 vy H2 p2 g2 r2 m2 => p2 κ2 vy H2 (g1.trans g2) r2 m2
  | false => exact q κ1 vx H1 g1 r1 m1
theorem j_or {rest : List Expr} (G : GOk X Γ W T) (ha : PE X a' (gE X Γ W a)) (hb : PE X (.BoolOp .Or (b' :: rest) pos) (gE X Γ W b)) : PE X (.BoolOp .Or (a' :: b' :: rest) pos) (gE X Γ W (.or a b)) := (pe_orT ha hb).mono fun σ H Q ⟨κ, ρ, M, rs, rm, h⟩ => by
  simp only [wE] at h
  refine gE.go G.mo .refl rs rm h fun x M1 κ1 vx H1 ⟨k, e, q⟩ g1 r1 m1 => ⟨k, tru_at m1 r1 e, ?_⟩
  cases k with
  | false => exact gE.go G.mo g1 (rs.grow g1.toGrow) m1 q fun y M2 κ2 vy H2 p2 g2 r2 m2 => p2 κ2 vy H2 (g1.trans g2) r2 m2
  | true => exact q κ1 vx H1 g1 r1 m1
theorem w_and {rest : List Expr} (G : GOk X Γ W T) (ha : PT X a' (gT X Γ W a)) (hb : PW X (.BoolOp .And (b' :: rest) pos) (gT X Γ W b)) : PW X (.BoolOp .And (a' :: b' :: rest) pos) (gT X Γ W (.and a b)) := (pw_and ha hb).mono fun σ H Q ⟨κ, ρ, M, rs, rm, h⟩ => by
  simp only [wT] at h
  refine gT.go G.mo .refl rs rm h fun k M1 κ1 H1 q g1 m1 => ?_
  cases k with
  | true => exact gT.go G.mo g1 (rs.grow g1.toGrow) m1 q fun y M2 κ2 H2 p2 g2 m2 => p2 κ2 H2 (g1.trans g2) m2
  | false => exact q κ1 H1 g1 m1
theorem w_or {rest : List Expr} (G : GOk X Γ W T) (ha : PT X a' (gT X Γ W a)) (hb : PW X (.BoolOp .Or (b' :: rest) pos) (gT X Γ W b)) : PW X (.BoolOp .Or (a' :: b' :: rest) pos) (gT X Γ W (.or a b)) := (pw_or ha hb).mono fun σ H Q ⟨κ, ρ, M, rs, rm, h⟩ => by
  simp only [wT] at h
  refine gT.go G.mo .refl rs rm h fun k M1 κ1 H1 q g1 m1 => ?_
  cases k with
  | false => exact gT.go G.mo g1 (rs.grow g1.toGrow) m1 q fun y M2 κ2 H2 p2 g2 m2 => p2 κ2 H2 (g1.trans g2) m2
  | true => exact q κ1 H1 g1 m1
theorem j_ite (G : GOk X Γ W T) (hc : PT X c' (gT X Γ W c)) (ha : PE X a' (gE X Γ W a)) (hb : PE X b' (gE X Γ W b)) : PE X (.IfExp c' a' b' pos) (gE X Γ W (.ite c a b)) := (pe_ifExp hc ha hb).mono fun σ H Q ⟨κ, ρ, M, rs, rm, h⟩ => by
  simp only [wE] at h
  refine gT.go G.mo .refl rs rm h fun k M1 κ1 H1 q g1 m1 => ?_
  cases k with
  | true => exact gE.go G.mo g1 (rs.grow g1.toGrow) m1 q fun y M2 κ2 vy H2 p2 g2 r2 m2 => p2 κ2 vy H2 (g1.trans g2) r2 m2
  | false => exact gE.go G.mo g1 (rs.grow g1.toGrow) m1 q fun y M2 κ2 vy H2 p2 g2 r2 m2 => p2 κ2 vy H2 (g1.trans g2) r2 m2
/-! ### lists of expressions -/
theorem ja_nil : PA X [] (gA X Γ W .nil) := pa_nil.mono fun σ H Q ⟨κ, ρ, M, rs, rm, h⟩ => by
  simp only [wEs] at h
  exact h κ _ H .refl .nil rm
theorem ja_cons {es : Es} {es' : List Expr} (G : GOk X Γ W T) (ha : PE X a' (gE X Γ W a)) (hr : PA X es' (gA X Γ W es)) (hs : starEach (a' :: es') X.env = (false, eval a' X.env) :: starEach es' X.env) : PA X (a' :: es') (gA X Γ W (.cons a es)) := (pa_cons ha hr hs).mono fun σ H Q ⟨κ, ρ, M, rs, rm, h⟩ => by
  simp only [wEs] at h
  refine gE.go G.mo .refl rs rm h fun x M1 κ1 vx H1 q g1 r1 m1 => ?_
  refine gA.go G.mo g1 (rs.grow g1.toGrow) m1 q fun y M2 κ2 vy H2 p2 g2 r2 m2 => ?_
  exact p2 κ2 _ H2 (g1.trans g2) (.cons (r1.grow g2.toGrow) r2) m2
theorem j_tup {es : Es} {es' : List Expr} {k : Nat} (G : GOk X Γ W T) (h : PA X es' (gA X Γ W es)) : PE X (.Tuple es' k pos) (gE X Γ W (.tup es)) := (pe_tup h).mono fun σ H Q ⟨κ, ρ, M, rs, rm, h⟩ => by
  simp only [wE] at h
  refine gA.go G.mo .refl rs rm h fun ss M1 κ1 vs H1 ⟨xs, e, z, q⟩ g1 r1 m1 => ?_
  have rp := RSs.toP r1 e
  have hz : vs.length ≤ sizeLine := by rw [rp.length]; exact z
  exact ⟨hz, fun p hp => q κ1 _ _ (g1.trans (Gr.new m1 hp)) (rp_tup m1 hp hz rp) (m1.new hp)⟩
/-! ### new lists -/
theorem j_fr {f : F} {e' : Expr} (G : GOk X Γ W T) (h : PE X e' (gF X Γ W f)) : PE X e' (gE X Γ W (.fr f)) := h.mono fun σ H Q ⟨κ, ρ, M, rs, rm, h⟩ => by
  simp only [wE] at h
  exact ⟨κ, ρ, M, rs, rm, mF G.mo f ρ _ _ _ _ _ (fun ss M1 ⟨xs, e, q⟩ => PostL.fr q e) (fun _ _ q => q) h⟩
theorem j_al {f : F} {e' : Expr} (G : GOk X Γ W T) (h : PE X e' (gF X Γ W f)) : PE X e' (gE X Γ W (.al f)) := h.mono fun σ H Q ⟨κ, ρ, M, rs, rm, h⟩ => by
  simp only [wE] at h
  exact ⟨κ, ρ, M, rs, rm, mF G.mo f ρ _ _ _ _ _ (fun ss M1 q => PostL.al q) (fun _ _ q => q) h⟩
theorem jf_disp {es : Es} {es' : List Expr} (G : GOk X Γ W T) (h : PA X es' (gA X Γ W es)) : PE X (.List es' pos) (gF X Γ W (.disp es)) := (pe_lst h).mono fun σ H Q ⟨κ, ρ, M, rs, rm, h⟩ => by
  simp only [wF, wDisp] at h
  refine gA.go G.mo .refl rs rm h fun ss M1 κ1 vs H1 ⟨z, q⟩ g1 r1 m1 => ?_
  have hz : vs.length ≤ sizeLine := by rw [r1.length]; exact z
  exact ⟨hz, fun p hp => (q.grow g1).new m1 hp hz r1⟩
theorem jf_cat (G : GOk X Γ W T) (ha : PE X a' (gE X Γ W a)) (hb : PE X b' (gE X Γ W b)) : PE X (.BinOp a' .Add b' pos) (gF X Γ W (.cat a b)) := (pe_op ok_cat ha hb).mono fun σ H Q ⟨κ, ρ, M, rs, rm, h⟩ => by
  simp only [wF] at h
  refine gE.go G.mo .refl rs rm h fun x M1 κ1 vx H1 p1 g1 r1 m1 => ?_
  refine gE.go G.mo g1 (rs.grow g1.toGrow) m1 p1 fun y M2 κ2 vy H2 ⟨xs, ys, t1, t2, e1, e2, z, q⟩ g2 r2 m2 => ?_
  exact ⟨κ2, M2, x, y, xs, ys, m2, r1.grow g2.toGrow, r2, t1, t2, e1, e2, z, q.grow (g1.trans g2)⟩
theorem jf_rep (G : GOk X Γ W T) (ha : PE X a' (gE X Γ W a)) (hb : PE X b' (gE X Γ W b)) : PE X (.BinOp a' .Mult b' pos) (gF X Γ W (.rep a b)) := (pe_op ok_rep ha hb).mono fun σ H Q ⟨κ, ρ, M, rs, rm, h⟩ => by
  simp only [wF] at h
  refine gE.go G.mo .refl rs rm h fun x M1 κ1 vx H1 p1 g1 r1 m1 => ?_
  refine gE.go G.mo g1 (rs.grow g1.toGrow) m1 p1 fun y M2 κ2 vy H2 ⟨xs, j, t1, e1, ey, z, q⟩ g2 r2 m2 => ?_
  exact ⟨κ2, M2, x, y, xs, j, m2, r1.grow g2.toGrow, r2, t1, e1, ey, z, q.grow (g1.trans g2)⟩
/-! ### parts of a slice -/
theorem jo_none : PO X none (gO X Γ W .none) := po_none.mono fun σ H Q ⟨κ, ρ, M, rs, rm, h⟩ => by
  simp only [wO] at h
  exact h κ H .refl rm
theorem jo_some (G : GOk X Γ W T) (ha : PE X a' (gE X Γ W a)) : PO X (some a') (gO X Γ W (.some a)) := (po_some ha).mono fun σ H Q ⟨κ, ρ, M, rs, rm, h⟩ => by
  simp only [wO] at h
  refine gE.go G.mo .refl rs rm h fun x M1 κ1 v H1 ⟨i, e, h⟩ g r m => ?_
  unfold int? at e
  split at e
  · cases e
    cases r with
    | d r => cases r; exact ⟨_, rfl, h _ _ g m⟩
  · cases e
theorem jf_slice {lo hi : Oe} {lo' hi' : Option Expr} (G : GOk X Γ W T) (ha : PE X a' (gE X Γ W a)) (hl : PO X lo' (gO X Γ W lo)) (hh : PO X hi' (gO X Γ W hi)) : PE X (.Subscript a' (.Slice lo' hi' none p2) pos) (gF X Γ W (.slice a lo hi)) := (pe_slice ok_slL ha hl hh).mono fun σ H Q ⟨κ, ρ, M, rs, rm, h⟩ => by
  simp only [wF] at h
  refine gE.go G.mo .refl rs rm h fun x M1 κ1 vx H1 p1 g1 r1 m1 => ?_
  refine gO.go G.mo g1 (rs.grow g1.toGrow) m1 p1 fun l M2 κ2 H2 p2 g2 m2 => ?_
  have g12 := g1.trans g2
  refine gO.go G.mo g12 (rs.grow g12.toGrow) m2 p2 fun u M3 κ3 H3 ⟨xs, t, e, q⟩ g3 m3 => ?_
  exact ⟨κ3, M3, x, xs, m3, r1.grow (g2.trans g3).toGrow, t, e, q.grow (g12.trans g3)⟩
theorem j_sl {lo hi : Oe} {lo' hi' : Option Expr} (G : GOk X Γ W T) (ha : PE X a' (gE X Γ W a)) (hl : PO X lo' (gO X Γ W lo)) (hh : PO X hi' (gO X Γ W hi)) : PE X (.Subscript a' (.Slice lo' hi' none p2) pos) (gE X Γ W (.sl a lo hi)) := (pe_slice ok_sl ha hl hh).mono fun σ H Q ⟨κ, ρ, M, rs, rm, h⟩ => by
  simp only [wE] at h
  refine gE.go G.mo .refl rs rm h fun x M1 κ1 vx H1 p1 g1 r1 m1 => ?_
  refine gO.go G.mo g1 (rs.grow g1.toGrow) m1 p1 fun l M2 κ2 H2 p2 g2 m2 => ?_
  have g12 := g1.trans g2
  refine gO.go G.mo g12 (rs.grow g12.toGrow) m2 p2 fun u M3 κ3 H3 q g3 m3 => ?_
  exact ⟨κ3, M3, x, m3, r1.grow (g2.trans g3).toGrow, wSl_mo (fun z M4 q => q.grow (g12.trans g3)) q⟩
theorem j_ix (G : GOk X Γ W T) (ha : PE X a' (gE X Γ W a)) (hb : PE X b' (gE X Γ W b)) (hs : PlainIx b') : PE X (.Subscript a' b' pos) (gE X Γ W (.ix a b)) := (pe_ix ok_ix ha hb hs).mono fun σ H Q ⟨κ, ρ, M, rs, rm, h⟩ => by
  simp only [wE] at h
  refine gE.go G.mo .refl rs rm h fun x M1 κ1 vx H1 p1 g1 r1 m1 => ?_
  refine gE.go G.mo g1 (rs.grow g1.toGrow) m1 p1 fun y M2 κ2 vy H2 p2 g2 r2 m2 => ?_
  exact ⟨κ2, M2, x, y, m2, r1.grow g2.toGrow, r2, wIx_mo (fun z M3 q => q.grow (g1.trans g2)) p2⟩
end
end G

/-! Layer G, part 4b: calls of built-ins, methods, functions. -/
namespace G
open PySem L2 PySem.Spec PyProof.Rows

/-! ### shapes of the text -/
theorem star_cons {e : Expr} {es : List Expr} {env : PySem.Env} (h : nostar e = true) : starEach (e :: es) env = (false, eval e env) :: starEach es env := by
  cases e <;> first | rfl | cases h
theorem star_any {env : PySem.Env} {pos : Pos} : ∀ {es : List Expr}, es.all nostar = true → (backTo pos (starEach es env)).any (·.1) = false
  | [], _ => rfl
  | e :: es, h => by
    rw [List.all_cons, Bool.and_eq_true] at h
    rw [star_cons h.1]
    show (false || (backTo pos (starEach es env)).any (·.1)) = false
    rw [star_any h.2] <;> rfl
theorem star_all {env : PySem.Env} {pos : Pos} : ∀ {es : List Expr}, es.all nostar = true → (backTo pos (starEach es env)).all (fun x => !x.1) = true
  | [], _ => rfl
  | e :: es, h => by
    rw [List.all_cons, Bool.and_eq_true] at h
    rw [star_cons h.1]
    show (true && (backTo pos (starEach es env)).all (fun x => !x.1)) = true
    rw [star_all h.2] <;> rfl
/-- o of o.m(..): not super() -/
def abOk : Expr → Bool
  | .Call (.Name _ _) [] [] _ => false
  | _ => true
theorem ab_of {o : Expr} {m : Str} {env : PySem.Env} (h : abOk o = true) : attributeBase o m env (eval o env) = eval o env := by
  unfold attributeBase
  split
  · cases h
  · rfl
def notSlice : Expr → Bool
  | .Slice .. => false
  | _ => true
theorem plainIx_of {b : Expr} (h : notSlice b = true) : PlainIx b := by
  intro o i
  cases b <;> first | rfl | cases h
def notComp : Expr → Bool
  | .ListComp .. => false
  | .SetComp .. => false
  | .DictComp .. => false
  | _ => true
theorem sw_of {e : Expr} {t : Option Expr} {l : Nat} {env : PySem.Env} (h : notComp e = true) : swapsWith e t l env = pure false := by
  cases e <;> first | rfl | cases h
def notSet : Expr → Bool
  | .Set .. => false
  | _ => true
theorem fs_of {e : Expr} {env : PySem.Env} (h : notSet e = true) : ∀ x, foldedSetIterable e env x = pure x := by
  intro x
  cases e <;> first | rfl | cases h
/-- what is tested by its value -/
def plainT : Expr → Bool
  | .BoolOp .. => false
  | .Compare .. => false
  | .UnaryOp .Not _ _ => false
  | .IfExp .. => false
  | .NamedExpr .. => false
  | _ => true
theorem plain_of {e : Expr} {env : PySem.Env} (h : plainT e = true) : ∀ whole, isTrue e env whole = (do let v ← whole; standAt e.pos; holding [v] (truthy v)) := by
  intro whole
  cases e <;> first
    | rfl
    | cases h
    | (rename_i op _ _; cases op <;> first | rfl | cases h)

section
variable {X : Cx} {Γ : Env} {W : WX} {κ κ0 : Loc} {H H0 : Hp} {ρ : Sto} {σ : L2.St} {M : Mem} {T : CT} {a b c : E} {a' b' c' : Expr} {pos p p2 p3 : Pos}
/-! ### built-in functions -/
theorem b1_core {f : B1} {e' : Expr} (G : GOk X Γ W T) (h : PE X e' (tCB (r1 X.K (wB1 f)) (tCons (gE X Γ W a) tNil))) : PE X e' (gE X Γ W (.b1 f a)) := h.mono fun σ H Q ⟨κ, ρ, M, rs, rm, h⟩ => by
  simp only [wE] at h
  refine gE.go G.mo .refl rs rm h fun x M1 κ1 vx H1 p1 g1 r1 m1 => ?_
  exact ⟨κ1, M1, vx, x, rfl, m1, r1, wB1_mo (fun z M2 q => q.grow g1) p1⟩
def b1N : B1 → Option Str
  | .len => some "len"
  | .tuple => some "tuple"
  | .list => some "list"
  | .int => some "int"
  | .bool => some "bool"
  | .str => some "str"
  | .repr => some "repr"
  | .abs => some "abs"
  | .sum => some "sum"
  | .all => some "all"
  | .any => some "any"
  | .max => some "max"
  | .min => some "min"
  | _ => none
def b1C : B1 → Bool
  | .sum => true
  | .all => true
  | .any => true
  | .max => true
  | .min => true
  | _ => false
theorem j_b1 (G : GOk X Γ W T) (f : B1) {n : Str} (hn : b1N f = some n) (hc : b1C f = true → T.cm = true) (hg : Gl X n) (ha : PE X a' (gE X Γ W a)) (ns : nostar a' = true) : PE X (.Call (.Name n p) [a'] [] pos) (gE X Γ W (.b1 f a)) := by
  have pa := pa_cons ha pa_nil (star_cons ns)
  cases f <;> first | cases hn | skip
  case len => exact b1_core G (pe_callB ok_len hg (G.bt _ (by decide)) boot_len pa (he := star_cons ns))
  case tuple => exact b1_core G (pe_callTy ok_tuple hg (G.bt _ (by decide)) PyProof.Rows.boot_tuple pa (he := star_cons ns))
  case list => exact b1_core G (pe_callTy ok_list hg (G.bt _ (by decide)) PyProof.Rows.boot_list pa (he := star_cons ns))
  case int => exact b1_core G (pe_callTy ok_int hg (G.bt _ (by decide)) PyProof.Rows.boot_int pa (he := star_cons ns))
  case bool => exact b1_core G (pe_callTy ok_bool hg (G.bt _ (by decide)) PyProof.Rows.boot_bool pa (he := star_cons ns))
  case str => exact b1_core G (pe_callTy ok_str hg (G.bt _ (by decide)) PyProof.Rows.boot_str pa (he := star_cons ns))
  case repr => exact b1_core G (pe_callB (ok_repr G.hu G.gu) hg (G.bt _ (by decide)) PyProof.Rows.boot_repr pa (he := star_cons ns))
  case abs => exact b1_core G (pe_callB ok_abs hg (G.bt _ (by decide)) PyProof.Rows.boot_abs pa (he := star_cons ns))
  case sum => exact b1_core G (pe_callB (ok_sum (G.calm (hc rfl))) hg (G.bt _ (by decide)) PyProof.Rows.boot_sum pa (he := star_cons ns))
  case all => exact b1_core G (pe_callB (ok_all (G.calm (hc rfl))) hg (G.bt _ (by decide)) PyProof.Rows.boot_all pa (he := star_cons ns))
  case any => exact b1_core G (pe_callB (ok_any (G.calm (hc rfl))) hg (G.bt _ (by decide)) PyProof.Rows.boot_any pa (he := star_cons ns))
  case max => exact b1_core G (pe_callB (ok_max (G.calm (hc rfl)) G.hu) hg (G.bt _ (by decide)) PyProof.Rows.boot_max pa (he := star_cons ns))
  case min => exact b1_core G (pe_callB (ok_min (G.calm (hc rfl)) G.hu) hg (G.bt _ (by decide)) PyProof.Rows.boot_min pa (he := star_cons ns))
theorem b2_core {f : B2} {e' : Expr} (G : GOk X Γ W T) (h : PE X e' (tCB (rB2 X.K f) (tCons (gE X Γ W a) (tCons (gE X Γ W b) tNil)))) : PE X e' (gE X Γ W (.b2 f a b)) := h.mono fun σ H Q ⟨κ, ρ, M, rs, rm, h⟩ => by
  simp only [wE] at h
  refine gE.go G.mo .refl rs rm h fun x M1 κ1 vx H1 p1 g1 r1 m1 => ?_
  refine gE.go G.mo g1 (rs.grow g1.toGrow) m1 p1 fun y M2 κ2 vy H2 p2 g2 r2 m2 => ?_
  exact ⟨κ2, M2, vx, vy, x, y, rfl, m2, r1.grow g2.toGrow, r2, wB2_mo (fun z M3 q => q.grow (g1.trans g2)) p2⟩
theorem j_b2 (G : GOk X Γ W T) (hc : T.cm = true) (f : B2) {n : Str} (hn : (f = .max ∧ n = "max") ∨ (f = .min ∧ n = "min")) (hg : Gl X n) (ha : PE X a' (gE X Γ W a)) (hb : PE X b' (gE X Γ W b)) (na : nostar a' = true) (nb : nostar b' = true) :
    PE X (.Call (.Name n p) [a', b'] [] pos) (gE X Γ W (.b2 f a b)) := by
  have pa := pa_cons ha (pa_cons hb pa_nil (star_cons nb)) (star_cons na)
  have hpl : (backTo pos (starEach [b'] X.env)).any (·.1) = false := star_any (by simp [nb])
  rcases hn with ⟨rfl, rfl⟩ | ⟨rfl, rfl⟩
  · exact b2_core G (pe_callB (ok_max2 (G.calm hc)) hg (G.bt _ (by decide)) PyProof.Rows.boot_max pa (he := star_cons na) (hpl := hpl))
  · exact b2_core G (pe_callB (ok_min2 (G.calm hc)) hg (G.bt _ (by decide)) PyProof.Rows.boot_min pa (he := star_cons na) (hpl := hpl))
/-! ### isinstance -/
theorem six_boot {t : String} (h : t ∈ six) : (Str.ofString t) ∈ bnames ∨ t = "dict" := by
  simp only [six, List.mem_cons, List.not_mem_nil, or_false] at h
  rcases h with rfl | rfl | rfl | rfl | rfl | rfl <;> first | exact .inl (by decide) | exact .inr rfl
theorem pe_six (G : GOk X Γ W T) {t : String} (h : t ∈ six) (hg : Gl X (Str.ofString t)) : PE X (.Name (Str.ofString t) p) (tC (.ty t)) := by
  simp only [six, List.mem_cons, List.not_mem_nil, or_false] at h
  rcases h with rfl | rfl | rfl | rfl | rfl | rfl
  · exact pe_bltn hg (G.bt _ (by decide)) PyProof.Rows.boot_int rfl
  · exact pe_bltn hg (G.bt _ (by decide)) PyProof.Rows.boot_bool rfl
  · exact pe_bltn hg (G.bt _ (by decide)) PyProof.Rows.boot_str rfl
  · exact pe_bltn hg (G.bt _ (by decide)) PyProof.Rows.boot_list rfl
  · exact pe_bltn hg (G.bt _ (by decide)) PyProof.Rows.boot_tuple rfl
  · exact pe_bltn hg (G.bt _ (by decide)) PyProof.Rows.boot_dict rfl
theorem j_isi (G : GOk X Γ W T) {t : String} (h6 : t ∈ six) (hg : Gl X "isinstance") (ht : Gl X (Str.ofString t)) (ha : PE X a' (gE X Γ W a)) (na : nostar a' = true) : PE X (.Call (.Name "isinstance" p) [a', .Name (Str.ofString t) p2] [] pos) (gE X Γ W (.isI a [t])) := by
  have pa := pa_cons ha (pa_cons (pe_six (p := p2) G h6 ht) pa_nil (star_cons rfl)) (star_cons na)
  refine (pe_callB (ok_isi h6) hg (G.bt _ (by decide)) PyProof.Rows.boot_isinstance pa (he := star_cons na) (hpl := star_any rfl)).mono fun σ H Q ⟨κ, ρ, M, rs, rm, h⟩ => ?_
  simp only [wE] at h
  refine gE.go G.mo .refl rs rm h fun x M1 κ1 vx H1 ⟨bs, e, q⟩ g1 r1 m1 => ?_
  exact ⟨κ1, M1, vx, x, rfl, m1, r1, bs, e, q.grow g1⟩
/-- the classes' names -/
def tyNames : List Expr → List String → Bool
  | [], [] => true
  | .Name n _ :: es, t :: ts => decide (n = Str.ofString t) && (decide (t ∈ six) && tyNames es ts)
  | _, _ => false
theorem pa_tys (G : GOk X Γ W T) (hgl : ∀ t ∈ six, Gl X (Str.ofString t)) : ∀ {es : List Expr} {ts : List String}, tyNames es ts = true → PA X es (fun σ H Q => Q (ts.map V.ty) H)
  | [], [], _ => pa_nil
  | [], _ :: _, h => by simp [tyNames] at h
  | .Name n q :: es, t :: ts, h => by
    simp only [tyNames, Bool.and_eq_true, decide_eq_true_eq] at h
    obtain ⟨rfl, h6, h⟩ := h
    exact (pa_cons (pe_six G h6 (hgl t h6)) (pa_tys G hgl h) (star_cons rfl)).mono fun σ H Q q => q
  | .Name _ _ :: _, [], h => by simp [tyNames] at h
  | .BoolOp .. :: _, _, h => by simp [tyNames] at h
  | .NamedExpr .. :: _, _, h => by simp [tyNames] at h
  | .BinOp .. :: _, _, h => by simp [tyNames] at h
  | .UnaryOp .. :: _, _, h => by simp [tyNames] at h
  | .Lambda .. :: _, _, h => by simp [tyNames] at h
  | .IfExp .. :: _, _, h => by simp [tyNames] at h
  | .Dict .. :: _, _, h => by simp [tyNames] at h
  | .Set .. :: _, _, h => by simp [tyNames] at h
  | .ListComp .. :: _, _, h => by simp [tyNames] at h
  | .SetComp .. :: _, _, h => by simp [tyNames] at h
  | .DictComp .. :: _, _, h => by simp [tyNames] at h
  | .GeneratorExp .. :: _, _, h => by simp [tyNames] at h
  | .Await .. :: _, _, h => by simp [tyNames] at h
  | .Yield .. :: _, _, h => by simp [tyNames] at h
  | .YieldFrom .. :: _, _, h => by simp [tyNames] at h
  | .Compare .. :: _, _, h => by simp [tyNames] at h
  | .Call .. :: _, _, h => by simp [tyNames] at h
  | .FormattedValue .. :: _, _, h => by simp [tyNames] at h
  | .JoinedStr .. :: _, _, h => by simp [tyNames] at h
  | .Constant .. :: _, _, h => by simp [tyNames] at h
  | .Attribute .. :: _, _, h => by simp [tyNames] at h
  | .Subscript .. :: _, _, h => by simp [tyNames] at h
  | .Starred .. :: _, _, h => by simp [tyNames] at h
  | .List .. :: _, _, h => by simp [tyNames] at h
  | .Tuple .. :: _, _, h => by simp [tyNames] at h
  | .Slice .. :: _, _, h => by simp [tyNames] at h
theorem tyNames_six : ∀ {es : List Expr} {ts : List String}, tyNames es ts = true → (∀ t ∈ ts, t ∈ six) ∧ es.length = ts.length
  | [], [], _ => ⟨by simp, rfl⟩
  | [], _ :: _, h => by simp [tyNames] at h
  | e :: es, [], h => by cases e <;> simp [tyNames] at h
  | e :: es, t :: ts, h => by
    cases e <;> simp only [tyNames, Bool.false_eq_true] at h
    simp only [Bool.and_eq_true, decide_eq_true_eq] at h
    obtain ⟨_, h6, h⟩ := h
    obtain ⟨i1, i2⟩ := tyNames_six h
    refine ⟨fun x hx => ?_, by rw [List.length_cons, List.length_cons, i2]⟩
    rcases List.mem_cons.mp hx with rfl | hx
    · exact h6
    · exact i1 x hx
theorem j_isiT (G : GOk X Γ W T) {es : List Expr} {ts : List String} {k : Nat} (hn : tyNames es ts = true) (hz : ts.length < 1000) (hne : ts ≠ []) (hgl : ∀ t ∈ six, Gl X (Str.ofString t)) (hg : Gl X "isinstance") (ha : PE X a' (gE X Γ W a)) (na : nostar a' = true) :
    PE X (.Call (.Name "isinstance" p) [a', .Tuple es k p2] [] pos) (gE X Γ W (.isI a ts)) := by
  have pa := pa_cons ha (pa_cons (pe_tup (x1 := k) (pos := p2) (pa_tys G hgl hn)) pa_nil (star_cons rfl)) (star_cons na)
  refine (pe_callB (ok_isiT (tyNames_six hn).1 hne) hg (G.bt _ (by decide)) PyProof.Rows.boot_isinstance pa (he := star_cons na) (hpl := star_any rfl)).mono fun σ H Q ⟨κ, ρ, M, rs, rm, h⟩ => ?_
  simp only [wE] at h
  refine gE.go G.mo .refl rs rm h fun x M1 κ1 vx H1 ⟨bs, e, q⟩ g1 r1 m1 => ?_
  refine ⟨by rw [List.length_map, sizeLine_eq]; omega, fun q' hq => ?_⟩
  exact ⟨κ1, M1, vx, q', x, rfl, upd_same, m1.new hq, r1.grow (Grow.new m1 hq), bs, e, q.grow (g1.trans (Gr.new m1 hq))⟩
/-! ### list(x) that may change; x[::-1] -/
theorem jf_listOf (G : GOk X Γ W T) (hg : Gl X "list") (ha : PE X a' (gE X Γ W a)) (na : nostar a' = true) : PE X (.Call (.Name "list" p) [a'] [] pos) (gF X Γ W (.listOf a)) := by
  refine (pe_callTy ok_listOf hg (G.bt _ (by decide)) PyProof.Rows.boot_list (pa_cons ha pa_nil (star_cons na)) (he := star_cons na)).mono fun σ H Q ⟨κ, ρ, M, rs, rm, h⟩ => ?_
  simp only [wF] at h
  refine gE.go G.mo .refl rs rm h fun x M1 κ1 vx H1 ⟨xs, e, q⟩ g1 r1 m1 => ?_
  exact ⟨κ1, M1, vx, x, xs, rfl, m1, r1, e, q.grow g1⟩
/-! ### methods -/
theorem j_pop (G : GOk X Γ W T) (ha : PE X a' (gE X Γ W a)) (hb : abOk a' = true) (hl : (p.endLine == pos.line) = true) : PE X (.Call (.Attribute a' "pop" p) [] [] pos) (gE X Γ W (.pop a)) := by
  refine (pe_bm0 F.plainAttrs_list F.slot_list_pop F.type_list_pop ok_pop ha (ab_of hb) hl).mono fun σ H Q ⟨κ, ρ, M, rs, rm, h⟩ => ?_
  simp only [wE] at h
  refine gE.go G.mo .refl rs rm h fun x M1 κ1 vx H1 q g1 r1 m1 => ⟨?_, κ1, M1, x, rfl, m1, r1, wPop_mo (fun z M2 q => q.grow g1) q⟩
  unfold wPop at q
  split at q
  · obtain ⟨xs, v, hk, _⟩ := q
    exact ty_list m1 r1 (by simp [isTyS, hk])
  · exact q.elim
theorem kw_few {a : Expr} {es : List Expr} {cpos : Pos} {env : PySem.Env} (h : (a :: es).all nostar = true) (hz : (a :: es).length < 30) : ((backTo cpos (starEach (a :: es) env)).all (fun x => !x.1) && (backToKw cpos (keywordEach [] env)).all (fun x => x.1.isSome)
      && decide ((a :: es).length + ([] : List Keyword).length + (if ([] : List Keyword).isEmpty then 0 else 1) < 30)) = true := by
  rw [star_all h]
  simp only [Bool.true_and]
  rw [show (backToKw cpos (keywordEach [] env)) = [] from rfl]
  simpa using hz
theorem j_popAt (G : GOk X Γ W T) (ha : PE X a' (gE X Γ W a)) (hb : PE X b' (gE X Γ W b)) (hab : abOk a' = true) (hl : (p.endLine == pos.line) = true) (nb : nostar b' = true) : PE X (.Call (.Attribute a' "pop" p) [b'] [] pos) (gE X Γ W (.popAt a b)) := by
  refine (pe_bm F.plainAttrs_list F.slot_list_pop F.type_list_pop ok_popAt ha (pa_cons hb pa_nil (star_cons nb)) (ab_of hab) (kw_few (by simp [nb]) (by simp)) hl (star_cons nb) (star_any rfl)).mono fun σ H Q ⟨κ, ρ, M, rs, rm, h⟩ => ?_
  simp only [wE] at h
  refine gE.go G.mo .refl rs rm h fun x M1 κ1 vx H1 ⟨t, q⟩ g1 r1 m1 => ⟨ty_list m1 r1 t, ?_⟩
  refine gE.go G.mo g1 (rs.grow g1.toGrow) m1 q fun y M2 κ2 vy H2 p2 g2 r2 m2 => ?_
  exact ⟨κ2, M2, vy, x, y, rfl, m2, r1.grow g2.toGrow, r2, wPopAt_mo (fun z M3 q => q.grow (g1.trans g2)) p2⟩
/-! ### calls of functions -/
theorem run_fnG {k : Nat} {f : Addr} {fd : FuncData} {ps : List Str} {sp : Sp} {pins : List (Addr × Obj)} {s : Shared} {Q : VK} {us : List Value} {vs : List V} (F : FnG X.prog X.w X.K X.mg X.base k f fd ps sp) (hr : Room k X.A) (gu : X.A.guards = some []) (hb : Binds X.K fd ps []) (tk : Takes X W)
    (I : Inv X pins σ H s) (r : Vals vs us) (h : sp vs H Q (XW W σ)) : wpAny (model X.prog X.w) X.A (call (.ref f) us) (EP X pins σ Q) X.xe s := by
  have hl : us.length = ps.length := by rw [← r.length]; exact F.len _ _ _ _ h
  have b := hb s us I.kIn (by rw [List.append_nil]; exact hl)
  rw [List.append_nil] at b
  refine wpAny_call (codeAny_mono (F.run X.A X.stack s H ⟨us, []⟩ us vs Q (XW W σ) hr gu I.env0 b r h) fun r s' hq => ?_)
  cases r with
  | error e => exact passAt tk σ pins H s e s' I hq
  | ok fl =>
    cases fl with
    | ret u => exact I.after hq
    | next => exact False.elim hq
    | brk => exact False.elim hq
    | cont => exact False.elim hq
def Es.len : Es → Nat
  | .nil => 0
  | .cons _ es => es.len + 1
theorem wEs_len (mo : Γ.Mo) : ∀ (es : Es) (ρ : Sto) (M : Mem) (Q : List S → Mem → Prop) (E : Xc → Mem → Prop), wEs Γ es ρ M Q E → wEs Γ es ρ M (fun vs M1 => vs.length = es.len ∧ Q vs M1) E
  | .nil, ρ, M, Q, E, h => by
    simp only [wEs] at h ⊢
    exact ⟨rfl, h⟩
  | .cons e es, ρ, M, Q, E, h => by
    simp only [wEs] at h ⊢
    refine mE mo e ρ _ _ _ _ _ (fun v M1 q => ?_) (fun _ _ q => q) h
    exact mEs mo es ρ _ _ _ _ _ (fun vs M2 ⟨l, q⟩ => ⟨by rw [List.length_cons, l]; rfl, q⟩) (fun _ _ q => q) (wEs_len mo es ρ M1 _ E q)
theorem j_call {f : Str} {ps : List Str} {es : Es} {e : Expr} {es' : List Expr} (G : GOk X Γ W T) (hc : T.cm = true) (hf : (f, ps) ∈ T.fs) (hl : es.len = ps.length) (hg : Gl X f) (ha : PA X (e :: es') (gA X Γ W es)) (ns : (e :: es').all nostar = true) :
    PE X (.Call (.Name f p) (e :: es') [] pos) (gE X Γ W (.call f es)) := by
  obtain ⟨⟨φ, hφ⟩, hps⟩ := G.fk _ hf
  obtain ⟨k, a, fd, F, hr, hm, hk, hb, hd, _⟩ := G.fn hc f φ hφ
  refine ⟨fun pins s σ H Q I ⟨κ, ρ, M, rs, rm, h⟩ => ?_⟩
  simp only [wE] at h
  have h2 : gA X Γ W es σ H (fun vs H1 => spOf X.mg X.K (Γ.ps f).length φ vs H1 Q (XW W σ)) := by
    refine gA.go G.mo .refl rs rm (wEs_len G.mo _ _ _ _ _ h) fun ss M1 κ1 vs H1 ⟨hl', φ', e, q⟩ g1 r1 m1 => ?_
    rw [hφ] at e
    cases e
    exact ⟨κ1, M1, ss, by rw [r1.length, hl', hl, hps], m1, r1, G.mo.mo f φ hφ ss M1 _ _ _ _ (fun z M2 q => q.grow g1) (fun x M2 q => q.grow g1) q⟩
  refine wpAny_Call_Name_kw (ld_glob I hg hm ?_ hd)
  have n2 := ns
  rw [List.all_cons, Bool.and_eq_true] at n2
  exact PySem.W.callWith_K (h₀ := X.base) I.ok.mod.kin hk (thn (ha.run pos pins s σ H _ I h2) fun us s1 ⟨vs, H1, I1, r, q⟩ => ⟨I1.kIn, run_fnG F hr G.gu hb G.tk I1 r q⟩) (star_cons n2.1) (star_any n2.2)
/-! ### keywords -/
theorem lookup_vals : ∀ {ks : List Str} {zs : List V} {ws : List Value} {x : Str}, Vals zs ws → (∀ v, (ks.zip zs).lookup x = some v → ∃ u, (ks.zip ws).lookup x = some u ∧ RelV v u) ∧ ((ks.zip zs).lookup x = none → (ks.zip ws).lookup x = none)
  | [], _, _, _, _ => by simp
  | _ :: _, _, _, _, .nil => by simp
  | k :: ks, _, _, x, .cons (a := v) (b := u) r t => by
    rw [List.zip_cons_cons, List.zip_cons_cons, List.lookup_cons, List.lookup_cons]
    cases h : x == k with
    | true => exact ⟨fun w e => ⟨u, rfl, by cases e; exact r⟩, fun e => by cases e⟩
    | false => exact lookup_vals t
theorem reord_vals {ps : List Str} {n : Nat} {ks : List Str} {vs zs : List V} {us ws : List Value} (r : Vals vs us) (q : Vals zs ws) : Vals (reord ps n ks vs zs) (reord ps n ks us ws) := by
  unfold reord
  refine r.append ?_
  generalize ps.drop n = l
  induction l with
  | nil => exact .nil
  | cons x l ih =>
    rw [List.filterMap_cons, List.filterMap_cons]
    cases e : (ks.zip zs).lookup x with
    | none =>
      rw [(lookup_vals q).2 e]
      exact ih
    | some v =>
      obtain ⟨u, e2, r2⟩ := (lookup_vals q).1 v e
      rw [e2]
      exact .cons r2 ih
theorem lookup_RSs {K : PySem.W.Frag} {H : Hp} {κ : Loc} : ∀ {ks : List Str} {zs : List V} {ws : List S} {x : Str}, RSs K H κ zs ws → (∀ v, (ks.zip zs).lookup x = some v → ∃ u, (ks.zip ws).lookup x = some u ∧ RS K H κ v u) ∧ ((ks.zip zs).lookup x = none → (ks.zip ws).lookup x = none)
  | [], _, _, _, _ => by simp
  | _ :: _, _, _, _, .nil => by simp
  | k :: ks, _, _, x, .cons (a := v) (b := u) r t => by
    rw [List.zip_cons_cons, List.zip_cons_cons, List.lookup_cons, List.lookup_cons]
    cases h : x == k with
    | true => exact ⟨fun w e => ⟨u, rfl, by cases e; exact r⟩, fun e => by cases e⟩
    | false => exact lookup_RSs t
theorem reord_RSs {K : PySem.W.Frag} {H : Hp} {κ : Loc} {ps : List Str} {n : Nat} {ks : List Str} {vs zs : List V} {us ws : List S} (r : RSs K H κ vs us) (q : RSs K H κ zs ws) : RSs K H κ (reord ps n ks vs zs) (reord ps n ks us ws) := by
  unfold reord
  refine Pd.append r ?_
  generalize ps.drop n = l
  induction l with
  | nil => exact .nil
  | cons x l ih =>
    rw [List.filterMap_cons, List.filterMap_cons]
    cases e : (ks.zip zs).lookup x with
    | none =>
      rw [(lookup_RSs q).2 e]
      exact ih
    | some v =>
      obtain ⟨u, e2, r2⟩ := (lookup_RSs q).1 v e
      rw [e2]
      exact .cons r2 ih
theorem lookup_some {α : Type} : ∀ {ks : List Str} {ws : List α} {x : Str}, ws.length = ks.length → ks.contains x = true → ∃ u, (ks.zip ws).lookup x = some u
  | [], _, _, _, h => by simp at h
  | k :: ks, [], _, hl, _ => by simp at hl
  | k :: ks, w :: ws, x, hl, h => by
    rw [List.zip_cons_cons, List.lookup_cons]
    cases e : x == k with
    | true => exact ⟨w, rfl⟩
    | false =>
      refine lookup_some (by simpa using hl) ?_
      rw [List.contains_cons, e, Bool.false_or] at h
      exact h
theorem reord_len {α : Type} {ps : List Str} {n : Nat} {ks : List Str} {us ws : List α} (h : kwsOk ps n ks = true) (hu : us.length = n) (hw : ws.length = ks.length) : (reord ps n ks us ws).length = ps.length := by
  unfold kwsOk at h
  rw [Bool.and_eq_true, decide_eq_true_eq] at h
  obtain ⟨h1, h2⟩ := h
  unfold reord
  rw [List.length_append, hu]
  have : ∀ l : List Str, l.all (fun p => ks.contains p) = true → (l.filterMap fun p => (ks.zip ws).lookup p).length = l.length := by
    intro l
    induction l with
    | nil => intro _; rfl
    | cons x l ih =>
      intro h
      rw [List.all_cons, Bool.and_eq_true] at h
      obtain ⟨u, e⟩ := lookup_some hw h.1
      rw [List.filterMap_cons, e]
      simp only [List.length_cons, ih h.2]
  rw [this _ h2, List.length_drop]
  omega
/-- the keywords' values, from the left -/
def kwNames : List Keyword → List (Option Str)
  | [] => []
  | ⟨n, _, _⟩ :: r => n :: kwNames r
theorem pk_kw {env : PySem.Env} {pos : Pos} : ∀ {kws : List Keyword} {ks : List Str}, kwNames kws = ks.map some → (backToKw pos (keywordEach kws env)).all (·.1.isSome) = true ∧ (backToKw pos (keywordEach kws env)).filterMap (·.1) = ks ∧ (backToKw pos (keywordEach kws env)).any (·.1.isNone) = false
  | [], [], _ => ⟨rfl, rfl, rfl⟩
  | [], _ :: _, h => by simp [kwNames] at h
  | ⟨n, e, q⟩ :: kws, [], h => by simp [kwNames] at h
  | ⟨n, e, q⟩ :: kws, k :: ks, h => by
    simp only [kwNames, List.map_cons, List.cons.injEq] at h
    obtain ⟨rfl, h⟩ := h
    obtain ⟨h1, h2, h3⟩ := pk_kw (env := env) (pos := pos) h
    refine ⟨?_, ?_, ?_⟩
    · show (true && (backToKw pos (keywordEach kws env)).all (·.1.isSome)) = true
      rw [h1] <;> rfl
    · show List.filterMap (·.1) ((some k, (do let v ← eval e env; standAt pos; pure v)) :: backToKw pos (keywordEach kws env)) = k :: ks
      rw [List.filterMap_cons]
      simp only [h2]
    · show (false || (backToKw pos (keywordEach kws env)).any (·.1.isNone)) = false
      rw [h3] <;> rfl
theorem _root_.L2.PK.mono {X : Cx} {e : List Keyword} {t t' : TA} (h : PK X e t) (m : ∀ σ H Q, t' σ H Q → t σ H Q) : PK X e t' := ⟨fun p pins s σ H Q I q => h.run p pins s σ H Q I (m _ _ _ q)⟩
theorem jk_nil : PK X [] (gA X Γ W .nil) := pk_nil.mono fun σ H Q ⟨κ, ρ, M, rs, rm, h⟩ => by
  simp only [wEs] at h
  exact h κ _ H .refl .nil rm
theorem jk_cons {n : Option Str} {es : Es} {kws : List Keyword} (G : GOk X Γ W T) (ha : PE X a' (gE X Γ W a)) (hr : PK X kws (gA X Γ W es)) : PK X (⟨n, a', p⟩ :: kws) (gA X Γ W (.cons a es)) := (pk_cons ha hr).mono fun σ H Q ⟨κ, ρ, M, rs, rm, h⟩ => by
  simp only [wEs] at h
  refine gE.go G.mo .refl rs rm h fun x M1 κ1 vx H1 q g1 r1 m1 => ?_
  refine gA.go G.mo g1 (rs.grow g1.toGrow) m1 q fun y M2 κ2 vy H2 p2 g2 r2 m2 => ?_
  exact p2 κ2 _ H2 (g1.trans g2) (.cons (r1.grow g2.toGrow) r2) m2
theorem run_fnKG {k : Nat} {f : Addr} {fd : FuncData} {ps : List Str} {n : Nat} {ks : List Str} {sp : Sp} {pins : List (Addr × Obj)} {s : Shared} {Q : VK} {us ws : List Value} {vs zs : List V} (F : FnG X.prog X.w X.K X.mg X.base k f fd ps sp) (hr : Room k X.A) (gu : X.A.guards = some []) (hb : KB fd ps n ks) (tk : Takes X W)
    (I : Inv X pins σ H s) (r : Vals vs us) (q : Vals zs ws) (hu : us.length = n) (hw : ws.length = ks.length) (h : sp (reord ps n ks vs zs) H Q (XW W σ)) : wpAny (model X.prog X.w) X.A (call (.ref f) us (ks.zip ws)) (EP X pins σ Q) X.xe s := by
  refine wpAny_call (codeAny_mono (F.run X.A X.stack s H ⟨us, ks.zip ws⟩ _ _ Q (XW W σ) hr gu I.env0 (hb s us ws hu hw) (reord_vals r q) h) fun r s' hq => ?_)
  cases r with
  | error e => exact passAt tk σ pins H s e s' I hq
  | ok fl =>
    cases fl with
    | ret u => exact I.after hq
    | next => exact False.elim hq
    | brk => exact False.elim hq
    | cont => exact False.elim hq
theorem j_callK {f : Str} {ps ks : List Str} {es kes : Es} {es' : List Expr} {kws : List Keyword} (G : GOk X Γ W T) (hc : T.cm = true) (hf : (f, ps) ∈ T.fs) (hk : (f, es.len, ks) ∈ T.ks) (hok : kwsOk ps es.len ks = true) (hkl : kes.len = ks.length) (hn : kwNames kws = ks.map some) (hg : Gl X f)
    (ha : PA X es' (gA X Γ W es)) (hkw : PK X kws (gA X Γ W kes)) (ns : es'.all nostar = true) (hnil : es' = [] → es = .nil) : PE X (.Call (.Name f p) es' kws pos) (gE X Γ W (.callK f es ks kes)) := by
  obtain ⟨⟨φ, hφ⟩, hps⟩ := G.fk _ hf
  simp only at hps
  obtain ⟨k, a, fd, F, hr, hm, hkp, hb, hd, hkb⟩ := G.fn hc f φ hφ
  have hkb := hkb _ hk rfl
  rw [hps] at F hb hkb
  refine ⟨fun pins s σ H Q I ⟨κ, ρ, M, rs, rm, h⟩ => ?_⟩
  simp only [wE, hps] at h
  have h2 : gA X Γ W es σ H (fun vs H1 => vs.length = es.len ∧ gA X Γ W kes σ H1 (fun zs H2 => zs.length = ks.length ∧ spOf X.mg X.K ps.length φ (reord ps es.len ks vs zs) H2 Q (XW W σ))) := by
    refine gA.go G.mo .refl rs rm (wEs_len G.mo _ _ _ _ _ h) fun ss M1 κ1 vs H1 ⟨hl', q⟩ g1 r1 m1 => ⟨by rw [r1.length, hl'], ?_⟩
    refine gA.go G.mo g1 (rs.grow g1.toGrow) m1 (wEs_len G.mo _ _ _ _ _ q) fun tt M2 κ2 zs H2 ⟨hl2, φ', e, q⟩ g2 r2 m2 => ?_
    rw [hφ] at e
    cases e
    have r1' := r1.grow g2.toGrow
    have l2 : zs.length = ks.length := by rw [r2.length, hl2, hkl]
    refine ⟨l2, κ2, M2, _, reord_len hok (by rw [r1.length, hl']) l2, m2, reord_RSs r1' r2, ?_⟩
    unfold reord
    rw [← hl']
    exact G.mo.mo f φ hφ _ M2 _ _ _ _ (fun z M2 q => q.grow (g1.trans g2)) (fun x M2 q => q.grow (g1.trans g2)) q
  refine wpAny_Call_Name_kw (ld_glob I hg hm ?_ hd)
  obtain ⟨k1, k2, k3⟩ := pk_kw (env := X.env) (pos := pos) hn
  have fin : ∀ {s1 : Shared} {us : List Value} {vs : List V} {H1 : Hp}, Inv X pins σ H1 s1 → Vals vs us → vs.length = es.len → gA X Γ W kes σ H1 (fun zs H2 => zs.length = ks.length ∧ spOf X.mg X.K ps.length φ (reord ps es.len ks vs zs) H2 Q (XW W σ)) →
      wpAny (model X.prog X.w) X.A (evalAll ((backToKw pos (keywordEach kws X.env)).map (·.2))) (fun ws s₂ => X.K.In s₂.heap ∧ wpAny (model X.prog X.w) X.A (call (.ref a) us (((backToKw pos (keywordEach kws X.env)).filterMap (·.1)).zip ws)) (EP X pins σ Q) X.xe s₂) X.xe s1 := fun {s1 us vs H1} I1 r hl q => by
    refine thn (hkw.run pos pins s1 σ H1 _ I1 q) fun ws s2 ⟨zs, H2, I2, rz, hl2, q2⟩ => ⟨I2.kIn, ?_⟩
    rw [k2]
    exact run_fnKG F hr G.gu hkb G.tk I2 r rz (by rw [← r.length]; exact hl) (by rw [← rz.length]; exact hl2) q2
  cases es' with
  | nil =>
    obtain rfl := hnil rfl
    obtain ⟨κ', ρ', M', rs', rm', h'⟩ := h2
    simp only [wEs] at h'
    obtain ⟨h3, h4⟩ := h' κ' [] H .refl .nil rm'
    exact PySem.W.callWith_KW0 (h₀ := X.base) I.ok.mod.kin hkp k1 (fin (us := []) I .nil h3 h4) (by rw [k3] <;> rfl)
  | cons e es' =>
    have n2 := ns
    rw [List.all_cons, Bool.and_eq_true] at n2
    refine PySem.W.callWith_KW (h₀ := X.base) I.ok.mod.kin hkp k1 (thn (ha.run pos pins s σ H _ I h2) fun us s1 ⟨vs, H1, I1, r, hl, q⟩ => fin I1 r hl q) (by rw [star_any ns, k3] <;> rfl) (star_cons n2.1)
end
end G

/-! Layer G, part 4c: what is walked; targets. -/
namespace G
open PySem L2 PySem.Spec PyProof.Rows

def RI (K : PySem.W.Frag) (H : Hp) (κ : Loc) (v : V) : Itm → Prop
  | .one s => RS K H κ v s
  | .many ss => ∃ a vs, v = .ref a ∧ ST H κ a vs ∧ vs.length ≤ sizeLine ∧ RSs K H κ vs ss
theorem RI.grow {K H κ H' κ' v it} (g : Grow κ H κ' H') (h : RI K H κ v it) : RI K H' κ' v it := by
  cases it with
  | one s => exact RS.grow g h
  | many ss =>
    obtain ⟨a, vs, e, t, z, r⟩ := h
    exact ⟨a, vs, e, t.grow g, z, r.grow g⟩
/-- an iterator that yields these items as long as ok holds -/
structure ItOk (K : PySem.W.Frag) (H1 : Hp) (κ1 : Loc) (J : L2.It) (xs : List Itm) (ok : Mem → Prop) : Prop where
  go : ∀ κ H M i, Grow κ1 H1 κ H → RM K H κ M → ok M → i < xs.length → J.go i H
  yld : ∀ κ H M i it v H', Grow κ1 H1 κ H → RM K H κ M → ok M → xs[i]? = some it → J.yld i H v H' → Gr κ H κ H' ∧ RM K H' κ M ∧ RI K H' κ v it
  stop : ∀ κ H M, Grow κ1 H1 κ H → RM K H κ M → ok M → J.stop xs.length H
def PostI (K : PySem.W.Frag) (H : Hp) (κ : Loc) (R : L2.It → Hp → Prop) : List Itm × (Mem → Prop) → Mem → Prop := fun r M' => ∀ κ' H' J, Gr κ H κ' H' → RM K H' κ' M' → ItOk K H' κ' J r.1 r.2 → R J H'
def gI (X : Cx) (Γ : Env) (W : WX) (it : It) : TI := fun σ H R => ∃ κ ρ M, RSt X.K H κ ρ σ ∧ RM X.K H κ M ∧ wI Γ it ρ M (PostI X.K H κ R) (PX X.mg X.K H κ (XW W σ))

section
variable {K : PySem.W.Frag} {H H' : Hp} {κ κ' : Loc} {M : Mem}
def LStay (K : PySem.W.Frag) (H : Hp) (κ : Loc) (a : Addr) (xs : List S) (ok : Mem → Prop) : Prop := ∀ κ' H' M', Grow κ H κ' H' → RM K H' κ' M' → ok M' → ∃ vs, SqL K H' a vs ∧ RSs K H' κ' vs xs
def TStay (K : PySem.W.Frag) (H : Hp) (κ : Loc) (a : Addr) (xs : List S) (ok : Mem → Prop) : Prop := ∀ κ' H' M', Grow κ H κ' H' → RM K H' κ' M' → ok M' → ∃ vs, SqT K H' a vs ∧ RSs K H' κ' vs xs
/-- a list or tuple that stands, or a list that may change -/
theorem stays {x : V} {sx : S} {xs : List S} (m : RM K H κ M) (h : RS K H κ x sx) (e : items M sx = some xs) : ∃ a, x = .ref a ∧
    ((LStay K H κ a xs (okOf sx xs) ∧ (∃ vs, SqL K H a vs ∧ RSs K H κ vs xs) ∧ isTyS M "list" sx = some true) ∨ (TStay K H κ a xs (okOf sx xs) ∧ (∃ vs, SqT K H a vs ∧ RSs K H κ vs xs) ∧ isTyS M "tuple" sx = some true ∧ isTyS M "list" sx = some false)) := by
  unfold items at e
  split at e
  · cases e
    cases h with
    | d h =>
      cases h with
      | lst h z r => exact ⟨_, rfl, .inl ⟨fun κ' H' M' g m' o => ⟨_, (h.grow g).sq, (r.grow g).toS⟩, ⟨_, h.sq, r.toS⟩, rfl⟩⟩
  · cases e
    cases h with
    | d h =>
      cases h with
      | tup h z r => exact ⟨_, rfl, .inr ⟨fun κ' H' M' g m' o => ⟨_, (h.grow g).sq, (r.grow g).toS⟩, ⟨_, h.sq, r.toS⟩, rfl, rfl⟩⟩
  · split at e
    · rename_i k _ xs' hk
      cases e
      cases h with
      | @l a _ h =>
        obtain ⟨vs, ha, z, r⟩ := m.ob _ _ _ h hk
        refine ⟨_, rfl, .inl ⟨fun κ' H' M' g m' o => ?_, ⟨_, SqL.of ha, r⟩, by simp [isTyS, hk]⟩⟩
        obtain ⟨l, el⟩ := g.pre
        have h' : κ'.at_[k]? = some a := by rw [el, List.getElem?_append_left (List.getElem?_eq_some_iff.mp h).1]; exact h
        obtain ⟨vs', ha', z', r'⟩ := m'.ob k a _ h' o
        exact ⟨vs', SqL.of ha', r'⟩
    · cases e
  · cases e
theorem one_get {xs : List S} {i : Nat} {it : Itm} (h : (xs.map Itm.one)[i]? = some it) : ∃ s, xs[i]? = some s ∧ it = .one s := by
  rw [List.getElem?_map] at h
  cases e : xs[i]? with
  | none => rw [e] at h; cases h
  | some s => rw [e] at h; cases h; exact ⟨s, rfl, rfl⟩
theorem it_list {a : Addr} {xs : List S} {ok : Mem → Prop} (h : LStay K H κ a xs ok) : ItOk K H κ (Itl K a) (xs.map .one) ok where
  go κ' H' M' i g m o hi := by
    obtain ⟨vs, q, r⟩ := h κ' H' M' g m o
    have hi2 : i < vs.length := by rw [r.length]; simpa using hi
    exact ⟨vs, vs[i], q, List.getElem?_eq_getElem hi2⟩
  yld κ' H' M' i it v H2 g m o hi y := by
    obtain ⟨vs, q, r⟩ := h κ' H' M' g m o
    obtain ⟨rfl, y⟩ := y
    obtain ⟨s, e, rfl⟩ := one_get hi
    obtain ⟨w, ew, rw'⟩ := Pd.get' r e
    have := y vs q
    rw [ew] at this
    cases this
    exact ⟨.refl, m, rw'⟩
  stop κ' H' M' g m o := by
    obtain ⟨vs, q, r⟩ := h κ' H' M' g m o
    exact ⟨vs, q, by rw [r.length, List.length_map]; exact Nat.le_refl _⟩
theorem it_tup {a : Addr} {xs : List S} {ok : Mem → Prop} (h : TStay K H κ a xs ok) : ItOk K H κ (Itt K a) (xs.map .one) ok where
  go κ' H' M' i g m o hi := by
    obtain ⟨vs, q, r⟩ := h κ' H' M' g m o
    have hi2 : i < vs.length := by rw [r.length]; simpa using hi
    exact ⟨vs, vs[i], q, List.getElem?_eq_getElem hi2⟩
  yld κ' H' M' i it v H2 g m o hi y := by
    obtain ⟨vs, q, r⟩ := h κ' H' M' g m o
    obtain ⟨rfl, y⟩ := y
    obtain ⟨s, e, rfl⟩ := one_get hi
    obtain ⟨w, ew, rw'⟩ := Pd.get' r e
    have := y vs q
    rw [ew] at this
    cases this
    exact ⟨.refl, m, rw'⟩
  stop κ' H' M' g m o := by
    obtain ⟨vs, q, r⟩ := h κ' H' M' g m o
    exact ⟨vs, q, by rw [r.length, List.length_map]; exact Nat.le_refl _⟩
theorem rev_get {xs : List S} {vs : List V} {i : Nat} {s : S} (r : RSs K H κ vs xs) (h : xs.reverse[i]? = some s) : ∃ v, vs[xs.length - 1 - i]? = some v ∧ RS K H κ v s := by
  have hi := (List.getElem?_eq_some_iff.mp h).1
  rw [List.length_reverse] at hi
  rw [List.getElem?_reverse hi] at h
  exact Pd.get' r h
theorem it_rev {a : Addr} {xs : List S} {ok : Mem → Prop} (h : LStay K H κ a xs ok) : ItOk K H κ (Itv K a xs.length) (xs.reverse.map .one) ok where
  go κ' H' M' i g m o hi := by
    obtain ⟨vs, q, r⟩ := h κ' H' M' g m o
    have hi1 : i < xs.length := by simpa using hi
    have hi2 : xs.length - 1 - i < vs.length := by rw [r.length]; omega
    exact ⟨hi1, vs, vs[xs.length - 1 - i], q, List.getElem?_eq_getElem hi2⟩
  yld κ' H' M' i it v H2 g m o hi y := by
    obtain ⟨vs, q, r⟩ := h κ' H' M' g m o
    obtain ⟨rfl, y⟩ := y
    obtain ⟨s, e, rfl⟩ := one_get hi
    obtain ⟨w, ew, rw'⟩ := rev_get r e
    have := y vs q
    rw [ew] at this
    cases this
    exact ⟨.refl, m, rw'⟩
  stop κ' H' M' g m o := by
    show xs.length ≤ _
    simp
theorem it_revT {a : Addr} {xs : List S} {ok : Mem → Prop} (h : TStay K H κ a xs ok) : ItOk K H κ (RT.ItvT K a xs.length) (xs.reverse.map .one) ok where
  go κ' H' M' i g m o hi := by
    obtain ⟨vs, q, r⟩ := h κ' H' M' g m o
    have hi1 : i < xs.length := by simpa using hi
    have hi2 : xs.length - 1 - i < vs.length := by rw [r.length]; omega
    exact ⟨hi1, vs, vs[xs.length - 1 - i], q, List.getElem?_eq_getElem hi2⟩
  yld κ' H' M' i it v H2 g m o hi y := by
    obtain ⟨vs, q, r⟩ := h κ' H' M' g m o
    obtain ⟨rfl, y⟩ := y
    obtain ⟨s, e, rfl⟩ := one_get hi
    obtain ⟨w, ew, rw'⟩ := rev_get r e
    have := y vs q
    rw [ew] at this
    cases this
    exact ⟨.refl, m, rw'⟩
  stop κ' H' M' g m o := by
    show xs.length ≤ _
    simp
theorem it_rng (lo c : Int) (n : Nat) : ItOk K H κ (Itc lo c n) (rng3Items lo c n) (fun _ => True) where
  go κ' H' M' i g m o hi := by
    show i < n
    simpa [rng3Items] using hi
  yld κ' H' M' i it v H2 g m o hi y := by
    obtain ⟨rfl, rfl⟩ := y
    unfold rng3Items at hi
    rw [List.getElem?_map] at hi
    cases e : (List.range n)[i]? with
    | none => rw [e] at hi; cases hi
    | some j =>
      rw [e] at hi
      cases hi
      have : j = i := by
        rw [List.getElem?_range (by simpa using (List.getElem?_eq_some_iff.mp e).1)] at e
        exact (Option.some.inj e).symm
      subst this
      exact ⟨.refl, m, .d (.int _)⟩
  stop κ' H' M' g m o := by
    show n ≤ _
    simp [rng3Items]
theorem it_rng1 (lo : Int) (n : Nat) : ItOk K H κ (Itr lo n) ((List.range n).map fun i => .one (G.I (lo + (i : Nat)))) (fun _ => True) where
  go κ' H' M' i g m o hi := by
    show i < n
    simpa using hi
  yld κ' H' M' i it v H2 g m o hi y := by
    obtain ⟨rfl, rfl⟩ := y
    rw [List.getElem?_map] at hi
    cases e : (List.range n)[i]? with
    | none => rw [e] at hi; cases hi
    | some j =>
      rw [e] at hi
      cases hi
      have : j = i := by
        rw [List.getElem?_range (by simpa using (List.getElem?_eq_some_iff.mp e).1)] at e
        exact (Option.some.inj e).symm
      subst this
      exact ⟨.refl, m, .d (.int _)⟩
  stop κ' H' M' g m o := by
    show n ≤ _
    simp
/-- a new pair -/
theorem ri_pair {T : Addr} {x y : V} {sx sy : S} (m : RM K H κ M) (n : H T = none) (r1 : RS K H κ x sx) (r2 : RS K H κ y sy) : Gr κ H κ (upd H T (.tup [x, y])) ∧ RM K (upd H T (.tup [x, y])) κ M ∧ RI K (upd H T (.tup [x, y])) κ (.ref T) (.many [sx, sy]) := by
  have g := Grow.new (o := .tup [x, y]) m n
  exact ⟨Gr.new m n, m.new n, T, _, rfl, ⟨.of upd_same, m.out n⟩, by show 2 ≤ sizeLine; decide, .cons (r1.grow g) (.cons (r2.grow g) .nil)⟩
theorem enum_get {xs : List S} {i : Nat} {it : Itm} (h : (enumItems xs)[i]? = some it) : ∃ s, xs[i]? = some s ∧ it = .many [G.I (i : Nat), s] := by
  unfold enumItems at h
  rw [List.getElem?_map, List.getElem?_zipIdx] at h
  cases e : xs[i]? with
  | none => rw [e] at h; cases h
  | some s =>
    rw [e] at h
    cases h
    exact ⟨s, rfl, by simp⟩
theorem it_enum {a : Addr} {xs : List S} {ok : Mem → Prop} (h : LStay K H κ a xs ok) : ItOk K H κ (Ite K a) (enumItems xs) ok where
  go κ' H' M' i g m o hi := by
    obtain ⟨vs, q, r⟩ := h κ' H' M' g m o
    have hi2 : i < vs.length := by rw [r.length]; simpa [enumItems] using hi
    exact ⟨vs, vs[i], q, List.getElem?_eq_getElem hi2⟩
  yld κ' H' M' i it v H2 g m o hi y := by
    obtain ⟨vs, q, r⟩ := h κ' H' M' g m o
    obtain ⟨T, x, rfl, hn, rfl, y⟩ := y
    obtain ⟨s, e, rfl⟩ := enum_get hi
    obtain ⟨w, ew, rw'⟩ := Pd.get' r e
    have := y vs q
    rw [ew] at this
    cases this
    exact ri_pair m hn (.d (.int _)) rw'
  stop κ' H' M' g m o := by
    obtain ⟨vs, q, r⟩ := h κ' H' M' g m o
    exact ⟨vs, q, by rw [r.length]; simp [enumItems]⟩
theorem zip_get {xs ys : List S} {i : Nat} {it : Itm} (h : (zipItems xs ys)[i]? = some it) : ∃ s t, xs[i]? = some s ∧ ys[i]? = some t ∧ it = .many [s, t] := by
  unfold zipItems at h
  rw [List.getElem?_map] at h
  cases e : (xs.zip ys)[i]? with
  | none => rw [e] at h; cases h
  | some p =>
    rw [e] at h
    cases h
    obtain ⟨h1, h2⟩ := List.getElem?_zip_eq_some.mp e
    exact ⟨p.1, p.2, h1, h2, rfl⟩
theorem it_zip {a b : Addr} {xs ys : List S} {ok ok' : Mem → Prop} (h : LStay K H κ a xs ok) (h' : LStay K H κ b ys ok') : ItOk K H κ (Itz K a b) (zipItems xs ys) (fun M => ok M ∧ ok' M) where
  go κ' H' M' i g m o hi := by
    obtain ⟨vs, q, r⟩ := h κ' H' M' g m o.1
    obtain ⟨ws, q', r'⟩ := h' κ' H' M' g m o.2
    have hi0 : i < xs.length ∧ i < ys.length := by simpa [zipItems, Nat.lt_min] using hi
    have hi2 : i < vs.length := by rw [r.length]; exact hi0.1
    have hi3 : i < ws.length := by rw [r'.length]; exact hi0.2
    exact ⟨vs, ws, vs[i], ws[i], q, q', List.getElem?_eq_getElem hi2, List.getElem?_eq_getElem hi3⟩
  yld κ' H' M' i it v H2 g m o hi y := by
    obtain ⟨vs, q, r⟩ := h κ' H' M' g m o.1
    obtain ⟨ws, q', r'⟩ := h' κ' H' M' g m o.2
    obtain ⟨T, x, y, rfl, hn, rfl, y1, y2⟩ := y
    obtain ⟨s, t, e, e', rfl⟩ := zip_get hi
    obtain ⟨w, ew, rw1⟩ := Pd.get' r e
    obtain ⟨w', ew', rw2⟩ := Pd.get' r' e'
    have z1 := y1 vs q
    have z2 := y2 ws q'
    rw [ew] at z1
    rw [ew'] at z2
    cases z1
    cases z2
    exact ri_pair m hn rw1 rw2
  stop κ' H' M' g m o := by
    obtain ⟨vs, q, r⟩ := h κ' H' M' g m o.1
    obtain ⟨ws, q', r'⟩ := h' κ' H' M' g m o.2
    refine ⟨vs, ws, q, q', ?_⟩
    rw [r.length, r'.length]
    simp only [zipItems, List.length_map, List.length_zip]
    omega
theorem it_zipT {a b : Addr} {xs ys : List S} {ok ok' : Mem → Prop} (h : TStay K H κ a xs ok) (h' : TStay K H κ b ys ok') : ItOk K H κ (RZ.ItzT K a b) (zipItems xs ys) (fun M => ok M ∧ ok' M) where
  go κ' H' M' i g m o hi := by
    obtain ⟨vs, q, r⟩ := h κ' H' M' g m o.1
    obtain ⟨ws, q', r'⟩ := h' κ' H' M' g m o.2
    have hi0 : i < xs.length ∧ i < ys.length := by simpa [zipItems, Nat.lt_min] using hi
    have hi2 : i < vs.length := by rw [r.length]; exact hi0.1
    have hi3 : i < ws.length := by rw [r'.length]; exact hi0.2
    exact ⟨vs, ws, vs[i], ws[i], q, q', List.getElem?_eq_getElem hi2, List.getElem?_eq_getElem hi3⟩
  yld κ' H' M' i it v H2 g m o hi y := by
    obtain ⟨vs, q, r⟩ := h κ' H' M' g m o.1
    obtain ⟨ws, q', r'⟩ := h' κ' H' M' g m o.2
    obtain ⟨T, x, y, rfl, hn, rfl, y1, y2⟩ := y
    obtain ⟨s, t, e, e', rfl⟩ := zip_get hi
    obtain ⟨w, ew, rw1⟩ := Pd.get' r e
    obtain ⟨w', ew', rw2⟩ := Pd.get' r' e'
    have z1 := y1 vs q
    have z2 := y2 ws q'
    rw [ew] at z1
    rw [ew'] at z2
    cases z1
    cases z2
    exact ri_pair m hn rw1 rw2
  stop κ' H' M' g m o := by
    obtain ⟨vs, q, r⟩ := h κ' H' M' g m o.1
    obtain ⟨ws, q', r'⟩ := h' κ' H' M' g m o.2
    refine ⟨vs, ws, q, q', ?_⟩
    rw [r.length, r'.length]
    simp only [zipItems, List.length_map, List.length_zip]
    omega
end

section
variable {X : Cx} {Γ : Env} {W : WX} {T : CT} {a b : E} {a' b' tg : Expr} {pos p p2 : Pos}
theorem _root_.L2.PI.mono {X : Cx} {tg e : Expr} {t t' : TI} (h : PI X tg e t) (m : ∀ σ H Q, t' σ H Q → t σ H Q) : PI X tg e t' := ⟨fun pins s σ H Q I q => h.run pins s σ H Q I (m _ _ _ q)⟩
/-- a list or a tuple, whichever it is -/
theorem pi_or {e : Expr} {te : TE} (h : PE X e te) : PI X tg e (fun σ H R => te σ H fun x H1 => ∃ a, x = .ref a ∧ (((∃ xs, SqL X.K H1 a xs) ∧ R (Itl X.K a) H1) ∨ ((∃ xs, SqT X.K H1 a xs) ∧ R (Itt X.K a) H1))) := by
  refine ⟨fun pins s σ H R I q => ?_⟩
  refine thn (h.run pins s σ H _ I q) fun v s1 ⟨x, H1, I1, r1, a, ex, q1⟩ => ?_
  subst ex
  cases r1
  rcases q1 with ⟨⟨xs, hq⟩, q1⟩ | ⟨⟨xs, hq⟩, q1⟩
  · obtain ⟨its, rv, pl, hz⟩ := I1.list hq
    refine wpAny_pyIter_list pl.isList ?_
    exact pi_one (tn := fun i h => h.IsListIter s1.heap.objs.size a i) (tk := s1.toks) I1 _ (turn_list a _) ⟨_, Heap.get?_push_size _ rfl, rfl, rfl⟩ q1
  · obtain ⟨its, rv, pl, hz⟩ := I1.tuple hq
    refine wpAny_pyIter_tuple (show s1.heap.IsTuple a its.toArray from pl) ?_
    exact pi_one (tn := fun i h => h.IsTupleIter s1.heap.objs.size a i) (tk := s1.toks) I1 _ (turn_tuple a _) ⟨_, Heap.get?_push_size _ rfl, rfl, rfl⟩ q1
theorem ji_of (G : GOk X Γ W T) (ha : PE X a' (gE X Γ W a)) : PI X tg a' (gI X Γ W (.of a)) := (pi_or ha).mono fun σ H R ⟨κ, ρ, M, rs, rm, h⟩ => by
  simp only [wI] at h
  refine gE.go G.mo .refl rs rm h fun x M1 κ1 vx H1 ⟨xs, e, q⟩ g1 r1 m1 => ?_
  obtain ⟨a, rfl, hs⟩ := stays m1 r1 e
  refine ⟨a, rfl, ?_⟩
  rcases hs with ⟨st, ⟨vs, hq, _⟩, _⟩ | ⟨st, ⟨vs, hq, _⟩, _⟩
  · exact .inl ⟨⟨vs, hq⟩, q κ1 H1 _ g1 m1 (it_list st)⟩
  · exact .inr ⟨⟨vs, hq⟩, q κ1 H1 _ g1 m1 (it_tup st)⟩
theorem ji_rev (G : GOk X Γ W T) (hg : Gl X "reversed") (ha : PE X a' (gE X Γ W a)) (na : nostar a' = true) : PI X tg (.Call (.Name "reversed" p) [a'] [] pos) (gI X Γ W (.rev a)) := (RT.pi_revA hg (G.bt _ (by decide)) ha (star_cons na)).mono fun σ H R ⟨κ, ρ, M, rs, rm, h⟩ => by
  simp only [wI] at h
  refine gE.go G.mo .refl rs rm h fun x M1 κ1 vx H1 ⟨xs, e, q⟩ g1 r1 m1 => ?_
  obtain ⟨a, rfl, hs⟩ := stays m1 r1 e
  rcases hs with ⟨st, ⟨vs, hq, rv⟩, _⟩ | ⟨st, ⟨vs, hq, rv⟩, _⟩
  · refine ⟨a, vs, rfl, .inl ⟨hq, ?_⟩⟩
    rw [rv.length]
    exact q κ1 H1 _ g1 m1 (it_rev st)
  · refine ⟨a, vs, rfl, .inr ⟨hq, ?_⟩⟩
    rw [rv.length]
    exact q κ1 H1 _ g1 m1 (it_revT st)
theorem ji_enum (G : GOk X Γ W T) {es : List Expr} {k : Nat} (hg : Gl X "enumerate") (ha : PE X a' (gE X Γ W a)) (na : nostar a' = true) : PI X (.Tuple es k p2) (.Call (.Name "enumerate" p) [a'] [] pos) (gI X Γ W (.enum a)) :=
  (pi_enum hg (G.bt _ (by decide)) (pa_cons ha pa_nil (star_cons na)) (star_cons na)).mono fun σ H R ⟨κ, ρ, M, rs, rm, h⟩ => by
  simp only [wI] at h
  refine gE.go G.mo .refl rs rm h fun x M1 κ1 vx H1 ⟨xs, t, e, q⟩ g1 r1 m1 => ?_
  obtain ⟨a, rfl, hs⟩ := stays m1 r1 e
  rcases hs with ⟨st, ⟨vs, hq, rv⟩, _⟩ | ⟨_, _, _, t'⟩
  · exact ⟨a, vs, rfl, hq, q κ1 H1 _ g1 m1 (it_enum st)⟩
  · rw [t] at t'
    cases t'
theorem ji_zip (G : GOk X Γ W T) {es : List Expr} {k : Nat} (hg : Gl X "zip") (ha : PE X a' (gE X Γ W a)) (hb : PE X b' (gE X Γ W b)) (na : nostar a' = true) (nb : nostar b' = true) : PI X (.Tuple es k p2) (.Call (.Name "zip" p) [a', b'] [] pos) (gI X Γ W (.zip a b)) :=
  (RZ.pi_zipA hg (G.bt _ (by decide)) (pa_cons ha (pa_cons hb pa_nil (star_cons nb)) (star_cons na)) (star_cons na) (star_any (by simp [nb]))).mono fun σ H R ⟨κ, ρ, M, rs, rm, h⟩ => by
  simp only [wI] at h
  refine gE.go G.mo .refl rs rm h fun x M1 κ1 vx H1 p1 g1 r1 m1 => ?_
  refine gE.go G.mo g1 (rs.grow g1.toGrow) m1 p1 fun y M2 κ2 vy H2 ⟨xs, ys, ⟨t, t1, t2, ht⟩, e1, e2, q⟩ g2 r2 m2 => ?_
  obtain ⟨a, rfl, hs⟩ := stays m2 (r1.grow g2.toGrow) e1
  obtain ⟨b, rfl, hs'⟩ := stays m2 r2 e2
  have nn : ∀ {s : S}, isTyS M2 "list" s = some true → isTyS M2 "tuple" s = some true → False := fun {s} h1 h2 => by
    cases s with
    | d x => cases x <;> simp [isTyS, isTy] at h1 h2
    | e _ _ _ _ _ => cases h1
    | l k =>
      unfold isTyS at h2
      dsimp only at h2
      cases hM : M2[k]? with
      | none => rw [hM] at h2; cases h2
      | some o => rw [hM] at h2; cases o <;> simp at h2
  rcases hs with ⟨st, ⟨vs, hq, rv⟩, u⟩ | ⟨st, ⟨vs, hq, rv⟩, u, u0⟩
  · rcases hs' with ⟨st', ⟨ws, hq', rv'⟩, u'⟩ | ⟨st', ⟨ws, hq', rv'⟩, u', u0'⟩
    · exact ⟨a, b, vs, ws, rfl, .inl ⟨hq, hq', q κ2 H2 _ (g1.trans g2) m2 (it_zip st st')⟩⟩
    · rcases ht with rfl | rfl
      · exact (nn t2 u').elim
      · exact (nn u t1).elim
  · rcases hs' with ⟨st', ⟨ws, hq', rv'⟩, u'⟩ | ⟨st', ⟨ws, hq', rv'⟩, u', u0'⟩
    · rcases ht with rfl | rfl
      · exact (nn t1 u).elim
      · exact (nn u' t2).elim
    · exact ⟨a, b, vs, ws, rfl, .inr ⟨hq, hq', q κ2 H2 _ (g1.trans g2) m2 (it_zipT st st')⟩⟩
theorem rngC {i j c : Int} (h : rngOk i j) (h0 : c ≠ 0) (h1 : c.natAbs < 2 ^ 30) : RgC i j c (rngLen i j c) := by
  obtain ⟨b1, b2, b3, b4⟩ := h
  have pos : ∀ (x y d : Int), 0 < d → ((y - x + d - 1) / d) = (y - x - 1) / d + 1 := fun x y d hd => by
    have := Int.add_mul_ediv_right (y - x - 1) 1 (show d ≠ 0 by omega)
    rw [← this]
    congr 1
    omega
  have nn : ∀ (x y d : Int), 0 < d → x < y → 0 ≤ (y - x - 1) / d ∧ (y - x - 1) / d ≤ y - x - 1 := fun x y d hd hxy =>
    ⟨Int.ediv_nonneg (by omega) (by omega), Int.ediv_le_self _ (by omega)⟩
  have np : ∀ (x y d : Int), 0 < d → y ≤ x → (y - x - 1) / d < 0 := fun x y d hd hxy => Int.ediv_neg_of_neg_of_pos (by omega) hd
  have sz : Builtin.Range.rangeSize i j c = rngLen i j c ∧ Builtin.Range.rangeSize i j c ≤ 2 ^ 63 - 1 := by
    unfold Builtin.Range.rangeSize rngLen
    by_cases hc : 0 < c
    · rw [if_pos hc, if_pos hc, pos i j c hc]
      by_cases hij : i < j
      · rw [if_pos hij]
        have := nn i j c hc hij
        omega
      · rw [if_neg hij]
        have := np i j c hc (by omega)
        omega
    · have hc2 : c < 0 := by omega
      rw [if_neg hc, if_neg hc, if_pos hc2]
      rw [show (i - j + -c - 1) = (i - j + (-c) - 1) from rfl, pos j i (-c) (by omega)]
      by_cases hij : i > j
      · rw [if_pos hij]
        have := nn j i (-c) (by omega) hij
        omega
      · rw [if_neg hij]
        have := np j i (-c) (by omega) (by omega)
        omega
  refine ⟨h0, by omega, ?_, sz.1⟩
  have sz0 : 0 ≤ Builtin.Range.rangeSize i j c := by rw [sz.1]; omega
  have e1 : Builtin.Range.rangeFitsLong i = true := by unfold Builtin.Range.rangeFitsLong; simp only [Bool.and_eq_true, decide_eq_true_eq]; omega
  have e2 : Builtin.Range.rangeFitsLong j = true := by unfold Builtin.Range.rangeFitsLong; simp only [Bool.and_eq_true, decide_eq_true_eq]; omega
  have e3 : Builtin.Range.rangeFitsLong c = true := by unfold Builtin.Range.rangeFitsLong; simp only [Bool.and_eq_true, decide_eq_true_eq]; omega
  have e4 : Builtin.Range.rangeFitsLong (Builtin.Range.rangeSize i j c) = true := by
    have := sz.2
    unfold Builtin.Range.rangeFitsLong
    simp only [Bool.and_eq_true, decide_eq_true_eq]
    omega
  have e5 : (if c > 0 then Builtin.Range.rangeFitsLong (j + (c - 1)) else Builtin.Range.rangeFitsLong (j + (c + 1))) = true := by
    split <;> (unfold Builtin.Range.rangeFitsLong; simp only [Bool.and_eq_true, decide_eq_true_eq]; omega)
  unfold Builtin.Range.small
  rw [e1, e2, e3, e4, e5, Bool.or_true] <;> rfl
theorem ji_rng (G : GOk X Γ W T) {es : Es} {es' : List Expr} (hg : Gl X "range") (ha : PA X es' (gA X Γ W es)) (ns : es'.all nostar = true) (hl : es'.length = es.len) (hz : 1 ≤ es'.length ∧ es'.length ≤ 3) : PI X tg (.Call (.Name "range" p) es' [] pos) (gI X Γ W (.rng es)) := by
  have key : ∀ σ H R, gI X Γ W (.rng es) σ H R → gA X Γ W es σ H fun vs H1 => vs.length = es.len ∧ ((∃ j : Int, vs = [.int j] ∧ -(2 ^ 62) ≤ j ∧ j < 2 ^ 62 ∧ R (Itr 0 j.toNat) H1) ∨
      (∃ i j : Int, vs = [.int i, .int j] ∧ (-(2 ^ 62) ≤ i ∧ i < 2 ^ 62 ∧ -(2 ^ 62) ≤ j ∧ j < 2 ^ 62) ∧ R (Itr i (j - i).toNat) H1) ∨ (∃ (i j c : Int) (n : Nat), vs = [.int i, .int j, .int c] ∧ RgC i j c n ∧ R (Itc i c n) H1)) := fun σ H R ⟨κ, ρ, M, rs, rm, h⟩ => by
    simp only [wI] at h
    refine gA.go G.mo .refl rs rm (wEs_len G.mo _ _ _ _ _ h) fun ss M1 κ1 vs H1 ⟨hl', q⟩ g1 r1 m1 => ⟨by rw [r1.length, hl'], ?_⟩
    unfold wRng at q
    split at q
    · cases r1 with | cons r1 t => cases t; cases r1 with | d r1 => cases r1; exact .inl ⟨_, rfl, q.1.2.2.1, q.1.2.2.2, q.2 κ1 H1 _ g1 m1 (by unfold rngItems; simpa using it_rng1 0 _)⟩
    · cases r1 with
      | cons r1 t =>
        cases t with
        | cons r2 t =>
          cases t
          cases r1 with
          | d r1 =>
            cases r1
            cases r2 with
            | d r2 => cases r2; exact .inr (.inl ⟨_, _, rfl, q.1, q.2 κ1 H1 _ g1 m1 (it_rng1 _ _)⟩)
    · cases r1 with
      | cons r1 t =>
        cases t with
        | cons r2 t =>
          cases t with
          | cons r3 t =>
            cases t
            cases r1 with
            | d r1 =>
              cases r1
              cases r2 with
              | d r2 =>
                cases r2
                cases r3 with
                | d r3 => cases r3; exact .inr (.inr ⟨_, _, _, _, rfl, rngC q.1.1 q.1.2.1 q.1.2.2, q.2 κ1 H1 _ g1 m1 (it_rng _ _ _)⟩)
    · exact q.elim
  have fin : ∀ {t : TA} {σ : L2.St} {H : Hp} {C C' : List V → Hp → Prop}, (∀ vs H, C vs H → C' vs H) → gA X Γ W es σ H C → gA X Γ W es σ H C' := fun {t σ H C C'} hc ⟨κ, ρ, M, rs, rm, h⟩ => ⟨κ, ρ, M, rs, rm, mEs G.mo _ _ _ _ _ _ _ (fun ss M1 q κ1 vs H1 g r m => hc _ _ (q κ1 vs H1 g r m)) (fun _ _ q => q) h⟩
  match es', hl, hz, ha, ns with
  | [x], hl, hz, ha, ns =>
    rw [List.all_cons, Bool.and_eq_true] at ns
    refine (pi_range1 hg (G.bt _ (by decide)) ha (star_cons ns.1)).mono fun σ H R h => fin (t := gA X Γ W es) (fun vs H1 ⟨l, q⟩ => ?_) (key σ H R h)
    rw [← hl] at l
    rcases q with q | ⟨_, _, rfl, _⟩ | ⟨_, _, _, _, rfl, _⟩
    · exact q
    · simp at l
    · simp at l
  | [x, y], hl, hz, ha, ns =>
    simp only [List.all_cons, Bool.and_eq_true] at ns
    refine (pi_range2 hg (G.bt _ (by decide)) ha (by rw [star_cons ns.1, star_cons ns.2.1]; rfl) (star_cons ns.2.1)).mono fun σ H R h => fin (t := gA X Γ W es) (fun vs H1 ⟨l, q⟩ => ?_) (key σ H R h)
    rw [← hl] at l
    rcases q with ⟨_, rfl, _⟩ | q | ⟨_, _, _, _, rfl, _⟩
    · simp at l
    · exact q
    · simp at l
  | [x, y, z], hl, hz, ha, ns =>
    simp only [List.all_cons, Bool.and_eq_true] at ns
    refine (pi_range3 hg (G.bt _ (by decide)) ha (star_cons ns.1) (star_any (by simp [ns.2.1, ns.2.2.1]))).mono fun σ H R h => fin (t := gA X Γ W es) (fun vs H1 ⟨l, q⟩ => ?_) (key σ H R h)
    rw [← hl] at l
    rcases q with ⟨_, rfl, _⟩ | ⟨_, _, rfl, _⟩ | q
    · simp at l
    · simp at l
    · exact q
  | [], hl, hz, ha, ns => simp at hz
  | _ :: _ :: _ :: _ :: _, hl, hz, ha, ns => simp at hz
end
end G

/-! Layer G, part 4d: targets; comprehensions. -/
namespace G
open PySem L2 PySem.Spec PyProof.Rows

/-- the slots but these are the same -/
def SB (vs : List Nat) (σ σ' : L2.St) : Prop := σ.length = σ'.length ∧ ∀ i, i ∉ vs → σ[i]? = σ'[i]?
theorem SB.refl {vs σ} : SB vs σ σ := ⟨rfl, fun _ _ => rfl⟩
theorem SB.trans {l1 l2 : List Nat} {σ σ1 σ2 : L2.St} (h1 : SB l1 σ σ1) (h2 : SB l2 σ1 σ2) : SB (l1 ++ l2) σ σ2 :=
  ⟨h1.1.trans h2.1, fun i hi => (h1.2 i fun z => hi (List.mem_append_left _ z)).trans (h2.2 i fun z => hi (List.mem_append_right _ z))⟩
theorem SB.set {i : Nat} {σ : L2.St} {v : Option V} : SB [i] σ (σ.set i v) := ⟨by simp, fun j hj => by rw [List.getElem?_set_ne (by simpa [eq_comm] using hj)]⟩
theorem wipe_at {σ : L2.St} : ∀ {vs : List Nat} {i : Nat}, (wipe σ vs)[i]? = if i ∈ vs ∧ i < σ.length then some none else σ[i]?
  | [], i => by simp [wipe]
  | v :: vs, i => by
    have hl : (wipe σ vs).length = σ.length := wipe_length σ vs
    show ((wipe σ vs).set v none)[i]? = _
    by_cases h : v = i
    · subst h
      by_cases hv : v < σ.length
      · rw [List.getElem?_set_self (by rw [hl]; exact hv), if_pos ⟨List.mem_cons_self, hv⟩]
      · rw [List.getElem?_eq_none (by simpa [hl] using hv), if_neg (fun z => hv z.2), List.getElem?_eq_none (by omega)]
    · rw [List.getElem?_set_ne h, wipe_at]
      have : (i ∈ v :: vs ∧ i < σ.length) ↔ (i ∈ vs ∧ i < σ.length) := by
        constructor
        · rintro ⟨a, b⟩
          rcases List.mem_cons.mp a with z | z
          · exact absurd z.symm h
          · exact ⟨z, b⟩
        · rintro ⟨a, b⟩; exact ⟨List.mem_cons_of_mem _ a, b⟩
      simp only [this]
theorem SB.wipe {vs : List Nat} {σ σ' : L2.St} (h : SB vs σ σ') : wipe σ' vs = wipe σ vs := by
  apply List.ext_getElem?
  intro i
  rw [wipe_at, wipe_at, ← h.1]
  by_cases hi : i ∈ vs
  · by_cases hl : i < σ.length
    · rw [if_pos ⟨hi, hl⟩, if_pos ⟨hi, hl⟩]
    · have hll := h.1
      rw [if_neg (fun z => hl z.2), if_neg (fun z => hl z.2), List.getElem?_eq_none (by omega), List.getElem?_eq_none (by omega)]
  · rw [if_neg (fun z => hi z.1), if_neg (fun z => hi z.1), h.2 i hi]
theorem SB.wiped {vs : List Nat} {σ : L2.St} : SB vs σ (L2.wipe σ vs) := ⟨(wipe_length σ vs).symm, fun i hi => by rw [wipe_at, if_neg (fun z => hi z.1)]⟩
theorem RSt.wipe {K H κ} {ρ : Sto} {σ : L2.St} (h : RSt K H κ ρ σ) : ∀ vs : List Nat, RSt K H κ (wipeS ρ vs) (L2.wipe σ vs)
  | [] => h
  | v :: vs => (RSt.wipe h vs).unset v none

section
variable (X : Cx)
def gTg (t : Tg) : TG := fun v σ H Q => ∃ κ ρ M it, RSt X.K H κ ρ σ ∧ RM X.K H κ M ∧ RI X.K H κ v it ∧ wTg t it ρ fun ρ' => ∀ σ', RSt X.K H κ ρ' σ' → SB (tgSlots t) σ σ' → Q σ' H
def gTgs (ts : List Tg) : TGs := fun vs σ H Q => ∃ κ ρ M ss, RSt X.K H κ ρ σ ∧ RM X.K H κ M ∧ RSs X.K H κ vs ss ∧ wTgs ts ss ρ fun ρ' => ∀ σ', RSt X.K H κ ρ' σ' → SB (tgSlotss ts) σ σ' → Q σ' H
end
theorem _root_.L2.PG.mono {X : Cx} {e : Expr} {t t' : TG} (h : PG X e t) (m : ∀ v σ H Q, t' v σ H Q → t v σ H Q) : PG X e t' := ⟨fun pins s σ H v u Q I r q => h.run pins s σ H v u Q I r (m _ _ _ _ q)⟩
theorem _root_.L2.PGs.mono {X : Cx} {e : List Expr} {t t' : TGs} (h : PGs X e t) (m : ∀ v σ H Q, t' v σ H Q → t v σ H Q) : PGs X e t' := ⟨fun pins s σ H v u Q I r q => h.run pins s σ H v u Q I r (m _ _ _ _ q)⟩
section
variable {X : Cx} {Γ : Env} {W : WX} {T : CT} {pos : Pos}
theorem jt_nm {i : Nat} {x : Str} (hN : X.N.Nodup) (hi : X.N[i]? = some x) (hx : L2.Loc X.env.scope x) (hf : X.fn x = true ∨ X.env.scope.names.lookup x = some .local) : PG X (.Name x pos) (gTg X (.nm i)) := (pg_name hN hi hx hf).mono fun v σ H Q ⟨κ, ρ, M, it, rs, rm, ri, h⟩ => by
  cases it with
  | one s =>
    simp only [wTg] at h
    exact h _ (rs.set ri i) .set
  | many ss =>
    simp only [wTg] at h
    obtain ⟨xs, e, h⟩ := h
    obtain ⟨a, vs, rfl, t, z, r⟩ := ri
    exact h _ (rs.set (.d (.tup t z (RSs.toP r e))) i) .set
def noStars (es : List Expr) : Bool := es.all nostar
theorem assignEach_map {env : PySem.Env} : ∀ {es : List Expr}, es.all nostar = true → (assignEach es env).length = es.length ∧ (assignEach es env).findIdx? (·.1) = none ∧ (assignEach es env).map (·.2) = es.map fun e => assign e env := by
  intro es h
  induction es with
  | nil => exact ⟨rfl, rfl, rfl⟩
  | cons e es ih =>
    rw [List.all_cons, Bool.and_eq_true] at h
    obtain ⟨i1, i2, i3⟩ := ih h.2
    have key : assignEach (e :: es) env = (false, assign e env) :: assignEach es env := by
      cases e <;> first | rfl | exact absurd h.1 (by simp [nostar])
    rw [key]
    refine ⟨by simp [i1], ?_, by simp [i3]⟩
    rw [List.findIdx?_cons]
    simp [i2]
theorem jts_nil : PGs X [] (gTgs X []) := pgs_nil.mono fun vs σ H Q ⟨κ, ρ, M, ss, rs, rm, r, h⟩ => by
  cases r with
  | nil =>
    simp only [wTgs] at h
    exact ⟨rfl, h σ rs .refl⟩
  | cons r t =>
    simp only [wTgs] at h
theorem jts_cons {e : Expr} {es : List Expr} {t : Tg} {ts : List Tg} (h1 : PG X e (gTg X t)) (h2 : PGs X es (gTgs X ts)) (ne : nostar e = true) (ns : es.all nostar = true) : PGs X (e :: es) (gTgs X (t :: ts)) := by
  have hm := (assignEach_map (env := X.env) (es := e :: es) (by simp [ne]; simpa using ns)).2.2
  have hm2 := (assignEach_map (env := X.env) ns).2.2
  refine (pgs_cons h1 h2 (by rw [hm, hm2]; rfl)).mono fun vs σ H Q ⟨κ, ρ, M, ss, rs, rm, r, h⟩ => ?_
  cases r with
  | nil => simp only [wTgs] at h
  | cons r q =>
    simp only [wTgs] at h
    refine ⟨_, _, rfl, κ, ρ, M, .one _, rs, rm, r, wTg_mo _ _ _ _ _ (fun ρ1 h σ1 rs1 sb1 => ?_) h⟩
    refine ⟨κ, ρ1, M, _, rs1, rm, q, wTgs_mo _ _ _ _ _ (fun ρ2 h σ2 rs2 sb2 => h σ2 rs2 ?_) h⟩
    show SB (tgSlots t ++ tgSlotss ts) σ σ2
    exact sb1.trans sb2
theorem jt_tp {es : List Expr} {ts : List Tg} {k : Nat} (hc : X.calm = true) (h : PGs X es (gTgs X ts)) (ns : es.all nostar = true) (hl : es.length = ts.length) : PG X (.Tuple es k pos) (gTg X (.tp ts)) := by
  obtain ⟨m1, m2, _⟩ := assignEach_map (env := X.env) ns
  refine (pg_tup (n := ts.length) hc h (by rw [m1, hl]) m2).mono fun v σ H Q ⟨κ, ρ, M, it, rs, rm, ri, h⟩ => ?_
  cases it with
  | one s =>
    cases s with
    | l k => simp only [wTg] at h
    | e _ _ _ _ _ => simp only [wTg] at h
    | d x =>
      cases x with
      | tuple xs =>
        simp only [wTg] at h
        cases ri with
        | d ri =>
          cases ri with
          | tup t z r => exact ⟨_, _, rfl, t.sq, by rw [r.length]; exact h.1, κ, ρ, M, _, rs, rm, r.toS, h.2⟩
      | _ => simp only [wTg] at h
  | many ss =>
    simp only [wTg] at h
    obtain ⟨a, vs, rfl, t, z, r⟩ := ri
    exact ⟨a, vs, rfl, t.sq, by rw [r.length]; exact h.1, κ, ρ, M, ss, rs, rm, r, h.2⟩
/-! ### comprehensions -/
theorem on_eta {κ : Loc} {D : Addr} {t : List Addr} (h : κ.tmp = D :: t) : κ = (⟨κ.at_, t⟩ : Loc).on D := by
  cases κ
  simp only at h
  subst h
  rfl
def WF : WX := fun _ _ _ _ => False
theorem lc_read {e : E} {t : Tg} {it : It} {c : Oe} (mo : Γ.Mo) {σ : L2.St} {H : Hp} {Q : VK} (h : gF X Γ W (.comp e t it c) σ H Q) : tLc (gI X Γ W it) (gTg X t) (gC X Γ WF c) (gE X Γ WF e) (tgSlots t) σ H Q := by
  obtain ⟨κ, ρ, M, rs, rm, h⟩ := h
  simp only [wF] at h
  refine ⟨κ, ρ, M, rs, rm, mI mo it ρ _ _ _ _ _ (fun r M1 ⟨hz, h⟩ κ1 H1 J g1 m1 io D hD => ?_) (fun _ _ q => q) h⟩
  obtain ⟨items, ok⟩ := r
  simp only at hz h io
  have hDt : D ∉ κ1.tmp := fun z => (m1.tm D z).1 hD
  have rs1 := rs.grow g1.toGrow
  refine ⟨fun i m H' => m = items.length - i ∧ i ≤ items.length ∧ ∃ (κ' : G.Loc) (M' : Mem) (acc : List S) (vs : List V), Grow κ1 H1 (κ'.on D) H' ∧ κ'.tmp = κ1.tmp ∧ (∀ a ∈ κ1.tmp, H' a = H1 a) ∧ H' D = some (.lst vs) ∧ RSs X.K H' (κ'.on D) vs acc ∧ vs.length ≤ i ∧ RM X.K H' (κ'.on D) M' ∧
      wLc (tgAt t (wipeS ρ (tgSlots t))) ok (fun ρ1 => wC Γ c ρ1) (fun ρ1 => wE Γ e ρ1) (items.drop i) acc M' (PostL X.K H κ Q) (fun _ _ => False), ?_, ?_⟩
  · exact ⟨_, rfl, Nat.zero_le _, κ1, M1, [], [], Grow.on m1 hD, rfl, fun a ha => upd_ne fun z => hDt (by rw [← z]; exact ha), upd_same, .nil, Nat.le_refl _, m1.on hD, h⟩
  · rintro i m H' ⟨rfl, hi, κ', M', acc, vs, g, tm, st, hv, rv, hl, m', hw⟩
    by_cases hlt : i < items.length
    · rw [List.drop_eq_getElem_cons hlt] at hw
      simp only [wLc] at hw
      obtain ⟨hok, hw⟩ := hw
      refine .inr ⟨io.go _ _ _ i g m' hok hlt, fun H'' => i + 1 ≤ items.length ∧ ∃ (κ' : G.Loc) (M' : Mem) (acc : List S) (vs : List V), Grow κ1 H1 (κ'.on D) H'' ∧ κ'.tmp = κ1.tmp ∧ (∀ a ∈ κ1.tmp, H'' a = H1 a) ∧ H'' D = some (.lst vs) ∧ RSs X.K H'' (κ'.on D) vs acc ∧ vs.length ≤ i + 1 ∧ RM X.K H'' (κ'.on D) M' ∧
        wLc (tgAt t (wipeS ρ (tgSlots t))) ok (fun ρ1 => wC Γ c ρ1) (fun ρ1 => wE Γ e ρ1) (items.drop (i + 1)) acc M' (PostL X.K H κ Q) (fun _ _ => False), fun H'' q => ⟨_, by omega, rfl, q⟩, fun x H2 y => ?_⟩
      obtain ⟨g2, m2, ri⟩ := io.yld _ _ _ i _ x H2 g m' hok (List.getElem?_eq_getElem hlt) y
      have gg := g.trans g2.toGrow
      have st2 : ∀ a ∈ κ1.tmp, H2 a = H1 a := fun a ha => (g2.st a (by show a ∈ D :: κ'.tmp; rw [tm]; exact List.mem_cons_of_mem _ ha)).trans (st a ha)
      have hv2 : H2 D = some (.lst vs) := (g2.st D (List.mem_cons_self)).trans hv
      refine ⟨κ'.on D, wipeS ρ (tgSlots t), M', _, (rs1.grow gg).wipe _, m2, ri, wTg_mo _ _ _ _ _ (fun ρ2 hw σ2 rs2 sb => ⟨sb.wipe.trans SB.wiped.wipe, ?_⟩) hw⟩
      refine ⟨κ'.on D, ρ2, M', rs2, m2, mC mo c ρ2 _ _ _ _ _ (fun b M3 hw κ3 H3 g3 m3 => ?_) (fun _ _ z => z.elim) hw⟩
      -- the place of the list in the making
      have fin : ∀ {κx : Loc} {Hx : Hp}, Gr (κ'.on D) H2 κx Hx → ∃ κy : Loc, κx = κy.on D ∧ κy.tmp = κ1.tmp ∧ Grow κ1 H1 (κy.on D) Hx ∧ (∀ a ∈ κ1.tmp, Hx a = H1 a) ∧ Hx D = some (.lst vs) := fun {κx Hx} gx => by
        have e1 : κx.tmp = D :: κ1.tmp := by rw [gx.tmp]; show D :: κ'.tmp = _; rw [tm]
        have e2 := on_eta e1
        refine ⟨⟨κx.at_, κ1.tmp⟩, e2, rfl, ?_, fun a ha => (gx.st a (by show a ∈ D :: κ'.tmp; rw [tm]; exact List.mem_cons_of_mem _ ha)).trans (st2 a ha), (gx.st D List.mem_cons_self).trans hv2⟩
        rw [← e2]
        exact gg.trans gx.toGrow
      cases b with
      | false =>
        obtain ⟨κy, rfl, t1, t2, t3, t4⟩ := fin g3
        exact ⟨hlt, κy, M3, acc, vs, t2, t1, t3, t4, rv.grow (g2.trans g3).toGrow, by omega, m3, hw⟩
      | true =>
        refine ⟨κ3, ρ2, M3, rs2.grow g3.toGrow, m3, mE mo e ρ2 _ _ _ _ _ (fun v M4 hw κ4 y H4 g4 r4 m4 => ?_) (fun _ _ z => z.elim) hw⟩
        obtain ⟨κy, rfl, t1, t2, t3, t4⟩ := fin (g3.trans g4)
        have rv4 := rv.grow (g2.trans (g3.trans g4)).toGrow
        refine ⟨vs, t4, by omega, hlt, κy, M4, acc ++ [v], vs ++ [y], t2.trans Grow.tick, t1, fun a ha => ?_, upd_same, Pd.append (rv4.grow Grow.tick) (.cons (r4.grow Grow.tick) .nil), by rw [List.length_append, List.length_singleton]; omega, m4.tick, hw⟩
        rw [upd_ne fun z => hDt (by rw [← z]; exact ha)]
        exact t3 a ha
    · have e0 : i = items.length := by omega
      subst e0
      rw [List.drop_length] at hw
      simp only [wLc] at hw
      refine .inl ⟨io.stop _ _ _ g m' hw.1, ?_⟩
      refine hw.2 κ' D vs H' (g1.toGrow.trans g) (tm.trans g1.tmp) (fun a ha => (st a (by rw [g1.tmp]; exact ha)).trans (g1.st a ha)) (by rw [← g1.tmp]; exact hDt) hv (by omega) rv m'
theorem GOk.blk (G : GOk X Γ W T) (hc : T.cm = true) (s : Shared) (H : Hp) (scope : Scope) (C : Addr) (cl : List (Str × Addr)) (fp : List Addr) : GOk (X.blk s H scope (compEnvC scope cl C X.env) fp) Γ WF { T with sc := relS scope T.sc } where
  eN := G.eN
  eS := by rw [← G.eS]; rfl
  nd := G.nd
  calm := G.calm
  hu := G.hu
  gu := G.gu
  bt := G.bt
  fk := G.fk
  fn := G.fn
  tk := fun u s' ⟨_, _, _, _, _, _, _, _, _, _, _, _, _, _, _, _, w⟩ => w.elim
  mo := G.mo
  dp := G.dp
  xo := G.xo
  cl := G.cl
  cu := fun a dd c f v h => by cases ((G.cn hc).symm.trans h)
  xm := G.xm
  hn := G.hn
  cn := G.cn
theorem jf_comp {e : E} {t : Tg} {it : It} {c : Oe} {elt tg iter : Expr} {ifs : List Expr} {scope : Scope} {own : List (Str × Nat)} (G : GOk X Γ W T) (hc : T.cm = true) (hi : PI X tg iter (gI X Γ W it)) (ok : BlkOk X.N X.env.scope scope own) (ho : own.map (·.2) = tgSlots t)
    (hg : ∀ (s : Shared) (H : Hp) (C : Addr) (cl : List (Str × Addr)) (fp : List Addr), PG (X.blk s H scope (compEnvC scope cl C X.env) fp) tg (gTg (X.blk s H scope (compEnvC scope cl C X.env) fp) t))
    (ht : ∀ (s : Shared) (H : Hp) (C : Addr) (cl : List (Str × Addr)) (fp : List Addr), PTs (X.blk s H scope (compEnvC scope cl C X.env) fp) ifs (gC (X.blk s H scope (compEnvC scope cl C X.env) fp) Γ WF c))
    (he : ∀ (s : Shared) (H : Hp) (C : Addr) (cl : List (Str × Addr)) (fp : List Addr), PE (X.blk s H scope (compEnvC scope cl C X.env) fp) elt (gE (X.blk s H scope (compEnvC scope cl C X.env) fp) Γ WF e)) (hs : notSet iter = true) :
    PE X (.ListComp elt [⟨tg, iter, ifs, 0⟩] scope pos) (gF X Γ W (.comp e t it c)) := by
  refine (pe_lc (wi := gI X Γ W it) (g := gTg X t) (tt := gC X Γ WF c) (te := gE X Γ WF e) (G.calm hc) G.nd hi ok hg ht he (fs_of hs)).mono fun σ H Q h => ?_
  rw [ho]
  exact lc_read G.mo h
/-- name = [..] -/
theorem js_comp {i : Nat} {y : Str} {py spos : Pos} {te : E} {e : E} {t : Tg} {it : It} {c : Oe} {elt tg iter : Expr} {ifs : List Expr} {scope : Scope} {own : List (Str × Nat)} (G : GOk X Γ W T) (hc : T.cm = true) (hy : X.N[i]? = some y) (hyl : X.env.scope.names.lookup y = some .local)
    (hsw : swapsWith (.ListComp elt [⟨tg, iter, ifs, 0⟩] scope pos) (some (.Name y py)) spos.line X.env = pure true) (hi : PI X tg iter (gI X Γ W it)) (ok : BlkOk X.N X.env.scope scope own) (ho : own.map (·.2) = tgSlots t)
    (hg : ∀ (s : Shared) (H : Hp) (C : Addr) (cl : List (Str × Addr)) (fp : List Addr), PG (X.blk s H scope (compEnvC scope cl C X.env) fp) tg (gTg (X.blk s H scope (compEnvC scope cl C X.env) fp) t))
    (ht : ∀ (s : Shared) (H : Hp) (C : Addr) (cl : List (Str × Addr)) (fp : List Addr), PTs (X.blk s H scope (compEnvC scope cl C X.env) fp) ifs (gC (X.blk s H scope (compEnvC scope cl C X.env) fp) Γ WF c))
    (he : ∀ (s : Shared) (H : Hp) (C : Addr) (cl : List (Str × Addr)) (fp : List Addr), PE (X.blk s H scope (compEnvC scope cl C X.env) fp) elt (gE (X.blk s H scope (compEnvC scope cl C X.env) fp) Γ WF e)) (hs : notSet iter = true) :
    PS X (.Assign [.Name y py] (.ListComp elt [⟨tg, iter, ifs, 0⟩] scope pos) spos) (tAsg (gF X Γ W (.comp e t it c)) (gName i)) := by
  refine ⟨fun pins s σ H D I h => (ps_setLc (wi := gI X Γ W it) (g := gTg X t) (tt := gC X Γ WF c) (te := gE X Γ WF e) (G.calm hc) G.nd hy hyl hsw hi ok hg ht he (fs_of hs)).run pins s σ H D I ?_⟩
  show tLc _ _ _ _ _ _ _ _
  rw [ho]
  exact lc_read G.mo h
end
end G

/-! Layer G, part 5: statements. -/
namespace G
open PySem L2 PySem.Spec PyProof.Rows

/-- a def's own context -/
structure GSt (X : Cx) : Prop where
  po : PassesOwn (model X.prog X.w) X.A X.env X.xe
  stk : X.stack = X.env :: X.outer
  frm : X.env.frame = some X.env.locals
  fnt : ∀ x, X.fn x = true
  ex : X.ex = []
section
variable (X : Cx) (Γ : Env) (W : WX)
def PO (H : Hp) (κ : G.Loc) (D : Ends) : Outs where
  nx := fun ρ' M' => ∀ κ' σ' H', Gr κ H κ' H' → RSt X.K H' κ' ρ' σ' → RM X.K H' κ' M' → D.nx σ' H'
  rt := Post X.K H κ D.rt
  bk := fun ρ' M' => ∀ κ' σ' H', Gr κ H κ' H' → RSt X.K H' κ' ρ' σ' → RM X.K H' κ' M' → D.bk σ' H'
  ct := fun ρ' M' => ∀ κ' σ' H', Gr κ H κ' H' → RSt X.K H' κ' ρ' σ' → RM X.K H' κ' M' → D.ct σ' H'
  ex := fun x ρ' M' => ∀ κ' σ' cls d H', Gr κ H κ' H' → RSt X.K H' κ' ρ' σ' → RM X.K H' κ' M' → RX X.mg X.K H' κ' cls d x → W cls d σ' H'
def gS (s : G.St) : TS := fun D σ H => ∃ κ ρ M, RSt X.K H κ ρ σ ∧ RM X.K H κ M ∧ wS Γ s ρ M (PO X W H κ D)
def gSs (s : Ss) : TS := fun D σ H => ∃ κ ρ M, RSt X.K H κ ρ σ ∧ RM X.K H κ M ∧ wSs Γ s ρ M (PO X W H κ D)
end
theorem _root_.L2.PS.mono {X : Cx} {e : Stmt} {t t' : TS} (h : PS X e t) (m : ∀ D σ H, t' D σ H → t D σ H) : PS X e t' := ⟨fun pins s σ H D I q => h.run pins s σ H D I (m _ _ _ q)⟩
theorem _root_.L2.PSs.mono {X : Cx} {e : List Stmt} {t t' : TS} (h : PSs X e t) (m : ∀ D σ H, t' D σ H → t D σ H) : PSs X e t' := ⟨fun pins s σ H D I q => h.run pins s σ H D I (m _ _ _ q)⟩
section
variable {X : Cx} {Γ : Env} {W : WX} {T : CT} {κ κ0 κ' : G.Loc} {H H0 H' : Hp} {ρ : Sto} {σ : L2.St} {M : Mem} {D : Ends} {a b c e : E} {a' b' c' e' : Expr} {pos p p2 : Pos}
theorem PO.grow (g : Gr κ H κ' H') : (PO X W H κ D).Le (PO X W H' κ' D) :=
  ⟨fun ρ1 M1 h κ1 σ1 H1 g1 rs rm => h κ1 σ1 H1 (g.trans g1) rs rm, fun v M1 h => h.grow g, fun ρ1 M1 h κ1 σ1 H1 g1 rs rm => h κ1 σ1 H1 (g.trans g1) rs rm, fun ρ1 M1 h κ1 σ1 H1 g1 rs rm => h κ1 σ1 H1 (g.trans g1) rs rm,
    fun x ρ1 M1 h κ1 σ1 cls d H1 g1 rs rm rx => h κ1 σ1 cls d H1 (g.trans g1) rs rm rx⟩
theorem PO.px (rs : RSt X.K H κ ρ σ) {x : Xc} {M1 : Mem} (h : (PO X W H κ D).ex x ρ M1) : PX X.mg X.K H κ (XW W σ) x M1 := fun κ1 cls d H1 g rx m => h κ1 σ cls d H1 g (rs.grow g.toGrow) m rx
/-- an expression of a statement -/
theorem gE.st {e : E} {P : S → Mem → Prop} {C : VK} (mo : Γ.Mo) (g : Gr κ0 H0 κ H) (rs0 : RSt X.K H0 κ0 ρ σ) (rm : RM X.K H κ M) (h : wE Γ e ρ M P (fun x M1 => (PO X W H0 κ0 D).ex x ρ M1))
    (c : ∀ z M1 κ1 x H1, P z M1 → Gr κ H κ1 H1 → RS X.K H1 κ1 x z → RM X.K H1 κ1 M1 → C x H1) : gE X Γ W e σ H C :=
  gE.go mo g (rs0.grow g.toGrow) rm (mE mo e ρ _ _ _ _ _ (fun _ _ q => q) (fun _ _ q => PO.px rs0 q) h) c
theorem gT.st {e : E} {P : Bool → Mem → Prop} {C : Bool → Hp → Prop} (mo : Γ.Mo) (g : Gr κ0 H0 κ H) (rs0 : RSt X.K H0 κ0 ρ σ) (rm : RM X.K H κ M) (h : wT Γ e ρ M P (fun x M1 => (PO X W H0 κ0 D).ex x ρ M1))
    (c : ∀ z M1 κ1 H1, P z M1 → Gr κ H κ1 H1 → RM X.K H1 κ1 M1 → C z H1) : gT X Γ W e σ H C :=
  gT.go mo g (rs0.grow g.toGrow) rm (mT mo e ρ _ _ _ _ _ (fun _ _ q => q) (fun _ _ q => PO.px rs0 q) h) c
theorem gSs.go {s : Ss} {O : Outs} (mo : Γ.Mo) (rs : RSt X.K H κ ρ σ) (rm : RM X.K H κ M) (h : wSs Γ s ρ M O) (l : O.Le (PO X W H κ D)) : gSs X Γ W s D σ H := ⟨κ, ρ, M, rs, rm, (mSs s Γ mo).go h l⟩
/-! ### blocks -/
theorem jss_nil : PSs X [] (gSs X Γ W .nil) := pss_nil.mono fun D σ H ⟨κ, ρ, M, rs, rm, h⟩ => by
  simp only [wSs] at h
  exact h κ σ H .refl rs rm
theorem jss_cons {s : G.St} {ss : Ss} {s' : Stmt} {ss' : List Stmt} (G : GOk X Γ W T) (h1 : PS X s' (gS X Γ W s)) (h2 : PSs X ss' (gSs X Γ W ss)) : PSs X (s' :: ss') (gSs X Γ W (.cons s ss)) := (pss_cons h1 h2).mono fun D σ H ⟨κ, ρ, M, rs, rm, h⟩ => by
  simp only [wSs] at h
  refine ⟨κ, ρ, M, rs, rm, (mS s Γ G.mo).go h ⟨fun ρ1 M1 h κ1 σ1 H1 g1 rs1 rm1 => ?_, fun v M1 h => h, fun _ _ h => h, fun _ _ h => h, fun _ _ _ h => h⟩⟩
  exact gSs.go G.mo rs1 rm1 h (PO.grow g1)
theorem js_pass : PS X (.Pass pos) (gS X Γ W .pass) := ps_pass.mono fun D σ H ⟨κ, ρ, M, rs, rm, h⟩ => by
  simp only [wS] at h
  exact h κ σ H .refl rs rm
theorem js_brk : PS X (.Break pos) (gS X Γ W .brk) := ps_break.mono fun D σ H ⟨κ, ρ, M, rs, rm, h⟩ => by
  simp only [wS] at h
  exact h κ σ H .refl rs rm
theorem js_cont : PS X (.Continue pos) (gS X Γ W .cont) := ps_continue.mono fun D σ H ⟨κ, ρ, M, rs, rm, h⟩ => by
  simp only [wS] at h
  exact h κ σ H .refl rs rm
theorem js_doc {x : Str} {j : Nat} : PS X (.Expr (.Constant (.str x) j p) pos) (gS X Γ W .pass) := ps_doc.mono fun D σ H ⟨κ, ρ, M, rs, rm, h⟩ => by
  simp only [wS] at h
  exact h κ σ H .refl rs rm
theorem js_retN : PS X (.Return none pos) (gS X Γ W .retN) := ps_retN.mono fun D σ H ⟨κ, ρ, M, rs, rm, h⟩ => by
  simp only [wS] at h
  exact h κ .non H .refl (.d .non) rm
theorem js_ret (G : GOk X Γ W T) (he : PE X e' (gE X Γ W e)) : PS X (.Return (some e') pos) (gS X Γ W (.ret e)) := (ps_ret he).mono fun D σ H ⟨κ, ρ, M, rs, rm, h⟩ => by
  simp only [wS] at h
  exact gE.st G.mo .refl rs rm h fun v M1 κ1 x H1 q g r m => q κ1 x H1 g r m
theorem js_expr (G : GOk X Γ W T) (he : PE X e' (gE X Γ W e)) (hn : notComp e' = true) : PS X (.Expr e' pos) (gS X Γ W (.expr e)) := (ps_expr he (sw_of hn)).mono fun D σ H ⟨κ, ρ, M, rs, rm, h⟩ => by
  simp only [wS] at h
  exact gE.st G.mo .refl rs rm h fun v M1 κ1 x H1 q g r m => q κ1 σ H1 g (rs.grow g.toGrow) m
theorem js_if {s t : Ss} {s' t' : List Stmt} (G : GOk X Γ W T) (hc : PT X c' (gT X Γ W c)) (ha : PSs X s' (gSs X Γ W s)) (hb : PSs X t' (gSs X Γ W t)) : PS X (.If c' s' t' pos) (gS X Γ W (.cond c s t)) := (ps_if hc ha hb).mono fun D σ H ⟨κ, ρ, M, rs, rm, h⟩ => by
  simp only [wS] at h
  refine gT.st G.mo .refl rs rm h fun k M1 κ1 H1 q g m => ?_
  cases k with
  | true => exact gSs.go G.mo (rs.grow g.toGrow) m q (PO.grow g)
  | false => exact gSs.go G.mo (rs.grow g.toGrow) m q (PO.grow g)
/-! ### assignments -/
theorem js_asg {t : Tg} {tg : Expr} (G : GOk X Γ W T) (he : PE X e' (gE X Γ W e)) (hg : PG X tg (gTg X t)) (hs : swapsWithSole [tg] e' pos.line X.env = pure false) (hw : swappedStores [tg] e' X.env = pure none) (hn : nostar tg = true) : PS X (.Assign [tg] e' pos) (gS X Γ W (.asg t e)) :=
  (ps_asg he hg hs hw (assignEach_map (env := X.env) (es := [tg]) (by simp [hn])).2.2).mono fun D σ H ⟨κ, ρ, M, rs, rm, h⟩ => by
  simp only [wS] at h
  refine gE.st G.mo .refl rs rm h fun v M1 κ1 x H1 q g r m => ?_
  exact ⟨κ1, ρ, M1, .one v, rs.grow g.toGrow, m, r, wTg_mo _ _ _ _ _ (fun ρ1 q σ' rs' _ => q κ1 σ' H1 g rs' m) q⟩
theorem sub_asg {o i : Expr} {env : PySem.Env} (h : notSlice i = true) : ∀ v, assign (.Subscript o i pos) env v = (do
      let ov ← holding [v] (eval o env)
      let iv ← holding [v, ov] (eval i env)
      standAt pos
      holding [v, ov, iv] (setItem ov iv v)
      release [v, ov, iv] []) := by
  intro v
  cases i <;> first | rfl | cases h
theorem sw_sub {o i : Expr} {l : Nat} {env : PySem.Env} : swapsWithSole [.Subscript o i p] e' l env = pure false := by
  cases e' <;> rfl
theorem sst_sub {o i : Expr} {env : PySem.Env} : swappedStores [.Subscript o i p] e' env = pure none := by
  cases e' <;> rfl
theorem js_setIx (G : GOk X Γ W T) (he : PE X e' (gE X Γ W e)) (ha : PE X a' (gE X Γ W a)) (hb : PE X b' (gE X Γ W b)) (hn : notSlice b' = true) : PS X (.Assign [.Subscript a' b' p] e' pos) (gS X Γ W (.setIx a b e)) :=
  (ps_asg he (pg_sub ha hb ok_put (sub_asg hn)) sw_sub sst_sub rfl).mono fun D σ H ⟨κ, ρ, M, rs, rm, h⟩ => by
  simp only [wS] at h
  refine gE.st G.mo .refl rs rm h fun v M1 κ1 vv H1 q g1 r1 m1 => ?_
  refine gE.st G.mo g1 rs m1 q fun x M2 κ2 vx H2 q g2 r2 m2 => ?_
  refine gE.st G.mo (g1.trans g2) rs m2 q fun y M3 κ3 vy H3 q g3 r3 m3 => ?_
  have g13 := g1.trans (g2.trans g3)
  refine ⟨κ3, M3, x, y, v, m3, r2.grow g3.toGrow, r3, r1.grow (g2.trans g3).toGrow, wPut_mo (fun M4 q κ4 H4 g4 m4 => ?_) q⟩
  exact q κ4 σ H4 (g13.trans g4) (rs.grow (g13.trans g4).toGrow) m4
theorem js_par {i j : Nat} {x y : Str} {px py pt : Pos} {kt k2 : Nat} {pt2 : Pos} (G : GOk X Γ W T) (hc : T.cm = true) (hi : X.N[i]? = some x) (hj : X.N[j]? = some y) (hij : i ≠ j) (hx : X.env.scope.names.lookup x = some .local) (hy : X.env.scope.names.lookup y = some .local)
    (ha : PE X a' (gE X Γ W a)) (hb : PE X b' (gE X Γ W b)) (na : nostar a' = true) (nb : nostar b' = true) (hw : swappedStores [.Tuple [.Name x px, .Name y py] kt pt] (.Tuple [a', b'] k2 pt2) X.env = pure (some [x, y])) :
    PS X (.Assign [.Tuple [.Name x px, .Name y py] kt pt] (.Tuple [a', b'] k2 pt2) pos) (gS X Γ W (.par i j a b)) :=
  (ps_par (G.calm hc) G.nd hi hj hij hx hy (pa_cons ha (pa_cons hb pa_nil (star_cons nb)) (star_cons na)) hw).mono fun D σ H ⟨κ, ρ, M, rs, rm, h⟩ => by
  simp only [wS] at h
  refine gE.st G.mo .refl rs rm h fun v M1 κ1 vv H1 q g1 r1 m1 => ?_
  refine gE.st G.mo g1 rs m1 q fun w M2 κ2 vw H2 q g2 r2 m2 => ?_
  have g12 := g1.trans g2
  exact ⟨vv, vw, rfl, q κ2 _ H2 g12 (((rs.grow g12.toGrow).set (r1.grow g2.toGrow) i).set r2 j) m2⟩
/-! ### op= -/
def rAug (K : PySem.W.Frag) (o : Operator) : TIp := fun x y H Q => ∃ κ M sx sy, RM K H κ M ∧ RS K H κ x sx ∧ RS K H κ y sy ∧ wAug o sx sy fun r => Post K H κ Q r M
theorem ok_aug (o : Operator) : PIp X o (rAug X.K o) := by
  intro pins s σ H x y v u Q I rx ry h
  obtain ⟨κ, M, sx, sy, m, h1, h2, h⟩ := h
  unfold wAug at h
  split at h
  · cases h1 with | d h1 => cases h1; cases h2 with | d h2 => cases h2; exact ip_add pins s σ H _ _ v u Q I rx ry ⟨_, _, rfl, rfl, h.at (.d (.int _)) m⟩
  · cases h1 with | d h1 => cases h1; cases h2 with | d h2 => cases h2; exact ip_sub pins s σ H _ _ v u Q I rx ry ⟨_, _, rfl, rfl, h.at (.d (.int _)) m⟩
  · obtain ⟨hc, h⟩ := h
    cases h1 with
    | d h1 =>
      cases h1
      cases h2 with
      | d h2 =>
        cases h2
        obtain ⟨t, rfl⟩ := rx
        obtain ⟨t', rfl⟩ := ry
        have hm : IntMulOk _ _ := hc.elim CMul.ok CMulW.ok
        exact P.imul_int ⟨.int _, H, I.tok _, ⟨_, rfl⟩, Post.at h (.d (.int _)) m⟩ hm
  · exact False.elim h
theorem js_aug {i : Nat} {x : Str} (o : Operator) (G : GOk X Γ W T) (Gs : GSt X) (hi : X.N[i]? = some x) (hx : L2.Loc X.env.scope x) (he : PE X e' (gE X Γ W e)) : PS X (.AugAssign (.Name x p) o e' pos) (gS X Γ W (.aug i o e)) :=
  (ps_aug G.nd hi hx he (ok_aug o) (.inl (Gs.fnt x))).mono fun D σ H ⟨κ, ρ, M, rs, rm, h⟩ => by
  simp only [wS] at h
  obtain ⟨v, ev, h⟩ := h
  obtain ⟨vv, e2, r⟩ := rs.here _ _ ev
  refine ⟨vv, e2, gE.st G.mo .refl rs rm h fun w M1 κ1 vw H1 q g1 r1 m1 => ?_⟩
  refine ⟨κ1, M1, v, w, m1, r.grow g1.toGrow, r1, wAug_mo (fun z q κ2 vz H2 g2 r2 m2 => ?_) q⟩
  have g12 := g1.trans g2
  exact q κ2 _ H2 g12 ((rs.grow g12.toGrow).set r2 i) m2
theorem aug_sub {i : Expr} (h : notSlice i = true) : ∀ ov iv new, augStore i ov iv new = (do holding [new, ov, iv] (setItem ov iv new); release [new, ov, iv] []; pure .next) := by
  intro ov iv new
  cases i <;> first | rfl | cases h
theorem js_augIx (o : Operator) (G : GOk X Γ W T) (ha : PE X a' (gE X Γ W a)) (hb : PE X b' (gE X Γ W b)) (he : PE X e' (gE X Γ W e)) (hn : notSlice b' = true) : PS X (.AugAssign (.Subscript a' b' p) o e' pos) (gS X Γ W (.augIx a b o e)) :=
  (ps_augS ha hb ok_get he (ok_aug o) ok_put (aug_sub hn)).mono fun D σ H ⟨κ, ρ, M, rs, rm, h⟩ => by
  simp only [wS] at h
  refine gE.st G.mo .refl rs rm h fun x M1 κ1 vx H1 q g1 r1 m1 => ?_
  refine gE.st G.mo g1 rs m1 q fun y M2 κ2 vy H2 q g2 r2 m2 => ?_
  have g12 := g1.trans g2
  refine ⟨κ2, M2, x, y, m2, r1.grow g2.toGrow, r2, wIx_mo (fun z M3 q κ3 vz H3 g3 r3 m3 => ?_) q⟩
  refine gE.st G.mo (g12.trans g3) rs m3 q fun w M4 κ4 vw H4 q g4 r4 m4 => ?_
  refine ⟨κ4, M4, z, w, m4, r3.grow g4.toGrow, r4, wAug_mo (fun r q κ5 vr H5 g5 r5 m5 => ?_) q⟩
  have g25 := g3.trans (g4.trans g5)
  refine ⟨κ5, M4, x, y, r, m5, r1.grow (g2.trans g25).toGrow, r2.grow g25.toGrow, r5, wPut_mo (fun M6 q κ6 H6 g6 m6 => ?_) q⟩
  have g := g12.trans (g25.trans g6)
  exact q κ6 σ H6 g (rs.grow g.toGrow) m6
/-! ### lists' methods -/
theorem js_app (G : GOk X Γ W T) (ha : PE X a' (gE X Γ W a)) (he : PE X e' (gE X Γ W e)) (hab : abOk a' = true) (hl : (p.endLine == p2.line) = true) (ne : nostar e' = true) : PS X (.Expr (.Call (.Attribute a' "append" p) [e'] [] p2) pos) (gS X Γ W (.app a e)) :=
  (ps_expr (pe_bm F.plainAttrs_list F.slot_list_append F.type_list_append ok_append ha (pa_cons he pa_nil (star_cons ne)) (ab_of hab) (kw_few (by simp [ne]) (by simp)) hl (star_cons ne) (star_any rfl)) (sw_of rfl)).mono fun D σ H ⟨κ, ρ, M, rs, rm, h⟩ => by
  simp only [wS] at h
  refine gE.st G.mo .refl rs rm h fun x M1 κ1 vx H1 ⟨t, q⟩ g1 r1 m1 => ⟨ty_list m1 r1 t, ?_⟩
  refine gE.st G.mo g1 rs m1 q fun v M2 κ2 vv H2 ⟨k, xs, ex, hk, hz, q2⟩ g2 r2 m2 => ?_
  subst ex
  refine ⟨κ2, M2, k, xs, vv, v, rfl, m2, r1.grow g2.toGrow, r2, hk, hz, fun κ3 H3 g3 m3 => ?_⟩
  have g := (g1.trans g2).trans g3
  exact q2 κ3 σ H3 g (rs.grow g.toGrow) m3
theorem js_ext (G : GOk X Γ W T) (ha : PE X a' (gE X Γ W a)) (he : PE X e' (gE X Γ W e)) (hab : abOk a' = true) (hl : (p.endLine == p2.line) = true) (ne : nostar e' = true) : PS X (.Expr (.Call (.Attribute a' "extend" p) [e'] [] p2) pos) (gS X Γ W (.ext a e)) :=
  (ps_expr (pe_bm F.plainAttrs_list F.slot_list_extend F.type_list_extend ok_extend ha (pa_cons he pa_nil (star_cons ne)) (ab_of hab) (kw_few (by simp [ne]) (by simp)) hl (star_cons ne) (star_any rfl)) (sw_of rfl)).mono fun D σ H ⟨κ, ρ, M, rs, rm, h⟩ => by
  simp only [wS] at h
  refine gE.st G.mo .refl rs rm h fun x M1 κ1 vx H1 ⟨t, q⟩ g1 r1 m1 => ⟨ty_list m1 r1 t, ?_⟩
  refine gE.st G.mo g1 rs m1 q fun v M2 κ2 vv H2 ⟨k, xs, ys, ex, hk, hi, ht, hz, q2⟩ g2 r2 m2 => ?_
  subst ex
  refine ⟨κ2, M2, k, xs, vv, v, ys, rfl, m2, r1.grow g2.toGrow, r2, hk, hi, ht, hz, fun κ3 H3 g3 m3 => ?_⟩
  have g := (g1.trans g2).trans g3
  exact q2 κ3 σ H3 g (rs.grow g.toGrow) m3
theorem js_ins (G : GOk X Γ W T) (ha : PE X a' (gE X Γ W a)) (hb : PE X b' (gE X Γ W b)) (he : PE X e' (gE X Γ W e)) (hab : abOk a' = true) (hl : (p.endLine == p2.line) = true) (nb : nostar b' = true) (ne : nostar e' = true) : PS X (.Expr (.Call (.Attribute a' "insert" p) [b', e'] [] p2) pos) (gS X Γ W (.ins a b e)) :=
  (ps_expr (pe_bm F.plainAttrs_list F.slot_list_insert F.type_list_insert ok_insert ha (pa_cons hb (pa_cons he pa_nil (star_cons ne)) (star_cons nb)) (ab_of hab) (kw_few (by simp [nb, ne]) (by simp)) hl (star_cons nb) (star_any (by simp [ne]))) (sw_of rfl)).mono fun D σ H ⟨κ, ρ, M, rs, rm, h⟩ => by
  simp only [wS] at h
  refine gE.st G.mo .refl rs rm h fun x M1 κ1 vx H1 ⟨t, q⟩ g1 r1 m1 => ⟨ty_list m1 r1 t, ?_⟩
  refine gE.st G.mo g1 rs m1 q fun y M2 κ2 vy H2 q g2 r2 m2 => ?_
  refine gE.st G.mo (g1.trans g2) rs m2 q fun v M3 κ3 vv H3 ⟨k, xs, j, ex, ey, hk, hj, hz, q2⟩ g3 r3 m3 => ?_
  subst ex ey
  cases r2 with
  | d r2 =>
    cases r2
    refine ⟨κ3, M3, k, xs, j, vv, v, rfl, m3, r1.grow (g2.trans g3).toGrow, r3, hk, hj, hz, fun κ4 H4 g4 m4 => ?_⟩
    have g := (g1.trans g2).trans (g3.trans g4)
    exact q2 κ4 σ H4 g (rs.grow g.toGrow) m4
/-! ### loops -/
theorem js_whl {s : Ss} {s' : List Stmt} (G : GOk X Γ W T) (Gs : GSt X) (hc : PT X c' (gT X Γ W c)) (hb : PSs X s' (gSs X Γ W s)) : PS X (.While c' s' [] pos) (gS X Γ W (.whl c s)) := (ps_while Gs.po hc hb).mono fun D σ H ⟨κ, ρ, M, rs, rm, h⟩ => by
  simp only [wS] at h
  obtain ⟨n, h⟩ := h
  refine ⟨fun m σ1 H1 => ∃ κ1 ρ1 M1, Gr κ H κ1 H1 ∧ RSt X.K H1 κ1 ρ1 σ1 ∧ RM X.K H1 κ1 M1 ∧ wWhl (fun ρ1 => wT Γ c ρ1) (fun ρ1 M2 O1 => wSs Γ s ρ1 M2 O1) m ρ1 M1 (PO X W H κ D), ⟨n, κ, ρ, M, .refl, rs, rm, h⟩, ?_⟩
  rintro m σ1 H1 ⟨κ1, ρ1, M1, g1, rs1, rm1, h⟩
  cases m with
  | zero => simp only [wWhl] at h
  | succ m =>
    simp only [wWhl] at h
    refine ⟨κ1, ρ1, M1, rs1, rm1, mT G.mo c ρ1 _ _ _ _ _ (fun k M2 q κ2 H2 g2 m2 => ?_) (fun x M2 q => PO.px rs1 ((PO.grow g1).ex _ _ _ q)) h⟩
    have g12 := g1.trans g2
    cases k with
    | true =>
      refine ⟨fun σ3 H3 => ∃ κ3 ρ3 M3, Gr κ H κ3 H3 ∧ RSt X.K H3 κ3 ρ3 σ3 ∧ RM X.K H3 κ3 M3 ∧ wWhl (fun ρ1 => wT Γ c ρ1) (fun ρ1 M2 O1 => wSs Γ s ρ1 M2 O1) m ρ3 M3 (PO X W H κ D), fun σ3 H3 q => ⟨m, Nat.lt_succ_self m, q⟩, ?_⟩
      refine gSs.go G.mo (rs1.grow g2.toGrow) m2 q ⟨fun ρ3 M3 q κ3 σ3 H3 g3 rs3 m3 => ⟨κ3, ρ3, M3, g12.trans g3, rs3, m3, q⟩, fun v M3 q => (q : Post X.K H κ D.rt v M3).grow g12, fun ρ3 M3 q κ3 σ3 H3 g3 rs3 m3 => q κ3 σ3 H3 (g12.trans g3) rs3 m3,
        fun ρ3 M3 q κ3 σ3 H3 g3 rs3 m3 => ⟨κ3, ρ3, M3, g12.trans g3, rs3, m3, q⟩, fun x ρ3 M3 q => (PO.grow g12).ex _ _ _ q⟩
    | false => exact q κ2 σ1 H2 g12 (rs1.grow g2.toGrow) m2
theorem js_for {s : Ss} {s' : List Stmt} {t : Tg} {it : G.It} {tg iter : Expr} (G : GOk X Γ W T) (Gs : GSt X) (hc : T.cm = true) (hi : PI X tg iter (gI X Γ W it)) (hg : PG X tg (gTg X t)) (hb : PSs X s' (gSs X Γ W s)) (hn : notSet iter = true) : PS X (.For tg iter s' [] pos) (gS X Γ W (.loop t it s)) :=
  (ps_for Gs.po (G.calm hc) hi hg hb (fs_of hn)).mono fun D σ H ⟨κ, ρ, M, rs, rm, h⟩ => by
  simp only [wS] at h
  refine ⟨κ, ρ, M, rs, rm, mI G.mo it ρ _ _ _ _ _ (fun r M1 h κ1 H1 J g1 m1 io => ?_) (fun x M1 q => PO.px rs q) h⟩
  obtain ⟨items, ok⟩ := r
  simp only at h io
  refine ⟨fun i m σ2 H2 => m = items.length - i ∧ i ≤ items.length ∧ ∃ κ2 ρ2 M2, Gr κ1 H1 κ2 H2 ∧ RSt X.K H2 κ2 ρ2 σ2 ∧ RM X.K H2 κ2 M2 ∧ wFor (wTg t) ok (fun ρ1 M2 O1 => wSs Γ s ρ1 M2 O1) (items.drop i) ρ2 M2 (PO X W H κ D),
    ⟨_, rfl, Nat.zero_le _, κ1, ρ, M1, .refl, rs.grow g1.toGrow, m1, h⟩, ?_⟩
  rintro i m σ2 H2 ⟨rfl, hi, κ2, ρ2, M2, g2, rs2, m2, h⟩
  have g12 := g1.trans g2
  by_cases hlt : i < items.length
  · rw [List.drop_eq_getElem_cons hlt] at h
    simp only [wFor] at h
    obtain ⟨hok, h⟩ := h
    refine .inr ⟨io.go _ _ _ i g2.toGrow m2 hok hlt, fun σ3 H3 => i + 1 ≤ items.length ∧ ∃ κ3 ρ3 M3, Gr κ1 H1 κ3 H3 ∧ RSt X.K H3 κ3 ρ3 σ3 ∧ RM X.K H3 κ3 M3 ∧ wFor (wTg t) ok (fun ρ1 M2 O1 => wSs Γ s ρ1 M2 O1) (items.drop (i + 1)) ρ3 M3 (PO X W H κ D),
      fun σ3 H3 q => ⟨_, by omega, rfl, q⟩, fun x H3 y => ?_⟩
    obtain ⟨g3, m3, ri⟩ := io.yld _ _ _ i _ x H3 g2.toGrow m2 hok (List.getElem?_eq_getElem hlt) y
    refine ⟨κ2, ρ2, M2, _, rs2.grow g3.toGrow, m3, ri, wTg_mo _ _ _ _ _ (fun ρ4 h σ4 rs4 _ => ?_) h⟩
    have g13 := g12.trans g3
    refine gSs.go G.mo rs4 m3 h ⟨fun ρ5 M5 q κ5 σ5 H5 g5 rs5 m5 => ⟨hlt, κ5, ρ5, M5, g2.trans (g3.trans g5), rs5, m5, q⟩, fun v M5 q => (q : Post X.K H κ D.rt v M5).grow g13, fun ρ5 M5 q κ5 σ5 H5 g5 rs5 m5 => q κ5 σ5 H5 (g13.trans g5) rs5 m5,
      fun ρ5 M5 q κ5 σ5 H5 g5 rs5 m5 => ⟨hlt, κ5, ρ5, M5, g2.trans (g3.trans g5), rs5, m5, q⟩, fun x ρ5 M5 q => (PO.grow g13).ex _ _ _ q⟩
  · have e0 : i = items.length := by omega
    subst e0
    rw [List.drop_length] at h
    simp only [wFor] at h
    exact .inl ⟨io.stop _ _ _ g2.toGrow m2 h.1, h.2 κ2 σ2 H2 g12 rs2 m2⟩
end
end G

/-! Layer G, part 5b: a raise of an own exception whose __init__ says super().__init__("..") and keeps one field. -/
namespace G
open PySem L2 PySem.Spec PyProof.Rows PySem.Calls
open PySem.W (Frag)

theorem mc_eval {o : Expr} {name : Str} {apos pos : Pos} {args : List Expr} {env : PySem.Env} (hl : (apos.endLine == pos.line) = true) (ns : args.all nostar = true) (hz : args.length < 30) : eval (.Call (.Attribute o name apos) args [] pos) env = (do
      let ov ← attributeBase o name env (eval o env)
      standAt apos.atName
      let (f, first) ← holding [ov] (getMethod ov name (do return (← importBound o env).getD true))
      callWith pos f first (backTo pos (starEach args env)) []) := by
  have hform : methodCallForm (args.length + ([] : List Keyword).length) (backTo pos (starEach args env)) (backToKw pos (keywordEach [] env)) = true := by
    unfold methodCallForm
    rw [star_all ns]
    simp only [Bool.true_and]
    rw [show (backToKw pos (keywordEach [] env)) = [] from rfl]
    simpa using hz
  have hpos : methodCallPos true o env apos pos = pure pos := by
    unfold methodCallPos
    simp [hl]
  show (do
    let ov ← attributeBase o name env (eval o env)
    standAt apos.atName
    methodCall o name apos pos env ov (args.length + ([] : List Keyword).length) (backTo pos (starEach args env)) (backToKw pos (keywordEach [] env))) = _
  unfold methodCall
  rw [hform, hpos]
  rfl
section
variable {prog : Program} {w : World} {K : Frag} {mg : Str → Option Value} {A : Around} {E : Value → Shared → Prop} {R : Result → Shared → Prop} {h : Heap} {g : Array GenState} {d : Drawn} {t : Nat} {os : OsState} {C fI cc cda e t0 : Addr} {par fld : Str}
/-- the bound ValueError.__init__ is called -/
theorem call_mw {u : Addr} {rest : List Value} {Q : Value → Shared → Prop} {nm q : Str} {N : Addr} {bs bm : List Value} {sn : List Str} {sub : List Value} {ab : Bool} {col : Option Bool} {dd : Option Addr} {k0 k1 k2 k3 k5 : Option Value}
    (hC : h.get? C = some (excClassObj nm q C N bs bm true sn sub ab col dd k0 k1 k2 k3 k5 "ValueError.__new__")) (he : h.get? e = some (PySem.HandSPX.excO C t0)) (hu : h.get? u = some (PySem.W.kxs_mw "ValueError.__init__" e)) (hz : rest.length ≤ sizeLine)
    (hq : ∀ h' t1, (∀ b o, b ≠ e → h.get? b = some o → h'.get? b = some o) → h'.get? e = some (PySem.HandSPX.excO C t1) → Q .none ⟨h', g, d, t, os⟩) : wpAny (model prog w) A (call (.ref u) rest) Q E ⟨h, g, d, t, os⟩ := by
  refine wpAny_call (codeAny_of_tree ?_)
  show wpAny _ A.in1 (callAny (.ref u) ⟨rest, []⟩) _ _ _
  simp only [callAny]
  refine wpAny_bind (wpAny_load hu ?_)
  have isMw : (Value.type "method-wrapper" == Value.type "method" || Value.type "method-wrapper" == Value.type "builtin_function_or_method" || Value.type "method-wrapper" == Value.type "method-wrapper") = true := by decide
  simp only [PySem.W.kxs_mw, isMw, if_true]
  refine PySem.W.KFB.if_so (by decide) ?_
  refine wpAny_bind (PySem.W.check_bound_init F.excBase_ValueError.toExcCallFacts hC he rfl ?_)
  refine wpAny_bind (wpAny_pure (wpAny_pure ⟨PySem.plainId_quiet F.excBase_ValueError.init.plain _, codeAny_builtin F.excBase_ValueError.initEntry ?_⟩))
  exact PySem.W.exc_init_tree (cls := .ref C) (t0 := t0) (dv := none) (c2 := .none) (c3 := .none) (b4 := .bool false) he hz fun h' k e' _ => hq h' _ k e'
/-- __init__ runs -/
theorem init_call {v : Value} (T : ExC prog K mg C fI cc cda par fld) (hroom : A.depth < recursionLimit) (X : K.In h) (hlim : h.NoLimit) (hg : h.Ns mainGlobals mg) (hb : ∃ mb, h.Ns builtinsNs mb ∧ ∀ x : Str, x ≠ "__name__" → mb x = bootBuiltins x)
    (hca : h.get? e = some (PySem.HandSPX.excO C t0)) (hne : ∀ b o, K.lookup b = some o → b ≠ e) (hng : mainGlobals ≠ e) (hnb : builtinsNs ≠ e)
    (hR : ∀ h' t' dx t1, (∀ b o, b ≠ e → h.get? b = some o → h'.get? b = some o) → h.objs.size ≤ dx → dx ≠ e → h'.get? e = some ({ cls := .ref C, dict := some dx, data := .fields #[.ref t1, .none, .none, .none, .bool false, .none] } : Obj) →
      h'.Ns1 dx (fun y => if y = fld then some v else none) → R (.ok (.ret .none)) ⟨h', g, d, t', os⟩) :
    codeAny (model prog w) A (.call (.ref fI) ⟨[.ref e, v], []⟩) R ⟨h, g, d, t, os⟩ := by
  obtain ⟨nm, q, N, bs, bm, sn, sub, ab, col, dd, k0, k1, k2, k3, k5, hC, hbm⟩ := T.cls
  obtain ⟨oc, od, qual, params, body, scope, kV, doc, pm, an, ct, osl, ccl, cdd, vs, ccs, file, tf, lk, hcd, hbody, lcd, hvs, hfile, hbind, hhead, sk, sco, sge, sce, s1, s2, s3, s4⟩ := T.fn
  obtain ⟨cl, cld, csl, lcc⟩ := T.cell
  obtain ⟨mb, hmb, hbb⟩ := hb
  have hcl : PySem.W.clsIn K C = some { name := nm, bases := bs, mro := .ref C :: bm, ns := N, qualname := q, hasDict := true, slotNames := sn, subclasses := sub, abstract := ab, collection := col, hasDel := false } := by unfold PySem.W.clsIn; rw [hC] <;> rfl
  obtain ⟨ar, har, hart⟩ : ∃ ar, (params.posonlyargs ++ params.args).head? = some ar ∧ ar.arg = "self" := by
    cases hq : (params.posonlyargs ++ params.args).head? with
    | none => rw [hq] at hhead; cases hhead
    | some ar => rw [hq] at hhead; exact ⟨ar, rfl, by simpa using hhead⟩
  refine PySem.ks_codeAny_call_defAt (fd := PySem.W.ksFn "__init__" qual params body scope .none kV doc pm an (.ref cda) ct cc) (body := body) (binds := [("self", .ref e), (par, v)]) hroom (X _ _ lk) rfl hlim (PySem.W.codeRec_of X hcd) rfl
    (.of_eq (hbind [.ref e, v] rfl)) sce (fun x hx => ?_) (fun h0 hns hk => ?_) sco sge sk
  · rcases List.mem_cons.mp hx with rfl | hx
    · exact s3
    · rcases List.mem_cons.mp hx with rfl | hx
      · exact s4
      · cases hx
  cases hbody with
  | mk p0 p1 p2 p3 p4 p5 p6 p7 p8 p9 j msg hl =>
  have X0 : K.In h0 := X.keeps hk
  have nsV : h0.Ns h.objs.size (fun x => (List.reverse [(("self" : Str), Value.ref e), (par, v)]).lookup x) := hns
  have selfV : (List.reverse [(("self" : Str), Value.ref e), (par, v)]).lookup ("self" : Str) = some (Value.ref e) := by
    have z : (("self" : Str) == par) = false := by simpa using T.parD.2
    simp [List.lookup, z]
  have parV : (List.reverse [(("self" : Str), Value.ref e), (par, v)]).lookup par = some v := by simp [List.lookup]
  have hLe : h.objs.size ≠ e := fun z => by
    have := Heap.lt_size hca
    rw [z] at this
    exact absurd this (Nat.lt_irrefl _)
  have up : ∀ b o, h.get? b = some o → h0.get? b = some o := hk
  have kC0 := X0 _ _ hC
  refine PySem.ks_wpAt_execs_cons (PySem.ks_wpAt_Expr_any (PySem.ks_wpAt_MethodCall ?_ (mc_eval hl rfl (by simp))) (by simp [interactive, callEnv, newEnv, sk]) (sw_of rfl))
  refine PySem.ks_wpAt_super_base (env := callEnv _ _ _) s1 s2 (by decide) rfl (X0 _ _ lk) rfl har rfl (X0 _ _ lcd) rfl hvs hfile T.notop ?_
  refine PySem.W.ks_loadName_global sk s1 (loadGlobal_builtin (hg.keeps up) T.nosup (hmb.keeps up) ((hbb _ (by decide)).trans (by decide +kernel)) ⟨rfl, ?_⟩)
  refine wpAny_loadName_free sk s2 rfl ⟨_, X0 _ _ lcc, rfl⟩ ?_
  rw [hart]
  refine wpAny_loadName_local sk s3 nsV selfV ?_
  refine PySem.ks_wpAny_isType_cls kC0 rfl ⟨rfl, ?_⟩
  have kE : h0.get? e = some (PySem.HandSPX.excO C t0) := up _ _ hca
  have hsubC : PySem.W.Looks (model prog w) h0 (isSubtype (.ref C) (.ref C)) true := PySem.W.looks_mroIn X0 T.mro
  refine PySem.ks_wpAny_call_super kC0 rfl kE rfl (fun c z => by cases z) hsubC (fun h1 hso k1 => ?_)
  -- getMethod of the super object
  have X1 : K.In h1 := X0.keeps k1
  have kE1 := k1 _ _ kE
  have IE1 : PySem.W.InstAt h1 e (PySem.HandSPX.excO C t0) C none := ⟨kE1, rfl, rfl, trivial⟩
  have hI : PySem.W.Looks (model prog w) h1 (isInstance (.ref e) (.type "ValueError")) true := IE1.type.andThen (PySem.W.looks_subIn X1 T.veC)
  have hmro : PySem.W.Looks (model prog w) h1 (mroOf (.ref C)) (.ref C :: bm) := fun A Q E s k q => wpAny_bind ((PySem.W.looks_clsIn X1 hcl) A _ E s k (wpAny_pure q))
  have hsup := T.sup
  unfold PySem.W.ks_superIn at hsup
  rw [hcl] at hsup
  refine PySem.W.kxs_getMethod PySem.W.kxs_ValueError hso (PySem.W.looks_opaque X1 T.cst) hmro rfl X1 hsup hI (hne C _ hC).symm (by decide) ?_
  -- the bound method is called with the text
  have hpush : ∀ b o, h1.get? b = some o → (h1.push (PySem.W.kxs_mw "ValueError.__init__" e)).get? b = some o := fun b o z => Heap.get?_push_of_some _ z
  have hmw : (h1.push (PySem.W.kxs_mw "ValueError.__init__" e)).get? h1.objs.size = some (PySem.W.kxs_mw "ValueError.__init__" e) := Heap.get?_push_at rfl rfl
  refine PySem.W.kxs_callWith (i := "ValueError.__init__") (x := e) (by rfl) (evalArgs_plain (spliced_cons (Constant_str (k := j) (pos := p3) (spliced_nil ⟨hmw, ?_⟩))))
  refine call_mw (hpush _ _ (k1 _ _ kC0)) (hpush _ _ kE1) hmw (by show 1 ≤ sizeLine; decide) fun h2 t1 k2 e2 => ?_
  -- self.fld = par
  have keep2 : ∀ b o, b ≠ e → h0.get? b = some o → h2.get? b = some o := fun b o hb z => k2 b o hb (hpush _ _ (k1 _ _ z))
  have X2 : K.In h2 := fun b o z => keep2 b o (hne b o z) (X0 b o z)
  have ns2 : h2.Ns h.objs.size (fun x => (List.reverse [(("self" : Str), Value.ref e), (par, v)]).lookup x) := nsV.at fun o z => keep2 _ o hLe z
  refine PySem.ks_wpAt_execs_cons (PySem.ks_wpAt_Assign_Attr ?_ (sw_of rfl))
  refine wpAt_of_wpAny (wpAny_Name (wpAny_loadName_local sk s4 ns2 parV ?_) T.parD.1)
  refine wpAny_Name (wpAny_loadName_local sk s3 ns2 selfV ?_) (by decide)
  refine PySem.W.set_plain X2 (ox := PySem.HandSPX.excO C t1) (od := none) ⟨e2, rfl, rfl, trivial⟩ T.sa ?_
  refine PySem.HandSPX.exc_osa X2 e2 hcl (show PySem.HandSPX.refsVE (.ref C :: bm) = true from hbm) rfl T.nof (fun h3 t3 dx k3 d3 n3 e3 hn3 => ?_)
  have hsz : h.objs.size ≤ h2.objs.size := by
    have z : ∃ o, h2.get? h.objs.size = some o := by
      obtain ⟨o, _, _, z, _⟩ := ns2
      exact ⟨o, z⟩
    obtain ⟨o, z⟩ := z
    exact Nat.le_of_lt (Heap.lt_size z)
  refine wpAt_of_wpAny (wpAny_execs_nil (hR h3 t3 dx t1 (fun b o hb z => ?_) (Nat.le_trans hsz d3) n3 e3 hn3))
  exact k3 b o hb (keep2 b o hb (up b o z))
end
end G

/-! Layer G, part 5c: raise; the suite of a clause; try. -/
namespace G
open PySem L2 PySem.Spec PyProof.Rows
def fldOf (c : Str) : Str := if c = "Undefined" then "what" else "value"
section
variable {X : Cx} {Γ : Env} {W : WX} {T : CT} {a e : E} {a' e' : Expr} {pos p p2 p3 : Pos}
/-- C(v), C's __init__ as ExC tells -/
theorem pmk_ini {x : Str} {C fI cc cda : Addr} {par fld : Str} {te : TE} (K1 : ExC X.prog X.K X.mg C fI cc cda par fld) (hdp : X.A.depth + 10 < recursionLimit) (hg : Gl X x) (hm : X.mg x = some (.ref C)) (hdb : (x == ("__debug__" : Str)) = false) (he : PE X e' te) (ne : nostar e' = true) :
    PMk X (.Call (.Name x p) [e'] [] pos) (fun σ H Q => tCons te tNil σ H fun vs H1 => ∃ v, vs = [v] ∧ ∀ dx, H1 dx = none → Q (.ref C) (some dx) (upd H1 dx (.xd [(fld, v)]))) := by
  intro pins s σ H Q I h
  obtain ⟨nm, q, N, bs, bm, sn, sub, ab, col, dd, k0, k1, k2, k3, k5, hC, hbm⟩ := K1.cls
  refine wpAny_Call_Name_kw (ld_glob I hg hm ?_ hdb)
  have ha : PA X [e'] (tCons te tNil) := pa_cons he pa_nil (star_cons ne)
  refine PySem.W.callWith_K (h₀ := X.base) I.ok.mod.kin K1.kC (thn (ha.run pos pins s σ H _ I h) fun us s1 ⟨vs, H1, I1, r1, v, ev, q1⟩ => ⟨I1.kIn, ?_⟩) (star_cons ne) (star_any rfl)
  subst ev
  obtain ⟨u, rfl, ru⟩ := vals1 r1
  show wpAny _ _ (call (.ref C) [u]) _ _ _
  have hb := I1.ok.mod.blt
  have keepG : X.base.StaysIn s1.heap := fun b o z => I1.bk b o z
  have hnsG : s1.heap.Ns mainGlobals X.mg := I1.ok.mod.glob.keeps I1.bk
  have hnsB : ∃ mb, s1.heap.Ns builtinsNs mb ∧ ∀ x : Str, x ≠ "__name__" → mb x = bootBuiltins x := let ⟨mb, h1, h2⟩ := hb; ⟨mb, h1.keeps I1.bk, h2⟩
  have hlim := I1.nolimit
  have XK := I1.kIn
  obtain ⟨hp, g, d, t, os⟩ := s1
  simp only at hnsG hnsB hlim XK
  have kk : ∀ b o, hp.get? b = some o → ((hp.push (PySem.W.kdv_tup [u])).push (PySem.HandSPX.excO C hp.objs.size)).get? b = some o := fun b o z => Heap.get?_push_of_some _ (Heap.get?_push_of_some _ z)
  have hget : ((hp.push (PySem.W.kdv_tup [u])).push (PySem.HandSPX.excO C hp.objs.size)).get? (hp.objs.size + 1) = some (PySem.HandSPX.excO C hp.objs.size) := by heap_get
  have lt : ∀ b o, hp.get? b = some o → b ≠ hp.objs.size + 1 := fun b o z => Nat.ne_of_lt (Nat.lt_succ_of_lt (Heap.lt_size z))
  have ltN : ∀ {b : Addr} {m : Str → Option Value}, hp.Ns b m → b ≠ hp.objs.size + 1 := fun {b m} ⟨o, _, _, z, _⟩ => lt b o z
  have sz : ((hp.push (PySem.W.kdv_tup [u])).push (PySem.HandSPX.excO C hp.objs.size)).objs.size = hp.objs.size + 2 := by rw [Heap.size_push, Heap.size_push]
  refine wpAny_call (PySem.HandSPX.call_own F.excBase_ValueError (fun Y => PySem.HandSPX.refsVE_contains Y bm hbm) (XK _ _ hC) (PySem.W.looks_findIn XK K1.ini) (fun self => PySem.W.bind_fn XK self K1.tyI) (by show 1 ≤ sizeLine; decide)
    (init_call K1 (by rw [make_depth]; omega) (XK.keeps kk) (hlim.keeps kk) (hnsG.keeps kk) (let ⟨mb, h1, h2⟩ := hnsB; ⟨mb, h1.keeps kk, h2⟩) hget (fun b o z => lt b o (XK b o z)) (ltN hnsG) (ltN hnsB.choose_spec.1) fun h' t' dx t1 k hdx nx hx hn => ?_))
  rw [sz] at hdx
  have hH1 : H1 dx = none := I1.hok.fresh (by show hp.objs.size ≤ dx; omega)
  obtain ⟨G, g1, g2⟩ := restrict h' fun b => decide (b ≠ hp.objs.size + 1)
  have gk : ∀ b, b ≠ hp.objs.size + 1 → G.get? b = h'.get? b := fun b hb => g1 b (decide_eq_true hb)
  have ge : G.get? (hp.objs.size + 1) = none := g2 _ (by simp)
  have J : Inv X pins σ (upd H1 dx (.xd [(fld, v)])) ⟨G, g, d, t', os⟩ := I1.laid (t' := t') (a := dx) (o := .xd [(fld, v)]) (h' := G) (fun b o z => by
      rw [gk b (lt b o z)]
      exact k b o (lt b o z) (kk b o z)) (by show hp.objs.size ≤ dx; omega) ⟨_, hn.at fun o y => (gk dx nx).trans y, relO_put (fs := []) ru fun g => True.intro⟩
  refine ⟨rfl, hp.objs.size + 1, _, _, ⟨G, g, d, t', os⟩, _, .ref C, some dx, rfl, J, fun b o z => ?_, ge, hx, ⟨rfl, rfl⟩, rfl, rfl, ?_, rfl, I1.bare, raises_own K1.exC K1.tyC, q1 dx hH1⟩
  · by_cases hb : b = hp.objs.size + 1
    · rw [hb] at z
      have z : G.get? (hp.objs.size + 1) = some o := z
      rw [ge] at z
      cases z
    · exact (gk b hb).symm.trans z
  · rw [upd_ne (Ne.symm nx)]
    exact I1.hok.fresh (by show hp.objs.size ≤ hp.objs.size + 1; omega)
theorem js_raise {c : Str} (G : GOk X Γ W T) (hc : T.cm = true) (hcs : c ∈ T.cs) (hg : Gl X c) (he : PE X e' (gE X Γ W e)) (ne : nostar e' = true) : PS X (.Raise (some (.Call (.Name c p) [e'] [] p2)) none pos) (gS X Γ W (.raise c e)) := by
  obtain ⟨C, fI, cc, cda, par, hm, hdb, K1⟩ := G.cl c hcs
  refine (ps_raise (G.calm hc) G.tk (pmk_ini K1 G.dp hg hm hdb he ne)).mono fun D σ H ⟨κ, ρ, M, rs, rm, h⟩ => ?_
  simp only [wS] at h
  refine gE.st G.mo .refl rs rm h fun v M1 κ1 vx H1 q g1 r1 m1 => ⟨vx, rfl, fun dx hdx => ?_⟩
  have g2 := g1.trans (Gr.new (o := .xd [((if c = "Undefined" then "what" else "value" : Str), vx)]) m1 hdx)
  exact q κ1 σ _ _ _ g2 (rs.grow g2.toGrow) (m1.new hdx) ⟨C, dx, vx, hm, rfl, rfl, upd_same, m1.out hdx, r1.grow (Grow.new m1 hdx)⟩
/-! ### the suite of a clause -/
theorem suite_inst {X0 : Cx} {a : Addr} {oe : Obj} {pn : List (Addr × Obj)} {C dd : Addr} {fs : List (Str × V)} {pins : List (Addr × Obj)} {σ : L2.St} {H : Hp} {s : Shared} (I : Inv (X0.suite a ((a, oe) :: pn)) pins σ H s) (hz : Zc (.ref C) (some dd) oe) (hf : ∃ vs, oe.data = .fields vs) (hd : H dd = some (.xd fs)) :
    ∃ od, PySem.W.InstAt s.heap a oe C (some od) := by
  obtain ⟨hget, _⟩ := I.pin (a, oe) (List.mem_append.mpr (.inl List.mem_cons_self))
  obtain ⟨vs, hv⟩ := hf
  obtain ⟨mA, ⟨od, es, ep, ho, _⟩, _⟩ := I.hok dd _ hd
  refine ⟨od, hget, hz.1, ?_, ?_⟩
  · unfold PySem.W.notCls
    rw [hv] <;> rfl
  · show (match oe.dict with | _ => _)
    rw [hz.2]
    exact ho
end
end G

/-! Layer G, part 5d: isinstance and fields of a caught error; try with clauses that name it. -/
namespace G
open PySem L2 PySem.Spec PyProof.Rows
section
variable {X : Cx} {Γ : Env} {W : WX} {T : CT} {a e : E} {a' e' : Expr} {pos p p2 p3 : Pos}
def clsV : Value → V
  | .type n => .ty n
  | .ref C => .ref C
  | _ => .non
theorem pe_cls {c : Str} {cv : Value} (hg : Gl X c) (h : HName X.mg c cv) : PE X (.Name c p) (tC (clsV cv)) ∧ ClsV (clsV cv) cv := by
  obtain ⟨hd, ⟨hm, C, rfl⟩ | ⟨hm, hv, hn, n, rfl⟩⟩ := h
  · exact ⟨pe_glob hg hm rfl hd, .own C⟩
  · exact ⟨pe_bltn hg hm hv rfl hn hd, .ty n⟩
/-- isinstance(e, c), e the error that the suite holds -/
theorem ok_isX (G : GOk X Γ W T) : CallR X (.builtin "isinstance") (fun vs H Q => ∃ κ M x y cv s b, vs = [x, y] ∧ Γ.cur = some s ∧ RM X.K H κ M ∧ RS X.K H κ x s ∧ ClsV y cv ∧ (∃ ad dd c f v C, s = .e ad dd c f v ∧ X.mg c = some (.ref C) ∧ (∀ l, Γ.mro c = some l → PySem.W.kitOne X.K (.ref C) cv = some b) ∧ ∃ l, Γ.mro c = some l) ∧ Q (.bl b) H) := by
  intro pins s σ H vs us Q I rv h
  obtain ⟨κ, M, x, y, cv, sv, b, rfl, hcur, m, r, hy, ⟨ad, dd, c, f, v, C, rfl, hmg, hk, l, hl⟩, q⟩ := h
  obtain ⟨X0, oe, pn, C', rfl, hz, hf, hmg', _⟩ := G.cu _ _ _ _ _ hcur
  rw [hmg] at hmg'
  cases hmg'
  have xo := G.xo c l C hl hmg
  obtain ⟨u1, u2, rfl, r1, r2⟩ := vals2 rv
  have e2 := hy.eq r2
  subst e2
  cases r with
  | e hd ho rr =>
    cases r1
    obtain ⟨od, J⟩ := suite_inst I hz hf hd
    exact PySem.W.kia_one (PySem.W.kitx_exc xo.cl xo.ga xo.gg xo.exC xo.ca xo.sp xo.tk xo.mo) I.kIn J (hk l hl) (fun z => nomatch z) fun tk => ⟨.bl b, H, I.kept (t' := tk) fun _ _ z => z, rfl, q⟩
theorem j_isX {c : Str} (G : GOk X Γ W T) (hc : c ∈ T.hs) (hg : Gl X "isinstance") (hgc : Gl X c) (ha : PE X a' (gE X Γ W a)) (na : nostar a' = true) : PE X (.Call (.Name "isinstance" p) [a', .Name c p2] [] pos) (gE X Γ W (.isX a [c])) := by
  have hmr := G.xm
  obtain ⟨cv, hcv⟩ := G.hn c hc
  obtain ⟨pc, kc⟩ := pe_cls (p := p2) hgc hcv
  refine (pe_callB (ok_isX G) hg (G.bt _ (by decide)) PyProof.Rows.boot_isinstance (pa_cons ha (pa_cons pc pa_nil (star_cons rfl)) (star_cons na)) (he := star_cons na) (hpl := star_any rfl)).mono fun σ H Q ⟨κ, ρ, M, rs, rm, h⟩ => ?_
  simp only [wE] at h
  refine gE.go G.mo .refl rs rm h fun x M1 κ1 vx H1 ⟨hcur, q⟩ g1 r1 m1 => ?_
  cases x with
  | d x => exact q.elim
  | l k => exact q.elim
  | e ad dd cl f v =>
    obtain ⟨l, hl, q⟩ := q
    obtain ⟨C, hC⟩ := hmr cl l hl
    obtain ⟨cv', hcv', _, hk⟩ := (G.xo cl l C hl hC).hs c hc
    have ecv : cv' = cv := by
      obtain ⟨_, ⟨h1, _⟩ | ⟨h1, h2, _⟩⟩ := hcv <;> obtain ⟨_, ⟨k1, _⟩ | ⟨k1, k2, _⟩⟩ := hcv'
      · rw [h1] at k1; cases k1; rfl
      · rw [h1] at k1; cases k1
      · rw [h1] at k1; cases k1
      · rw [h2] at k2; cases k2; rfl
    subst ecv
    refine ⟨κ1, M1, vx, _, cv', _, l.contains c, rfl, hcur, m1, r1, kc, ⟨ad, dd, cl, f, v, C, rfl, hC, fun l' hl' => by rw [hl] at hl'; cases hl'; exact hk, l, hl⟩, ?_⟩
    simp only [List.any_cons, List.any_nil, Bool.or_false] at q
    exact q κ1 _ H1 g1 (.d (.bl _)) m1
/-- e.value, e.what -/
theorem ok_xval {f : Str} (G : GOk X Γ W T) (hfl : f = "value" ∨ f = "what") (ha : PE X a' (gE X Γ W a)) (hab : abOk a' = true) : PE X (.Attribute a' f pos) (gE X Γ W (.xval a f)) := by
  refine ⟨fun pins s σ H Q I h => ?_⟩
  by_cases hm : ∃ ad dd c g v, Γ.cur = some (.e ad dd c g v)
  case neg =>
    obtain ⟨κ, ρ, M, rs, rm, h⟩ := h
    simp only [wE] at h
    refine attr_of (ab_of hab) (thn (ha.run pins s σ H (fun _ _ => False) I (gE.go G.mo .refl rs rm h fun x M1 κ1 vx H1 ⟨hc, q⟩ g1 r1 m1 => ?_)) fun u s1 ⟨_, _, _, _, z⟩ => z.elim)
    cases x with
    | e ad dd c g v => exact hm ⟨ad, dd, c, g, v, hc⟩
    | d x => exact q
    | l k => exact q
  case pos =>
    obtain ⟨ad, dd, c, g, v, hcur⟩ := hm
    obtain ⟨X0, oe, pn, C, rfl, hz, hf, hmg, l, hl⟩ := G.cu _ _ _ _ _ hcur
    have xo := G.xo c l C hl hmg
    have hno : PySem.W.findIn (X0.suite ad ((ad, oe) :: pn)).K (.ref C) f = some none := by
      rcases hfl with rfl | rfl
      · exact xo.nv
      · exact xo.nw
    refine (pe_xf (X := X0) ⟨xo.ga, xo.gg, xo.exC, xo.hdC⟩ hno hz hf ha (ab_of hab)).run pins s σ H Q I ?_
    obtain ⟨κ, ρ, M, rs, rm, h⟩ := h
    simp only [wE] at h
    refine gE.go G.mo .refl rs rm h fun x M1 κ1 vx H1 ⟨hc, q⟩ g1 r1 m1 => ?_
    rw [hcur] at hc
    cases hc
    unfold wXval at q
    obtain ⟨rfl, q⟩ := q
    cases r1 with
    | @e _ _ _ _ w _ hd ho rr => exact ⟨rfl, rfl, dd, [(g, w)], w, rfl, hd, by simp [List.lookup], q κ1 w H1 g1 rr m1⟩
end
/-! ### try -/
abbrev TSx := Addr → Value → Option Addr → TS
/-- the ends of a suite: the clause's name goes -/
def goneE (D : Ends) (i : Nat) : Ends := { nx := fun σ H => D.nx (σ.set i none) H, rt := D.rt, bk := fun σ H => D.bk (σ.set i none) H, ct := fun σ H => D.ct (σ.set i none) H }
/-- what the clauses wish of an error -/
def wHds (K : PySem.W.Frag) (Wout : WX) (D : Ends) : List (Value × Nat × TSx) → WX
  | [] => Wout
  | (c, i, ts) :: r => fun cls d σ H => ∃ b, PySem.W.exmOne K cls c = some b ∧ (b = true → ∀ a, H a = none → ts a cls d (goneE D i) (σ.set i (some (.ref a))) H) ∧ (b = false → wHds K Wout D r cls d σ H)
inductive Hds (X : Cx) : List ExceptHandler → List (Value × Nat × TSx) → Prop
  | nil : Hds X [] []
  | cons {x n : Str} {c : Value} {i : Nat} {ts : TSx} {st : Stmt} {sts : List Stmt} {np hp : Pos} {hds : List ExceptHandler} {l : List (Value × Nat × TSx)} (nm : Names X x c) (ix : X.N[i]? = some n) (lo : X.env.kindOf n = some .local)
      (su : ∀ (a : Addr) (oe : Obj) (cls : Value) (d : Option Addr) (pn : List (Addr × Obj)), Zc cls d oe → (∃ vs, oe.data = .fields vs) → PSs (X.suite a ((a, oe) :: pn)) (st :: sts) (ts a cls d)) (r : Hds X hds l) :
      Hds X (.ExceptHandler (some (.Name x np)) (some n) (st :: sts) hp :: hds) ((c, i, ts) :: l)
section
variable {X : Cx} {body : List Stmt} {h₀ : ExceptHandler} {hds : List ExceptHandler} {l : List (Value × Nat × TSx)} {pos : Pos} {tb : WX → TS} {Wout : WX}
/-- the end of a try's part, back in the def -/
theorem SP.back {pins : List (Addr × Obj)} {D : Ends} {f : Flow} {s : Shared} {xe : Value → Shared → Prop} (ok : X.Ok) (h : SP (X.tr (X.pn ++ pins) xe) [] D f s) : SP X pins D f s := by
  cases f with
  | ret u => exact let ⟨v, σ, H, J, r, q⟩ := h; ⟨v, σ, H, J.ofTry ok, r, q⟩
  | next => exact let ⟨σ, H, J, q⟩ := h; ⟨σ, H, J.ofTry ok, q⟩
  | brk => exact let ⟨σ, H, J, q⟩ := h; ⟨σ, H, J.ofTry ok, q⟩
  | cont => exact let ⟨σ, H, J, q⟩ := h; ⟨σ, H, J.ofTry ok, q⟩
theorem ps_tryA (stk : X.stack = X.env :: X.outer) (frm : X.env.frame = some X.env.locals) (nd : X.N.Nodup) (tk : Takes X Wout)
    (hb : ∀ (W : WX) (pn : List (Addr × Obj)) (xe : Value → Shared → Prop), Takes (X.tr pn xe) W → PassesOwn (model X.prog X.w) X.A X.env xe → PSs (X.tr pn xe) body (tb W))
    (hh : Hds X (h₀ :: hds) l) : PS X (.Try body (h₀ :: hds) [] [] pos) (fun D σ H => tb (wHds X.K Wout D l) D σ H) := by
  refine ⟨fun pins s σ H D I h => wpAny_Try_except ?_⟩
  have ok := I.ok
  have frs' : X.A.frames = some (X.env :: X.outer) := by rw [ok.frames, stk]
  have run := (hb (wHds X.K Wout D l) (X.pn ++ pins) (fun err t1 => wpAny (model X.prog X.w) X.A (noteFrame err X.env) (fun _ t2 => wpAny (model X.prog X.w) X.A (setFlight err none) (fun _ t3 =>
      wpAny (model X.prog X.w) X.A (handleBy err X.env (h₀ :: hds)) (SP X pins D) X.xe t3) X.xe t2) X.xe t1) (fun u s' xx => ?_) PassesOwn.looking).run [] s σ H D (I.toTry _) h
  · refine wpAny_mono run (fun f s1 hsp => ?_) fun e s1 z => z
    have hsp := SP.back ok hsp
    cases f with
    | next => exact wpAny_execs_nil hsp
    | _ => exact hsp
  -- an error of the body
  obtain ⟨a, B, sI, pins', σ', H', cls, d, rfl, J', nb, up, sky, na, os, ag, w⟩ := xx
  have J : Inv X pins σ' H' sI := J'.ofTry ok
  show wpAny (model X.prog X.w) X.A (noteFrame (.ref a) X.env) _ _ _
  refine Sky.land Zc.steady frs' frm (show Sky B (X.env :: X.outer) a (Zc cls d) X.env.locals s'.heap by rw [← stk]; exact sky) fun h3 fl3 up3 => ?_
  have J3 : Inv X pins σ' H' { s' with heap := h3 } := J.landed nb fl3.1 (up.trans up3) os ag
  obtain ⟨oe3, vs3, he3, hz3, hd3⟩ := fl3.there
  have nfr : a ∉ frs (X.env :: X.outer) := fun hm => by
    obtain ⟨_, o', e', hnf⟩ := fl3.2.2.1.mem hm
    rw [he3] at e'
    cases e'
    exact hnf _ hd3
  have nL : a ≠ X.env.locals := fun z => nfr (List.mem_filterMap.mpr ⟨X.env, List.mem_cons_self, by rw [frm, z]⟩)
  have nF : a ∉ X.fs := fun hm => let ⟨e, he, q⟩ := List.mem_filterMap.mp hm; nfr (List.mem_filterMap.mpr ⟨e, List.mem_cons_of_mem _ he, q⟩)
  have S3 := J3.suite he3 hd3 na nL nF
  have typ : PySem.W.Looks (model X.prog X.w) h3 (typeOf (.ref a)) cls := fun A Q E s k q => wpAny_typeOf_ref (k _ _ he3) (by rw [hz3.1]; exact q)
  have key : ∀ {hs' : List ExceptHandler} {l' : List (Value × Nat × TSx)}, Hds X hs' l' → wHds X.K Wout D l' cls d σ' H' → wpAny (model X.prog X.w) X.A (handleBy (.ref a) X.env hs') (SP X pins D) X.xe { s' with heap := h3 } := by
    intro hs' l' hk
    induction hk with
    | nil =>
      intro w
      refine wpAny_handleBy_nil ?_
      obtain ⟨_, _, _, oe, vs, Tb, _, _, he, _, hd, h1, _⟩ := id fl3
      have goes : wpAny (model X.prog X.w) X.A (setFlight (.ref a) X.env.frame) (fun _ s4 => wpAny (model X.prog X.w) X.A (throw (.ref a) : Sem Flow) (SP X pins D) X.xe s4) X.xe { s' with heap := h3 } := by
        rw [frm]
        exact HandSPX.setFlight_upZ fl3 fun h4 hh4 up4 => wpAny_throw (tk _ _ ⟨a, B, sI, pins, σ', H', cls, d, rfl, J, nb, (up.trans up3).trans up4, .inr (.inr (by rw [stk]; exact hh4)), na, os, ag, w⟩)
      have nn : (Value.ref Tb == Value.none) = false := by simp
      unfold PySem.passOn
      refine wpAny_bind (wpAny_field he hd h1 ?_)
      rw [nn]
      first
        | exact wpAny_bind (wpAny_pure (wpAny_bind goes))
        | exact wpAny_bind goes
    | @cons x n c i ts st sts np hp hds2 l2 nm ix lo su r ih =>
      intro ⟨b, hb1, yes, no⟩
      refine wpAny_handleBy_cons (codeAny_handlers_test ?_) (by intro q; cases q)
      have sees : ∀ {Q E : Value → Shared → Prop}, Q c { s' with heap := h3 } → wpAny (model X.prog X.w) (X.A.mark (some (.ref a))) (eval (.Name x np) X.env) Q E { s' with heap := h3 } := fun {Q E} q => by
        obtain ⟨hg, hdbg, hm | ⟨hm, hv, hnn⟩⟩ := nm
        · exact ld_glob (X := X.suite a ((a, oe3) :: (X.pn ++ pins))) S3 hg hm q hdbg
        · exact ld_blt (X := X.suite a ((a, oe3) :: (X.pn ++ pins))) S3 hg hm hv q hnn hdbg
      refine sees ((PySem.W.exm_one (M := model X.prog X.w) J3.kIn typ hb1).here ?_)
      cases b with
      | false => exact ih (no rfl)
      | true =>
        refine codeAny_handlers_suite_as (HandSPX.lands_againZ fl3 fun h4 fl4 up4 => ?_)
        have J4 : Inv X pins σ' H' { s' with heap := h4 } := J.landed nb fl4.1 ((up.trans up3).trans up4) os ag
        obtain ⟨oe4, vs4, he4, hz4, hd4⟩ := fl4.there
        refine store_ok (X := X.suite a ((a, oe4) :: (X.pn ++ pins))) (v := .ref a) (J4.suite he4 hd4 na nL nF) nd ix (.inl lo) rfl (fun s5 S5 => ?_) (.inr lo)
        refine wpAny_mono ((su a oe4 cls d (X.pn ++ pins) hz4 ⟨_, hd4⟩).run [] s5 _ H' _ S5 (yes rfl a na)) (fun f s6 hsp => ?_) fun _ _ z => False.elim z
        have goes : ∀ {σ6 : L2.St} {H6 : Hp} {Q : Shared → Prop}, Inv (X.suite a ((a, oe4) :: (X.pn ++ pins))) [] σ6 H6 s6 → (∀ s7, Inv X pins (σ6.set i none) H6 s7 → Q s7) →
            wpAny (model X.prog X.w) X.A (do bindName X.env n .none; unbindBehindTheSuite X.env n hp) (fun _ s7 => Q s7) X.xe s6 := fun S6 hq => gone_ok (S6.unsuite ok) nd ix lo hq
        cases f with
        | ret u => exact let ⟨v6, σ6, H6, S6, r6, q6⟩ := hsp; goes S6 fun s7 J7 => ⟨v6, _, H6, J7, r6, q6⟩
        | next => exact let ⟨σ6, H6, S6, q6⟩ := hsp; goes S6 fun s7 J7 => ⟨_, H6, J7, q6⟩
        | brk => exact let ⟨σ6, H6, S6, q6⟩ := hsp; goes S6 fun s7 J7 => ⟨_, H6, J7, q6⟩
        | cont => exact let ⟨σ6, H6, S6, q6⟩ := hsp; goes S6 fun s7 J7 => ⟨_, H6, J7, q6⟩
  exact key hh w
end
end G

/-! Layer G, part 6: try over the layer; a def by its body. -/
namespace G
open PySem L2 PySem.Spec PyProof.Rows
section
variable {X : Cx} {Γ : Env} {W : WX} {T : CT} {pos p p2 : Pos}
theorem HName.uniq {c : Str} {u v : Value} (h : HName X.mg c u) (k : HName X.mg c v) : u = v := by
  obtain ⟨_, ⟨h1, _⟩ | ⟨h1, h2, _⟩⟩ := h <;> obtain ⟨_, ⟨k1, _⟩ | ⟨k1, k2, _⟩⟩ := k
  · rw [h1] at k1; cases k1; rfl
  · rw [h1] at k1; cases k1
  · rw [h1] at k1; cases k1
  · rw [h2] at k2; cases k2; rfl
theorem HName.names {c : Str} {u : Value} (hg : Gl X c) (h : HName X.mg c u) : Names X c u := by
  obtain ⟨hd, ⟨h1, _⟩ | ⟨h1, h2, h3, _⟩⟩ := h
  · exact ⟨hg, hd, .inl h1⟩
  · exact ⟨hg, hd, .inr ⟨h1, h2, h3⟩⟩
/-- Γ in a suite -/
def Env.held (Γ : Env) (a dd : Nat) (x : Xc) : Env := { Γ with cur := some (.e a dd x.cls x.fld x.val) }
def CT.inSuite (T : CT) : CT := { T with cm := false, cs := [] }
theorem GOk.suite (G : GOk X Γ W T) {a dd C : Addr} {oe : Obj} {pn : List (Addr × Obj)} {x : Xc} (hz : Zc (.ref C) (some dd) oe) (hf : ∃ vs, oe.data = .fields vs) (hm : X.mg x.cls = some (.ref C)) (hl : ∃ l, Γ.mro x.cls = some l) : GOk (X.suite a ((a, oe) :: pn)) (Γ.held a dd x) WF T.inSuite where
  eN := G.eN
  eS := G.eS
  nd := G.nd
  calm := fun h => by cases h
  hu := G.hu
  gu := G.gu
  bt := G.bt
  fk := G.fk
  fn := fun h => by cases h
  tk := fun u s' ⟨_, _, _, _, _, _, _, _, _, _, _, _, _, _, _, _, w⟩ => w.elim
  mo := ⟨G.mo.mo⟩
  dp := G.dp
  cl := fun c hc => by cases hc
  xo := G.xo
  cu := fun a' dd' c f v h => by
    cases h
    exact ⟨X, oe, pn, C, rfl, hz, hf, hm, hl⟩
  xm := G.xm
  hn := G.hn
  cn := fun h => by cases h
/-- what a suite is to run -/
def tSu (X : Cx) (Γ : Env) (b : Ss) : TSx := fun a cls d D σ H => ∃ (x : Xc) (C dd : Addr) (κ : _root_.G.Loc) (ρ : Sto) (M : Mem), cls = .ref C ∧ d = some dd ∧ X.mg x.cls = some (.ref C) ∧ (∃ l, Γ.mro x.cls = some l) ∧ RSt X.K H κ ρ σ ∧ RM X.K H κ M ∧ wSs (Γ.held a dd x) b ρ M (PO X WF H κ D)
theorem su_of {b : Ss} {b' : List Stmt} (G : GOk X Γ W T) (Gs : GSt X) (hb : ∀ (Y : Cx) (Δ : Env), GOk Y Δ WF T.inSuite → GSt Y → PSs Y b' (gSs Y Δ WF b)) (a : Addr) (oe : Obj) (cls : Value) (d : Option Addr) (pn : List (Addr × Obj)) (hz : Zc cls d oe) (hf : ∃ vs, oe.data = .fields vs) :
    PSs (X.suite a ((a, oe) :: pn)) b' (tSu X Γ b a cls d) := by
  refine ⟨fun pins s σ H D I h => ?_⟩
  obtain ⟨x, C, dd, κ, ρ, M, rfl, rfl, hm, hl, rs, rm, h⟩ := h
  exact (hb _ _ (G.suite hz hf hm hl) ⟨fun _ _ h => h.elim, Gs.stk, Gs.frm, Gs.fnt, Gs.ex⟩).run pins s σ H D I ⟨κ, ρ, M, rs, rm, h⟩
/-- the clauses, as they are read -/
inductive HsR (X : Cx) (Γ : Env) (T : CT) : Hs → List (Value × Nat × TSx) → Prop
  | nil : HsR X Γ T .nil []
  | cons {c : Str} {cv : Value} {i : Nat} {b : Ss} {hs : Hs} {l} (hc : c ∈ T.hs) (hn : HName X.mg c cv) (r : HsR X Γ T hs l) : HsR X Γ T (.cons c i b hs) ((cv, i, tSu X Γ b) :: l)
theorem hs_read (G : GOk X Γ W T) {hs : Hs} {l : List (Value × Nat × TSx)} (r : HsR X Γ T hs l) {κ κ' : _root_.G.Loc} {H H' : Hp} {ρ : Sto} {σ : L2.St} {M : Mem} {D : Ends} {x : Xc} {cls : Value} {d : Option Addr} (g : Gr κ H κ' H') (rs : RSt X.K H' κ' ρ σ) (rm : RM X.K H' κ' M) (rx : RX X.mg X.K H' κ' cls d x)
    (h : wHs Γ hs x ρ M (PO X W H κ D)) : wHds X.K W D l cls d σ H' := by
  induction r with
  | nil =>
    simp only [wHs] at h
    exact h κ' σ cls d H' g rs rm rx
  | @cons c cv i b hs l hc hn r ih =>
    simp only [wHs] at h
    obtain ⟨m, hm, h⟩ := h
    obtain ⟨C, dd, v, hmg, rfl, rfl, hd, ho, rv⟩ := id rx
    obtain ⟨cv', hcv, hex, _⟩ := (G.xo x.cls m C hm hmg).hs c hc
    cases HName.uniq hn hcv
    refine ⟨m.contains c, hex, fun hb a ha => ?_, fun hb => ih (by rw [hb] at h; simpa using h)⟩
    rw [if_pos hb] at h
    refine ⟨x, C, dd, κ', _, M, rfl, rfl, hmg, ⟨m, hm⟩, rs.set (.e hd ho rv) i, rm, (mSs b (Γ.held a dd x) ⟨G.mo.mo⟩).go (h a dd) ⟨fun ρ1 M1 h κ1 σ1 H1 g1 rs1 m1 => ?_, fun u M1 h => (h : Post X.K H κ D.rt u M1).grow g, fun ρ1 M1 h κ1 σ1 H1 g1 rs1 m1 => ?_, fun ρ1 M1 h κ1 σ1 H1 g1 rs1 m1 => ?_, fun y ρ1 M1 z => z.elim⟩⟩
    · exact h κ1 _ H1 (g.trans g1) (rs1.unset i none) m1
    · exact h κ1 _ H1 (g.trans g1) (rs1.unset i none) m1
    · exact h κ1 _ H1 (g.trans g1) (rs1.unset i none) m1
theorem GOk.tr {W' : WX} (G : GOk X Γ W T) {pn : List (Addr × Obj)} {xe : Value → Shared → Prop} (nc : Γ.cur = none) (tk : Takes (X.tr pn xe) W') : GOk (X.tr pn xe) Γ W' T where
  eN := G.eN
  eS := G.eS
  nd := G.nd
  calm := G.calm
  hu := G.hu
  gu := G.gu
  bt := G.bt
  fk := G.fk
  fn := G.fn
  tk := tk
  mo := G.mo
  dp := G.dp
  cl := G.cl
  xo := G.xo
  cu := fun a dd c f v h => by cases (nc.symm.trans h)
  xm := G.xm
  hn := G.hn
  cn := G.cn
theorem js_try {b : Ss} {hs : Hs} {b' : List Stmt} {h₀ : ExceptHandler} {hds : List ExceptHandler} {l : List (Value × Nat × TSx)} (G : GOk X Γ W T) (Gs : GSt X) (nc : Γ.cur = none)
    (hb : ∀ (W' : WX) (pn : List (Addr × Obj)) (xe : Value → Shared → Prop), GOk (X.tr pn xe) Γ W' T → GSt (X.tr pn xe) → PSs (X.tr pn xe) b' (gSs (X.tr pn xe) Γ W' b)) (r : HsR X Γ T hs l) (hh : Hds X (h₀ :: hds) l) : PS X (.Try b' (h₀ :: hds) [] [] pos) (gS X Γ W (.tryX b hs)) := by
  refine (ps_tryA (tb := fun W' => gSs X Γ W' b) Gs.stk Gs.frm G.nd G.tk (fun W' pn xe tk po => ?_) hh).mono fun D σ H ⟨κ, ρ, M, rs, rm, h⟩ => ?_
  · exact hb W' pn xe (G.tr nc tk) ⟨po, Gs.stk, Gs.frm, Gs.fnt, Gs.ex⟩
  · simp only [wS] at h
    exact ⟨κ, ρ, M, rs, rm, (mSs b Γ G.mo).go h ⟨fun _ _ h => h, fun _ _ h => h, fun _ _ h => h, fun _ _ h => h, fun x ρ1 M1 h κ1 σ1 cls d H1 g1 rs1 m1 rx => hs_read G r g1 rs1 m1 rx h⟩⟩
end
/-! ### a def's end -/
def blw (n : Nat) : S → Prop
  | .d _ => True
  | .l k => k < n
  | .e _ _ _ _ v => blw n v
def MO.blw (n : Nat) : MO → Prop
  | .lst xs => ∀ s ∈ xs, G.blw n s
  | .dct kvs => ∀ p ∈ kvs, G.blw n p.2
/-- the value v that a def ends with at the memory M', begun at M, as the caller sees it: r at M2 -/
def Ex (M M' : Mem) (v r : S) (M2 : Mem) : Prop :=
  (r = v ∧ M2 = M') ∨
    (M2 = M'.take M.length ∧ M.length ≤ M'.length ∧ (∀ (i : Nat) (o : MO), M2[i]? = some o → M[i]? = some o ∨ o.blw M.length) ∧ ((r = v ∧ blw M.length v) ∨ ∃ k ds, M.length ≤ k ∧ v = .l k ∧ M'[k]? = some (.lst (ds.map .d)) ∧ r = .d (.list ds)))
/-- all that is new is forgotten, all that is old stands -/
theorem Ex.drop {M l : Mem} {v : S} (h : blw M.length v) : Ex M (M ++ l) v v M :=
  .inr ⟨by simp, by simp, fun i o e => .inl e, .inl ⟨rfl, h⟩⟩
/-- .. but the list that is told, which stands from now on -/
theorem Ex.frz {M l : Mem} {k : Nat} {ds : List PD} (h : l[k]? = some (.lst (ds.map .d))) : Ex M (M ++ l) (.l (M.length + k)) (.d (.list ds)) M :=
  .inr ⟨by simp, by simp, fun i o e => .inl e, .inr ⟨M.length + k, ds, by omega, rfl, by rw [List.getElem?_append_right (by omega)]; simpa using h, rfl⟩⟩
section
variable {K : PySem.W.Frag} {H : Hp} {κ κ' : _root_.G.Loc} {M M' M2 : Mem} {v : V} {s r : S}
mutual
theorem RP.shrink (e : ∀ a, κ'.out a → κ.out a) : ∀ {v : V} {d : PD}, RP K H κ' v d → RP K H κ v d
  | _, _, .non => .non
  | _, _, .bl b => .bl b
  | _, _, .int i => .int i
  | _, _, .str x => .str x
  | _, _, .lst h z r => .lst (h.imp (fun h => ⟨h.1, e _ h.2⟩) fun h => h) z (RPs.shrink e r)
  | _, _, .tup h z r => .tup ⟨h.1, e _ h.2⟩ z (RPs.shrink e r)
  | _, _, .dct h o => .dct h (e _ o)
theorem RPs.shrink (e : ∀ a, κ'.out a → κ.out a) : ∀ {vs : List V} {ds : List PD}, RPs K H κ' vs ds → RPs K H κ vs ds
  | _, _, .nil => .nil
  | _, _, .cons h t => .cons (RP.shrink e h) (RPs.shrink e t)
end
theorem RS.shrink {n : Nat} (e : ∀ a, κ'.out a → κ.out a) (hp : ∀ k, k < n → κ.at_[k]? = κ'.at_[k]?) (h : RS K H κ' v s) (b : blw n s) : RS K H κ v s := by
  induction h with
  | d h => exact .d (h.shrink e)
  | l h => exact .l (by rw [hp _ b]; exact h)
  | e hd ho r ih => exact .e hd (e _ ho) (ih b)
theorem RS.lt (h : RS K H κ v s) : blw κ.at_.length s := by
  induction h with
  | d h => trivial
  | l h => exact (List.getElem?_eq_some_iff.mp h).1
  | e hd ho r ih => exact ih
theorem RSs.lt {vs : List V} {ss : List S} (h : RSs K H κ vs ss) : ∀ s ∈ ss, blw κ.at_.length s := by
  induction h with
  | nil => intro s hs; cases hs
  | cons r t ih =>
    intro s hs
    rcases List.mem_cons.mp hs with rfl | hs
    · exact r.lt
    · exact ih s hs
theorem RSs.shrink {n : Nat} {vs : List V} {ss : List S} (e : ∀ a, κ'.out a → κ.out a) (hp : ∀ k, k < n → κ.at_[k]? = κ'.at_[k]?) (h : RSs K H κ' vs ss) (b : ∀ s ∈ ss, blw n s) : RSs K H κ vs ss := by
  induction h with
  | nil => exact .nil
  | cons r t ih => exact .cons (r.shrink e hp (b _ List.mem_cons_self)) (ih fun s hs => b s (List.mem_cons_of_mem _ hs))
theorem RO.lt {a : Addr} {o : MO} (h : RO K H κ a o) : o.blw κ.at_.length := by
  cases o with
  | lst xs =>
    obtain ⟨vs, _, _, r⟩ := h
    exact RSs.lt r
  | dct kvs =>
    have key : ∀ {α : Type} {f : α → PD} {l : List (α × V)} {kvs : List (PD × S)}, Paired (fun p q => q.1 = f p.1 ∧ RS K H κ p.2 q.2) l kvs → ∀ p ∈ kvs, blw κ.at_.length p.2 := by
      intro α f l kvs h
      induction h with
      | nil => intro p hp; cases hp
      | cons r t ih =>
        intro p hp
        rcases List.mem_cons.mp hp with rfl | hp
        · exact r.2.lt
        · exact ih p hp
    rcases h with ⟨kv, _, r⟩ | ⟨kv, _, r⟩
    · exact key r
    · exact key (f := fun (p : List Key) => PyData.tuple (p.map keyPD)) r
theorem RO.shrink {n : Nat} {a : Addr} {o : MO} (e : ∀ a, κ'.out a → κ.out a) (hp : ∀ k, k < n → κ.at_[k]? = κ'.at_[k]?) (h : RO K H κ' a o) (b : o.blw n) : RO K H κ a o := by
  cases o with
  | lst xs =>
    obtain ⟨vs, h1, h2, r⟩ := h
    exact ⟨vs, h1, h2, RSs.shrink e hp r b⟩
  | dct kvs =>
    have key : ∀ {α : Type} {f : α → PD} {l : List (α × V)} {kvs : List (PD × S)}, Paired (fun p q => q.1 = f p.1 ∧ RS K H κ' p.2 q.2) l kvs → (∀ p ∈ kvs, blw n p.2) → Paired (fun p q => q.1 = f p.1 ∧ RS K H κ p.2 q.2) l kvs := by
      intro α f l kvs h b
      induction h with
      | nil => exact .nil
      | cons r t ih => exact .cons ⟨r.1, r.2.shrink e hp (b _ List.mem_cons_self)⟩ (ih fun p hp => b p (List.mem_cons_of_mem _ hp))
    rcases h with ⟨kv, h1, r⟩ | ⟨kv, h1, r⟩
    · exact .inl ⟨kv, h1, key r b⟩
    · exact .inr ⟨kv, h1, key (f := fun (p : List Key) => PyData.tuple (p.map keyPD)) r b⟩
/-- the caller's view -/
theorem Ex.out {H0 : Hp} (h : Ex M M' s r M2) (m : RM K H0 κ M) (g : Gr κ H0 κ' H) (rv : RS K H κ' v s) (m' : RM K H κ' M') : ∃ κ2, Gr κ H0 κ2 H ∧ RS K H κ2 v r ∧ RM K H κ2 M2 ∧ ∀ a, κ'.out a → κ2.out a := by
  rcases h with ⟨rfl, rfl⟩ | ⟨rfl, hlen, hob, hr⟩
  · exact ⟨κ', g, rv, m', fun _ h => h⟩
  · obtain ⟨l, el⟩ := g.pre
    have hn : κ.at_.length = M.length := m.len
    have eo : ∀ a, κ'.out a → κ.out a := fun a h => ⟨fun z => h.1 (by rw [el]; exact List.mem_append_left _ z), fun z => h.2 (by rw [g.tmp]; exact z)⟩
    have hp : ∀ k, k < M.length → κ.at_[k]? = κ'.at_[k]? := fun k hk => by rw [el, List.getElem?_append_left (by rw [hn]; exact hk)]
    refine ⟨κ, g.forget, ?_, ?_, eo⟩
    · rcases hr with ⟨rfl, hb⟩ | ⟨k, ds, hk, rfl, hk2, rfl⟩
      · exact rv.shrink eo hp hb
      · cases rv with
        | @l a _ ha =>
          obtain ⟨vs, hH, hz, rs⟩ := m'.ob k a _ ha hk2
          refine .d (.lst (.inl ⟨.of hH, fun z => ?_, fun z => ?_⟩) hz ((RSs.toP' rs).shrink eo))
          · obtain ⟨j, hj, ej⟩ := List.mem_iff_getElem.mp z
            have h1 : κ'.at_[j]? = some a := by rw [← hp j (by rw [← hn]; exact hj), List.getElem?_eq_getElem hj, ej]
            obtain ⟨i1, q1⟩ := List.getElem?_eq_some_iff.mp ha
            obtain ⟨i2, q2⟩ := List.getElem?_eq_some_iff.mp h1
            have := (List.getElem_inj m'.nd).mp (q1.trans q2.symm)
            omega
          · exact (m'.tm a (by rw [g.tmp]; exact z)).2 (List.mem_of_getElem? ha)
    · refine ⟨by rw [List.length_take]; omega, m.nd, fun k a o e1 e2 => ?_, fun a ha => ?_⟩
      · have hk : k < M.length := by rw [← hn]; exact (List.getElem?_eq_some_iff.mp e1).1
        have e3 : M'[k]? = some o := by rwa [List.getElem?_take_of_lt hk] at e2
        have r' := m'.ob k a o (by rw [← hp k hk]; exact e1) e3
        refine r'.shrink eo hp ?_
        rcases hob k o e2 with z | z
        · have := (m.ob k a o e1 z).lt
          rw [hn] at this
          exact this
        · exact z
      · obtain ⟨h1, h2⟩ := m'.tm a (by rw [g.tmp]; exact ha)
        exact ⟨h1, fun z => h2 (by rw [el]; exact List.mem_append_left _ z)⟩
end
end G

/-! Layer G, part 6b: a def by its body. -/
namespace G
open PySem L2 PySem.Spec PyProof.Rows
def startS (N : List Str) (ss : List S) : Sto := ss.map some ++ List.replicate (N.length - ss.length) none
theorem RSt.start {K : PySem.W.Frag} {H : Hp} {κ : Loc} {N : List Str} {vs : List V} {ss : List S} (r : RSs K H κ vs ss) : RSt K H κ (startS N ss) (L2.start N vs) := by
  refine ⟨by simp [startS, L2.start, r.length], fun i s e => ?_⟩
  unfold startS at e
  unfold L2.start
  have hl := r.length
  by_cases hi : i < ss.length
  · rw [List.getElem?_append_left (by simpa using hi), List.getElem?_map] at e
    rw [List.getElem?_append_left (by rw [List.length_map, hl]; exact hi), List.getElem?_map]
    cases q : ss[i]? with
    | none => rw [q] at e; cases e
    | some t =>
      rw [q] at e
      cases e
      obtain ⟨v, hv, rv⟩ := Pd.get' r q
      exact ⟨v, by rw [hv]; rfl, rv⟩
  · rw [List.getElem?_append_right (by simpa using hi), List.getElem?_replicate] at e
    split at e <;> cases e
/-- what is known of the program, for all its defs -/
structure PF (P : Program) (K : PySem.W.Frag) (mg : Str → Option Value) (mro : Str → Option (List Str)) (cs hs : List Str) : Prop where
  bt : ∀ x ∈ bnames, mg x = none
  cl : ∀ c ∈ cs, ∃ C fI cc cda par, mg c = some (.ref C) ∧ (c == ("__debug__" : Str)) = false ∧ ExC P K mg C fI cc cda par (if c = "Undefined" then "what" else "value")
  xo : ∀ c l C, mro c = some l → mg c = some (.ref C) → XOk K mg C l hs
  xm : ∀ c l, mro c = some l → ∃ C, mg c = some (.ref C)
  hn : ∀ c ∈ hs, ∃ cv, HName mg c cv
/-- a def that may be called by its name, at k levels of room -/
def Cal (P : Program) (w : World) (K : PySem.W.Frag) (mg : Str → Option Value) (base : Heap) (k : Nat) (kws : List (Str × Nat × List Str)) (f : Str) (ps : List Str) (φ : FSpec) : Prop :=
  ∃ (a : Addr) (fd : FuncData), FnG P w K mg base k a fd ps (spOf mg K ps.length φ) ∧ mg f = some (.ref a) ∧ PySem.W.keepIn K (.ref a) = true ∧ Binds K fd ps [] ∧ (f == ("__debug__" : Str)) = false ∧ ∀ q ∈ kws, q.1 = f → KB fd ps q.2.1 q.2.2
theorem Cal.mono {P w K mg base j k kws f ps φ} (c : Cal P w K mg base j kws f ps φ) (h : j ≤ k) : Cal P w K mg base k kws f ps φ := let ⟨a, fd, F, r⟩ := c; ⟨a, fd, F.mono h, r⟩
/-- a def's ends, as its body comes to them -/
def exits (M : Mem) (Q : S → Mem → Prop) (E : Xc → Mem → Prop) : Outs where
  nx := fun _ M' => ∃ r M2, Ex M M' (.d .none) r M2 ∧ Q r M2
  rt := fun v M' => ∃ r M2, Ex M M' v r M2 ∧ Q r M2
  ex := fun x _ M' => ∃ r M2, Ex M M' x.val r M2 ∧ E { x with val := r } M2
theorem fnG_of {P : Program} {w : World} {K : PySem.W.Frag} {mg : Str → Option Value} {base : Heap} {k : Nat} {f : Addr} {name qual : Str} {params : Arguments} {body : List Stmt} {scope : Scope} {dV kV doc pm cdv ct oc : Value} {an od : Option Addr}
    {osl : Array (Option Value)} {T : CT} {Γ : Env} {ps : List Str} {φ : FSpec} {b : Ss} (lk : K.lookup f = some ⟨oc, od, .func (PySem.W.fnOf name qual params body scope dV kV doc pm an cdv ct), osl⟩) (hcd : PySem.W.codeIn K cdv qual = true) (S : FnScope T.N ps scope)
    (hS : T.sc = scope) (pf : PF P K mg Γ.mro T.cs T.hs) (mo : Γ.Mo) (nc : Γ.cur = none) (h2 : 2 ≤ k) (hcal : ∀ g ψ, Γ.Φ g = some ψ → Cal P w K mg base k T.ks g (Γ.ps g) ψ) (hfs : ∀ g ∈ T.fs, (∃ ψ, Γ.Φ g.1 = some ψ) ∧ Γ.ps g.1 = g.2)
    (hb : ∀ (X : Cx) (W : WX), GOk X Γ W T → GSt X → PSs X body (gSs X Γ W b))
    (hφ : ∀ (ss : List G.S) (M : Mem) (Q : G.S → Mem → Prop) (E : Xc → Mem → Prop), ss.length = ps.length → φ ss M Q E → wSs Γ b (startS T.N ss) M (exits M Q E)) :
    FnG P w K mg base (k + 1) f (PySem.W.fnOf name qual params body scope dV kV doc pm an cdv ct) ps (spOf mg K ps.length φ) := by
  refine ⟨fun vs H Q E ⟨κ, M, ss, hl, _⟩ => hl, fun A outer s H args us vs Q E hr gu e0 hbd r hsp => ?_⟩
  obtain ⟨κ, M, ss, hl, rm, rss, hsp⟩ := hsp
  have KX : K.In s.heap := e0.mod.kin.keeps fun b o e => (e0.bs b o e).1
  have lim : s.heap.NoLimit := e0.mod.nolimit.keeps fun b o e => (e0.bs b o e).1
  have kinds : ∀ y ∈ ps.zip us, scope.names.lookup y.1 = some .local ∨ (scope.names.lookup y.1 = some .cell ∧ ((cellsFrom (s.heap.objs.size + 1) scope.names []).lookup y.1).isSome = true) := fun ⟨n, v⟩ hy => by
    rcases S.par n (List.of_mem_zip hy).1 with q | q
    · exact .inl q
    · exact .inr ⟨q, PySem.W.cellsFrom_some _ _ _ (.inl q)⟩
  refine codeAny_call_function hr.depth (KX _ _ lk) rfl S.co S.gen rfl (PySem.W.codeRec_of KX hcd) (hbd _ _ _ _ ?_)
  refine wpAny_newFunctionEnv_cells S.kind kinds fun env he s1 x => ?_
  subst he
  refine ⟨lim.keeps x.toInCall.keep, codeAny_func ?_⟩
  have I := inv_start (CX := L2.CX P w) (E := E) (qual := qual) (f := f) (cd := cdv) S hr.hd e0 hl r x
  have hd := hr.deeper (envOfC qual scope s.heap.objs.size f cdv)
  have G0 : GOk (cxOf (L2.CX P w) P w K mg base T.N qual scope f cdv A outer s H E) Γ (fun cls d _ H' => E cls d H') T := by
    refine ⟨rfl, hS.symm, S.nd, fun _ => rfl, ?_, gu, pf.bt, hfs, fun _ g ψ hg => ?_, takes_of rfl rfl rfl rfl, mo, ?_, pf.cl, pf.xo, (fun a dd c f v h => by cases (nc.symm.trans h)), pf.xm, pf.hn, fun _ => nc⟩
    · have := hd.un
      show (A.deeper (envOfC qual scope s.heap.objs.size f cdv)).units + 100 < cLine
      omega
    · obtain ⟨a, fd, F, q⟩ := hcal g ψ hg
      exact ⟨k, a, fd, F, hd, q⟩
    · have := hd.dp
      show (A.deeper (envOfC qual scope s.heap.objs.size f cdv)).depth + 10 < recursionLimit
      omega
  have G1 : GSt (cxOf (L2.CX P w) P w K mg base T.N qual scope f cdv A outer s H E) := ⟨passes_of rfl, rfl, rfl, fun _ => rfl, rfl⟩
  have hbody := hφ ss M _ _ (by rw [← rss.length, hl]) hsp
  have fin : gSs (cxOf (L2.CX P w) P w K mg base T.N qual scope f cdv A outer s H E) Γ (fun cls d _ H' => E cls d H') b { nx := fun _ H' => Q .non H', rt := Q } (L2.start T.N vs) H := by
    refine ⟨κ, startS T.N ss, M, RSt.start rss, rm, (mSs b Γ mo).go hbody ⟨fun ρ1 M1 ⟨r, M2, ex, q⟩ κ1 σ1 H1 g1 rs1 m1 => ?_, fun v M1 ⟨r, M2, ex, q⟩ κ1 v1 H1 g1 r1 m1 => ?_, fun _ _ z => z.elim, fun _ _ z => z.elim, fun y ρ1 M1 ⟨r, M2, ex, q⟩ κ1 σ1 cls d H1 g1 rs1 m1 rx => ?_⟩⟩
    · obtain ⟨κ2, g2, r2, m2, _⟩ := ex.out rm g1 (.d .non) m1
      exact q κ2 .non H1 g2 r2 m2
    · obtain ⟨κ2, g2, r2, m2, _⟩ := ex.out rm g1 r1 m1
      exact q κ2 v1 H1 g2 r2 m2
    · obtain ⟨C, dd, v, hmg, ec, ed, hd, ho, rv⟩ := rx
      obtain ⟨κ2, g2, r2, m2, o2⟩ := ex.out rm g1 rv m1
      exact q κ2 cls d H1 g2 ⟨C, dd, v, hmg, ec, ed, hd, o2 _ ho, r2⟩ m2
  refine wpAny_mono ((hb _ _ G0 G1).run [] s1 _ H _ I fin) (fun fl s' hs => ?_) fun e s' hs => hs
  have done : ∀ {σ' : L2.St} {H' : Hp} {v : V} {u : Value}, Inv (cxOf (L2.CX P w) P w K mg base T.N qual scope f cdv A outer s H E) [] σ' H' s' → RelV v u → Q v H' → CE outer P w H s Q u s' := fun {_ H' v _} J rv q => ⟨v, H', J.os, J.bare, J.base, J.hok, rv, q⟩
  cases fl with
  | ret u => exact let ⟨_, _, _, J, rv, q⟩ := hs; done J rv q
  | next => exact let ⟨_, _, J, q⟩ := hs; done (v := V.non) (u := Value.none) J rfl q
  | brk => exact let ⟨_, _, _, q⟩ := hs; q.elim
  | cont => exact let ⟨_, _, _, q⟩ := hs; q.elim
end G

/-! Layer G, part 7: a look at the text: is it what the syntax tells? -/
namespace G
open PySem L2 PySem.Spec PyProof.Rows

def visB (sc : Scope) (x : Str) : Bool := match sc.names.lookup x with
  | some .local => true
  | some .cell => true
  | some .free => true
  | _ => false
def locB (sc : Scope) (x : Str) : Bool := match sc.names.lookup x with
  | some .local => true
  | some .cell => true
  | _ => false
def lclB (sc : Scope) (x : Str) : Bool := match sc.names.lookup x with
  | some .local => true
  | _ => false
def glB (sc : Scope) (x : Str) : Bool := match sc.names.lookup x with
  | some .globalImplicit => true
  | _ => false
theorem visB_ok {sc : Scope} {x : Str} (h : visB sc x = true) : Vis sc x := by
  unfold visB at h
  split at h
  · rename_i e; exact .inl e
  · rename_i e; exact .inr (.inl e)
  · rename_i e; exact .inr (.inr e)
  · cases h
theorem locB_ok {sc : Scope} {x : Str} (h : locB sc x = true) : L2.Loc sc x := by
  unfold locB at h
  split at h
  · rename_i e; exact .inl e
  · rename_i e; exact .inr e
  · cases h
theorem lclB_ok {sc : Scope} {x : Str} (h : lclB sc x = true) : sc.names.lookup x = some .local := by
  unfold lclB at h
  split at h
  · assumption
  · cases h
theorem glB_ok {X : Cx} {sc : Scope} {x : Str} (e : X.env.scope = sc) (h : glB sc x = true) : Gl X x := by
  unfold glB at h
  split at h
  · rename_i q
    show X.env.scope.names.lookup x = _
    rw [e]
    exact q
  · cases h
def strB (a b : Str) : Bool := a == b
def constB : PD → Expr → Bool
  | .int i, .Constant (.int j) _ _ => decide (i = j)
  | .bool i, .Constant (.bool j) _ _ => decide (i = j)
  | .none, .Constant .none _ _ => true
  | .str i, .Constant (.str j) _ _ => decide (i = j)
  | .dict [], .Dict [] [] _ => true
  | _, _ => false
def isBO : Expr → Bool
  | .BoolOp .. => true
  | _ => false
def CT.blk (T : CT) (scope : Scope) : CT := { T with sc := relS scope T.sc }
def fnB (T : CT) (f : Str) (n : Nat) : Bool := T.fs.any fun p => decide (p.1 = f) && decide (p.2.length = n)
def fnKB (T : CT) (f : Str) (n : Nat) (ks : List Str) : Bool := T.fs.any fun p => decide (p.1 = f) && kwsOk p.2 n ks
def tyOneB (n : Str) (ts : List String) : Bool := match ts with
  | [t] => decide (n = Str.ofString t) && decide (t ∈ six)
  | _ => false
def celB (scope : Scope) (x : Str) : Bool := scope.names.lookup x == some .cell
def allB (_ : Str) : Bool := true
mutual
def kTg : Tg → CT → (Str → Bool) → Expr → Bool
  | .nm i, T, blk, .Name x _ => decide (T.N[i]? = some x) && (locB T.sc x && (blk x || lclB T.sc x))
  | .tp ts, T, blk, .Tuple es _ _ => T.cm && (es.all nostar && kTgs ts T blk es)
  | _, _, _, _ => false
def kTgs : List Tg → CT → (Str → Bool) → List Expr → Bool
  | [], _, _, [] => true
  | t :: ts, T, blk, e :: es => kTg t T blk e && kTgs ts T blk es
  | _, _, _, _ => false
end
def ownOf (T : CT) (t : Tg) : List (Str × Nat) := (tgSlots t).map fun i => ((T.N[i]?).getD "", i)
def isTupE : Expr → Bool
  | .Tuple .. => true
  | _ => false
def notIf : Expr → Bool
  | .IfExp .. => false
  | _ => true
mutual
def kE : E → CT → Expr → Bool
  | .var i, T, .Name x _ => decide (T.N[i]? = some x) && (visB T.sc x && (!(x == ("__debug__" : Str)) && !(x == ("__classdict__" : Str))))
  | .cst c, _, e => constB c e
  | .neg a, T, .UnaryOp .USub e _ => kE a T e
  | .not a, T, .UnaryOp .Not e _ => notIf e && kE a T e
  | .and a b, T, .BoolOp .And (x :: y :: r) pos => notIf x && (kE a T x && (match r with
    | [] => notIf y && kE b T y
    | z :: r => isBO (.BoolOp .And (y :: z :: r) pos) && kE b T (.BoolOp .And (y :: z :: r) pos)))
  | .or a b, T, .BoolOp .Or (x :: y :: r) pos => notIf x && (kE a T x && (match r with
    | [] => notIf y && kE b T y
    | z :: r => isBO (.BoolOp .Or (y :: z :: r) pos) && kE b T (.BoolOp .Or (y :: z :: r) pos)))
  | .ite c a b, T, .IfExp x y z _ => notIf x && kE c T x && (kE a T y && kE b T z)
  | .bin o a b, T, .BinOp x p y _ => decide (o = p) && (kE a T x && kE b T y)
  | .cmp o a b, T, .Compare x [p] [y] _ => decide (o = p) && (!behindInMarks o y && (kE a T x && kE b T y))
  | .chain o o' a b c, T, .Compare x [p, p'] [y, z] _ => decide (o = p) && (decide (o' = p') && (!lastMarks [o, o'] [y, z] && (kE a T x && (kE b T y && kE c T z))))
  | .tup es, T, .Tuple xs _ _ => xs.all nostar && kEs es T xs
  | .fr f, T, e => kF f T e
  | .al f, T, e => kF f T e
  | .ix a b, T, .Subscript x y _ => notSlice y && (kE a T x && kE b T y)
  | .sl a lo hi, T, .Subscript x (.Slice l h none _) _ => kE a T x && (kO lo T l && kO hi T h)
  | .call f es, T, .Call (.Name g _) (x :: xs) [] _ => decide (f = g) && (T.cm && (fnB T f es.len && (glB T.sc f && ((x :: xs).all nostar && kEs es T (x :: xs)))))
  | .callK f es ns ks, T, .Call (.Name g _) xs kws _ => decide (f = g) && (T.cm && (fnKB T f es.len ns && (decide ((f, es.len, ns) ∈ T.ks) && (decide (ks.len = ns.length) && (decide (kwNames kws = ns.map some) && (glB T.sc f && (xs.all nostar && ((xs.isEmpty == (es.len == 0)) && (kEs es T xs && kKs ks T kws)))))))))
  | .b1 f a, T, .Call (.Name n _) [x] [] _ => decide (b1N f = some n) && ((!b1C f || T.cm) && (glB T.sc n && (nostar x && kE a T x)))
  | .b2 f a b, T, .Call (.Name n _) [x, y] [] _ => (match f with | .max => decide (n = "max") | .min => decide (n = "min") | _ => false) && (T.cm && (glB T.sc n && (nostar x && (nostar y && (kE a T x && kE b T y)))))
  | .isI a ts, T, .Call (.Name n _) [x, y] [] _ => decide (n = "isinstance") && (glB T.sc "isinstance" && (nostar x && (kE a T x && (match y with
    | .Name m _ => tyOneB m ts && glB T.sc m
    | .Tuple es _ _ => tyNames es ts && (decide (ts.length < 1000) && (decide (ts ≠ []) && six.all fun t => glB T.sc (Str.ofString t)))
    | _ => false))))
  | .isX a cs, T, .Call (.Name n _) [x, .Name c _] [] _ => decide (n = "isinstance") && (glB T.sc "isinstance" && (nostar x && (decide (cs = [c]) && (decide (c ∈ T.hs) && (glB T.sc c && kE a T x)))))
  | .xval a f, T, .Attribute x g _ => decide (f = g) && ((decide (f = "value") || decide (f = "what")) && (abOk x && kE a T x))
  | .pop a, T, .Call (.Attribute x m p) [] [] q => decide (m = "pop") && ((p.endLine == q.line) && (abOk x && kE a T x))
  | .popAt a b, T, .Call (.Attribute x m p) [y] [] q => decide (m = "pop") && ((p.endLine == q.line) && (abOk x && (nostar y && (kE a T x && kE b T y))))
  | _, _, _ => false
def kEs : Es → CT → List Expr → Bool
  | .nil, _, [] => true
  | .cons e es, T, x :: xs => kE e T x && kEs es T xs
  | _, _, _ => false
def kKs : Es → CT → List Keyword → Bool
  | .nil, _, [] => true
  | .cons e es, T, ⟨_, x, _⟩ :: xs => kE e T x && kKs es T xs
  | _, _, _ => false
def kO : Oe → CT → Option Expr → Bool
  | .none, _, none => true
  | .some e, T, some x => kE e T x
  | _, _, _ => false
def kC : Oe → CT → List Expr → Bool
  | .none, _, [] => true
  | .some e, T, [x] => notIf x && kE e T x
  | _, _, _ => false
def kF : F → CT → Expr → Bool
  | .disp es, T, .List xs _ => xs.all nostar && kEs es T xs
  | .cat a b, T, .BinOp x .Add y _ => kE a T x && kE b T y
  | .rep a b, T, .BinOp x .Mult y _ => kE a T x && kE b T y
  | .slice a lo hi, T, .Subscript x (.Slice l h none _) _ => kE a T x && (kO lo T l && kO hi T h)
  | .listOf a, T, .Call (.Name n _) [x] [] _ => decide (n = "list") && (glB T.sc "list" && (nostar x && kE a T x))
  | .comp e t it c, T, .ListComp elt [⟨tg, iter, ifs, 0⟩] scope _ => T.cm && (blkC T.N T.sc scope (ownOf T t) && (notSet iter && (kI it T tg iter && (kTg t (T.blk scope) (celB scope) tg && (kC c (T.blk scope) ifs && kE e (T.blk scope) elt)))))
  | _, _, _ => false
def kI : It → CT → Expr → Expr → Bool
  | .of e, T, _, x => kE e T x
  | .rng es, T, _, .Call (.Name n _) xs [] _ => decide (n = "range") && (glB T.sc "range" && (xs.all nostar && (decide (xs.length = es.len) && (decide (1 ≤ xs.length) && (decide (xs.length ≤ 3) && kEs es T xs)))))
  | .enum e, T, tg, .Call (.Name n _) [x] [] _ => decide (n = "enumerate") && (isTupE tg && (glB T.sc "enumerate" && (nostar x && kE e T x)))
  | .zip a b, T, tg, .Call (.Name n _) [x, y] [] _ => decide (n = "zip") && (isTupE tg && (glB T.sc "zip" && (nostar x && (nostar y && (kE a T x && kE b T y)))))
  | .rev e, T, _, .Call (.Name n _) [x] [] _ => decide (n = "reversed") && (glB T.sc "reversed" && (nostar x && kE e T x))
  | _, _, _, _ => false
end
end G

/-! Layer G, part 7b: what passes the look is run as the syntax tells. -/
namespace G
open PySem L2 PySem.Spec PyProof.Rows
structure Snd (X : Cx) (Γ : Env) (W : WX) (e : E) (x : Expr) : Prop where
  pe : PE X x (gE X Γ W e)
  pt : notIf x = true → PT X x (gT X Γ W e)
  pw : isBO x = true → PW X x (gT X Γ W e)
def isLog : E → Bool
  | .not _ => true
  | .and _ _ => true
  | .or _ _ => true
  | _ => false
theorem wT_val {Γ : Env} {e : E} (h : isLog e = false) : ∀ ρ M Q E, wT Γ e ρ M Q E = wE Γ e ρ M (fun x M1 => ∃ k, truth M1 x = some k ∧ Q k M1) E := by
  intro ρ M Q E
  cases e <;> first | (simp only [wT]; done) | cases h
theorem Snd.val {X : Cx} {Γ : Env} {W : WX} {T : CT} {e : E} {x : Expr} (G : GOk X Γ W T) (h : PE X x (gE X Γ W e)) (hl : isLog e = false) (hp : plainT x = true) (hb : isBO x = false) : Snd X Γ W e x :=
  ⟨h, fun _ => tt_val G h (plain_of hp) (wT_val hl), fun z => by rw [hb] at z; cases z⟩
theorem kTg_blk {T : CT} {X : Cx} {x : Str} (hS : X.env.scope = T.sc) {blk : Str → Bool} (h : locB T.sc x = true ∧ (blk x || lclB T.sc x) = true) (hf : ∀ x, blk x = true → X.fn x = true) : L2.Loc X.env.scope x ∧ (X.fn x = true ∨ X.env.scope.names.lookup x = some .local) := by
  rw [hS]
  refine ⟨locB_ok h.1, ?_⟩
  rcases Bool.or_eq_true_iff.mp h.2 with z | z
  · exact .inl (hf x z)
  · exact .inr (lclB_ok z)
mutual
theorem sTg : ∀ (t : Tg) (T : CT) (blk : Str → Bool) (e : Expr), kTg t T blk e = true → ∀ {X : Cx} {Γ : Env} {W : WX}, GOk X Γ W T → (∀ x, blk x = true → X.fn x = true) → PG X e (gTg X t)
  | .nm i, T, blk, e, h => by
    rename_i X Γ W
    intro G hf
    unfold kTg at h
    split at h <;> first | contradiction | skip
    rename_i i' n pos heq
    cases heq
    simp only [Bool.and_eq_true, decide_eq_true_eq] at h
    obtain ⟨h1, h2⟩ := h
    have := kTg_blk G.eS h2 hf
    exact jt_nm G.nd (by rw [G.eN]; exact h1) this.1 this.2
  | .tp ts, T, blk, e, h => by
    rename_i X Γ W
    intro G hf
    unfold kTg at h
    split at h <;> first | contradiction | skip
    rename_i ts' es k pos heq
    cases heq
    simp only [Bool.and_eq_true] at h
    obtain ⟨h1, h2, h3⟩ := h
    obtain ⟨p, l⟩ := sTgs ts _ _ es h3 G hf h2
    exact jt_tp (G.calm h1) p h2 l
theorem sTgs : ∀ (ts : List Tg) (T : CT) (blk : Str → Bool) (es : List Expr), kTgs ts T blk es = true → ∀ {X : Cx} {Γ : Env} {W : WX}, GOk X Γ W T → (∀ x, blk x = true → X.fn x = true) → es.all nostar = true → PGs X es (gTgs X ts) ∧ es.length = ts.length
  | [], T, blk, [], h => fun G hf ns => ⟨jts_nil, rfl⟩
  | [], T, blk, _ :: _, h => by simp [kTgs] at h
  | t :: ts, T, blk, [], h => by simp [kTgs] at h
  | t :: ts, T, blk, e :: es, h => by
    rename_i X Γ W
    intro G hf ns
    simp only [kTgs, Bool.and_eq_true] at h
    rw [List.all_cons, Bool.and_eq_true] at ns
    obtain ⟨p, l⟩ := sTgs ts T blk es h.2 G hf ns.2
    exact ⟨jts_cons (sTg t T blk e h.1 G hf) p ns.1 ns.2, by rw [List.length_cons, List.length_cons, l]⟩
end
theorem fnB_ok {T : CT} {f : Str} {n : Nat} (h : fnB T f n = true) : ∃ ps, (f, ps) ∈ T.fs ∧ n = ps.length := by
  unfold fnB at h
  obtain ⟨p, hp, h⟩ := List.any_eq_true.mp h
  simp only [Bool.and_eq_true, decide_eq_true_eq] at h
  exact ⟨p.2, by rw [← h.1]; exact hp, h.2.symm⟩
theorem fnKB_ok {T : CT} {f : Str} {n : Nat} {ks : List Str} (h : fnKB T f n ks = true) : ∃ ps, (f, ps) ∈ T.fs ∧ kwsOk ps n ks = true := by
  unfold fnKB at h
  obtain ⟨p, hp, h⟩ := List.any_eq_true.mp h
  simp only [Bool.and_eq_true, decide_eq_true_eq] at h
  exact ⟨p.2, by rw [← h.1]; exact hp, h.2⟩
theorem own_map (T : CT) (t : Tg) : (ownOf T t).map (·.2) = tgSlots t := by
  unfold ownOf
  rw [List.map_map]
  induction tgSlots t with
  | nil => rfl
  | cons i l ih => rw [List.map_cons, ih]; rfl
theorem isTup_ok {e : Expr} (h : isTupE e = true) : ∃ es k p, e = .Tuple es k p := by
  cases e <;> first | exact ⟨_, _, _, rfl⟩ | cases h
theorem bool_not {b : Bool} (h : (!b) = true) : b = false := by cases b <;> simp_all
mutual
theorem sE : ∀ (e : E) (T : CT) (x : Expr), kE e T x = true → ∀ {X : Cx} {Γ : Env} {W : WX}, GOk X Γ W T → Snd X Γ W e x
  | .var i, T, x, h => by
    rename_i X Γ W
    intro G
    unfold kE at h
    split at h <;> first | contradiction | skip
    rename_i i' n pos heq
    cases heq
    simp only [Bool.and_eq_true, decide_eq_true_eq] at h
    obtain ⟨h1, h2, h3, h4⟩ := h
    exact .val G (j_var (by rw [G.eN]; exact h1) (by rw [G.eS]; exact visB_ok h2) (bool_not h3) (bool_not h4)) rfl rfl rfl
  | .cst c, T, x, h => by
    rename_i X Γ W
    intro G
    unfold kE at h
    unfold constB at h
    split at h <;> first | contradiction | skip
    · cases of_decide_eq_true h; exact .val G j_cst_int rfl rfl rfl
    · cases of_decide_eq_true h; exact .val G j_cst_bool rfl rfl rfl
    · exact .val G j_cst_none rfl rfl rfl
    · cases of_decide_eq_true h; exact .val G j_cst_str rfl rfl rfl
    · exact .val G j_cst_dict rfl rfl rfl
  | .neg a, T, x, h => by
    rename_i X Γ W
    intro G
    unfold kE at h
    split at h <;> first | contradiction | skip
    rename_i a' e pos heq
    cases heq
    exact .val G (j_neg G (sE a _ e h G).pe) rfl rfl rfl
  | .not a, T, x, h => by
    rename_i X Γ W
    intro G
    unfold kE at h
    split at h <;> first | contradiction | skip
    rename_i a' e pos heq
    cases heq
    rw [Bool.and_eq_true] at h
    have s := sE a _ e h.2 G
    exact ⟨j_not G s.pe, fun _ => tt_not G (s.pt h.1), (fun q => by cases q)⟩
  | .and a b, T, x, h => by
    rename_i X Γ W
    intro G
    unfold kE at h
    split at h <;> first | contradiction | skip
    rename_i a' b' x y r pos heq
    cases heq
    simp only [Bool.and_eq_true] at h
    obtain ⟨h0, h1, h2⟩ := h
    have sa := sE a _ x h1 G
    cases r with
    | nil =>
      simp only [Bool.and_eq_true] at h2
      have sb := sE b _ y h2.2 G
      have w := w_and (pos := pos) G (sa.pt h0) (pw_and1 (sb.pt h2.1))
      exact ⟨j_and G sa.pe (pe_one sb.pe), fun _ => w.pt, fun _ => w⟩
    | cons z r =>
      simp only [Bool.and_eq_true] at h2
      have sb := sE b _ _ h2.2 G
      have w := w_and (pos := pos) G (sa.pt h0) (sb.pw h2.1)
      exact ⟨j_and G sa.pe sb.pe, fun _ => w.pt, fun _ => w⟩
  | .or a b, T, x, h => by
    rename_i X Γ W
    intro G
    unfold kE at h
    split at h <;> first | contradiction | skip
    rename_i a' b' x y r pos heq
    cases heq
    simp only [Bool.and_eq_true] at h
    obtain ⟨h0, h1, h2⟩ := h
    have sa := sE a _ x h1 G
    cases r with
    | nil =>
      simp only [Bool.and_eq_true] at h2
      have sb := sE b _ y h2.2 G
      have w := w_or (pos := pos) G (sa.pt h0) (pw_or1 (sb.pt h2.1))
      exact ⟨j_or G sa.pe (pe_one sb.pe), fun _ => w.pt, fun _ => w⟩
    | cons z r =>
      simp only [Bool.and_eq_true] at h2
      have sb := sE b _ _ h2.2 G
      have w := w_or (pos := pos) G (sa.pt h0) (sb.pw h2.1)
      exact ⟨j_or G sa.pe sb.pe, fun _ => w.pt, fun _ => w⟩
  | .ite c a b, T, x, h => by
    rename_i X Γ W
    intro G
    unfold kE at h
    split at h <;> first | contradiction | skip
    rename_i c' a' b' x y z pos heq
    cases heq
    simp only [Bool.and_eq_true] at h
    obtain ⟨⟨h0, h1⟩, h2, h3⟩ := h
    exact ⟨j_ite G ((sE c _ x h1 G).pt h0) (sE a _ y h2 G).pe (sE b _ z h3 G).pe, (fun q => by cases q), (fun q => by cases q)⟩
  | .bin o a b, T, x, h => by
    rename_i X Γ W
    intro G
    unfold kE at h
    split at h <;> first | contradiction | skip
    rename_i o' a' b' x q y pos heq
    cases heq
    simp only [Bool.and_eq_true, decide_eq_true_eq] at h
    obtain ⟨rfl, h1, h2⟩ := h
    exact .val G (j_bin G o (sE a _ x h1 G).pe (sE b _ y h2 G).pe) rfl rfl rfl
  | .cmp o a b, T, x, h => by
    rename_i X Γ W
    intro G
    unfold kE at h
    split at h <;> first | contradiction | skip
    rename_i o' a' b' x q y pos heq
    cases heq
    simp only [Bool.and_eq_true, decide_eq_true_eq] at h
    obtain ⟨rfl, h0, h1, h2⟩ := h
    have sa := (sE a _ x h1 G).pe
    have sb := (sE b _ y h2 G).pe
    exact ⟨j_cmp G o sa sb (bool_not h0), fun _ => tt_cmp G o sa sb (bool_not h0), (fun q => by cases q)⟩
  | .chain o o' a b c, T, x, h => by
    rename_i X Γ W
    intro G
    unfold kE at h
    split at h <;> first | contradiction | skip
    rename_i o1 o2 a' b' c' x q q' y z pos heq
    cases heq
    simp only [Bool.and_eq_true, decide_eq_true_eq] at h
    obtain ⟨rfl, rfl, h0, h1, h2, h3⟩ := h
    have sa := (sE a _ x h1 G).pe
    have sb := (sE b _ y h2 G).pe
    have sc := (sE c _ z h3 G).pe
    exact ⟨j_chain G o o' sa sb sc (bool_not h0), fun _ => tt_chain G o o' sa sb sc (bool_not h0), (fun q => by cases q)⟩
  | .tup es, T, x, h => by
    rename_i X Γ W
    intro G
    unfold kE at h
    split at h <;> first | contradiction | skip
    rename_i es' xs k pos heq
    cases heq
    simp only [Bool.and_eq_true] at h
    exact .val G (j_tup G (sEs es _ xs h.2 h.1 G)) rfl rfl rfl
  | .fr f, T, x, h => by
    rename_i X Γ W
    intro G
    unfold kE at h
    obtain ⟨h1, h2, h3⟩ := sF f _ x h G
    exact .val G (j_fr G h1) rfl h2 h3
  | .al f, T, x, h => by
    rename_i X Γ W
    intro G
    unfold kE at h
    obtain ⟨h1, h2, h3⟩ := sF f _ x h G
    exact .val G (j_al G h1) rfl h2 h3
  | .ix a b, T, x, h => by
    rename_i X Γ W
    intro G
    unfold kE at h
    split at h <;> first | contradiction | skip
    rename_i a' b' x y pos heq
    cases heq
    simp only [Bool.and_eq_true] at h
    obtain ⟨h0, h1, h2⟩ := h
    exact .val G (j_ix G (sE a _ x h1 G).pe (sE b _ y h2 G).pe (plainIx_of h0)) rfl rfl rfl
  | .sl a lo hi, T, x, h => by
    rename_i X Γ W
    intro G
    unfold kE at h
    split at h <;> first | contradiction | skip
    rename_i a' lo' hi' x l r p2 pos heq
    cases heq
    simp only [Bool.and_eq_true] at h
    obtain ⟨h0, h1, h2⟩ := h
    exact .val G (j_sl G (sE a _ x h0 G).pe (sO lo _ l h1 G) (sO hi _ r h2 G)) rfl rfl rfl
  | .call f es, T, x, h => by
    rename_i X Γ W
    intro G
    unfold kE at h
    split at h <;> first | contradiction | skip
    rename_i f' es' g p x xs pos heq
    cases heq
    simp only [Bool.and_eq_true, decide_eq_true_eq] at h
    obtain ⟨rfl, h1, h2, h3, h4, h5⟩ := h
    obtain ⟨ps, hf, hl⟩ := fnB_ok h2
    exact .val G (j_call G h1 hf hl (glB_ok G.eS h3) (sEs es _ (x :: xs) h5 (by simpa using h4) G) (by simpa using h4)) rfl rfl rfl
  | .callK f es ns ks, T, x, h => by
    rename_i X Γ W
    intro G
    unfold kE at h
    split at h <;> first | contradiction | skip
    rename_i f' es' ns' ks' g p xs kws pos heq
    cases heq
    simp only [Bool.and_eq_true, decide_eq_true_eq] at h
    obtain ⟨rfl, h1, h2, h3, h4, h5, h6, h7, h8, h9, h10⟩ := h
    obtain ⟨ps, hf, hok⟩ := fnKB_ok h2
    refine .val G (j_callK G h1 hf h3 hok h4 h5 (glB_ok G.eS h6) (sEs es _ xs h9 h7 G) (sKs ks _ kws h10 G) h7 fun e => ?_) rfl rfl rfl
    subst e
    cases es with
    | nil => rfl
    | cons e es => simp [Es.len] at h8
  | .b1 f a, T, x, h => by
    rename_i X Γ W
    intro G
    unfold kE at h
    split at h <;> first | contradiction | skip
    rename_i f' a' n p x pos heq
    cases heq
    simp only [Bool.and_eq_true, decide_eq_true_eq, Bool.or_eq_true] at h
    obtain ⟨h1, h2, h3, h4, h5⟩ := h
    exact .val G (j_b1 G f h1 (fun z => h2.elim (fun y => by rw [z] at y; cases y) id) (glB_ok G.eS h3) (sE a _ x h5 G).pe h4) rfl rfl rfl
  | .b2 f a b, T, x, h => by
    rename_i X Γ W
    intro G
    unfold kE at h
    split at h <;> first | contradiction | skip
    rename_i f' a' b' n p x y pos heq
    cases heq
    simp only [Bool.and_eq_true] at h
    obtain ⟨h1, h2, h3, h4, h5, h6, h7⟩ := h
    refine .val G (j_b2 G h2 f ?_ (glB_ok G.eS h3) (sE a _ x h6 G).pe (sE b _ y h7 G).pe h4 h5) rfl rfl rfl
    cases f with
    | max => exact .inl ⟨rfl, by simpa using h1⟩
    | min => exact .inr ⟨rfl, by simpa using h1⟩
    | gcd => cases h1
  | .isI a ts, T, x, h => by
    rename_i X Γ W
    intro G
    unfold kE at h
    split at h <;> first | contradiction | skip
    rename_i a' ts' n p x y pos heq
    cases heq
    simp only [Bool.and_eq_true, decide_eq_true_eq] at h
    obtain ⟨rfl, h1, h2, h3, h4⟩ := h
    have sa := (sE a _ x h3 G).pe
    split at h4
    · rename_i m p2
      simp only [Bool.and_eq_true] at h4
      obtain ⟨h5, h6⟩ := h4
      unfold tyOneB at h5
      split at h5 <;> first | contradiction | skip
      simp only [Bool.and_eq_true, decide_eq_true_eq] at h5
      obtain ⟨rfl, h5⟩ := h5
      exact .val G (j_isi G h5 (glB_ok G.eS h1) (glB_ok G.eS h6) sa h2) rfl rfl rfl
    · simp only [Bool.and_eq_true, decide_eq_true_eq] at h4
      obtain ⟨h5, h6, h7, h8⟩ := h4
      exact .val G (j_isiT G h5 h6 h7 (fun t ht => glB_ok G.eS (List.all_eq_true.mp h8 t ht)) (glB_ok G.eS h1) sa h2) rfl rfl rfl
    · cases h4
  | .isX a cs, T, x, h => by
    rename_i X Γ W
    intro G
    unfold kE at h
    split at h <;> first | contradiction | skip
    rename_i a' cs' n p x c p2 pos heq
    cases heq
    simp only [Bool.and_eq_true, decide_eq_true_eq] at h
    obtain ⟨rfl, h1, h2, rfl, h4, h5, h6⟩ := h
    exact .val G (j_isX G h4 (glB_ok G.eS h1) (glB_ok G.eS h5) (sE a _ x h6 G).pe h2) rfl rfl rfl
  | .xval a f, T, x, h => by
    rename_i X Γ W
    intro G
    unfold kE at h
    split at h <;> first | contradiction | skip
    rename_i a' f' x g pos heq
    cases heq
    simp only [Bool.and_eq_true, decide_eq_true_eq, Bool.or_eq_true] at h
    obtain ⟨rfl, h1, h2, h3⟩ := h
    exact .val G (ok_xval G h1 (sE a _ x h3 G).pe h2) rfl rfl rfl
  | .pop a, T, x, h => by
    rename_i X Γ W
    intro G
    unfold kE at h
    split at h <;> first | contradiction | skip
    rename_i a' x m p q heq
    cases heq
    simp only [Bool.and_eq_true, decide_eq_true_eq] at h
    obtain ⟨rfl, h1, h2, h3⟩ := h
    exact .val G (j_pop G (sE a _ x h3 G).pe h2 h1) rfl rfl rfl
  | .popAt a b, T, x, h => by
    rename_i X Γ W
    intro G
    unfold kE at h
    split at h <;> first | contradiction | skip
    rename_i a' b' x m p y q heq
    cases heq
    simp only [Bool.and_eq_true, decide_eq_true_eq] at h
    obtain ⟨rfl, h1, h2, h3, h4, h5⟩ := h
    exact .val G (j_popAt G (sE a _ x h4 G).pe (sE b _ y h5 G).pe h2 h1 h3) rfl rfl rfl
  | .ddisp ks es, T, x, h => by
    unfold kE at h
    cases h
  | .rev a, T, x, h => by
    unfold kE at h
    cases h
  | .get d k a, T, x, h => by
    unfold kE at h
    cases h
  | .index a b, T, x, h => by
    unfold kE at h
    cases h
theorem sEs : ∀ (es : Es) (T : CT) (xs : List Expr), kEs es T xs = true → xs.all nostar = true → ∀ {X : Cx} {Γ : Env} {W : WX}, GOk X Γ W T → PA X xs (gA X Γ W es)
  | .nil, T, [], h, ns => fun G => ja_nil
  | .nil, T, _ :: _, h, ns => by simp [kEs] at h
  | .cons e es, T, [], h, ns => by simp [kEs] at h
  | .cons e es, T, x :: xs, h, ns => by
    rename_i X Γ W
    intro G
    simp only [kEs, Bool.and_eq_true] at h
    rw [List.all_cons, Bool.and_eq_true] at ns
    exact ja_cons G (sE e _ x h.1 G).pe (sEs es _ xs h.2 ns.2 G) (star_cons ns.1)
theorem sKs : ∀ (es : Es) (T : CT) (xs : List Keyword), kKs es T xs = true → ∀ {X : Cx} {Γ : Env} {W : WX}, GOk X Γ W T → PK X xs (gA X Γ W es)
  | .nil, T, [], h => fun G => jk_nil
  | .nil, T, _ :: _, h => by simp [kKs] at h
  | .cons e es, T, [], h => by simp [kKs] at h
  | .cons e es, T, ⟨n, x, p⟩ :: xs, h => by
    rename_i X Γ W
    intro G
    simp only [kKs, Bool.and_eq_true] at h
    exact jk_cons G (sE e _ x h.1 G).pe (sKs es _ xs h.2 G)
theorem sO : ∀ (o : Oe) (T : CT) (x : Option Expr), kO o T x = true → ∀ {X : Cx} {Γ : Env} {W : WX}, GOk X Γ W T → L2.PO X x (gO X Γ W o)
  | .none, T, none, h => fun G => jo_none
  | .none, T, some _, h => by simp [kO] at h
  | .some e, T, none, h => by simp [kO] at h
  | .some e, T, some x, h => by
    rename_i X Γ W
    intro G
    simp only [kO] at h
    exact jo_some G (sE e _ x h G).pe
theorem sC : ∀ (o : Oe) (T : CT) (xs : List Expr), kC o T xs = true → ∀ {X : Cx} {Γ : Env} {W : WX}, GOk X Γ W T → PTs X xs (gC X Γ W o)
  | .none, T, [], h => fun G => ⟨fun pins s σ H Q I ⟨κ, ρ, M, rs, rm, q⟩ => pts_nil.run pins s σ H Q I (by simp only [wC] at q; exact q κ H .refl rm)⟩
  | .none, T, _ :: _, h => by simp [kC] at h
  | .some e, T, [], h => by simp [kC] at h
  | .some e, T, [x], h => by
    rename_i X Γ W
    intro G
    simp only [kC, Bool.and_eq_true] at h
    exact ⟨fun pins s σ H Q I ⟨κ, ρ, M, rs, rm, q⟩ => (pts_one ((sE e _ x h.2 G).pt h.1)).run pins s σ H Q I (by simp only [wC] at q; exact ⟨κ, ρ, M, rs, rm, q⟩)⟩
  | .some e, T, _ :: _ :: _, h => by simp [kC] at h
theorem sF : ∀ (f : F) (T : CT) (x : Expr), kF f T x = true → ∀ {X : Cx} {Γ : Env} {W : WX}, GOk X Γ W T → PE X x (gF X Γ W f) ∧ plainT x = true ∧ isBO x = false
  | .disp es, T, x, h => by
    rename_i X Γ W
    intro G
    unfold kF at h
    split at h <;> first | contradiction | skip
    rename_i es' xs pos heq
    cases heq
    simp only [Bool.and_eq_true] at h
    exact ⟨jf_disp G (sEs es _ xs h.2 h.1 G), rfl, rfl⟩
  | .cat a b, T, x, h => by
    rename_i X Γ W
    intro G
    unfold kF at h
    split at h <;> first | contradiction | skip
    rename_i a' b' x y pos heq
    cases heq
    simp only [Bool.and_eq_true] at h
    exact ⟨jf_cat G (sE a _ x h.1 G).pe (sE b _ y h.2 G).pe, rfl, rfl⟩
  | .rep a b, T, x, h => by
    rename_i X Γ W
    intro G
    unfold kF at h
    split at h <;> first | contradiction | skip
    rename_i a' b' x y pos heq
    cases heq
    simp only [Bool.and_eq_true] at h
    exact ⟨jf_rep G (sE a _ x h.1 G).pe (sE b _ y h.2 G).pe, rfl, rfl⟩
  | .slice a lo hi, T, x, h => by
    rename_i X Γ W
    intro G
    unfold kF at h
    split at h <;> first | contradiction | skip
    rename_i a' lo' hi' x l r p2 pos heq
    cases heq
    simp only [Bool.and_eq_true] at h
    obtain ⟨h0, h1, h2⟩ := h
    exact ⟨jf_slice G (sE a _ x h0 G).pe (sO lo _ l h1 G) (sO hi _ r h2 G), rfl, rfl⟩
  | .listOf a, T, x, h => by
    rename_i X Γ W
    intro G
    unfold kF at h
    split at h <;> first | contradiction | skip
    rename_i a' n p x pos heq
    cases heq
    simp only [Bool.and_eq_true, decide_eq_true_eq] at h
    obtain ⟨rfl, h1, h2, h3⟩ := h
    exact ⟨jf_listOf G (glB_ok G.eS h1) (sE a _ x h3 G).pe h2, rfl, rfl⟩
  | .comp e t it c, T, x, h => by
    rename_i X Γ W
    intro G
    unfold kF at h
    split at h <;> first | contradiction | skip
    rename_i e' t' it' c' elt tg iter ifs scope pos heq
    cases heq
    simp only [Bool.and_eq_true] at h
    obtain ⟨h1, h2, h3, h4, h5, h6, h7⟩ := h
    refine ⟨jf_comp G h1 (sI it _ tg iter h4 G) (own := ownOf _ t) (by rw [G.eN, G.eS]; exact blkOk_by h2) (own_map _ t) (fun s H C cl fp => ?_) (fun s H C cl fp => ?_) (fun s H C cl fp => ?_) h3, rfl, rfl⟩
    · exact sTg t _ _ tg h5 (G.blk h1 s H scope C cl fp) (fun _ z => z)
    · exact sC c _ ifs h6 (G.blk h1 s H scope C cl fp)
    · exact (sE e _ elt h7 (G.blk h1 s H scope C cl fp)).pe
  | .comp2 e t it u ju c, T, x, h => by
    unfold kF at h
    cases h
theorem sI : ∀ (it : It) (T : CT) (tg iter : Expr), kI it T tg iter = true → ∀ {X : Cx} {Γ : Env} {W : WX}, GOk X Γ W T → PI X tg iter (gI X Γ W it)
  | .of e, T, tg, x, h => by
    rename_i X Γ W
    intro G
    unfold kI at h
    exact ji_of G (sE e _ x h G).pe
  | .rng es, T, tg, x, h => by
    rename_i X Γ W
    intro G
    unfold kI at h
    split at h <;> first | contradiction | skip
    rename_i es' n p xs pos heq
    cases heq
    simp only [Bool.and_eq_true, decide_eq_true_eq] at h
    obtain ⟨rfl, h1, h2, h3, h4, h5, h6⟩ := h
    exact ji_rng G (glB_ok G.eS h1) (sEs es _ xs h6 h2 G) h2 h3 ⟨h4, h5⟩
  | .enum e, T, tg, x, h => by
    rename_i X Γ W
    intro G
    unfold kI at h
    split at h <;> first | contradiction | skip
    rename_i e' n p x pos heq
    cases heq
    simp only [Bool.and_eq_true, decide_eq_true_eq] at h
    obtain ⟨rfl, h1, h2, h3, h4⟩ := h
    obtain ⟨_, _, _, rfl⟩ := isTup_ok h1
    exact ji_enum G (glB_ok G.eS h2) (sE e _ x h4 G).pe h3
  | .zip a b, T, tg, x, h => by
    rename_i X Γ W
    intro G
    unfold kI at h
    split at h <;> first | contradiction | skip
    rename_i a' b' n p x y pos heq
    cases heq
    simp only [Bool.and_eq_true, decide_eq_true_eq] at h
    obtain ⟨rfl, h1, h2, h3, h4, h5, h6⟩ := h
    obtain ⟨_, _, _, rfl⟩ := isTup_ok h1
    exact ji_zip G (glB_ok G.eS h2) (sE a _ x h5 G).pe (sE b _ y h6 G).pe h3 h4
  | .rev e, T, tg, x, h => by
    rename_i X Γ W
    intro G
    unfold kI at h
    split at h <;> first | contradiction | skip
    rename_i e' n p x pos heq
    cases heq
    simp only [Bool.and_eq_true, decide_eq_true_eq] at h
    obtain ⟨rfl, h1, h2, h3⟩ := h
    exact ji_rev G (glB_ok G.eS h1) (sE e _ x h3 G).pe h2
end
end G

/-! Layer G, part 7c: a look at statements. -/
namespace G
open PySem L2 PySem.Spec PyProof.Rows
/-- name = [..]: does the value stand in the name's place at once? -/
def swCompB (T : CT) (y : Str) (py : Pos) : Expr → Bool
  | .ListComp _ _ scope pos => lclB T.sc y && ((py.line == pos.line) && !(scope.names.any fun (n, k) => n == y && (k == .local || k == .cell)))
  | _ => false
def isComp1 : E → Bool
  | .fr (.comp _ _ _ _) => true
  | .al (.comp _ _ _ _) => true
  | _ => false
def asgB (T : CT) (t : Tg) (e : E) (tg v : Expr) : Bool := match tg, v with
  | .Name y py, .ListComp .. => isComp1 e && swCompB T y py v
  | .Tuple ts _ _, .Tuple vs _ _ => vs.all (foldedForSure 8) && !(vs.any fun | .Starred .. => true | _ => false)
  | .Name .., _ => notComp v
  | .Tuple .., _ => notComp v
  | _, _ => false
mutual
def kS : G.St → CT → Stmt → Bool
  | .asg t e, T, .Assign [tg] v _ => kTg t T allB tg && (nostar tg && (asgB T t e tg v && kE e T v))
  | .setIx a b e, T, .Assign [.Subscript x y _] v _ => notSlice y && (kE e T v && (kE a T x && kE b T y))
  | .par i j a b, T, .Assign [.Tuple [.Name x px, .Name y py] _ _] (.Tuple [u, v] _ _) _ => T.cm && (decide (T.N[i]? = some x) && (decide (T.N[j]? = some y) && (decide (i ≠ j) && (lclB T.sc x && (lclB T.sc y && (nostar u && (nostar v &&
      ((py.line == px.line) && (!([u, v].all (foldedForSure 8)) && (!([u, v].all (constantsAlone 8)) && (!(x == y) && (kE a T u && kE b T v))))))))))))
  | .aug i o e, T, .AugAssign (.Name x _) o' v _ => decide (o = o') && (decide (T.N[i]? = some x) && (locB T.sc x && kE e T v))
  | .augIx a b o e, T, .AugAssign (.Subscript x y _) o' v _ => decide (o = o') && (notSlice y && (kE a T x && (kE b T y && kE e T v)))
  | .expr e, T, .Expr v _ => notComp v && kE e T v
  | .app a e, T, .Expr (.Call (.Attribute x m p) [v] [] q) _ => decide (m = "append") && ((p.endLine == q.line) && (abOk x && (nostar v && (kE a T x && kE e T v))))
  | .ext a e, T, .Expr (.Call (.Attribute x m p) [v] [] q) _ => decide (m = "extend") && ((p.endLine == q.line) && (abOk x && (nostar v && (kE a T x && kE e T v))))
  | .ins a b e, T, .Expr (.Call (.Attribute x m p) [y, v] [] q) _ => decide (m = "insert") && ((p.endLine == q.line) && (abOk x && (nostar y && (nostar v && (kE a T x && (kE b T y && kE e T v))))))
  | .ret e, T, .Return (some v) _ => kE e T v
  | .retN, _, .Return none _ => true
  | .cond c a b, T, .If x y z _ => notIf x && (kE c T x && (kSs a T y && kSs b T z))
  | .loop t it b, T, .For tg iter body [] _ => T.cm && (notSet iter && (kI it T tg iter && (kTg t T allB tg && kSs b T body)))
  | .whl c b, T, .While x body [] _ => notIf x && (kE c T x && kSs b T body)
  | .raise c e, T, .Raise (some (.Call (.Name n _) [v] [] _)) none _ => decide (c = n) && (T.cm && (decide (c ∈ T.cs) && (glB T.sc c && (nostar v && kE e T v))))
  | .tryX b hs, T, .Try body (h :: hds) [] [] _ => T.cm && (kSs b T body && kHs hs T (h :: hds))
  | .pass, _, .Pass _ => true
  | .pass, _, .Expr (.Constant (.str _) _ _) _ => true
  | .brk, _, .Break _ => true
  | .cont, _, .Continue _ => true
  | _, _, _ => false
def kSs : Ss → CT → List Stmt → Bool
  | .nil, _, [] => true
  | .cons s ss, T, x :: xs => kS s T x && kSs ss T xs
  | _, _, _ => false
def kHs : Hs → CT → List ExceptHandler → Bool
  | .nil, _, [] => true
  | .cons c i b hs, T, .ExceptHandler (some (.Name x _)) (some n) (st :: sts) _ :: hds => decide (c = x) && (decide (c ∈ T.hs) && (glB T.sc c && (decide (T.N[i]? = some n) && (lclB T.sc n && (kSs b T.inSuite (st :: sts) && kHs hs T hds)))))
  | _, _, _ => false
end
theorem fr_read {X : Cx} {Γ : Env} {W : WX} {T : CT} {f : F} {σ : L2.St} {H : Hp} {Q : VK} (G : GOk X Γ W T) (h : gE X Γ W (.fr f) σ H Q) : gF X Γ W f σ H Q := by
  obtain ⟨κ, ρ, M, rs, rm, h⟩ := h
  simp only [wE] at h
  exact ⟨κ, ρ, M, rs, rm, mF G.mo f ρ _ _ _ _ _ (fun ss M1 ⟨xs, e, q⟩ => PostL.fr q e) (fun _ _ q => q) h⟩
theorem al_read {X : Cx} {Γ : Env} {W : WX} {T : CT} {f : F} {σ : L2.St} {H : Hp} {Q : VK} (G : GOk X Γ W T) (h : gE X Γ W (.al f) σ H Q) : gF X Γ W f σ H Q := by
  obtain ⟨κ, ρ, M, rs, rm, h⟩ := h
  simp only [wE] at h
  exact ⟨κ, ρ, M, rs, rm, mF G.mo f ρ _ _ _ _ _ (fun ss M1 q => PostL.al q) (fun _ _ q => q) h⟩
/-- what an assignment to a name wants of the value -/
theorem asg_read {X : Cx} {Γ : Env} {W : WX} {T : CT} {i : Nat} {e : E} {D : Ends} {σ : L2.St} {H : Hp} (G : GOk X Γ W T) (h : gS X Γ W (.asg (.nm i) e) D σ H) : gE X Γ W e σ H (fun x H1 => gName i x σ H1 D.nx) := by
  obtain ⟨κ, ρ, M, rs, rm, h⟩ := h
  simp only [wS] at h
  refine gE.st G.mo .refl rs rm h fun v M1 κ1 x H1 q g r m => ?_
  simp only [wTg] at q
  exact q κ1 _ H1 g ((rs.grow g.toGrow).set r i) m
theorem sole_of {t e : Expr} {l : Nat} {env : PySem.Env} {b : Bool} (h : swapsWith e (some t) l env = pure b) : swapsWithSole [t] e l env = pure b := by
  unfold swapsWithSole
  exact h
theorem sAsgC {t : Tg} {it : G.It} {c : Oe} {te w : E} {T : CT} {y : Str} {py p2 pos : Pos} {i : Nat} {elt : Expr} {gs : List Comprehension} {scope : Scope} {X : Cx} {Γ : Env} {W : WX} (G : GOk X Γ W T) (h4 : kF (.comp te t it c) T (.ListComp elt gs scope p2) = true)
    (h6 : lclB T.sc y = true) (h7 : (py.line == p2.line) = true) (h8 : (scope.names.any fun (n, k) => n == y && (k == .local || k == .cell)) = false) (hi : T.N[i]? = some y)
    (hw : ∀ D σ H, gS X Γ W (.asg (.nm i) w) D σ H → gS X Γ W (.asg (.nm i) (.fr (.comp te t it c))) D σ H ∨ gS X Γ W (.asg (.nm i) (.al (.comp te t it c))) D σ H) :
    PS X (.Assign [.Name y py] (.ListComp elt gs scope p2) pos) (gS X Γ W (.asg (.nm i) w)) := by
  unfold kF at h4
  split at h4 <;> first | contradiction | skip
  rename_i e' t' it' c' elt' tg iter ifs scope' pos' heq1 heq
  cases heq1
  cases heq
  simp only [Bool.and_eq_true] at h4
  obtain ⟨a1, a2, a3, a4, a5, a6, a7⟩ := h4
  refine ⟨fun pins s σ H D I q => (js_comp (te := te) (e := te) (c := c) (t := t) G a1 (by rw [G.eN]; exact hi) (by rw [G.eS]; exact lclB_ok h6) (sw_true I.ok.kind (by rw [G.eS]; exact lclB_ok h6) h7 h8) (sI it _ tg iter a4 G) (own := ownOf _ t) (by rw [G.eN, G.eS]; exact blkOk_by a2) (own_map _ t) (fun s H C cl fp => ?_) (fun s H C cl fp => ?_) (fun s H C cl fp => ?_) a3).run pins s σ H D I ?_⟩
  · exact sTg t _ _ tg a5 (G.blk a1 s H scope C cl fp) (fun _ z => z)
  · exact sC c _ ifs a6 (G.blk a1 s H scope C cl fp)
  · exact (sE te _ elt a7 (G.blk a1 s H scope C cl fp)).pe
  · rcases hw _ _ _ q with z | z
    · exact fr_read G (asg_read G z)
    · exact al_read G (asg_read G z)
theorem sw_stores {ts : List Expr} {k k2 : Nat} {pt p2 : Pos} {vs : List Expr} {env : PySem.Env} (h : vs.all (foldedForSure 8) = true) : swappedStores [.Tuple ts k pt] (.Tuple vs k2 p2) env = pure none := by
  unfold swappedStores
  dsimp only
  rw [h]
  repeat (first | rfl | split)
theorem sw_par {x y : Str} {px py pt p2 : Pos} {kt k2 : Nat} {u v : Expr} {env : PySem.Env} (hk : env.scope.kind = .function) (hx : env.scope.names.lookup x = some .local) (hy : env.scope.names.lookup y = some .local) (nu : nostar u = true) (nv : nostar v = true) (hl : (py.line == px.line) = true)
    (h1 : [u, v].all (foldedForSure 8) = false) (h2 : [u, v].all (constantsAlone 8) = false) (hxy : (x == y) = false) : swappedStores [.Tuple [.Name x px, .Name y py] kt pt] (.Tuple [u, v] k2 p2) env = pure (some [x, y]) := by
  have kx : env.kindOf x = some .local := hx
  have ky : env.kindOf y = some .local := hy
  have hb : env.blockKind = .function := by unfold Env.blockKind; rw [hk]; rfl
  have hyx : (y == x) = false := by
    cases h : y == x with
    | false => rfl
    | true =>
      rw [beq_iff_eq] at h
      subst h
      simp at hxy
  unfold swappedStores
  dsimp only
  simp only [List.length_cons, List.length_nil, hb, List.any_cons, List.any_nil]
  split
  · rename_i z; simp at z
  split
  · exact absurd nu (by simp [nostar])
  split
  · exact absurd nv (by simp [nostar])
  have hyx2 : ¬ y = x := by
    intro z
    subst z
    simp at hyx
  have hl2 : py.line = px.line := by
    rw [beq_iff_eq] at hl
    exact hl
  simp [kx, ky, hl, h1, h2, Expr.pos]
  simp [List.filterMap, ky, hl2, List.eraseDups, List.eraseDupsBy, List.eraseDupsBy.loop, hxy, hyx, hyx2]
mutual
theorem sS : ∀ (s : G.St) (T : CT) (x : Stmt), kS s T x = true → ∀ {X : Cx} {Γ : Env} {W : WX}, GOk X Γ W T → GSt X → PS X x (gS X Γ W s)
  | .asg t e, T, x, h => by
    rename_i X Γ W
    intro G Gs
    unfold kS at h
    split at h <;> first | contradiction | skip
    rename_i t' e' tg v pos heq
    cases heq
    simp only [Bool.and_eq_true] at h
    obtain ⟨h1, h2, h3, h4⟩ := h
    have pg := sTg t _ _ tg h1 G (fun x _ => Gs.fnt x)
    have pe := (sE e _ v h4 G).pe
    unfold asgB at h3
    split at h3
    · rename_i y py elt gs scope p2
      simp only [Bool.and_eq_true] at h3
      obtain ⟨h5, h6⟩ := h3
      unfold swCompB at h6
      simp only [Bool.and_eq_true] at h6
      obtain ⟨h6, h7, h8⟩ := h6
      unfold kTg at h1
      split at h1 <;> first | contradiction | skip
      rename_i T' k i y' py' heq heq2
      cases heq2
      simp only [Bool.and_eq_true, decide_eq_true_eq] at h1
      unfold isComp1 at h5
      split at h5 <;> first | cases h5 | skip
      · rename_i te t it c
        unfold kE at h4
        exact sAsgC G h4 h6 h7 (bool_not h8) h1.1 fun D σ H q => .inl q
      · rename_i te t it c
        unfold kE at h4
        exact sAsgC G h4 h6 h7 (bool_not h8) h1.1 fun D σ H q => .inr q
    · rename_i ts k pt vs k2 p2
      simp only [Bool.and_eq_true] at h3
      exact js_asg G pe pg rfl (sw_stores h3.1) h2
    · exact js_asg G pe pg (sole_of (sw_of h3)) (by cases v <;> rfl) h2
    · rename_i v' _ _ _
      exact js_asg G pe pg (sole_of (sw_of h3)) (by cases v <;> first | rfl | (exfalso; rename_i hh; exact hh _ _ _ rfl)) h2
    · cases h3
  | .setIx a b e, T, x, h => by
    rename_i X Γ W
    intro G Gs
    unfold kS at h
    split at h <;> first | contradiction | skip
    rename_i a' b' e' x y p v pos heq
    cases heq
    simp only [Bool.and_eq_true] at h
    obtain ⟨h1, h2, h3, h4⟩ := h
    exact js_setIx G (sE e _ v h2 G).pe (sE a _ x h3 G).pe (sE b _ y h4 G).pe h1
  | .par i j a b, T, x, h => by
    rename_i X Γ W
    intro G Gs
    unfold kS at h
    split at h <;> first | contradiction | skip
    rename_i i' j' a' b' x px y py kt pt u v k2 p2 pos heq
    cases heq
    simp only [Bool.and_eq_true, decide_eq_true_eq] at h
    obtain ⟨h1, h2, h3, h4, h5, h6, h7, h8, h9, h10, h11, h12, h13, h14⟩ := h
    refine ⟨fun pins s σ H D I => (js_par G h1 (by rw [G.eN]; exact h2) (by rw [G.eN]; exact h3) h4 (by rw [G.eS]; exact lclB_ok h5) (by rw [G.eS]; exact lclB_ok h6) (sE a _ u h13 G).pe (sE b _ v h14 G).pe h7 h8
      (sw_par I.ok.kind (by rw [G.eS]; exact lclB_ok h5) (by rw [G.eS]; exact lclB_ok h6) h7 h8 h9 (bool_not h10) (bool_not h11) (bool_not h12))).run pins s σ H D I⟩
  | .aug i o e, T, x, h => by
    rename_i X Γ W
    intro G Gs
    unfold kS at h
    split at h <;> first | contradiction | skip
    rename_i i' o1 e' x p o2 v pos heq
    cases heq
    simp only [Bool.and_eq_true, decide_eq_true_eq] at h
    obtain ⟨rfl, h1, h2, h3⟩ := h
    exact js_aug o G Gs (by rw [G.eN]; exact h1) (by rw [G.eS]; exact locB_ok h2) (sE e _ v h3 G).pe
  | .augIx a b o e, T, x, h => by
    rename_i X Γ W
    intro G Gs
    unfold kS at h
    split at h <;> first | contradiction | skip
    rename_i a' b' o1 e' x y p o2 v pos heq
    cases heq
    simp only [Bool.and_eq_true, decide_eq_true_eq] at h
    obtain ⟨rfl, h1, h2, h3, h4⟩ := h
    exact js_augIx o G (sE a _ x h2 G).pe (sE b _ y h3 G).pe (sE e _ v h4 G).pe h1
  | .expr e, T, x, h => by
    rename_i X Γ W
    intro G Gs
    unfold kS at h
    split at h <;> first | contradiction | skip
    rename_i e' v pos heq
    cases heq
    simp only [Bool.and_eq_true] at h
    exact js_expr G (sE e _ v h.2 G).pe h.1
  | .app a e, T, x, h => by
    rename_i X Γ W
    intro G Gs
    unfold kS at h
    split at h <;> first | contradiction | skip
    rename_i a' e' x m p v q pos heq
    cases heq
    simp only [Bool.and_eq_true, decide_eq_true_eq] at h
    obtain ⟨rfl, h1, h2, h3, h4, h5⟩ := h
    exact js_app G (sE a _ x h4 G).pe (sE e _ v h5 G).pe h2 h1 h3
  | .ext a e, T, x, h => by
    rename_i X Γ W
    intro G Gs
    unfold kS at h
    split at h <;> first | contradiction | skip
    rename_i a' e' x m p v q pos heq
    cases heq
    simp only [Bool.and_eq_true, decide_eq_true_eq] at h
    obtain ⟨rfl, h1, h2, h3, h4, h5⟩ := h
    exact js_ext G (sE a _ x h4 G).pe (sE e _ v h5 G).pe h2 h1 h3
  | .ins a b e, T, x, h => by
    rename_i X Γ W
    intro G Gs
    unfold kS at h
    split at h <;> first | contradiction | skip
    rename_i a' b' e' x m p y v q pos heq
    cases heq
    simp only [Bool.and_eq_true, decide_eq_true_eq] at h
    obtain ⟨rfl, h1, h2, h3, h4, h5, h6, h7⟩ := h
    exact js_ins G (sE a _ x h5 G).pe (sE b _ y h6 G).pe (sE e _ v h7 G).pe h2 h1 h3 h4
  | .ret e, T, x, h => by
    rename_i X Γ W
    intro G Gs
    unfold kS at h
    split at h <;> first | contradiction | skip
    rename_i e' v pos heq
    cases heq
    exact js_ret G (sE e _ v h G).pe
  | .retN, T, x, h => by
    rename_i X Γ W
    intro G Gs
    unfold kS at h
    split at h <;> first | contradiction | skip
    exact js_retN
  | .cond c a b, T, x, h => by
    rename_i X Γ W
    intro G Gs
    unfold kS at h
    split at h <;> first | contradiction | skip
    rename_i c' a' b' x y z pos heq
    cases heq
    simp only [Bool.and_eq_true] at h
    obtain ⟨h0, h1, h2, h3⟩ := h
    exact js_if G ((sE c _ x h1 G).pt h0) (sSs a _ y h2 G Gs) (sSs b _ z h3 G Gs)
  | .loop t it b, T, x, h => by
    rename_i X Γ W
    intro G Gs
    unfold kS at h
    split at h <;> first | contradiction | skip
    rename_i t' it' b' tg iter body pos heq
    cases heq
    simp only [Bool.and_eq_true] at h
    obtain ⟨h0, h1, h2, h3, h4⟩ := h
    exact js_for G Gs h0 (sI it _ tg iter h2 G) (sTg t _ _ tg h3 G (fun x _ => Gs.fnt x)) (sSs b _ body h4 G Gs) h1
  | .whl c b, T, x, h => by
    rename_i X Γ W
    intro G Gs
    unfold kS at h
    split at h <;> first | contradiction | skip
    rename_i c' b' x body pos heq
    cases heq
    simp only [Bool.and_eq_true] at h
    obtain ⟨h0, h1, h2⟩ := h
    exact js_whl G Gs ((sE c _ x h1 G).pt h0) (sSs b _ body h2 G Gs)
  | .raise c e, T, x, h => by
    rename_i X Γ W
    intro G Gs
    unfold kS at h
    split at h <;> first | contradiction | skip
    rename_i c' e' n p v q pos heq
    cases heq
    simp only [Bool.and_eq_true, decide_eq_true_eq] at h
    obtain ⟨rfl, h1, h2, h3, h4, h5⟩ := h
    exact js_raise G h1 h2 (glB_ok G.eS h3) (sE e _ v h5 G).pe h4
  | .tryX b hs, T, x, h => by
    rename_i X Γ W
    intro G Gs
    unfold kS at h
    split at h <;> first | contradiction | skip
    rename_i b' hs' body h0 hds pos heq
    cases heq
    simp only [Bool.and_eq_true] at h
    obtain ⟨h1, h2, h3⟩ := h
    obtain ⟨l, r, hh⟩ := sHs hs _ (h0 :: hds) h3 G Gs
    exact js_try G Gs (G.cn h1) (fun W' pn xe G' Gs' => sSs b _ body h2 G' Gs') r hh
  | .pass, T, x, h => by
    rename_i X Γ W
    intro G Gs
    unfold kS at h
    split at h <;> first | contradiction | skip
    · exact js_pass
    · exact js_doc
  | .brk, T, x, h => by
    rename_i X Γ W
    intro G Gs
    unfold kS at h
    split at h <;> first | contradiction | skip
    exact js_brk
  | .cont, T, x, h => by
    rename_i X Γ W
    intro G Gs
    unfold kS at h
    split at h <;> first | contradiction | skip
    exact js_cont
theorem sSs : ∀ (ss : Ss) (T : CT) (xs : List Stmt), kSs ss T xs = true → ∀ {X : Cx} {Γ : Env} {W : WX}, GOk X Γ W T → GSt X → PSs X xs (gSs X Γ W ss)
  | .nil, T, [], h => fun G Gs => jss_nil
  | .nil, T, _ :: _, h => by simp [kSs] at h
  | .cons s ss, T, [], h => by simp [kSs] at h
  | .cons s ss, T, x :: xs, h => by
    rename_i X Γ W
    intro G Gs
    simp only [kSs, Bool.and_eq_true] at h
    exact jss_cons G (sS s _ x h.1 G Gs) (sSs ss _ xs h.2 G Gs)
theorem sHs : ∀ (hs : Hs) (T : CT) (xs : List ExceptHandler), kHs hs T xs = true → ∀ {X : Cx} {Γ : Env} {W : WX}, GOk X Γ W T → GSt X → ∃ l, HsR X Γ T hs l ∧ Hds X xs l
  | .nil, T, xs, h => by
    rename_i X Γ W
    intro G Gs
    unfold kHs at h
    split at h <;> first | contradiction | skip
    exact ⟨[], .nil, .nil⟩
  | .cons c i b hs, T, xs, h => by
    rename_i X Γ W
    intro G Gs
    unfold kHs at h
    split at h <;> first | contradiction | skip
    rename_i c' i' b' hs' x p n st sts q hds heq
    cases heq
    simp only [Bool.and_eq_true, decide_eq_true_eq] at h
    obtain ⟨rfl, h1, h2, h3, h4, h5, h6⟩ := h
    obtain ⟨l, r, hh⟩ := sHs hs _ hds h6 G Gs
    obtain ⟨cv, hcv⟩ := G.hn c h1
    refine ⟨(cv, i, tSu X Γ b) :: l, .cons h1 hcv r, .cons (hcv.names (glB_ok G.eS h2)) (by rw [G.eN]; exact h3) (by show X.env.scope.names.lookup n = _; rw [G.eS]; exact lclB_ok h4) (fun a oe cls d pn hz hf => ?_) hh⟩
    exact su_of G Gs (fun Y Δ G' Gs' => sSs b _ (st :: sts) h5 G' Gs') a oe cls d pn hz hf
end
end G

/-! Layer G, part 8: a law's head. -/
namespace G
open PySem L2 PySem.Spec PyProof.Rows
/-- the script, tracked as a thing that stands still, where it is not the module's own -/
def scrH (K : PySem.W.Frag) (a : Addr) (vs : List Value) (ns : List Int) : Hp := fun b => if b = a ∧ K.lookup a = none then some (.frz { cls := .type "list", data := .seq vs.toArray } (.lst (ns.map V.int))) else none
theorem scrH_some {K : PySem.W.Frag} {a b : Addr} {vs : List Value} {ns : List Int} {u : HO} (h : scrH K a vs ns b = some u) : b = a ∧ K.lookup a = none ∧ u = .frz { cls := .type "list", data := .seq vs.toArray } (.lst (ns.map V.int)) := by
  unfold scrH at h
  by_cases c : b = a ∧ K.lookup a = none
  · rw [if_pos c] at h
    exact ⟨c.1, c.2, (Option.some.inj h).symm⟩
  · rw [if_neg c] at h
    cases h
theorem scrH_none {K : PySem.W.Frag} {a b : Addr} {vs : List Value} {ns : List Int} (h : b ≠ a ∨ K.lookup a ≠ none) : scrH K a vs ns b = none := by
  refine if_neg fun ⟨c1, c2⟩ => ?_
  rcases h with h | h
  · exact h c1
  · exact h c2
def pints (ns : List Int) : List PD := ns.map PyData.int
theorem rps_ints {K H κ} : ∀ ns : List Int, RPs K H κ (ns.map V.int) (pints ns)
  | [] => .nil
  | n :: ns => .cons (.int n) (rps_ints ns)
theorem scr_reads {K : PySem.W.Frag} {a : Addr} {vs : List Value} {ns : List Int} {h : Heap} (KX : K.In h) (ha : h.get? a = some { cls := .type "list", data := .seq vs.toArray }) (hi : IntsAre vs ns) (hl : ns.length ≤ sizeLine) :
    RS K (scrH K a vs ns) ⟨[], []⟩ (.ref a) (.d (.list (pints ns))) := by
  refine .d (.lst (xs := ns.map V.int) ?_ (by rw [List.length_map]; exact hl) (rps_ints ns))
  cases q : K.lookup a with
  | none => exact .inl ⟨.inr ⟨_, if_pos ⟨rfl, q⟩⟩, ⟨List.not_mem_nil, List.not_mem_nil⟩⟩
  | some o =>
    have e := KX a o q
    rw [ha] at e
    exact .inr ⟨vs, _, by rw [q, ← e], by rw [List.length_map]; exact hl, vals_ints hi⟩
/-- what is not in the ledger of tracked things stands in the hidden heap -/
theorem hid_in {K : PySem.W.Frag} {a b : Addr} {vs : List Value} {ns : List Int} {h : Heap} {o : Obj} (e : h.get? b = some o) (n : b ≠ a ∨ K.lookup a ≠ none) : (hidT h (scrH K a vs ns)).get? b = some o := hidT_get e (scrH_none n)
theorem hid_ns {K : PySem.W.Frag} {a b : Addr} {vs : List Value} {ns : List Int} {h : Heap} {m : Str → Option Value} (ha : h.get? a = some { cls := .type "list", data := .seq vs.toArray }) (q : h.Ns b m) : (hidT h (scrH K a vs ns)).Ns b m := by
  obtain ⟨o, es, ep, e, d, r⟩ := q
  refine ⟨o, es, ep, hid_in e (.inl fun z => ?_), d, r⟩
  rw [z, ha] at e
  rw [← Option.some.inj e] at d
  cases d
theorem head_call {P : Program} {w : World} {K : PySem.W.Frag} {mg mb : Str → Option Value} {k : Nat} {fa a : Addr} {fd : FuncData} {x : Str} {φ : FSpec} {s : Shared} {vs : List Value} {ns : List Int}
    (KX : K.In s.heap) (n1 : s.heap.Ns mainGlobals mg) (n2 : s.heap.Ns builtinsNs mb) (n3 : ∀ x : Str, x ≠ "__name__" → mb x = bootBuiltins x) (n4 : s.heap.NoLimit) (hg : s.gens = #[])
    (ha : s.heap.get? a = some { cls := .type "list", data := .seq vs.toArray }) (hi : IntsAre vs ns) (hl : ns.length ≤ sizeLine) (hr : Room k callerA)
    (F : ∀ base : Heap, K.In base → base.Ns mainGlobals mg → FnG P w K mg base k fa fd [x] (spOf mg K 1 φ)) (bd : ∀ (s : Shared) (u : Value), BindsTo s fd ⟨[u], []⟩ [(x, u)])
    (hφ : ∀ (Q : S → Mem → Prop) (E : Xc → Mem → Prop), (∀ M, Q (B true) M) → φ [.d (.list (pints ns))] [] Q E) :
    codeAny (model P w) callerA (.call (.ref fa) ⟨[.ref a], []⟩) (fun r s' => r = .ok (.ret (.bool true)) ∧ OldK s.heap s'.heap ∧ s'.os = s.os ∧ AllBare s'.gens) s := by
  have nin : ∀ {o : Obj} {b : Addr}, K.lookup b = some o → b ≠ a ∨ K.lookup a ≠ none := fun {o b} e => by
    by_cases c : b = a
    · subst c
      exact .inr (by rw [e]; simp)
    · exact .inl c
  have kin : K.In (hidT s.heap (scrH K a vs ns)) := fun b o e => hid_in (KX b o e) (nin e)
  have hok : HOk P w (scrH K a vs ns) s.heap := fun b u z => by
    obtain ⟨rfl, _, rfl⟩ := scrH_some z
    exact ⟨ha, by rw [List.length_map]; exact hl, vs, _, vals_ints hi, ha⟩
  have e0 : Env0 P w K mg (hidT s.heap (scrH K a vs ns)) callerA [] s (scrH K a vs ns) :=
    { frames := rfl, mod := ⟨kin, hid_ns ha n1, ⟨mb, hid_ns ha n2, n3⟩, n4.imp fun mc h => ⟨hid_ns ha h.1, h.2⟩⟩, bs := fun b o e => of_hidT e, bsz := Nat.le_of_eq (hidT_size _ _), funs := trivial, frf := fun b hb => (nomatch hb), hok := hok, bare := .of_eq hg }
  refine codeAny_mono ((F _ kin (hid_ns ha n1)).run callerA [] s (scrH K a vs ns) ⟨[.ref a], []⟩ [.ref a] [.ref a] (fun v _ => v = .bl true) (fun _ _ _ => False) hr rfl e0 (bd s (.ref a)) (.cons rfl .nil) ?_) fun r s' h => ?_
  · refine ⟨⟨[], []⟩, [], [.d (.list (pints ns))], rfl, ⟨rfl, List.nodup_nil, fun k a o h => by simp at h, fun a h => by cases h⟩, .cons (scr_reads KX ha hi hl) .nil, ?_⟩
    refine hφ _ _ fun M κ' v H' _ rv _ => ?_
    cases rv with
    | d rv =>
      cases rv
      rfl
  · cases r with
    | error e =>
      obtain ⟨_, _, _, _, _, _, _, _, _, _, _, _, z⟩ := h
      exact z.elim
    | ok fl =>
      cases fl <;> first | exact False.elim h | skip
      obtain ⟨v, H', os, bare, un, hok', rv, q⟩ := h
      subst q
      cases rv
      refine ⟨rfl, OldK.of_keep fun b o e => ?_, os, bare⟩
      cases q : scrH K a vs ns b with
      | none => exact un.keep b o e q (by intro z; cases z) (by simp)
      | some u =>
        obtain ⟨_, _, rfl⟩ := scrH_some q
        have e1 := (hok b _ q).1
        rw [e] at e1
        rw [Option.some.inj e1]
        exact (hok' b _ (un.frzs b _ _ q)).1
theorem walk_g {l : PySem.W.OpenLaw} {n k : Nat} {q : Program} {loose : List Str} {XP : (Str → Option Value) → Heap → Prop} {YP : World → Heap → Prop} {d : DefRec} {K : Params → PySem.W.Frag} {φ : FSpec} {x : Str}
    (h1 : l.most = some n) (h2 : n ≤ sizeLine) (h3 : d.params.defaults = []) (hr : Room k callerA) (hY : ∀ (w : World) (h : Heap), YP w h → (K w.params).In h)
    (F : ∀ (w : World) (mg : Str → Option Value) (fa : Addr) (h : Heap), (K w.params).In h → h.Ns mainGlobals mg → mg d.name = some (.ref fa) →
      ∃ fd : FuncData, (∀ (s : Shared) (u : Value), BindsTo s fd ⟨[u], []⟩ [(x, u)]) ∧ ∀ base : Heap, (K w.params).In base → base.Ns mainGlobals mg → FnG l.prog w (K w.params) mg base k fa fd [x] (spOf mg (K w.params) 1 φ))
    (hφ : ∀ (ns : List Int) (Q : S → Mem → Prop) (E : Xc → Mem → Prop), ns.length ≤ n → (∀ z ∈ ns, Builtin.Int.intBits z ≤ 1048576) → (∀ M, Q (B true) M) → φ [.d (.list (pints ns))] [] Q E) :
    PySem.W.WalkO q loose XP YP l.row.toRowW d [] (fun f vs => PySem.call f vs) := by
  refine Att.attach_callB h1 h3 fun w s0 s1 mg mb fa o pm cd doc a vs ns G Y ho hd hcd hmg hobj hints hlen hbits hg => ?_
  have KX := hY w _ Y
  obtain ⟨fd, hb, hF⟩ := F w mg fa _ KX G.T.g hmg
  exact head_call KX G.T.g G.T.b G.T.builtins G.T.nolimit hg hobj hints (Nat.le_trans hlen h2) hr hF hb fun Q E q => hφ ns Q E hlen hbits q
end G

/-! Layer G, part 9: the facts of one program. -/
namespace G
open PySem L2 PySem.Spec PyProof.Rows
/-- a def that stands at the top -/
structure FF (K : PySem.W.Frag) (mg : Str → Option Value) (name : Str) (st : Stmt) (a : Addr) (fd : FuncData) : Prop where
  g : mg name = some (.ref a)
  k : PySem.W.keepIn K (.ref a) = true
  ex : ∃ (oc : Value) (od : Option Addr) (kV doc pm : Value) (an : Option Addr) (cdv ct : Value) (osl : Array (Option Value)), fd = PySem.W.fnOf name name (defArgs st) (defBody st) (defScope st) .none kV doc pm an cdv ct ∧ K.lookup a = some ⟨oc, od, .func fd, osl⟩ ∧ PySem.W.codeIn K cdv name = true
theorem ff_mk {K : PySem.W.Frag} {mg : Str → Option Value} {h : Heap} {name : Str} {st : Stmt} {a : Addr} {oc : Value} {od : Option Addr} {kV doc pm : Value} {an : Option Addr} {cdv ct : Value} {osl : Array (Option Value)} (X : K.In h) (g : h.Ns mainGlobals mg)
    (h1 : PySem.W.nsIn K mainGlobals name = some (some (.ref a))) (h2 : K.lookup a = some ⟨oc, od, .func (PySem.W.fnOf name name (defArgs st) (defBody st) (defScope st) .none kV doc pm an cdv ct), osl⟩) (h3 : PySem.W.codeIn K cdv name = true) (h4 : PySem.W.keepIn K (.ref a) = true) :
    ∃ a fd, FF K mg name st a fd := ⟨a, _, PySem.W.mg_of X g h1, h4, _, _, _, _, _, _, _, _, _, rfl, h2, h3⟩
/-- the parameters take the arguments by place -/
def Bd (name : Str) (st : Stmt) (ps : List Str) : Prop := ∀ (kV doc pm : Value) (an : Option Addr) (cdv ct : Value) (us : List Value), us.length = ps.length → bindArgs (PySem.W.fnOf name name (defArgs st) (defBody st) (defScope st) .none kV doc pm an cdv ct) ⟨us, []⟩ = pure (ps.zip us)
def BdK (name : Str) (st : Stmt) (ps : List Str) (n : Nat) (ks : List Str) : Prop := ∀ (kV doc pm : Value) (an : Option Addr) (cdv ct : Value) (us ws : List Value), us.length = n → ws.length = ks.length → bindArgs (PySem.W.fnOf name name (defArgs st) (defBody st) (defScope st) .none kV doc pm an cdv ct) ⟨us, ks.zip ws⟩ = pure (ps.zip (reord ps n ks us ws))
/-- the functions that a def calls -/
abbrev Lib := List (Str × List Str × FSpec)
def Lib.env (l : Lib) (mro : Str → Option (List Str)) : Env where
  Φ := fun f => (l.lookup f).map (·.2)
  ps := fun f => ((l.lookup f).map (·.1)).getD []
  cur := none
  mro := mro
def Lib.fs (l : Lib) : List (Str × List Str) := l.map fun p => (p.1, p.2.1)
theorem Lib.mem {l : Lib} {f : Str} {q : List Str × FSpec} (h : l.lookup f = some q) : (f, q) ∈ l := by
  induction l with
  | nil => cases h
  | cons p r ih =>
    obtain ⟨a, b⟩ := p
    rw [List.lookup_cons] at h
    split at h
    · rename_i e
      cases h
      rw [beq_iff_eq] at e
      rw [e]
      exact List.mem_cons_self
    · exact List.mem_cons_of_mem _ (ih h)
theorem Lib.mo {l : Lib} {mro} (h : ∀ p ∈ l, ∀ vs, Mono (p.2.2 vs)) : (l.env mro).Mo := ⟨fun f φ e vs => by
  unfold Lib.env at e
  simp only [Option.map_eq_some_iff] at e
  obtain ⟨q, e, rfl⟩ := e
  exact h _ (Lib.mem e) vs⟩
def Lib.nd (l : Lib) : Bool := l.all fun p => l.lookup p.1 |>.isSome
theorem Lib.look {l : Lib} (h : (l.map (·.1)).Nodup) {f : Str} {q : List Str × FSpec} (m : (f, q) ∈ l) : l.lookup f = some q := by
  induction l with
  | nil => cases m
  | cons p r ih =>
    obtain ⟨a, b⟩ := p
    rw [List.map_cons, List.nodup_cons] at h
    rw [List.lookup_cons]
    rcases List.mem_cons.mp m with e | e
    · cases e
      simp
    · have : (f == a) = false := by
        rw [beq_eq_false_iff_ne]
        rintro rfl
        exact h.1 (List.mem_map.mpr ⟨_, e, rfl⟩)
      rw [this]
      exact ih h.2 e
/-- all defs of the list may be called -/
def Cals (P : Program) (w : World) (K : PySem.W.Frag) (mg : Str → Option Value) (base : Heap) (k : Nat) (kws : List (Str × Nat × List Str)) (l : Lib) : Prop := ∀ p ∈ l, Cal P w K mg base k kws p.1 p.2.1 p.2.2
theorem Cals.nil {P w K mg base k kws} : Cals P w K mg base k kws [] := fun _ h => by cases h
theorem Cals.cons {P w K mg base k j kws f ps φ l} (h : Cal P w K mg base j kws f ps φ) (e : j ≤ k) (t : Cals P w K mg base k kws l) : Cals P w K mg base k kws ((f, ps, φ) :: l) := fun p m => by
  rcases List.mem_cons.mp m with rfl | m
  · exact h.mono e
  · exact t p m
/-- a def by its body: what fnG_of wants, for a def that stands at the top -/
theorem fng_of {P : Program} {w : World} {K : PySem.W.Frag} {mg : Str → Option Value} {base : Heap} {k : Nat} {name : Str} {st : Stmt} {a : Addr} {fd : FuncData} {N ps : List Str} {ks : List (Str × Nat × List Str)} {cs hs : List Str} {mro : Str → Option (List Str)} {lib : Lib} {φ : FSpec} {b : Ss}
    (ff : FF K mg name st a fd) (S : FnScope N ps (defScope st)) (pf : PF P K mg mro cs hs) (h2 : 2 ≤ k) (cals : Cals P w K mg base k ks lib) (ln : (lib.map (·.1)).Nodup)
    (mo : ∀ p ∈ lib, ∀ vs, Mono (p.2.2 vs)) (ck : kSs b ⟨N, defScope st, lib.fs, ks, cs, hs, true⟩ (defBody st) = true)
    (hφ : ∀ (ss : List G.S) (M : Mem) (Q : G.S → Mem → Prop) (E : Xc → Mem → Prop), ss.length = ps.length → φ ss M Q E → wSs (lib.env mro) b (startS N ss) M (exits M Q E)) :
    FnG P w K mg base (k + 1) a fd ps (spOf mg K ps.length φ) := by
  obtain ⟨oc, od, kV, doc, pm, an, cdv, ct, osl, rfl, lk, hcd⟩ := ff.ex
  refine fnG_of (T := ⟨N, defScope st, lib.fs, ks, cs, hs, true⟩) (Γ := lib.env mro) lk hcd S rfl pf (Lib.mo mo) rfl h2 (fun g ψ e => ?_) (fun g hg => ?_) (fun X W G Gs => sSs b _ _ ck G Gs) hφ
  · unfold Lib.env at e ⊢
    simp only [Option.map_eq_some_iff] at e
    obtain ⟨q, e, rfl⟩ := e
    have c := cals _ (Lib.mem e)
    simp only [e, Option.map_some, Option.getD_some]
    exact c
  · unfold Lib.fs at hg
    obtain ⟨p, hp, rfl⟩ := List.mem_map.mp hg
    have e := Lib.look ln (f := p.1) (q := p.2) hp
    simp only [Lib.env, e, Option.map_some, Option.getD_some]
    exact ⟨⟨_, rfl⟩, trivial⟩
/-- it may be called -/
theorem cal_of {P : Program} {w : World} {K : PySem.W.Frag} {mg : Str → Option Value} {base : Heap} {k : Nat} {name : Str} {st : Stmt} {a : Addr} {fd : FuncData} {ps : List Str} {ks : List (Str × Nat × List Str)} {φ : FSpec} (ff : FF K mg name st a fd) (F : FnG P w K mg base k a fd ps (spOf mg K ps.length φ))
    (bd : Bd name st ps) (kb : ∀ q ∈ ks, q.1 = name → BdK name st ps q.2.1 q.2.2) (nd : (name == ("__debug__" : Str)) = false) : Cal P w K mg base k ks name ps φ := by
  obtain ⟨oc, od, kV, doc, pm, an, cdv, ct, osl, rfl, lk, hcd⟩ := ff.ex
  exact ⟨a, _, F, ff.g, ff.k, .all (bd kV doc pm an cdv ct), nd, fun q hq e s us ws h3 h4 => .of_eq (kb q hq e kV doc pm an cdv ct us ws h3 h4)⟩
/-! ### classes -/
theorem superIn_of {K : PySem.W.Frag} {C S N N' : Addr} {nm q nm' q' name : Str} {bs bm bs' : List Value} {sn sn' : List Str} {sub sub' : List Value} {ab ab' : Bool} {col col' : Option Bool} {dd dd' : Option Addr} {k0 k1 k2 k3 k5 j0 j1 j2 j3 j5 : Option Value} {r : Option (Option Value)}
    (hC : K.lookup C = some (excClassObj nm q C N bs (.ref S :: bm) true sn sub ab col dd k0 k1 k2 k3 k5 "ValueError.__new__")) (hS : K.lookup S = some (excClassObj nm' q' S N' bs' bm true sn' sub' ab' col' dd' j0 j1 j2 j3 j5 "ValueError.__new__"))
    (h : PySem.W.findIn K (.ref S) name = r) : PySem.W.ks_superIn K C C name = r := by
  subst h
  unfold PySem.W.ks_superIn PySem.W.findIn PySem.W.clsIn
  rw [hC]
  dsimp only [excClassObj]
  rw [hS]
  dsimp only [excClassObj]
  simp
theorem kit_own {K : PySem.W.Frag} {C D : Addr} {b : Bool} (h1 : PySem.W.subIn K (.ref C) (.ref D) = some b) (h2 : PySem.W.subIn K (.ref D) (.ref D) = some true) (h3 : PySem.W.isClsIn K D = true) (h4 : PySem.W.typeIn K (.ref D) = some (.type "type")) (h5 : PySem.W.subIn K (.ref D) (.type "BaseException") = some true) :
    PySem.W.exmOne K (.ref C) (.ref D) = some b ∧ PySem.W.kitOne K (.ref C) (.ref D) = some b := by
  have h3' : (PySem.W.clsIn K D).isSome = true := h3
  have kc : PySem.W.kitCls K (.ref C) (.ref D) = some b := by
    unfold PySem.W.kitCls
    dsimp only
    rw [h3', h4, h1]
    rfl
  refine ⟨?_, ?_⟩
  · unfold PySem.W.exmOne
    rw [h5, kc]
    rfl
  · unfold PySem.W.kitOne
    rw [kc]
    split
    · rename_i e
      have e' : (Value.ref C) = .ref D := by simpa using e
      cases e'
      rw [h1] at h2
      rw [h2]
    · rfl
theorem kit_ty {K : PySem.W.Frag} {C : Addr} {t : String} {b : Bool} (h1 : PySem.W.subIn K (.ref C) (.type t) = some b) (h3 : PySem.W.kitMeta t = true) (h5 : PySem.W.subIn K (.type t) (.type "BaseException") = some true) :
    PySem.W.exmOne K (.ref C) (.type t) = some b ∧ PySem.W.kitOne K (.ref C) (.type t) = some b := by
  have kc : PySem.W.kitCls K (.ref C) (.type t) = some b := by
    unfold PySem.W.kitCls
    dsimp only
    rw [h3, h1]
    rfl
  refine ⟨?_, ?_⟩
  · unfold PySem.W.exmOne
    rw [h5, kc]
    rfl
  · unfold PySem.W.kitOne
    rw [kc]
    rfl
end G

/-! Layer G, part 9b: the facts of the classes of errors. -/
namespace G
open PySem L2 PySem.Spec PyProof.Rows
section
variable {P : Program} {K : PySem.W.Frag} {h : Heap} {mg : Str → Option Value} {C S fI cc cda N N' : Addr} {c par : Str}
    {nm q nm' q' : Str} {bs bm bs' : List Value} {sn sn' : List Str} {sub sub' : List Value} {ab ab' : Bool} {col col' : Option Bool} {dd dd' : Option Addr} {k0 k1 k2 k3 k5 j0 j1 j2 j3 j5 : Option Value}
    {oc kV doc pm ct : Value} {od an : Option Addr} {osl : Array (Option Value)} {qual : Str} {params : Arguments} {body : List Stmt} {scope : Scope}
    {cl ccl : Value} {cld cdd : Option Addr} {csl ccs : Array (Option Value)} {vs : Array Value} {fl : Str} {tf : Nat}
theorem exC_mk (X : K.In h) (g : h.Ns mainGlobals mg) (aC : PySem.W.nsIn K mainGlobals c = some (some (.ref C)))
    (xC : K.lookup C = some (excClassObj nm q C N bs (.ref S :: bm) true sn sub ab col dd k0 k1 k2 k3 k5 "ValueError.__new__")) (xS : K.lookup S = some (excClassObj nm' q' S N' bs' bm true sn' sub' ab' col' dd' j0 j1 j2 j3 j5 "ValueError.__new__"))
    (sa : PySem.W.findIn K (.ref C) "__setattr__" = some (some (.builtin "object.__setattr__"))) (e1 : PySem.W.subIn K (.ref C) (.type "BaseException") = some true) (e2 : PySem.W.subIn K (.ref C) (.type "ValueError") = some true) (e3 : PySem.W.typeIn K (.ref C) = some (.type "type"))
    (kC : PySem.W.keepIn K (.ref C) = true) (ini : PySem.W.findIn K (.ref C) "__init__" = some (some (.ref fI))) (tyI : PySem.W.typeIn K (.ref fI) = some (.type "function"))
    (lI : K.lookup fI = some ⟨oc, od, .func (PySem.W.ksFn "__init__" qual params body scope .none kV doc pm an (.ref cda) ct cc), osl⟩) (cI : PySem.W.codeIn K (.ref cda) qual = true) (lc : K.lookup cda = some ⟨ccl, cdd, .fields vs, ccs⟩) (v2 : vs[2]? = some (.str fl tf))
    (lcc : K.lookup cc = some ⟨cl, cld, .cell (some (.ref C)), csl⟩) (mro : PySem.W.mroIn K C (.ref C) = some true) (sup : PySem.W.findIn K (.ref S) "__init__" = some (some (.builtin "ValueError.__init__"))) (nosup : PySem.W.nsIn K mainGlobals "super" = some none)
    (cst : PySem.W.nsIn K cStatics "thirdparty.any" = some none) (nof : PySem.W.findIn K (.ref C) (if c = "Undefined" then "what" else "value") = some none)
    (ib : IniBody par (if c = "Undefined" then "what" else "value") body) (hf : ((P.main.file : Str) == fl) = true) (notop : (P.main.scope.names.lookup ("super" : Str)).isSome = false) (nd : (c == ("__debug__" : Str)) = false)
    (bi : ∀ us : List Value, us.length = 2 → bindArgs (PySem.W.ksFn "__init__" qual params body scope .none kV doc pm an (.ref cda) ct cc) ⟨us, []⟩ = pure ((["self", par] : List Str).zip us))
    (p1 : (params.posonlyargs ++ params.args).head?.map (·.arg) = some "self") (s1 : scope.kind = .function) (s2 : scope.isCoroutine = false) (s3 : scope.isGenerator = false) (s4 : (scope.names.all fun x => !(x.2 == .cell)) = true)
    (n1 : scope.names.lookup ("super" : Str) = some .globalImplicit) (n2 : scope.names.lookup ("__class__" : Str) = some .free) (n3 : scope.names.lookup ("self" : Str) = some .local) (n4 : scope.names.lookup par = some .local) (pd : (par == ("__debug__" : Str)) = false ∧ ("self" : Str) ≠ par)
    (rv : PySem.HandSPX.refsVE bm = true) :
    ∃ C fI cc cda par, mg c = some (.ref C) ∧ (c == ("__debug__" : Str)) = false ∧ ExC P K mg C fI cc cda par (if c = "Undefined" then "what" else "value") := by
  refine ⟨C, fI, cc, cda, par, PySem.W.mg_of X g aC, nd, ⟨⟨nm, q, N, bs, .ref S :: bm, sn, sub, ab, col, dd, k0, k1, k2, k3, k5, xC, rv⟩, sa, e1, e2, e3, kC, ini, tyI, ?_, ⟨_, _, _, lcc⟩, mro, ?_, PySem.W.mg_none_of X g nosup, notop, cst, nof, pd, trivial⟩⟩
  · refine ⟨oc, od, qual, params, body, scope, kV, doc, pm, an, ct, osl, ccl, cdd, vs, ccs, fl, tf, lI, cI, ib, lc, v2, hf, bi, p1, s1, s2, s3, ?_, n1, n2, n3, n4⟩
    intro x hx e
    have := List.all_eq_true.mp s4 x hx
    rw [e] at this
    cases this
  · exact superIn_of xC xS sup
theorem xok_mk {l hs : List Str} (X : K.In h) (g : h.Ns mainGlobals mg) (aC : PySem.W.nsIn K mainGlobals c = some (some (.ref C))) (xC : PySem.W.isClsIn K C = true)
    (ga : PySem.W.findIn K (.ref C) "__getattribute__" = some (some (.builtin "BaseException.__getattribute__"))) (gg : PySem.W.findIn K (.ref C) "__getattr__" = some none) (e1 : PySem.W.subIn K (.ref C) (.type "BaseException") = some true) (hd : PySem.W.hasDictIn K C = true)
    (ca : PySem.W.findIn K (.ref C) "__class__" = some (some (.builtin "object.__class__"))) (sp : PySem.W.specialIn K (.builtin "object.__class__") "__get__" = some (some (.builtin "getset_descriptor.__get__"))) (tk : PySem.W.takesIn K (.builtin "object.__class__") = some true)
    (mo : PySem.W.mroIn K C (.type "object") = some true) (nv : PySem.W.findIn K (.ref C) "value" = some none) (nw : PySem.W.findIn K (.ref C) "what" = some none)
    (hh : ∀ c ∈ hs, ∃ cv, HName mg c cv ∧ PySem.W.exmOne K (.ref C) cv = some (l.contains c) ∧ PySem.W.kitOne K (.ref C) cv = some (l.contains c)) :
    ∃ C, mg c = some (.ref C) ∧ XOk K mg C l hs := ⟨C, PySem.W.mg_of X g aC, ⟨xC, ga, gg, e1, hd, ca, sp, tk, mo, nv, nw, hh⟩⟩
theorem hh_nil {l : List Str} : ∀ c ∈ ([] : List Str), ∃ cv, HName mg c cv ∧ PySem.W.exmOne K (.ref C) cv = some (l.contains c) ∧ PySem.W.kitOne K (.ref C) cv = some (l.contains c) := fun _ h => by cases h
/-- one of the classes that clauses name -/
theorem hh_own {l hs : List Str} {d : Str} {D : Addr} {b : Bool} (X : K.In h) (g : h.Ns mainGlobals mg) (aD : PySem.W.nsIn K mainGlobals d = some (some (.ref D))) (h1 : PySem.W.subIn K (.ref C) (.ref D) = some b) (h2 : PySem.W.subIn K (.ref D) (.ref D) = some true) (h3 : PySem.W.isClsIn K D = true)
    (h4 : PySem.W.typeIn K (.ref D) = some (.type "type")) (h5 : PySem.W.subIn K (.ref D) (.type "BaseException") = some true) (nd : (d == ("__debug__" : Str)) = false) (hb : l.contains d = b)
    (t : ∀ c ∈ hs, ∃ cv, HName mg c cv ∧ PySem.W.exmOne K (.ref C) cv = some (l.contains c) ∧ PySem.W.kitOne K (.ref C) cv = some (l.contains c)) :
    ∀ c ∈ d :: hs, ∃ cv, HName mg c cv ∧ PySem.W.exmOne K (.ref C) cv = some (l.contains c) ∧ PySem.W.kitOne K (.ref C) cv = some (l.contains c) := fun c hc => by
  rcases List.mem_cons.mp hc with rfl | hc
  · rw [hb]
    exact ⟨.ref D, ⟨nd, .inl ⟨PySem.W.mg_of X g aD, D, rfl⟩⟩, kit_own h1 h2 h3 h4 h5⟩
  · exact t c hc
theorem hh_ty {l hs : List Str} {d : Str} {T : String} {b : Bool} (X : K.In h) (g : h.Ns mainGlobals mg) (aD : PySem.W.nsIn K mainGlobals d = some none) (h0 : bootBuiltins d = some (.type T)) (h1 : PySem.W.subIn K (.ref C) (.type T) = some b) (h3 : PySem.W.kitMeta T = true) (h5 : PySem.W.subIn K (.type T) (.type "BaseException") = some true)
    (nd : (d == ("__debug__" : Str)) = false) (nn : d ≠ "__name__") (hb : l.contains d = b)
    (t : ∀ c ∈ hs, ∃ cv, HName mg c cv ∧ PySem.W.exmOne K (.ref C) cv = some (l.contains c) ∧ PySem.W.kitOne K (.ref C) cv = some (l.contains c)) :
    ∀ c ∈ d :: hs, ∃ cv, HName mg c cv ∧ PySem.W.exmOne K (.ref C) cv = some (l.contains c) ∧ PySem.W.kitOne K (.ref C) cv = some (l.contains c) := fun c hc => by
  rcases List.mem_cons.mp hc with rfl | hc
  · rw [hb]
    exact ⟨.type T, ⟨nd, .inr ⟨PySem.W.mg_none_of X g aD, h0, nn, T, rfl⟩⟩, kit_ty h1 h3 h5⟩
  · exact t c hc
/-- all classes of the table -/
def MroF (tab : List (Str × List Str)) : Str → Option (List Str) := fun c => tab.lookup c
theorem pf_mk {tab : List (Str × List Str)} {cs hs : List Str} (X : K.In h) (g : h.Ns mainGlobals mg) (bt : ∀ x ∈ bnames, mg x = none)
    (hcs : ∀ c ∈ cs, ∃ C fI cc cda par, mg c = some (.ref C) ∧ (c == ("__debug__" : Str)) = false ∧ ExC P K mg C fI cc cda par (if c = "Undefined" then "what" else "value"))
    (hx : ∀ p ∈ tab, ∃ C, mg p.1 = some (.ref C) ∧ XOk K mg C p.2 hs) (hn : tab ≠ [] ∨ hs = []) : PF P K mg (MroF tab) cs hs := by
  have key : ∀ c l, MroF tab c = some l → ∃ C, mg c = some (.ref C) ∧ XOk K mg C l hs := fun c l e => by
    have : (c, l) ∈ tab := by
      unfold MroF at e
      clear hx hn
      induction tab with
      | nil => cases e
      | cons p r ih =>
        obtain ⟨a, b⟩ := p
        rw [List.lookup_cons] at e
        split at e
        · rename_i z
          cases e
          rw [beq_iff_eq] at z
          rw [z]
          exact List.mem_cons_self
        · exact List.mem_cons_of_mem _ (ih e)
    exact hx _ this
  refine ⟨bt, hcs, fun c l C e m => ?_, fun c l e => ?_, fun c hc => ?_⟩
  · obtain ⟨C', m', x⟩ := key c l e
    rw [m] at m'
    cases m'
    exact x
  · obtain ⟨C, m, _⟩ := key c l e
    exact ⟨C, m⟩
  · rcases hn with hn | hn
    · obtain ⟨p, r, rfl⟩ := List.exists_cons_of_ne_nil hn
      obtain ⟨C, _, x⟩ := hx p List.mem_cons_self
      obtain ⟨cv, q, _⟩ := x.hs c hc
      exact ⟨cv, q⟩
    · subst hn
      cases hc
/-- the built-in names that are not written at the top -/
theorem bt_mk (X : K.In h) (g : h.Ns mainGlobals mg) (e : ∀ x ∈ bnames, PySem.W.nsIn K mainGlobals x = some none) : ∀ x ∈ bnames, mg x = none := fun x hx => PySem.W.mg_none_of X g (e x hx)
end
end G

/-! Layer G, part 9c: specs of defs. -/
namespace G
open PySem L2 PySem.Spec PyProof.Rows
/-- a def that tells r, or raises it, and leaves all as it was -/
def Fn (pre : List S → Mem → (Xc ⊕ S) → Prop) : FSpec := fun vs M Q E => ∃ r, pre vs M r ∧ (match r with
  | .inl x => E x M
  | .inr v => Q v M)
theorem Fn_mo {pre} : ∀ vs, Mono (Fn pre vs) := fun vs M Q Q' X X' hq hx ⟨r, h, q⟩ => by
  refine ⟨r, h, ?_⟩
  cases r with
  | inl x => exact hx _ _ q
  | inr v => exact hq _ _ q
end G
namespace G
open PySem L2
section
variable {M l : Mem} {v : S} {x : PD} {Q : S → Mem → Prop} {k : Nat} {ds : List PD}
theorem ret_here (h : Q v M) : ∃ r M2, Ex M M v r M2 ∧ Q r M2 := ⟨v, M, .inl ⟨rfl, rfl⟩, h⟩
theorem ret_data (h : Q (.d x) M) : ∃ r M2, Ex M (M ++ l) (.d x) r M2 ∧ Q r M2 := ⟨_, _, Ex.drop trivial, h⟩
theorem ret_frz (e : l[k]? = some (.lst (ds.map .d))) (h : Q (.d (.list ds)) M) : ∃ r M2, Ex M (M ++ l) (.l (M.length + k)) r M2 ∧ Q r M2 := ⟨_, _, Ex.frz e, h⟩
theorem ret_frz0 {t : Mem} (h : Q (.d (.list ds)) M) : ∃ r M2, Ex M (M ++ .lst (ds.map .d) :: t) (.l M.length) r M2 ∧ Q r M2 := ret_frz (k := 0) rfl h
end
theorem mapM_d {M : Mem} {x : PD} : ∀ ts : List String, ts.mapM (fun t => isTyS M t (.d x)) = some (ts.map fun t => isTy t x)
  | [] => rfl
  | t :: ts => by
    rw [List.mapM_cons, mapM_d ts]
    rfl
def isIntD : PD → Bool
  | .int _ => true
  | _ => false
def isNumD : PD → Bool
  | .int i => decide (0 ≤ i)
  | _ => false
/-- a loop by an invariant at each item's place -/
theorem wFor_inv {tg : Itm → Sto → (Sto → Prop) → Prop} {ok : Mem → Prop} {body : Sto → Mem → Outs → Prop} {O : Outs} (Inv : List Itm → Sto → Mem → Prop) (items : List Itm) {ρ : Sto} {M : Mem}
    (h0 : Inv items ρ M) (hok : ∀ l ρ M, Inv l ρ M → ok M) (hend : ∀ ρ M, Inv [] ρ M → O.nx ρ M)
    (hs : ∀ x xs ρ M, Inv (x :: xs) ρ M → tg x ρ fun ρ1 => body ρ1 M { O with nx := fun ρ2 M2 => Inv xs ρ2 M2, ct := fun ρ2 M2 => Inv xs ρ2 M2, bk := O.nx })
    (mt : ∀ x ρ (Q Q' : Sto → Prop), (∀ ρ, Q ρ → Q' ρ) → tg x ρ Q → tg x ρ Q') (mb : ∀ ρ M O O', Outs.Le O O' → body ρ M O → body ρ M O') : wFor tg ok body items ρ M O := by
  induction items generalizing ρ M with
  | nil =>
    simp only [wFor]
    exact ⟨hok _ _ _ h0, hend _ _ h0⟩
  | cons x xs ih =>
    simp only [wFor]
    refine ⟨hok _ _ _ h0, mt _ _ _ _ (fun ρ1 q => mb _ _ _ _ ?_ q) (hs _ _ _ _ h0)⟩
    exact ⟨fun ρ2 M2 q => ih q, fun _ _ q => q, fun _ _ q => q, fun ρ2 M2 q => ih q, fun _ _ _ q => q⟩
end G

/-! Layer G, part 9d: more equations for walks. -/
namespace G
open PySem L2
section
variable {M : Mem} {Q : S → Mem → Prop} {i j : Int} {b : Bool} {xs ys : List PD} {k : Nat} {x y : S} {s t : Str} {lo hi : Option Int} {a c : PD}
theorem b_int : wB1 .int (.d (.int i)) M Q = Q (I i) M := rfl
theorem b_intb : wB1 .int (.d (.bool b)) M Q = Q (I (if b then 1 else 0)) M := rfl
theorem b_bool : wB1 .bool (.d (.int i)) M Q = Q (B (i != 0)) M := rfl
theorem b_boolb : wB1 .bool (.d (.bool b)) M Q = Q (B b) M := rfl
theorem b_lent : wB1 .len (.d (.tuple xs)) M Q = Q (I xs.length) M := by
  simp [wB1, items]
theorem b_lenl : wB1 .len (.d (.list xs)) M Q = Q (I xs.length) M := by
  simp [wB1, items]
theorem b_lenm : wB1 .len (.l k) M Q = ∃ xs, M[k]? = some (.lst xs) ∧ Q (I xs.length) M := by
  unfold wB1 items
  dsimp only
  cases e : M[k]? with
  | none => simp
  | some o => cases o <;> simp
theorem b_tupt : wB1 .tuple (.d (.tuple xs)) M Q = Q (.d (.tuple xs)) M := rfl
theorem b_tupl : wB1 .tuple (.d (.list xs)) M Q = Q (.d (.tuple xs)) M := rfl
theorem b_tupm : wB1 .tuple (.l k) M Q = ∃ xs : List PD, M[k]? = some (.lst (xs.map .d)) ∧ Q (.d (.tuple xs)) M := rfl
theorem b_str : wB1 .str (.d (.int i)) M Q = (i.natAbs.log2 < 1920 ∧ Q (.d (.str (toString i))) M) := rfl
theorem b_repr : wB1 .repr x M Q = ∃ a, pd M x = some a ∧ ((a.hasDict = false ∨ a = .dict []) ∧ a.showable = true ∧ a.shown.length ≤ sizeLine ∧ a.depth ≤ 60) ∧ Q (.d (.str a.shown)) M := rfl
theorem b_abs : wB1 .abs (.d (.int i)) M Q = Q (I (if i < 0 then -i else i)) M := rfl
theorem b_sum : wB1 .sum x M Q = ∃ ns : List Int, items M x = some (ns.map I) ∧ Q (I ns.sum) M := rfl
theorem b_all : wB1 .all x M Q = ∃ bs : List Bool, items M x = some (bs.map B) ∧ Q (B (bs.all id)) M := rfl
theorem b_any : wB1 .any x M Q = ∃ bs : List Bool, items M x = some (bs.map B) ∧ Q (B (bs.any id)) M := rfl
theorem b_max : wB2 .max (.d (.int i)) (.d (.int j)) M Q = Q (I (if j > i then j else i)) M := rfl
theorem b_min : wB2 .min (.d (.int i)) (.d (.int j)) M Q = Q (I (if j < i then j else i)) M := rfl
theorem ix_t : wIx (.d (.tuple xs)) (.d (.int i)) M Q = ∃ v, atI xs i = some v ∧ Q (.d v) M := rfl
theorem ix_l : wIx (.d (.list xs)) (.d (.int i)) M Q = ∃ v, atI xs i = some v ∧ Q (.d v) M := rfl
theorem ix_m : wIx (.l k) (.d (.int i)) M Q = ∃ xs v, M[k]? = some (.lst xs) ∧ atI xs i = some v ∧ Q v M := rfl
theorem sl_t : wSl (.d (.tuple xs)) lo hi M Q = Q (.d (.tuple (cut xs lo hi))) M := rfl
theorem sl_l : wSl (.d (.list xs)) lo hi M Q = Q (.d (.list (cut xs lo hi))) M := rfl
theorem sl_m : wSl (.l k) lo hi M Q = ∃ xs : List PD, M[k]? = some (.lst (xs.map .d)) ∧ Q (.d (.list (cut xs lo hi))) M := rfl
theorem ty_d {t : String} : isTyS M t (.d a) = some (isTy t a) := rfl
theorem it_t : items M (.d (.tuple xs)) = some (xs.map S.d) := rfl
theorem it_l : items M (.d (.list xs)) = some (xs.map S.d) := rfl
theorem pd_d : pd M (.d a) = some a := rfl
theorem c_eq : wCmp .Eq (.d a) (.d c) M Q = (okD a = true ∧ okD c = true ∧ Q (B (PyData.eqv a c)) M) := rfl
theorem c_ne : wCmp .NotEq (.d a) (.d c) M Q = (okD a = true ∧ okD c = true ∧ Q (B (!PyData.eqv a c)) M) := rfl
theorem c_eqb {b' : Bool} : wCmp .Eq (.d (.bool b)) (.d (.bool b')) M Q = Q (B (b == b')) M := by
  have h : ∀ b : Bool, okD (.bool b) = true := fun b => by cases b <;> rfl
  have e : PyData.eqv (.bool b) (.bool b') = (b == b') := by cases b <;> cases b' <;> rfl
  simp [wCmp, pd, wEq, h, e]
theorem c_neb {b' : Bool} : wCmp .NotEq (.d (.bool b)) (.d (.bool b')) M Q = Q (B (!(b == b'))) M := by
  have h : ∀ b : Bool, okD (.bool b) = true := fun b => by cases b <;> rfl
  have e : PyData.eqv (.bool b) (.bool b') = (b == b') := by cases b <;> cases b' <;> rfl
  simp [wCmp, pd, wEq, h, e]
theorem c_isN : wCmp .Is (.d .none) (.d .none) M Q = Q (B true) M := rfl
theorem c_isnN : wCmp .IsNot (.d .none) (.d .none) M Q = Q (B false) M := rfl
theorem isx_eq {mro : Str → Option (List Str)} {cs : List Str} {a dd : Nat} {c f : Str} {v : S} : wIsX mro cs (.e a dd c f v) M Q = ∃ l, mro c = some l ∧ Q (B (cs.any fun c => l.contains c)) M := rfl
theorem xval_eq {f : Str} {a dd : Nat} {c g : Str} {v : S} : wXval f (.e a dd c g v) M Q = (g = f ∧ Q v M) := rfl
end
end G
namespace G
theorem mul_l {i j : Int} (h : -(2 ^ 64) < i ∧ i < 2 ^ 64) : MulOk i j := .inl (.inl h)
theorem mul_r {i j : Int} (h : -(2 ^ 64) < j ∧ j < 2 ^ 64) : MulOk i j := .inl (.inr h)
theorem div_ok {j : Int} (h : 0 < j ∧ j < 1073741824) : DivOk j := ⟨h.1, .inl h.2⟩
end G

/-! Layer G, part 9e: loops by an invariant at each turn's number. -/
namespace G
open PySem L2
section
variable {M : Mem} {Q : S → Mem → Prop} {i j : Int} {ρ : Sto} {t : Tg} {ok : Mem → Prop} {body : Sto → Mem → Outs → Prop} {O : Outs}
theorem d_nil {Q : List S → Mem → Prop} : wDisp [] M Q = Q [] M := by
  unfold wDisp
  exact propext ⟨fun h => h.2, fun h => ⟨Nat.zero_le _, h⟩⟩
theorem d_eq {Q : List S → Mem → Prop} {x : S} {xs : List S} : wDisp (x :: xs) M Q = ((x :: xs).length ≤ sizeLine ∧ Q (x :: xs) M) := rfl
theorem rng_1 {Q : List Itm × (Mem → Prop) → Mem → Prop} : wRng [.d (.int i)] M Q = (rngOk 0 i ∧ Q (rngItems 0 i, fun _ => True) M) := rfl
theorem rng_2 {Q : List Itm × (Mem → Prop) → Mem → Prop} : wRng [.d (.int i), .d (.int j)] M Q = (rngOk i j ∧ Q (rngItems i j, fun _ => True) M) := rfl
/-- what a turn wants of its body -/
def GTurn (O : Outs) (I : Sto → Mem → Prop) : Outs := { O with nx := I, ct := I, bk := O.nx }
theorem turn_nx {I : Sto → Mem → Prop} : (GTurn O I).nx = I := rfl
theorem turn_ct {I : Sto → Mem → Prop} : (GTurn O I).ct = I := rfl
theorem turn_bk {I : Sto → Mem → Prop} : (GTurn O I).bk = O.nx := rfl
theorem turn_rt {I : Sto → Mem → Prop} : (GTurn O I).rt = O.rt := rfl
theorem turn_ex {I : Sto → Mem → Prop} : (GTurn O I).ex = O.ex := rfl
theorem ty_m {xs : List S} {t : Mem} : isTyS (M ++ .lst xs :: t) "list" (.l M.length) = some true := by
  unfold isTyS
  simp
theorem for_ix {items : List Itm} (mb : MonoS body) (P : Nat → Sto → Mem → Prop) (h0 : P 0 ρ M) (hok : ∀ i ρ M, P i ρ M → ok M) (hend : ∀ ρ M, P items.length ρ M → O.nx ρ M)
    (hs : ∀ i x ρ M, items[i]? = some x → P i ρ M → wTg t x ρ fun ρ1 => body ρ1 M (GTurn O (P (i + 1)))) : wFor (wTg t) ok body items ρ M O := by
  suffices h : ∀ (n i : Nat) (ρ : Sto) (M : Mem), i + n = items.length → P i ρ M → wFor (wTg t) ok body (items.drop i) ρ M O by
    have := h items.length 0 ρ M (by omega) h0
    rwa [List.drop_zero] at this
  intro n
  induction n with
  | zero =>
    intro i ρ M e p
    have : items.drop i = [] := List.drop_eq_nil_of_le (by omega)
    rw [this]
    simp only [wFor]
    refine ⟨hok _ _ _ p, hend _ _ ?_⟩
    have : i = items.length := by omega
    rwa [this] at p
  | succ n ih =>
    intro i ρ M e p
    have hi : i < items.length := by omega
    rw [List.drop_eq_getElem_cons hi]
    simp only [wFor]
    refine ⟨hok _ _ _ p, wTg_mo _ _ _ _ _ (fun ρ1 q => mb _ _ _ _ ?_ q) (hs i _ ρ M (List.getElem?_eq_getElem hi) p)⟩
    exact ⟨fun ρ2 M2 q => ih _ _ _ (by omega) q, fun _ _ q => q, fun _ _ q => q, fun ρ2 M2 q => ih _ _ _ (by omega) q, fun _ _ _ q => q⟩
theorem rngItems_length {lo hi : Int} : (rngItems lo hi).length = (hi - lo).toNat := by simp [rngItems]
theorem rngItems_get {lo hi : Int} {k : Nat} {x : Itm} (h : (rngItems lo hi)[k]? = some x) : k < (hi - lo).toNat ∧ x = .one (I (lo + (k : Nat))) := by
  unfold rngItems at h
  rw [List.getElem?_map] at h
  cases e : (List.range (hi - lo).toNat)[k]? with
  | none => rw [e] at h; cases h
  | some v =>
    rw [e] at h
    cases h
    obtain ⟨h1, h2⟩ := List.getElem?_eq_some_iff.mp e
    rw [List.length_range] at h1
    rw [List.getElem_range] at h2
    subst h2
    exact ⟨h1, rfl⟩
/-- for i in range(lo, hi) -/
theorem for_rng {s : Nat} {lo hi : Int} (n : Nat) (hn : (hi - lo).toNat = n) (mb : MonoS body) (P : Nat → Sto → Mem → Prop) (h0 : P 0 ρ M) (hend : ∀ ρ M, P n ρ M → O.nx ρ M)
    (hs : ∀ i ρ M, i < n → P i ρ M → body (ρ.set s (some (.d (.int (lo + (i : Nat)))))) M (GTurn O (P (i + 1)))) : wFor (wTg (.nm s)) (fun _ => True) body (rngItems lo hi) ρ M O := by
  refine for_ix mb P h0 (fun _ _ _ _ => trivial) (by rw [rngItems_length, hn]; exact hend) fun i x ρ M e p => ?_
  obtain ⟨h1, rfl⟩ := rngItems_get e
  rw [hn] at h1
  simp only [wTg]
  exact hs i ρ M h1 p
/-- for x in data -/
theorem for_dat {s : Nat} {xs : List PD} {ok : Mem → Prop} (hok : ∀ M, ok M) (mb : MonoS body) (P : Nat → Sto → Mem → Prop) (h0 : P 0 ρ M) (hend : ∀ ρ M, P xs.length ρ M → O.nx ρ M)
    (hs : ∀ i x ρ M, xs[i]? = some x → P i ρ M → body (ρ.set s (some (.d x))) M (GTurn O (P (i + 1)))) : wFor (wTg (.nm s)) ok body ((xs.map S.d).map Itm.one) ρ M O := by
  refine for_ix mb P h0 (fun _ _ _ _ => hok _) (by simpa using hend) fun i x ρ M e p => ?_
  rw [List.getElem?_map, List.getElem?_map] at e
  cases e2 : xs[i]? with
  | none => rw [e2] at e; cases e
  | some v =>
    rw [e2] at e
    cases e
    simp only [wTg]
    exact hs i v ρ M e2 p
end
end G
namespace G
theorem mapM_s {f : String → Bool} : ∀ ts : List String, ts.mapM (fun t => some (f t)) = some (ts.map f)
  | [] => rfl
  | t :: ts => by
    rw [List.mapM_cons, mapM_s ts]
    rfl
/-- a comprehension that leaves all as it is -/
theorem lc_gen {α : Type} {tg : Itm → (Sto → Prop) → Prop} {ok : Mem → Prop} {cond : Sto → Comp Bool} {e : Sto → Comp S} {it : α → Itm} {st : α → Sto} {p : α → Bool} {f : α → S} {M : Mem} {Q : List S → Mem → Prop} {E : Xc → Mem → Prop} (hok : ok M) : ∀ (ys : List α)
    (ht : ∀ y ∈ ys, ∀ K : Sto → Prop, K (st y) → tg (it y) K) (hc : ∀ y ∈ ys, ∀ Q : Bool → Mem → Prop, Q (p y) M → cond (st y) M Q E) (he : ∀ y ∈ ys, p y = true → ∀ Q : S → Mem → Prop, Q (f y) M → e (st y) M Q E) {acc : List S}
    (q : Q (acc ++ (ys.filter p).map f) M), wLc tg ok cond e (ys.map it) acc M Q E
  | [], _, _, _, acc, q => by
    simp only [List.map_nil, wLc]
    exact ⟨hok, by simpa using q⟩
  | y :: ys, ht, hc, he, acc, q => by
    simp only [List.map_cons, wLc]
    refine ⟨hok, ht y List.mem_cons_self _ (hc y List.mem_cons_self _ ?_)⟩
    have ih := fun (acc : List S) (q : Q (acc ++ (ys.filter p).map f) M) => lc_gen (acc := acc) (Q := Q) hok ys (fun z hz => ht z (List.mem_cons_of_mem _ hz)) (fun z hz => hc z (List.mem_cons_of_mem _ hz)) (fun z hz => he z (List.mem_cons_of_mem _ hz)) q
    cases h : p y with
    | true =>
      rw [if_pos rfl]
      refine he y List.mem_cons_self h _ (ih _ ?_)
      rw [List.filter_cons_of_pos h] at q
      simpa using q
    | false =>
      rw [if_neg (by simp)]
      refine ih _ ?_
      rw [List.filter_cons_of_neg (by simp [h])] at q
      exact q
/-- [e for x in data] -/
theorem lc_dat {s : Nat} {xs : List PD} {ok : Mem → Prop} {e : Sto → Comp S} {f : PD → S} {M : Mem} {ρ : Sto} {Q : List S → Mem → Prop} {E : Xc → Mem → Prop} (hok : ok M) (he : ∀ x ∈ xs, ∀ Q : S → Mem → Prop, Q (f x) M → e (ρ.set s (some (.d x))) M Q E) (q : Q (xs.map f) M) :
    wLc (tgAt (.nm s) ρ) ok (fun _ M Q _ => Q true M) e ((xs.map S.d).map Itm.one) [] M Q E := by
  have := lc_gen (α := PD) (tg := tgAt (.nm s) ρ) (ok := ok) (cond := fun _ M Q _ => Q true M) (e := e) (it := fun x => .one (.d x)) (st := fun x => ρ.set s (some (.d x))) (p := fun _ => true) (f := f) (M := M) (Q := Q) (E := E) hok xs
    (fun y _ K k => by simp only [tgAt, wTg]; exact k) (fun _ _ _ q => q) (fun y hy _ Q q => he y hy Q q) (acc := []) (by rw [List.filter_eq_self.mpr (fun _ _ => rfl)]; simpa using q)
  rwa [List.map_map]
end G
namespace G
open L2
section
variable {α : Type} {a b c : α} {xs : List α}
theorem at_0 : atI (a :: xs) 0 = some a := by
  unfold atI
  have : ixN (a :: xs).length 0 = some 0 := by
    unfold ixN
    rw [if_pos (by omega), if_pos (by simp)]
    rfl
  rw [this]
  rfl
theorem at_1 : atI (a :: b :: xs) 1 = some b := by
  unfold atI
  have : ixN (a :: b :: xs).length 1 = some 1 := by
    unfold ixN
    rw [if_pos (by omega), if_pos (by simp; omega)]
    rfl
  rw [this]
  rfl
end
end G

/-! Layer G, part 9f: what may be shown and compared. -/
namespace G
open PySem L2 PySem.PyData PySem.W PyProof.Rows
/-- data without dicts, its ints short, of some weight and depth -/
structure Rp (x : PD) (w d : Nat) : Prop where
  nd : x.hasDict = false
  pl : x.plain = true
  sh : x.showable = true
  ls : x.leavesShort 13 = true
  wt : x.weight ≤ w
  dp : x.depth ≤ d
theorem Rp.mo {x : PD} {w d w' d' : Nat} (h : Rp x w d) (hw : w ≤ w') (hd : d ≤ d') : Rp x w' d' := ⟨h.nd, h.pl, h.sh, h.ls, Nat.le_trans h.wt hw, Nat.le_trans h.dp hd⟩
theorem log12 {n : Nat} (h : n < 1000000000000) : n.log2 < 40 := by
  by_cases z : n = 0
  · subst z
    decide
  · rw [Nat.log2_lt z]
    have : (2 : Nat) ^ 40 = 1099511627776 := by decide
    omega
theorem Rp.int {i : Int} {d : Nat} (h : i.natAbs < 1000000000000) : Rp (.int i) 41 d := by
  have hl := log12 h
  refine ⟨rfl, rfl, ?_, ?_, ?_, Nat.zero_le _⟩
  · simp only [showable, decide_eq_true_eq]
    omega
  · have := shown_int_le (i := i) (by have : (10 : Nat) ^ 12 = 1000000000000 := by decide
                                      omega)
    simp only [leavesShort, decide_eq_true_eq]
    exact this
  · simp only [weight]
    split <;> omega
theorem Rp.none {d : Nat} : Rp .none 0 d := ⟨rfl, rfl, rfl, rfl, Nat.le_refl _, Nat.zero_le _⟩
theorem Rp.bool {b : Bool} {d : Nat} : Rp (.bool b) 0 d := ⟨rfl, rfl, rfl, rfl, Nat.le_refl _, Nat.zero_le _⟩
theorem Rp.str {x : Str} {w d : Nat} (h : PyData.canLay0 (.str x) = true) (hl : x.cps.size ≤ w) : Rp (.str x) w d := ⟨rfl, rfl, rfl, leavesShort_of_canLay0 13 (.str x) h rfl, hl, Nat.zero_le _⟩
theorem mem_cut {α : Type} {xs : List α} {lo hi : Option Int} {x : α} (h : x ∈ cut xs lo hi) : x ∈ xs := List.mem_of_mem_drop (List.mem_of_mem_take h)
theorem Rp.all {w d : Nat} : ∀ {xs : List PD}, (∀ x ∈ xs, Rp x w d) → hasDictAll xs = false ∧ plainAll xs = true ∧ showableAll xs = true ∧ leavesShortAll 13 xs = true ∧ weightAll xs ≤ xs.length * (w + 1) ∧ depthAll xs ≤ d
  | [], _ => ⟨rfl, rfl, rfl, rfl, by simp [weightAll], Nat.zero_le _⟩
  | x :: xs, h => by
    obtain ⟨a1, a2, a3, a4, a5, a6⟩ := Rp.all (xs := xs) fun y hy => h y (List.mem_cons_of_mem _ hy)
    obtain ⟨b1, b2, b3, b4, b5, b6⟩ := h x List.mem_cons_self
    refine ⟨by simp only [hasDictAll, a1, b1]; rfl, by simp only [plainAll, a2, b2]; rfl, by simp only [showableAll, a3, b3]; rfl, by simp only [leavesShortAll, a4, b4]; rfl, ?_, ?_⟩
    · simp only [weightAll, List.length_cons]
      have : (xs.length + 1) * (w + 1) = xs.length * (w + 1) + (w + 1) := by rw [Nat.add_mul, Nat.one_mul]
      omega
    · simp only [depthAll]
      omega
theorem Rp.tup {xs : List PD} {w d n : Nat} (h : ∀ x ∈ xs, Rp x w d) (hn : xs.length ≤ n) : Rp (.tuple xs) (n * (w + 1)) (d + 1) := by
  obtain ⟨a1, a2, a3, a4, a5, a6⟩ := Rp.all h
  exact ⟨by simp only [hasDict]; exact a1, by simp only [PyData.plain]; exact a2, by simp only [showable]; exact a3, by simp only [leavesShort]; exact a4, by simp only [weight]; exact Nat.le_trans a5 (Nat.mul_le_mul_right _ hn), by simp only [depth]; omega⟩
theorem Rp.lst {xs : List PD} {w d n : Nat} (h : ∀ x ∈ xs, Rp x w d) (hn : xs.length ≤ n) : Rp (.list xs) (n * (w + 1)) (d + 1) := by
  obtain ⟨a1, a2, a3, a4, a5, a6⟩ := Rp.all h
  exact ⟨by simp only [hasDict]; exact a1, by simp only [PyData.plain]; exact a2, by simp only [showable]; exact a3, by simp only [leavesShort]; exact a4, by simp only [weight]; exact Nat.le_trans a5 (Nat.mul_le_mul_right _ hn), by simp only [depth]; omega⟩
/-- it may be shown -/
def RpOk (x : PD) : Prop := (x.hasDict = false ∨ x = .dict []) ∧ x.showable = true ∧ x.shown.length ≤ sizeLine ∧ x.depth ≤ 60
theorem Rp.rep {x : PD} {w d : Nat} (h : Rp x w d) (hw : w ≤ 1048576) (hd : d ≤ 60) : RpOk x :=
  ⟨.inl h.nd, h.sh, shown_fits (B := 13) (by decide) (by decide) h.ls (Nat.le_trans h.wt (by have : (2 : Nat) ^ 20 = 1048576 := by decide
                                                                                             omega)), Nat.le_trans h.dp hd⟩
theorem Rp.okd {x : PD} {w d : Nat} (h : Rp x w d) (hd : d ≤ 60) : okD x = true := by
  unfold okD
  rw [h.pl, Bool.true_and, decide_eq_true_eq]
  exact Nat.le_trans h.dp hd
theorem RpOk.empty : RpOk (.dict []) := ⟨.inr rfl, rfl, by decide, by decide⟩
/-! ### pairs of ints -/
theorem okd_pair {a b : Int} : okD (.tuple [.int a, .int b]) = true := by simp [okD, PyData.plain, PyData.plainAll, depth, depthAll]
theorem alike_pair {a b c d : Int} : PySem.W.alike (.tuple [.int a, .int b]) (.tuple [.int c, .int d]) = true := by simp [PySem.W.alike, PySem.W.alikeAll]
theorem eqv_int {a b : Int} : PyData.eqv (.int a) (.int b) = decide (a = b) := by simp [PyData.eqv]; rfl
theorem lt_pair {a b c d : Int} : PySem.W.dataLt (.tuple [.int a, .int b]) (.tuple [.int c, .int d]) = decide (a < c ∨ a = c ∧ b < d) := by
  have hi : ∀ i j : Int, PySem.W.alike (.int i) (.int j) = true := fun _ _ => rfl
  have base : PyProof.Rows.lexLt itemOrd (PySem.W.keyToksAll []) (PySem.W.keyToksAll []) = false := by decide
  have one : PyProof.Rows.lexLt itemOrd (PySem.W.keyToksAll [.int b]) (PySem.W.keyToksAll [.int d]) = decide (b < d) := by
    by_cases e : b = d
    · subst e
      rw [PySem.W.dataLt_all_yes (hi _ _) (by rw [eqv_int]; simp), base]
      simp
    · rw [PySem.W.dataLt_all_no (hi _ _) (by rw [eqv_int]; simp [e]), PySem.W.dataLt_int]
  rw [PySem.W.dataLt_tuple]
  by_cases e : a = c
  · subst e
    rw [PySem.W.dataLt_all_yes (hi _ _) (by rw [eqv_int]; simp), one]
    simp
  · rw [PySem.W.dataLt_all_no (hi _ _) (by rw [eqv_int]; simp [e]), PySem.W.dataLt_int]
    simp [e]
end G

/-! Layer G, part 9g: still more equations for walks. -/
namespace G
open PySem L2
def lstOf : Option MO → Option (List S)
  | some (.lst xs) => some xs
  | _ => none
def tyOf (t : String) : Option MO → Option Bool
  | some (.lst _) => some (t == "list")
  | some (.dct _) => some (t == "dict")
  | none => none
section
variable {M : Mem} {Q : S → Mem → Prop} {i j : Int} {xs ys : List PD} {k : Nat} {x y : S} {a c : PD}
theorem c_inT : wCmp .In (.d a) (.d (.tuple ys)) M Q = ((okD a = true ∧ okD (.tuple ys) = true) ∧ Q (B (ys.any fun z => PyData.eqv z a)) M) := rfl
theorem c_inL : wCmp .In (.d a) (.d (.list ys)) M Q = ((okD a = true ∧ okD (.list ys) = true) ∧ Q (B (ys.any fun z => PyData.eqv z a)) M) := rfl
theorem c_ninT : wCmp .NotIn (.d a) (.d (.tuple ys)) M Q = ((okD a = true ∧ okD (.tuple ys) = true) ∧ Q (B (!ys.any fun z => PyData.eqv z a)) M) := rfl
theorem c_ninL : wCmp .NotIn (.d a) (.d (.list ys)) M Q = ((okD a = true ∧ okD (.list ys) = true) ∧ Q (B (!ys.any fun z => PyData.eqv z a)) M) := rfl
theorem c_ltT : wCmp .Lt (.d (.tuple xs)) (.d (.tuple ys)) M Q = ((okD (.tuple xs) = true ∧ okD (.tuple ys) = true ∧ PySem.W.alike (.tuple xs) (.tuple ys) = true) ∧ Q (B (PySem.W.dataLt (.tuple xs) (.tuple ys))) M) := rfl
theorem c_leT : wCmp .LtE (.d (.tuple xs)) (.d (.tuple ys)) M Q = ((okD (.tuple xs) = true ∧ okD (.tuple ys) = true ∧ PySem.W.alike (.tuple xs) (.tuple ys) = true) ∧ Q (B (!PySem.W.dataLt (.tuple ys) (.tuple xs))) M) := rfl
theorem c_gtT : wCmp .Gt (.d (.tuple xs)) (.d (.tuple ys)) M Q = ((okD (.tuple xs) = true ∧ okD (.tuple ys) = true ∧ PySem.W.alike (.tuple xs) (.tuple ys) = true) ∧ Q (B (PySem.W.dataLt (.tuple ys) (.tuple xs))) M) := rfl
theorem c_geT : wCmp .GtE (.d (.tuple xs)) (.d (.tuple ys)) M Q = ((okD (.tuple xs) = true ∧ okD (.tuple ys) = true ∧ PySem.W.alike (.tuple xs) (.tuple ys) = true) ∧ Q (B (!PySem.W.dataLt (.tuple xs) (.tuple ys))) M) := rfl
theorem eqv_str {a b : Str} : PyData.eqv (.str a) (.str b) = decide (a = b) := by
  simp [PyData.eqv]
  rfl
theorem okd_str {a : Str} : okD (.str a) = true := by simp [okD, PyData.plain, PyData.depth]
theorem c_eqS {a b : Str} : wCmp .Eq (.d (.str a)) (.d (.str b)) M Q = Q (B (decide (a = b))) M := by
  rw [c_eq, okd_str, okd_str, eqv_str]
  simp
theorem c_neS {a b : Str} : wCmp .NotEq (.d (.str a)) (.d (.str b)) M Q = Q (B (!decide (a = b))) M := by
  rw [c_ne, okd_str, okd_str, eqv_str]
  simp
theorem it_k {L : Mem} : items (M ++ L) (.l (M.length + k)) = lstOf L[k]? := by
  unfold items
  dsimp only
  rw [m_get]
  cases e : L[k]? with
  | none => rfl
  | some o => cases o <;> rfl
theorem it_k0 {L : Mem} : items (M ++ L) (.l M.length) = lstOf L[0]? := it_k (k := 0)
theorem ty_k {L : Mem} {t : String} : isTyS (M ++ L) t (.l (M.length + k)) = tyOf t L[k]? := by
  unfold isTyS
  dsimp only
  rw [m_get]
  cases e : L[k]? with
  | none => rfl
  | some o => cases o <;> rfl
theorem ty_k0 {L : Mem} {t : String} : isTyS (M ++ L) t (.l M.length) = tyOf t L[0]? := ty_k (k := 0)
theorem lo_1 {xs : List S} : lstOf (some (.lst xs)) = some xs := rfl
theorem to_1 {xs : List S} {t : String} : tyOf t (some (.lst xs)) = some (t == "list") := rfl
theorem to_2 {kvs} {t : String} : tyOf t (some (.dct kvs)) = some (t == "dict") := rfl
theorem sd_inj {xs ys : List PD} : (xs.map S.d = ys.map S.d) = (xs = ys) := by
  apply propext
  constructor
  · intro h
    have := congrArg dataAll h
    rw [dataAll_map, dataAll_map] at this
    exact Option.some.inj this
  · rintro rfl
    rfl
theorem da_nil : dataAll [] = some [] := rfl
theorem da_cons {r : List S} : dataAll (.d a :: r) = (dataAll r).map (a :: ·) := rfl
theorem da_map {xs : List PD} : dataAll (xs.map S.d) = some xs := dataAll_map xs
theorem p_put {v : S} {Q : Mem → Prop} : wPut (.l k) (.d (.int i)) v M Q = ∃ xs j, M[k]? = some (.lst xs) ∧ ixN xs.length i = some j ∧ Q (M.set k (.lst (xs.set j v))) := rfl
theorem sz_0 : (0 ≤ sizeLine) = True := eq_true (Nat.zero_le _)
theorem sz_1 : (1 ≤ sizeLine) = True := eq_true (by decide)
theorem sz_2 : (2 ≤ sizeLine) = True := eq_true (by decide)
theorem sz_3 : (3 ≤ sizeLine) = True := eq_true (by decide)
theorem sz_4 : (4 ≤ sizeLine) = True := eq_true (by decide)
theorem sz_5 : (5 ≤ sizeLine) = True := eq_true (by decide)
theorem sz_6 : (6 ≤ sizeLine) = True := eq_true (by decide)
theorem sz_7 : (7 ≤ sizeLine) = True := eq_true (by decide)
theorem sz_8 : (8 ≤ sizeLine) = True := eq_true (by decide)
theorem int?_d : int? (.d (.int i)) = some i := rfl
theorem ok_of_d {x : PD} {xs : List S} : okOf (.d x) xs = fun _ => True := rfl
theorem ex_self {α : Type} {v : α} {P : α → Prop} : (∃ w, some v = some w ∧ P w) = P v := by
  apply propext
  constructor
  · rintro ⟨w, e, h⟩; cases e; exact h
  · intro h; exact ⟨v, rfl, h⟩
theorem slS : sizeLine = 16777216 := by decide
end
section
variable {α : Type} {xs : List α} {v : α} {i : Int}
theorem at_of (h0 : 0 ≤ i) (e : xs[i.toNat]? = some v) : atI xs i = some v := by
  obtain ⟨h1, _⟩ := List.getElem?_eq_some_iff.mp e
  unfold atI
  have : ixN xs.length i = some i.toNat := by
    unfold ixN
    rw [if_pos h0, if_pos (by omega)]
  rw [this]
  exact e
theorem at_nat {k : Nat} (e : xs[k]? = some v) : atI xs (k : Int) = some v := at_of (by omega) (by simpa using e)
theorem ix_of (h0 : 0 ≤ i) (h : i < xs.length) : ixN xs.length i = some i.toNat := by
  unfold ixN
  rw [if_pos h0, if_pos (by omega)]
theorem ix_ofN {n : Nat} {i : Int} (h0 : 0 ≤ i) (h : i < n) : ixN n i = some i.toNat := by
  unfold ixN
  rw [if_pos h0, if_pos (by omega)]
end
section
variable {M : Mem} {ρ : Sto} {t : Tg} {ok : Mem → Prop} {body : Sto → Mem → Outs → Prop} {O : Outs}
/-- for targets in data -/
theorem for_tgs {xs : List PD} (hok : ∀ M, ok M) (mb : MonoS body) (P : Nat → Sto → Mem → Prop) (h0 : P 0 ρ M) (hend : ∀ ρ M, P xs.length ρ M → O.nx ρ M)
    (hs : ∀ i x ρ M, xs[i]? = some x → P i ρ M → wTg t (.one (.d x)) ρ fun ρ1 => body ρ1 M (GTurn O (P (i + 1)))) : wFor (wTg t) ok body ((xs.map S.d).map Itm.one) ρ M O := by
  refine for_ix mb P h0 (fun _ _ _ _ => hok _) (by simpa using hend) fun i x ρ M e p => ?_
  rw [List.getElem?_map, List.getElem?_map] at e
  cases e2 : xs[i]? with
  | none => rw [e2] at e; cases e
  | some v =>
    rw [e2] at e
    cases e
    exact hs i v ρ M e2 p
/-- [e for i in range(lo, hi)] -/
theorem lc_rng {s : Nat} {lo hi : Int} {ok : Mem → Prop} {e : Sto → Comp S} {f : Nat → S} {Q : List S → Mem → Prop} {E : Xc → Mem → Prop} (n : Nat) (hn : (hi - lo).toNat = n) (hok : ok M)
    (he : ∀ i, i < n → ∀ Q : S → Mem → Prop, Q (f i) M → e (ρ.set s (some (.d (.int (lo + (i : Nat)))))) M Q E) (q : Q ((List.range n).map f) M) :
    wLc (tgAt (.nm s) ρ) ok (fun _ M Q _ => Q true M) e (rngItems lo hi) [] M Q E := by
  unfold rngItems
  rw [hn]
  refine lc_gen (α := Nat) (tg := tgAt (.nm s) ρ) (cond := fun _ M Q _ => Q true M) (st := fun i => ρ.set s (some (.d (.int (lo + (i : Nat)))))) (p := fun _ => true) (f := f) hok (List.range n)
    (fun y _ K k => by simp only [tgAt, wTg]; exact k) (fun _ _ _ q => q) (fun y hy _ Q q => he y (List.mem_range.mp hy) Q q) (acc := []) ?_
  rw [List.filter_eq_self.mpr (fun _ _ => rfl)]
  simpa using q
/-- [x for x in data if c] -/
theorem lc_flt {s : Nat} {xs : List PD} {ok : Mem → Prop} {cond : Sto → Comp Bool} {e : Sto → Comp S} {p : PD → Bool} {f : PD → S} {Q : List S → Mem → Prop} {E : Xc → Mem → Prop} (hok : ok M)
    (hc : ∀ x ∈ xs, ∀ Q : Bool → Mem → Prop, Q (p x) M → cond (ρ.set s (some (.d x))) M Q E) (he : ∀ x ∈ xs, p x = true → ∀ Q : S → Mem → Prop, Q (f x) M → e (ρ.set s (some (.d x))) M Q E) (q : Q ((xs.filter p).map f) M) :
    wLc (tgAt (.nm s) ρ) ok cond e ((xs.map S.d).map Itm.one) [] M Q E := by
  rw [List.map_map]
  exact lc_gen (α := PD) (tg := tgAt (.nm s) ρ) (it := fun x => .one (.d x)) (st := fun x => ρ.set s (some (.d x))) (p := p) (f := f) hok xs
    (fun y _ K k => by simp only [tgAt, wTg]; exact k) hc he (acc := []) (by simpa using q)
end
/-- a row of ints by a function -/
def fL (n : Nat) (f : Nat → Int) : List S := (List.range n).map fun k => .d (.int (f k))
theorem fL_len {n f} : (fL n f).length = n := by simp [fL]
theorem fL_get {n f} {k : Nat} (h : k < n) : (fL n f)[k]? = some (.d (.int (f k))) := by simp [fL, h]
theorem fL_set {n f} {k : Nat} {v : Int} : (fL n f).set k (.d (.int v)) = fL n fun j => if j = k then v else f j := by
  apply List.ext_getElem?
  intro i
  rw [List.getElem?_set]
  unfold fL
  by_cases h : i < n
  · by_cases e : k = i
    · subst e
      simp [h]
    · have e' : ¬ i = k := fun z => e z.symm
      simp [h, e, e']
  · by_cases e : k = i
    · subst e
      simp [h]
    · simp [h, e]
theorem fL_data {n f} : fL n f = ((List.range n).map fun k => PyData.int (f k)).map S.d := by simp [fL]
theorem c_noneF {Γ : Env} : wC Γ .none = fun _ M Q _ => Q true M := by
  funext ρ M Q X
  simp only [wC]
theorem in_data {α : Type} {ys : List α} {g : α → PD} {R : List PD → Prop} (h : R (ys.map g)) : ∃ xs, dataAll (ys.map fun y => S.d (g y)) = some xs ∧ R xs := by
  refine ⟨ys.map g, ?_, h⟩
  have : (ys.map fun y => S.d (g y)) = (ys.map g).map S.d := by simp
  rw [this, dataAll_map]
theorem in_bools {α : Type} {ys : List α} {p : α → Bool} {R : List Bool → Prop} (h : R (ys.map p)) : ∃ xs, dataAll (ys.map fun y => S.d (.bool (p y))) = some xs ∧ ∃ bs : List Bool, xs.map S.d = bs.map B ∧ R bs :=
  in_data (g := fun y => .bool (p y)) ⟨ys.map p, by simp, h⟩
theorem in_ints {α : Type} {ys : List α} {p : α → Int} {R : List Int → Prop} (h : R (ys.map p)) : ∃ xs, dataAll (ys.map fun y => S.d (.int (p y))) = some xs ∧ ∃ bs : List Int, xs.map S.d = bs.map I ∧ R bs :=
  in_data (g := fun y => .int (p y)) ⟨ys.map p, by simp, h⟩
theorem pints_len {ns : List Int} : (pints ns).length = ns.length := by simp [pints]
theorem at_pints {ns : List Int} {k : Int} (h0 : 0 ≤ k) (h1 : k < ns.length) : ∃ v ∈ ns, atI (pints ns) k = some (.int v) := by
  have h : k.toNat < ns.length := by omega
  exact ⟨ns[k.toNat], List.getElem_mem h, at_of h0 (by simp [pints, h])⟩
theorem rng_len {lo hi : Int} {n : Nat} (h : (hi - lo).toNat ≤ n) (hn : n ≤ sizeLine) : (rngItems lo hi).length ≤ sizeLine := by
  rw [rngItems_length]
  omega
theorem itm_len {xs : List PD} : (List.map Itm.one (List.map S.d xs)).length = xs.length := by simp
end G

/-! Layer G, part 9h: rules that run from the head, so that what comes after is not looked at before its time. -/
namespace G
open PySem L2
section
variable {Γ : Env} {M : Mem} {L : List MO} {Q : S → Mem → Prop} {X : Xc → Mem → Prop} {i j : Int} {n k : Nat} {x y v : S} {a : Option S} {ρ : Sto} {O : Outs} {e b f : E} {t u : String}
theorem v_0 : wE Γ (.var 0) (some v :: ρ) M Q X = Q v M := by
  rw [e_var]
  simp only [List.getElem?_cons_zero]
  exact ex_v
theorem v_S : wE Γ (.var (n + 1)) (a :: ρ) M Q X = wE Γ (.var n) ρ M Q X := by
  rw [e_var, e_var]
  simp only [List.getElem?_cons_succ]
theorem n_0 {Q : Sto → Prop} : wTg (.nm 0) (.one v) (a :: ρ) Q = Q (some v :: ρ) := by
  rw [tg_nm]
  rfl
theorem n_S {Q : Sto → Prop} : wTg (.nm (n + 1)) (.one v) (a :: ρ) Q = wTg (.nm n) (.one v) ρ fun r => Q (a :: r) := by
  rw [tg_nm, tg_nm]
  rfl
/-- slot n holds nothing from now on -/
def wUn (n : Nat) (ρ : Sto) (Q : Sto → Prop) : Prop := Q (ρ.set n none)
theorem un_0 {Q : Sto → Prop} : wUn 0 (a :: ρ) Q = Q (none :: ρ) := rfl
theorem un_S {Q : Sto → Prop} : wUn (n + 1) (a :: ρ) Q = wUn n ρ fun r => Q (a :: r) := rfl
theorem s_aug' {o : Operator} : wS Γ (.aug n o e) ρ M O = wE Γ (.var n) ρ M (fun v M0 => wE Γ e ρ M (fun w M1 => wAug o v w fun r => wTg (.nm n) (.one r) ρ fun ρ1 => O.nx ρ1 M1) (fun x M1 => O.ex x ρ M1)) (fun _ _ => False) := by
  rw [s_aug, e_var]
  simp only [tg_nm]
theorem s_par' {m : Nat} : wS Γ (.par n m e b) ρ M O = wE Γ e ρ M (fun v M1 => wE Γ b ρ M1 (fun w M2 => wTg (.nm n) (.one v) ρ fun ρ1 => wTg (.nm m) (.one w) ρ1 fun ρ2 => O.nx ρ2 M2) (fun x M1 => O.ex x ρ M1)) (fun x M1 => O.ex x ρ M1) := by
  rw [s_par]
  simp only [tg_nm]
theorem h_cons' {c : Str} {s : Ss} {hs : Hs} {x : Xc} : wHs Γ (.cons c n s hs) x ρ M O = (∃ l, Γ.mro x.cls = some l ∧ if l.contains c = true then
        ∀ a dd, wTg (.nm n) (.one (.e a dd x.cls x.fld x.val)) ρ fun ρ0 => wSs { Γ with cur := some (.e a dd x.cls x.fld x.val) } s ρ0 M { nx := fun ρ1 M1 => wUn n ρ1 fun ρ2 => O.nx ρ2 M1, rt := O.rt, bk := fun ρ1 M1 => wUn n ρ1 fun ρ2 => O.bk ρ2 M1, ct := fun ρ1 M1 => wUn n ρ1 fun ρ2 => O.ct ρ2 M1, ex := fun _ _ _ => False }
      else wHs Γ hs x ρ M O) := by
  rw [h_cons]
  simp only [tg_nm, wUn]
/-! ### the memory -/
theorem xl_k {P : List S → Prop} : (∃ xs, (M ++ L)[M.length + n]? = some (.lst xs) ∧ P xs) = ∃ xs, L[n]? = some (.lst xs) ∧ P xs := by rw [m_get]
theorem xl_0 {P : List S → Prop} : (∃ xs, (M ++ L)[M.length]? = some (.lst xs) ∧ P xs) = ∃ xs, L[0]? = some (.lst xs) ∧ P xs := by rw [m_get0]
theorem xl_S {o : MO} {P : List S → Prop} : (∃ xs, (o :: L)[n + 1]? = some (.lst xs) ∧ P xs) = ∃ xs, L[n]? = some (.lst xs) ∧ P xs := by rw [List.getElem?_cons_succ]
theorem xl_z {ys : List S} {P : List S → Prop} : (∃ xs, (MO.lst ys :: L)[0]? = some (.lst xs) ∧ P xs) = P ys := by
  rw [List.getElem?_cons_zero]
  exact ex_lst
def wMod (k : Nat) (o : MO) (M : Mem) (P : Mem → Prop) : Prop := P (M.set k o)
def wMM (k : Nat) (o : MO) (L : List MO) (P : List MO → Prop) : Prop := P (L.set k o)
theorem md_k {o : MO} {P : Mem → Prop} : wMod (M.length + n) o (M ++ L) P = wMM n o L fun r => P (M ++ r) := by
  unfold wMod wMM
  rw [m_set]
theorem md_0 {o : MO} {P : Mem → Prop} : wMod M.length o (M ++ L) P = wMM 0 o L fun r => P (M ++ r) := by
  unfold wMod wMM
  rw [m_set0]
theorem mm_0 {o p : MO} {P : List MO → Prop} : wMM 0 o (p :: L) P = P (o :: L) := rfl
theorem mm_S {o p : MO} {P : List MO → Prop} : wMM (n + 1) o (p :: L) P = wMM n o L fun r => P (p :: r) := rfl
def wNew (M : Mem) (o : MO) (Q : S → Mem → Prop) : Prop := Q (.l M.length) (M ++ [o])
theorem nw_0 {o : MO} : wNew M o Q = Q (.l M.length) (M ++ [o]) := rfl
theorem nw_1 {o a1 : MO} : wNew (M ++ [a1]) o Q = Q (.l (M.length + 1)) (M ++ [a1, o]) := by simp [wNew]
theorem nw_2 {o a1 a2 : MO} : wNew (M ++ [a1, a2]) o Q = Q (.l (M.length + 2)) (M ++ [a1, a2, o]) := by simp [wNew]
theorem nw_3 {o a1 a2 a3 : MO} : wNew (M ++ [a1, a2, a3]) o Q = Q (.l (M.length + 3)) (M ++ [a1, a2, a3, o]) := by simp [wNew]
theorem nw_4 {o a1 a2 a3 a4 : MO} : wNew (M ++ [a1, a2, a3, a4]) o Q = Q (.l (M.length + 4)) (M ++ [a1, a2, a3, a4, o]) := by simp [wNew]
theorem nw_5 {o a1 a2 a3 a4 a5 : MO} : wNew (M ++ [a1, a2, a3, a4, a5]) o Q = Q (.l (M.length + 5)) (M ++ [a1, a2, a3, a4, a5, o]) := by simp [wNew]
theorem e_al' {g : F} : wE Γ (.al g) ρ M Q X = wF Γ g ρ M (fun vs M1 => wNew M1 (.lst vs) Q) X := e_al _ _ _ _ _
theorem ix_m' : wIx (.l k) (.d (.int i)) M Q = ∃ xs, M[k]? = some (.lst xs) ∧ ∃ v, atI xs i = some v ∧ Q v M := by
  rw [ix_m]
  simp only [exists_and_left]
theorem b_tupm' : wB1 .tuple (.l k) M Q = ∃ ys, M[k]? = some (.lst ys) ∧ ∃ xs : List PD, ys = xs.map .d ∧ Q (.d (.tuple xs)) M := by
  rw [b_tupm]
  apply propext
  constructor
  · rintro ⟨xs, h, q⟩; exact ⟨_, h, xs, rfl, q⟩
  · rintro ⟨_, h, xs, rfl, q⟩; exact ⟨xs, h, q⟩
theorem sl_m' {lo hi : Option Int} : wSl (.l k) lo hi M Q = ∃ ys, M[k]? = some (.lst ys) ∧ ∃ xs : List PD, ys = xs.map .d ∧ Q (.d (.list (cut xs lo hi))) M := by
  rw [sl_m]
  apply propext
  constructor
  · rintro ⟨xs, h, q⟩; exact ⟨_, h, xs, rfl, q⟩
  · rintro ⟨_, h, xs, rfl, q⟩; exact ⟨xs, h, q⟩
theorem ex_map {zs : List PD} {P : List PD → Prop} : (∃ xs : List PD, zs.map S.d = xs.map S.d ∧ P xs) = P zs := by
  simp only [sd_inj, exists_eq_left']
def wApp (x v : S) (M : Mem) (P : Mem → Prop) : Prop := ∃ k xs, x = .l k ∧ M[k]? = some (.lst xs) ∧ xs.length < sizeLine ∧ P (M.set k (.lst (xs ++ [v])))
theorem ap_l {P : Mem → Prop} : wApp (.l k) v M P = ∃ xs, M[k]? = some (.lst xs) ∧ xs.length < sizeLine ∧ wMod k (.lst (xs ++ [v])) M P := by
  unfold wApp wMod
  apply propext
  constructor
  · rintro ⟨j, xs, h, q⟩; cases h; exact ⟨xs, q⟩
  · rintro ⟨xs, q⟩; exact ⟨k, xs, rfl, q⟩
theorem s_app' : wS Γ (.app e b) ρ M O = wE Γ e ρ M (fun x M1 => isTyS M1 "list" x = some true ∧ wE Γ b ρ M1 (fun v M2 => wApp x v M2 fun M3 => O.nx ρ M3) (fun x M1 => O.ex x ρ M1)) (fun x M1 => O.ex x ρ M1) := s_app _ _ _ _ _
def wExt (x v : S) (M : Mem) (P : Mem → Prop) : Prop := ∃ k xs ys, x = .l k ∧ M[k]? = some (.lst xs) ∧ items M v = some ys ∧ isTyS M "list" v = some true ∧ xs.length + ys.length ≤ sizeLine ∧ P (M.set k (.lst (xs ++ ys)))
theorem xt_l {P : Mem → Prop} : wExt (.l k) v M P = ∃ xs, M[k]? = some (.lst xs) ∧ ∃ ys, items M v = some ys ∧ isTyS M "list" v = some true ∧ xs.length + ys.length ≤ sizeLine ∧ wMod k (.lst (xs ++ ys)) M P := by
  unfold wExt wMod
  apply propext
  constructor
  · rintro ⟨j, xs, ys, h, q1, q⟩; cases h; exact ⟨xs, q1, ys, q⟩
  · rintro ⟨xs, q1, ys, q⟩; exact ⟨k, xs, ys, rfl, q1, q⟩
theorem s_ext' : wS Γ (.ext e b) ρ M O = wE Γ e ρ M (fun x M1 => isTyS M1 "list" x = some true ∧ wE Γ b ρ M1 (fun v M2 => wExt x v M2 fun M3 => O.nx ρ M3) (fun x M1 => O.ex x ρ M1)) (fun x M1 => O.ex x ρ M1) := s_ext _ _ _ _ _
def wIns (x y v : S) (M : Mem) (P : Mem → Prop) : Prop := ∃ k xs j, x = .l k ∧ y = I (j : Nat) ∧ M[k]? = some (.lst xs) ∧ j ≤ xs.length ∧ xs.length < sizeLine ∧ P (M.set k (.lst (xs.take j ++ v :: xs.drop j)))
theorem in_l {P : Mem → Prop} : wIns (.l k) (.d (.int i)) v M P = ∃ xs, M[k]? = some (.lst xs) ∧ (0 ≤ i ∧ i ≤ xs.length) ∧ xs.length < sizeLine ∧ wMod k (.lst (xs.take i.toNat ++ v :: xs.drop i.toNat)) M P := by
  unfold wIns wMod
  apply propext
  constructor
  · rintro ⟨j, xs, m, h, h2, q1, q2, q3, q⟩
    cases h
    cases h2
    exact ⟨xs, q1, ⟨by omega, by omega⟩, q3, q⟩
  · rintro ⟨xs, q1, ⟨q2, q3⟩, q4, q⟩
    obtain ⟨m, rfl⟩ := Int.eq_ofNat_of_zero_le q2
    exact ⟨k, xs, m, rfl, rfl, q1, by omega, q4, q⟩
theorem s_ins' : wS Γ (.ins e b f) ρ M O = wE Γ e ρ M (fun x M1 => isTyS M1 "list" x = some true ∧ wE Γ b ρ M1 (fun y M2 => wE Γ f ρ M2 (fun v M3 => wIns x y v M3 fun M4 => O.nx ρ M4) (fun x M1 => O.ex x ρ M1)) (fun x M1 => O.ex x ρ M1)) (fun x M1 => O.ex x ρ M1) := s_ins _ _ _ _ _ _
theorem p_put' {P : Mem → Prop} : wPut (.l k) (.d (.int i)) v M P = ∃ xs, M[k]? = some (.lst xs) ∧ ∃ j, ixN xs.length i = some j ∧ wMod k (.lst (xs.set j v)) M P := by
  rw [p_put]
  simp only [exists_and_left, wMod]
theorem xv_0 {P : S → Prop} : (∃ w, (some v :: ρ)[0]? = some (some w) ∧ P w) = P v := by
  simp only [List.getElem?_cons_zero]
  exact ex_v
theorem xv_S {P : S → Prop} : (∃ w, (a :: ρ)[n + 1]? = some (some w) ∧ P w) = ∃ w, ρ[n]? = some (some w) ∧ P w := by
  simp only [List.getElem?_cons_succ]
theorem da_snoc {c : PD} {ys : List PD} {P : List PD → Prop} : (∃ xs, dataAll (ys.map S.d ++ [S.d c]) = some xs ∧ P xs) = P (ys ++ [c]) := by
  have : ys.map S.d ++ [S.d c] = (ys ++ [c]).map S.d := by simp
  rw [this, dataAll_map]
  exact ex_self
theorem da_app {zs ys : List PD} {P : List PD → Prop} : (∃ xs, dataAll (ys.map S.d ++ zs.map S.d) = some xs ∧ P xs) = P (ys ++ zs) := by
  have : ys.map S.d ++ zs.map S.d = (ys ++ zs).map S.d := by simp
  rw [this, dataAll_map]
  exact ex_self
/-! ### types, truth, data -/
def wTy (t : String) (x : S) (M : Mem) (Q : S → Mem → Prop) : Prop := ∃ c, isTyS M t x = some c ∧ Q (B c) M
theorem wt_d {x : PD} : wTy t (.d x) M Q = Q (B (isTy t x)) M := by
  unfold wTy
  rw [ty_d]
  exact ex_self
theorem wt_k : wTy t (.l (M.length + n)) (M ++ L) Q = ∃ c, tyOf t L[n]? = some c ∧ Q (B c) (M ++ L) := by
  unfold wTy
  rw [ty_k]
theorem wt_k0 : wTy t (.l M.length) (M ++ L) Q = ∃ c, tyOf t L[0]? = some c ∧ Q (B c) (M ++ L) := wt_k (n := 0)
theorem to_S {o : MO} {P : Bool → Prop} : (∃ c, tyOf t (o :: L)[n + 1]? = some c ∧ P c) = ∃ c, tyOf t L[n]? = some c ∧ P c := by rw [List.getElem?_cons_succ]
theorem to_z {ys : List S} {P : Bool → Prop} : (∃ c, tyOf t (MO.lst ys :: L)[0]? = some c ∧ P c) = P (t == "list") := by
  rw [List.getElem?_cons_zero, to_1]
  exact ex_self
theorem e_isI1 : wE Γ (.isI e [t]) ρ M Q X = wE Γ e ρ M (fun x M1 => wTy t x M1 Q) X := by
  rw [e_isI]
  congr 1
  funext x M1
  unfold wTy
  cases h : isTyS M1 t x <;> simp [h]
theorem e_isI2 : wE Γ (.isI e [t, u]) ρ M Q X = wE Γ e ρ M (fun x M1 => ∃ c d, isTyS M1 t x = some c ∧ isTyS M1 u x = some d ∧ Q (B (c || d)) M1) X := by
  rw [e_isI]
  congr 1
  funext x M1
  cases h : isTyS M1 t x <;> cases h2 : isTyS M1 u x <;> simp [h, h2]
theorem ex_tb {c : Bool} {P : Bool → Prop} : (∃ k, truth M (.d (.bool c)) = some k ∧ P k) = P c := ex_k
theorem ex_ti {P : Bool → Prop} : (∃ k, truth M (.d (.int i)) = some k ∧ P k) = P (i != 0) := ex_k
theorem ex_tn {P : Bool → Prop} : (∃ k, truth M (.d .none) = some k ∧ P k) = P false := ex_k
theorem ex_tt {xs : List PD} {P : Bool → Prop} : (∃ k, truth M (.d (.tuple xs)) = some k ∧ P k) = P (!xs.isEmpty) := ex_k
theorem ex_tl {xs : List PD} {P : Bool → Prop} : (∃ k, truth M (.d (.list xs)) = some k ∧ P k) = P (!xs.isEmpty) := ex_k
theorem ex_i {P : Int → Prop} : (∃ k, int? (.d (.int i)) = some k ∧ P k) = P i := ex_self
theorem ex_B {c : Bool} {P : Bool → Prop} : (∃ k, S.d (.bool c) = B k ∧ P k) = P c := by
  apply propext
  constructor
  · rintro ⟨k, h, q⟩; cases h; exact q
  · exact fun q => ⟨c, rfl, q⟩
theorem xd_nil {P : List PD → Prop} : (∃ xs, dataAll [] = some xs ∧ P xs) = P [] := ex_self
theorem xd_cons {c : PD} {r : List S} {P : List PD → Prop} : (∃ xs, dataAll (.d c :: r) = some xs ∧ P xs) = ∃ xs, dataAll r = some xs ∧ P (c :: xs) := by
  rw [da_cons]
  cases dataAll r <;> simp
theorem xd_map {ys : List PD} {P : List PD → Prop} : (∃ xs, dataAll (ys.map S.d) = some xs ∧ P xs) = P ys := by
  rw [da_map]
  exact ex_self
theorem xi_t {ys : List PD} {P : List S → Prop} : (∃ xs, items M (.d (.tuple ys)) = some xs ∧ P xs) = P (ys.map .d) := ex_self
theorem xi_l {ys : List PD} {P : List S → Prop} : (∃ xs, items M (.d (.list ys)) = some xs ∧ P xs) = P (ys.map .d) := ex_self
theorem xi_m {P : List S → Prop} : (∃ xs, items M (.l k) = some xs ∧ P xs) = ∃ xs, M[k]? = some (.lst xs) ∧ P xs := by
  unfold items
  dsimp only
  cases h : M[k]? with
  | none => simp
  | some o => cases o <;> simp
theorem f_cat' {Q : List S → Mem → Prop} : wF Γ (.cat e b) ρ M Q X = wE Γ e ρ M (fun x M1 => wE Γ b ρ M1 (fun y M2 => isTyS M2 "list" x = some true ∧ isTyS M2 "list" y = some true ∧ ∃ xs, items M2 x = some xs ∧ ∃ ys, items M2 y = some ys ∧ xs.length + ys.length ≤ sizeLine ∧ Q (xs ++ ys) M2) X) X := by
  rw [f_cat]
  simp only [exists_and_left]
theorem f_rep' {Q : List S → Mem → Prop} : wF Γ (.rep e b) ρ M Q X = wE Γ e ρ M (fun x M1 => wE Γ b ρ M1 (fun y M2 => isTyS M2 "list" x = some true ∧ ∃ xs, items M2 x = some xs ∧ ∃ j, int? y = some j ∧ (-(2 ^ 63) ≤ j ∧ j < 2 ^ 63 ∧ xs.length * j.toNat ≤ sizeLine) ∧ Q (List.replicate j.toNat xs).flatten M2) X) X := by
  rw [f_rep]
  have hy : ∀ (y : S) (j : Int), (y = I j) = (int? y = some j) := fun y j => by
    apply propext
    constructor
    · rintro rfl; rfl
    · intro h
      unfold int? at h
      split at h
      · cases h; rfl
      · cases h
  simp only [exists_and_left, hy]
theorem f_slice' {Q : List S → Mem → Prop} {lo hi : Oe} : wF Γ (.slice e lo hi) ρ M Q X = wE Γ e ρ M (fun x M1 => wO Γ lo ρ M1 (fun l M2 => wO Γ hi ρ M2 (fun h M3 => isTyS M3 "list" x = some true ∧ ∃ xs, items M3 x = some xs ∧ Q (cut xs l h) M3) X) X) X := by
  rw [f_slice]
  simp only [exists_and_left]
theorem i_enum' {Q : List Itm × (Mem → Prop) → Mem → Prop} : wI Γ (.enum e) ρ M Q X = wE Γ e ρ M (fun x M1 => isTyS M1 "list" x = some true ∧ ∃ xs, items M1 x = some xs ∧ Q (enumItems xs, okOf x xs) M1) X := by
  rw [i_enum]
  simp only [exists_and_left]
theorem b_repr' : wB1 .repr x M Q = ∃ z, pd M x = some z ∧ RpOk z ∧ Q (.d (.str z.shown)) M := rfl
theorem xp_d {z : PD} {P : PD → Prop} : (∃ y, pd M (.d z) = some y ∧ P y) = P z := ex_self
end
end G

namespace Lk95
open PySem L2 G PySem.Spec PyProof.Rows
local macro_rules | `(tactic| walk_at "g") => `(tactic| simp (maxSteps := 1000000) only [↓xv_0, ↓xv_S, ↓da_snoc, ↓da_app, ↓e_cst, ↓e_neg, ↓e_not, ↓e_and, ↓e_or, ↓e_ite, ↓e_bin, ↓e_cmp, ↓e_chain, ↓e_tup, ↓e_fr, ↓e_ddisp, ↓e_ix, ↓e_sl, ↓e_rev, ↓e_call, ↓e_callK, ↓e_b1, ↓e_b2, ↓e_isX, ↓e_xval, ↓e_get, ↓e_pop, ↓e_popAt, ↓e_index, ↓t_not, ↓t_and, ↓t_or, ↓a_nil, ↓a_cons, ↓o_none, ↓o_some, ↓c_none, ↓c_some, ↓f_disp, ↓f_comp, ↓f_comp2, ↓f_listOf, ↓i_of, ↓i_rng, ↓i_zip, ↓i_rev, ↓t_var, ↓t_cst, ↓t_neg, ↓t_ite, ↓t_bin, ↓t_cmp, ↓t_chain, ↓t_tup, ↓t_fr, ↓t_al, ↓t_ddisp, ↓t_ix, ↓t_sl, ↓t_rev, ↓t_call, ↓t_callK, ↓t_b1, ↓t_b2, ↓t_isI, ↓t_isX, ↓t_xval, ↓t_get, ↓t_pop, ↓t_popAt, ↓t_index, ↓s_asg, ↓s_setIx, ↓s_augIx, ↓s_expr, ↓s_ret, ↓s_retN, ↓s_cond, ↓s_loop, ↓s_whl, ↓s_raise, ↓s_tryX, ↓s_pass, ↓s_brk, ↓s_cont, ↓b_nil, ↓b_cons, ↓h_nil, ↓r_add, ↓r_sub, ↓r_mul, ↓r_div, ↓r_mod, ↓r_pow, ↓r_shl, ↓r_cat, ↓r_cats, ↓r_rep, ↓r_lt, ↓r_le, ↓r_gt, ↓r_ge, ↓r_eqI, ↓r_neI, ↓r_augA, ↓r_augS, ↓r_augM, ↓tg_tpt, ↓tg_tpm, ↓tgs_nil, ↓tgs_cons, ↓turn_nx, ↓turn_ct, ↓turn_bk, ↓turn_rt, ↓turn_ex, ↓d_nil, ↓d_eq, ↓rng_1, ↓rng_2, ↓b_int, ↓b_intb, ↓b_bool, ↓b_boolb, ↓b_lent, ↓b_lenl, ↓b_tupt, ↓b_tupl, ↓b_str, ↓b_repr', ↓xp_d, ↓b_abs, ↓b_sum, ↓b_all, ↓b_any, ↓b_max, ↓b_min, ↓ix_t, ↓ix_l, ↓sl_t, ↓sl_l, ↓c_eqb, ↓c_neb, ↓c_isN, ↓c_isnN, ↓isx_eq, ↓xval_eq, ↓c_inT, ↓c_inL, ↓c_ninT, ↓c_ninL, ↓c_ltT, ↓c_leT, ↓c_gtT, ↓c_geT, ↓c_eqS, ↓c_neS, ↓b_lenm, ↓v_0, ↓v_S, ↓n_0, ↓n_S, ↓un_0, ↓un_S, ↓s_aug', ↓s_par', ↓h_cons', ↓xl_k, ↓xl_0, ↓xl_S, ↓xl_z, ↓md_k, ↓md_0, ↓mm_0, ↓mm_S, ↓nw_1, ↓nw_2, ↓nw_3, ↓nw_4, ↓nw_5, ↓e_al', ↓ix_m', ↓b_tupm', ↓sl_m', ↓ex_map, ↓ap_l, ↓s_app', ↓xt_l, ↓s_ext', ↓in_l, ↓s_ins', ↓p_put', ↓wt_d, ↓wt_k, ↓wt_k0, ↓to_S, ↓to_z, ↓e_isI1, ↓e_isI2, ↓ex_tb, ↓ex_ti, ↓ex_tn, ↓ex_tt, ↓ex_tl, ↓ex_i, ↓ex_B, ↓xd_nil, ↓xd_cons, ↓xd_map, ↓xi_t, ↓xi_l, ↓xi_m, ↓f_cat', ↓f_rep', ↓f_slice', ↓i_enum', nw_0, e_var, e_cst, e_neg, e_not, e_and, e_or, e_ite, e_bin, e_cmp, e_chain, e_tup, e_fr, e_al, e_ddisp, e_ix, e_sl, e_rev, e_call, e_callK, e_b1, e_b2, e_isI, e_isX, e_xval, e_get, e_pop, e_popAt, e_index, t_not, t_and, t_or, a_nil, a_cons, o_none, o_some, c_none, c_some, f_disp, f_comp, f_comp2, f_listOf, f_cat, f_rep, f_slice, i_of, i_rng, i_enum, i_zip, i_rev, t_var, t_cst, t_neg, t_ite, t_bin, t_cmp, t_chain, t_tup, t_fr, t_al, t_ddisp, t_ix, t_sl, t_rev, t_call, t_callK, t_b1, t_b2, t_isI, t_isX, t_xval, t_get, t_pop, t_popAt, t_index, s_asg, s_setIx, s_par, s_aug, s_augIx, s_expr, s_app, s_ext, s_ins, s_ret, s_retN, s_cond, s_loop, s_whl, s_raise, s_tryX, s_pass, s_brk, s_cont, b_nil, b_cons, h_nil, h_cons, r_add, r_sub, r_mul, r_div, r_mod, r_pow, r_shl, r_cat, r_cats, r_rep, r_lt, r_le, r_gt, r_ge, r_eqI, r_neI, tr_bool, tr_int, tr_none, tr_tuple, tr_list, r_augA, r_augS, r_augM, m_get, m_get0, m_set, m_set0, ex_v, ex_k, ex_lst, tg_nm, tg_tpt, tg_tpm, tgs_nil, tgs_cons, tgAt_eq, List.getElem?_cons_succ, List.getElem?_cons_zero, List.set_cons_succ, List.set_cons_zero, List.length_append, List.length_cons, List.length_nil, List.append_assoc, List.cons_append, List.nil_append, decide_eq_true_eq, I, B, N0, S.l.injEq, S.d.injEq, Option.some.injEq, MO.lst.injEq, exists_eq_left', exists_and_left, mapM_d, Bool.false_eq_true, isTy, at_0, at_1, mapM_s, List.map_cons, List.map_nil, List.any_cons, List.any_nil, id_eq, Bool.or_false, Bool.not_true, Bool.not_false, ↓reduceIte, turn_nx, turn_ct, turn_bk, turn_rt, turn_ex, ty_m, Int.zero_add, d_nil, d_eq, rng_1, rng_2, b_int, b_intb, b_bool, b_boolb, b_lent, b_lenl, b_lenm, b_tupt, b_tupl, b_tupm, b_str, b_repr', b_abs, b_sum, b_all, b_any, b_max, b_min, ix_t, ix_l, ix_m, sl_t, sl_l, sl_m, ty_d, it_t, it_l, pd_d, c_eqb, c_neb, c_isN, c_isnN, isx_eq, xval_eq, true_and, and_true, List.append_nil, wipeS, tgSlots, tgSlotss, c_inT, c_inL, c_ninT, c_ninL, c_ltT, c_leT, c_gtT, c_geT, it_k, it_k0, ty_k, ty_k0, lo_1, to_1, to_2, beq_self_eq_true, sd_inj, da_nil, da_cons, da_map, Option.map_some, p_put, Nat.reduceAdd, Int.reduceEq, Int.reduceLT, Int.reduceLE, c_noneF, c_eqS, c_neS, eq_self, decide_true, decide_false, pints_len, itm_len, sz_0, sz_1, sz_2, sz_3, sz_4, sz_5, sz_6, sz_7, sz_8, int?_d, ok_of_d, ex_self, Nat.zero_add])
def topS (i : Nat) : Stmt := PySem.Challenge.pw_stairworks_k95_webs_judged.main.body.getD i (.Pass ⟨0, 0, 0, 0⟩)
def kws : List (Str × Nat × List Str) := [("degrees", 0, ["points", "web"])]
def cs : List Str := ["InvalidNumber", "InvalidWeb"]
def hs : List Str := ["StairError", "InvalidWeb", "InvalidNumber", "ValueError"]
def tab : List (Str × List Str) := [("InvalidNumber", ["InvalidNumber", "StairError", "ValueError"]), ("InvalidWeb", ["InvalidWeb", "StairError", "ValueError"])]
theorem mro_InvalidNumber : MroF tab "InvalidNumber" = some (["InvalidNumber", "StairError", "ValueError"] : List Str) := by rfl
theorem mro_InvalidWeb : MroF tab "InvalidWeb" = some (["InvalidWeb", "StairError", "ValueError"] : List Str) := by rfl
theorem cn_InvalidNumber_StairError : (["InvalidNumber", "StairError", "ValueError"] : List Str).contains "StairError" = true := by decide
theorem cn_InvalidNumber_InvalidWeb : (["InvalidNumber", "StairError", "ValueError"] : List Str).contains "InvalidWeb" = false := by decide
theorem cn_InvalidNumber_InvalidNumber : (["InvalidNumber", "StairError", "ValueError"] : List Str).contains "InvalidNumber" = true := by decide
theorem cn_InvalidNumber_ValueError : (["InvalidNumber", "StairError", "ValueError"] : List Str).contains "ValueError" = true := by decide
theorem cn_InvalidWeb_StairError : (["InvalidWeb", "StairError", "ValueError"] : List Str).contains "StairError" = true := by decide
theorem cn_InvalidWeb_InvalidWeb : (["InvalidWeb", "StairError", "ValueError"] : List Str).contains "InvalidWeb" = true := by decide
theorem cn_InvalidWeb_InvalidNumber : (["InvalidWeb", "StairError", "ValueError"] : List Str).contains "InvalidNumber" = false := by decide
theorem cn_InvalidWeb_ValueError : (["InvalidWeb", "StairError", "ValueError"] : List Str).contains "ValueError" = true := by decide
def pairD (p : Int × Int) : PD := .tuple [.int p.1, .int p.2]
/-- a web's pairs as data -/
def webL (w : List (Int × Int)) : List PD := w.map pairD
def isP (n : Int) (p : Int × Int) : Prop := 0 ≤ p.1 ∧ p.1 < p.2 ∧ p.2 < n
def ltP (p q : Int × Int) : Prop := p.1 < q.1 ∨ p.1 = q.1 ∧ p.2 < q.2
structure Good (w : List (Int × Int)) (n : Int) : Prop where
  ps : ∀ p ∈ w, isP n p
  up : w.Pairwise ltP
  len : w.length ≤ 500
theorem Good.mono {w : List (Int × Int)} {n m : Int} (g : Good w n) (h : n ≤ m) : Good w m := ⟨fun p hp => by
  have := g.ps p hp
  unfold isP at this ⊢
  omega, g.up, g.len⟩
def numOf : PD → Option Int
  | .int i => if 0 ≤ i then some i else none
  | _ => none
theorem numOf_of {i : Int} (h : 0 ≤ i) : numOf (.int i) = some i := if_pos h
theorem numOf_some {p : PD} {i : Int} (h : numOf p = some i) : p = .int i ∧ 0 ≤ i := by
  cases p <;> simp only [numOf] at h <;> try cases h
  split at h
  · cases h
    exact ⟨rfl, by assumption⟩
  · cases h
theorem isNum_none {p : PD} (h : numOf p = none) : isNumD p = false := by
  cases p <;> simp only [numOf, isNumD] at h ⊢
  split at h
  · cases h
  · rename_i h2
    exact decide_eq_false h2
def tupLen (v : PD) : Prop := ∀ xs, v = .tuple xs → xs.length ≤ sizeLine
def isPairD : PD → Int → Bool
  | .tuple [.int x, .int y], p => decide (0 ≤ x) && (decide (0 ≤ y) && (decide (x < y) && decide (y < p)))
  | _, _ => false
theorem isPair_some {x : PD} {n : Int} (h : isPairD x n = true) : ∃ p, x = pairD p ∧ isP n p := by
  unfold isPairD at h
  split at h
  · rename_i a b
    simp only [Bool.and_eq_true, decide_eq_true_eq] at h
    exact ⟨(a, b), rfl, h.1, h.2.2.1, h.2.2.2⟩
  · cases h
theorem isPair_of {p : Int × Int} {n : Int} (h : isP n p) : isPairD (pairD p) n = true := by
  unfold isP at h
  simp only [pairD, isPairD, Bool.and_eq_true, decide_eq_true_eq]
  omega
theorem all_pairs {n : Int} : ∀ {xs : List PD}, xs.all (isPairD · n) = true → ∃ w, xs = webL w ∧ ∀ p ∈ w, isP n p
  | [], _ => ⟨[], rfl, fun _ h => by cases h⟩
  | x :: xs, h => by
    rw [List.all_cons, Bool.and_eq_true] at h
    obtain ⟨p, rfl, hp⟩ := isPair_some h.1
    obtain ⟨w, rfl, hw⟩ := all_pairs h.2
    exact ⟨p :: w, rfl, fun q hq => (List.mem_cons.mp hq).elim (fun e => e ▸ hp) (hw q)⟩
def incrD : List PD → Bool
  | a :: b :: r => PySem.W.dataLt a b && incrD (b :: r)
  | _ => true
def isWebD : PD → Int → Bool
  | .tuple xs, p => xs.all (isPairD · p) && incrD xs
  | _, _ => false
theorem incr_range : ∀ xs : List PD, incrD xs = (List.range (xs.length - 1)).all fun i => PySem.W.dataLt (xs.getD i .none) (xs.getD (i + 1) .none)
  | [] => rfl
  | [a] => rfl
  | a :: b :: r => by
    rw [incrD, incr_range (b :: r)]
    have e : (a :: b :: r).length - 1 = ((b :: r).length - 1) + 1 := by simp
    rw [e, List.range_succ_eq_map, List.all_cons, List.all_map]
    rfl
theorem lt_pairD (p q : Int × Int) : PySem.W.dataLt (pairD p) (pairD q) = decide (p.1 < q.1 ∨ p.1 = q.1 ∧ p.2 < q.2) := lt_pair
theorem incr_up : ∀ {w : List (Int × Int)}, w.Pairwise ltP → incrD (webL w) = true
  | [], _ => rfl
  | [_], _ => rfl
  | p :: q :: r, h => by
    rw [List.pairwise_cons] at h
    have h1 := h.1 q List.mem_cons_self
    have h2 := incr_up h.2
    show (PySem.W.dataLt (pairD p) (pairD q) && incrD (webL (q :: r))) = true
    rw [lt_pairD, h2, Bool.and_true, decide_eq_true_eq]
    exact h1
theorem Good.web {w : List (Int × Int)} {n : Int} (g : Good w n) : isWebD (.tuple (webL w)) n = true := by
  show ((webL w).all (isPairD · n) && incrD (webL w)) = true
  rw [incr_up g.up, Bool.and_true, webL, List.all_map, List.all_eq_true]
  intro p hp
  exact isPair_of (g.ps p hp)
theorem isWeb_some {v : PD} {n : Int} (h : isWebD v n = true) : ∃ w, v = .tuple (webL w) ∧ ∀ p ∈ w, isP n p := by
  unfold isWebD at h
  split at h
  · rw [Bool.and_eq_true] at h
    obtain ⟨w, rfl, hw⟩ := all_pairs h.1
    exact ⟨w, rfl, hw⟩
  · cases h
/-- the judge's turns -/
def jd (n : Int) : PD → List PD → Bool
  | _, [] => true
  | last, x :: r => isPairD x n && (PySem.W.dataLt last x && jd n x r)
theorem jd_eq {n : Int} : ∀ (xs : List PD) (last : PD), jd n last xs = (xs.all (isPairD · n) && incrD (last :: xs))
  | [], _ => rfl
  | x :: r, last => by
    rw [jd, jd_eq r x, List.all_cons]
    show _ = ((isPairD x n && _) && (PySem.W.dataLt last x && incrD (x :: r)))
    cases isPairD x n <;> cases PySem.W.dataLt last x <;> simp
def last0 : PD := .tuple [.int (-1), .int (-1)]
theorem jd_web {n : Int} (xs : List PD) : jd n last0 xs = isWebD (.tuple xs) n := by
  rw [jd_eq]
  show _ = (xs.all (isPairD · n) && incrD xs)
  cases xs with
  | nil => rfl
  | cons x r =>
    cases h : (x :: r).all (isPairD · n) with
    | false => rfl
    | true =>
      rw [List.all_cons, Bool.and_eq_true] at h
      obtain ⟨p, rfl, hp⟩ := isPair_some h.1
      show (true && (PySem.W.dataLt last0 (pairD p) && incrD (pairD p :: r))) = _
      have : PySem.W.dataLt last0 (pairD p) = true := by
        show PySem.W.dataLt (.tuple [.int (-1), .int (-1)]) (.tuple [.int p.1, .int p.2]) = true
        rw [lt_pair, decide_eq_true_eq]
        unfold isP at hp
        omega
      rw [this]
      rfl
/-- how many pairs have the point -/
def hasPt (k : Nat) : PD → Bool
  | .tuple [.int a, .int b] => decide (a = k) || decide (b = k)
  | _ => false
def cntD (k : Nat) (xs : List PD) : Int := ((xs.filter (hasPt k)).length : Nat)
def degD : PD → Int → List Int
  | .tuple xs, n => (List.range n.toNat).map fun k => cntD k xs
  | _, _ => []

/-! _law_mixed -/
abbrev s_law_mixed : Stmt := topS 14
def N_law_mixed : List Str := ["cell", "k", "one", "two"]
theorem sc_law_mixed : FnScope N_law_mixed ["cell", "k"] (defScope s_law_mixed) := ⟨rfl, rfl, rfl, by decide +kernel, rfl, by decide +kernel, by decide +kernel⟩
def b_law_mixed : Ss := .cons (.asg (.nm 2) (.bin .Mod (.bin .Add (.bin .Mult (.bin .Mod (.b1 .int (.var 0)) (.bin .Pow (.cst (.int 10)) (.cst (.int 17)))) (.cst (.int 48271))) (.bin .Mult (.bin .Add (.var 1) (.cst (.int 1))) (.cst (.int 69621)))) (.cst (.int 2147483647)))) (.cons (.asg (.nm 3) (.bin .Mod (.bin .Add (.bin .Add (.bin .Mult (.var 2) (.var 2)) (.bin .Mult (.var 2) (.cst (.int 40014)))) (.bin .Mult (.var 1) (.cst (.int 7919)))) (.cst (.int 2147483629)))) (.cons (.ret (.bin .FloorDiv (.bin .Mod (.bin .Add (.bin .Mult (.var 3) (.cst (.int 16807))) (.var 2)) (.cst (.int 2147483563))) (.cst (.int 16)))) .nil))
theorem ub_law_mixed : b_law_mixed = .cons (.asg (.nm 2) (.bin .Mod (.bin .Add (.bin .Mult (.bin .Mod (.b1 .int (.var 0)) (.bin .Pow (.cst (.int 10)) (.cst (.int 17)))) (.cst (.int 48271))) (.bin .Mult (.bin .Add (.var 1) (.cst (.int 1))) (.cst (.int 69621)))) (.cst (.int 2147483647)))) (.cons (.asg (.nm 3) (.bin .Mod (.bin .Add (.bin .Add (.bin .Mult (.var 2) (.var 2)) (.bin .Mult (.var 2) (.cst (.int 40014)))) (.bin .Mult (.var 1) (.cst (.int 7919)))) (.cst (.int 2147483629)))) (.cons (.ret (.bin .FloorDiv (.bin .Mod (.bin .Add (.bin .Mult (.var 3) (.cst (.int 16807))) (.var 2)) (.cst (.int 2147483563))) (.cst (.int 16)))) .nil)) := rfl
theorem st_law_mixed {x0 x1 : S} : startS N_law_mixed [x0, x1] = [some x0, some x1, none, none] := rfl
def lib_law_mixed : Lib := []
abbrev Γ_law_mixed : G.Env := lib_law_mixed.env (MroF tab)
local macro_rules | `(tactic| walk_at "law_mixed") => `(tactic| simp (maxSteps := 1000000) only [ub_law_mixed, st_law_mixed, exits, ↓xv_0, ↓xv_S, ↓da_snoc, ↓da_app, ↓e_cst, ↓e_neg, ↓e_not, ↓e_and, ↓e_or, ↓e_ite, ↓e_bin, ↓e_cmp, ↓e_chain, ↓e_tup, ↓e_fr, ↓e_ddisp, ↓e_ix, ↓e_sl, ↓e_rev, ↓e_call, ↓e_callK, ↓e_b1, ↓e_b2, ↓e_isX, ↓e_xval, ↓e_get, ↓e_pop, ↓e_popAt, ↓e_index, ↓t_not, ↓t_and, ↓t_or, ↓a_nil, ↓a_cons, ↓o_none, ↓o_some, ↓c_none, ↓c_some, ↓f_disp, ↓f_comp, ↓f_comp2, ↓f_listOf, ↓i_of, ↓i_rng, ↓i_zip, ↓i_rev, ↓t_var, ↓t_cst, ↓t_neg, ↓t_ite, ↓t_bin, ↓t_cmp, ↓t_chain, ↓t_tup, ↓t_fr, ↓t_al, ↓t_ddisp, ↓t_ix, ↓t_sl, ↓t_rev, ↓t_call, ↓t_callK, ↓t_b1, ↓t_b2, ↓t_isI, ↓t_isX, ↓t_xval, ↓t_get, ↓t_pop, ↓t_popAt, ↓t_index, ↓s_asg, ↓s_setIx, ↓s_augIx, ↓s_expr, ↓s_ret, ↓s_retN, ↓s_cond, ↓s_loop, ↓s_whl, ↓s_raise, ↓s_tryX, ↓s_pass, ↓s_brk, ↓s_cont, ↓b_nil, ↓b_cons, ↓h_nil, ↓r_add, ↓r_sub, ↓r_mul, ↓r_div, ↓r_mod, ↓r_pow, ↓r_shl, ↓r_cat, ↓r_cats, ↓r_rep, ↓r_lt, ↓r_le, ↓r_gt, ↓r_ge, ↓r_eqI, ↓r_neI, ↓r_augA, ↓r_augS, ↓r_augM, ↓tg_tpt, ↓tg_tpm, ↓tgs_nil, ↓tgs_cons, ↓turn_nx, ↓turn_ct, ↓turn_bk, ↓turn_rt, ↓turn_ex, ↓d_nil, ↓d_eq, ↓rng_1, ↓rng_2, ↓b_int, ↓b_intb, ↓b_bool, ↓b_boolb, ↓b_lent, ↓b_lenl, ↓b_tupt, ↓b_tupl, ↓b_str, ↓b_repr', ↓xp_d, ↓b_abs, ↓b_sum, ↓b_all, ↓b_any, ↓b_max, ↓b_min, ↓ix_t, ↓ix_l, ↓sl_t, ↓sl_l, ↓c_eqb, ↓c_neb, ↓c_isN, ↓c_isnN, ↓isx_eq, ↓xval_eq, ↓c_inT, ↓c_inL, ↓c_ninT, ↓c_ninL, ↓c_ltT, ↓c_leT, ↓c_gtT, ↓c_geT, ↓c_eqS, ↓c_neS, ↓b_lenm, ↓v_0, ↓v_S, ↓n_0, ↓n_S, ↓un_0, ↓un_S, ↓s_aug', ↓s_par', ↓h_cons', ↓xl_k, ↓xl_0, ↓xl_S, ↓xl_z, ↓md_k, ↓md_0, ↓mm_0, ↓mm_S, ↓nw_1, ↓nw_2, ↓nw_3, ↓nw_4, ↓nw_5, ↓e_al', ↓ix_m', ↓b_tupm', ↓sl_m', ↓ex_map, ↓ap_l, ↓s_app', ↓xt_l, ↓s_ext', ↓in_l, ↓s_ins', ↓p_put', ↓wt_d, ↓wt_k, ↓wt_k0, ↓to_S, ↓to_z, ↓e_isI1, ↓e_isI2, ↓ex_tb, ↓ex_ti, ↓ex_tn, ↓ex_tt, ↓ex_tl, ↓ex_i, ↓ex_B, ↓xd_nil, ↓xd_cons, ↓xd_map, ↓xi_t, ↓xi_l, ↓xi_m, ↓f_cat', ↓f_rep', ↓f_slice', ↓i_enum', nw_0, e_var, e_cst, e_neg, e_not, e_and, e_or, e_ite, e_bin, e_cmp, e_chain, e_tup, e_fr, e_al, e_ddisp, e_ix, e_sl, e_rev, e_call, e_callK, e_b1, e_b2, e_isI, e_isX, e_xval, e_get, e_pop, e_popAt, e_index, t_not, t_and, t_or, a_nil, a_cons, o_none, o_some, c_none, c_some, f_disp, f_comp, f_comp2, f_listOf, f_cat, f_rep, f_slice, i_of, i_rng, i_enum, i_zip, i_rev, t_var, t_cst, t_neg, t_ite, t_bin, t_cmp, t_chain, t_tup, t_fr, t_al, t_ddisp, t_ix, t_sl, t_rev, t_call, t_callK, t_b1, t_b2, t_isI, t_isX, t_xval, t_get, t_pop, t_popAt, t_index, s_asg, s_setIx, s_par, s_aug, s_augIx, s_expr, s_app, s_ext, s_ins, s_ret, s_retN, s_cond, s_loop, s_whl, s_raise, s_tryX, s_pass, s_brk, s_cont, b_nil, b_cons, h_nil, h_cons, r_add, r_sub, r_mul, r_div, r_mod, r_pow, r_shl, r_cat, r_cats, r_rep, r_lt, r_le, r_gt, r_ge, r_eqI, r_neI, tr_bool, tr_int, tr_none, tr_tuple, tr_list, r_augA, r_augS, r_augM, m_get, m_get0, m_set, m_set0, ex_v, ex_k, ex_lst, tg_nm, tg_tpt, tg_tpm, tgs_nil, tgs_cons, tgAt_eq, List.getElem?_cons_succ, List.getElem?_cons_zero, List.set_cons_succ, List.set_cons_zero, List.length_append, List.length_cons, List.length_nil, List.append_assoc, List.cons_append, List.nil_append, decide_eq_true_eq, I, B, N0, S.l.injEq, S.d.injEq, Option.some.injEq, MO.lst.injEq, exists_eq_left', exists_and_left, mapM_d, Bool.false_eq_true, isTy, at_0, at_1, mapM_s, List.map_cons, List.map_nil, List.any_cons, List.any_nil, id_eq, Bool.or_false, Bool.not_true, Bool.not_false, ↓reduceIte, turn_nx, turn_ct, turn_bk, turn_rt, turn_ex, ty_m, Int.zero_add, d_nil, d_eq, rng_1, rng_2, b_int, b_intb, b_bool, b_boolb, b_lent, b_lenl, b_lenm, b_tupt, b_tupl, b_tupm, b_str, b_repr', b_abs, b_sum, b_all, b_any, b_max, b_min, ix_t, ix_l, ix_m, sl_t, sl_l, sl_m, ty_d, it_t, it_l, pd_d, c_eqb, c_neb, c_isN, c_isnN, isx_eq, xval_eq, true_and, and_true, List.append_nil, wipeS, tgSlots, tgSlotss, c_inT, c_inL, c_ninT, c_ninL, c_ltT, c_leT, c_gtT, c_geT, it_k, it_k0, ty_k, ty_k0, lo_1, to_1, to_2, beq_self_eq_true, sd_inj, da_nil, da_cons, da_map, Option.map_some, p_put, Nat.reduceAdd, Int.reduceEq, Int.reduceLT, Int.reduceLE, c_noneF, c_eqS, c_neS, eq_self, decide_true, decide_false, pints_len, itm_len, sz_0, sz_1, sz_2, sz_3, sz_4, sz_5, sz_6, sz_7, sz_8, int?_d, ok_of_d, ex_self, Nat.zero_add])
theorem lm_law_mixed : ∀ p ∈ lib_law_mixed, ∀ vs, Mono (p.2.2 vs) := fun p hp => by cases hp
theorem mb_law_mixed (s : Ss) : MonoS (wSs Γ_law_mixed s) := mSs s _ (Lib.mo lm_law_mixed)
theorem ck_law_mixed : kSs b_law_mixed ⟨N_law_mixed, defScope s_law_mixed, lib_law_mixed.fs, kws, cs, hs, true⟩ (defBody s_law_mixed) = true := by decide +kernel
theorem bd_law_mixed : Bd "_law_mixed" s_law_mixed ["cell", "k"] := fun _ _ _ _ _ _ us hl => match us, hl with | [_, _], _ => rfl
theorem kb_law_mixed : ∀ q ∈ kws, q.1 = "_law_mixed" → BdK "_law_mixed" s_law_mixed ["cell", "k"] q.2.1 q.2.2 := by
  intro q hq e
  simp only [kws, List.mem_cons, List.not_mem_nil, or_false] at hq
  subst hq
  · exact absurd e (by decide)
def mixed (cell k : Int) : Int :=
  (((((cell % 100000000000000000 * 48271 + (k + 1) * 69621) % 2147483647 * ((cell % 100000000000000000 * 48271 + (k + 1) * 69621) % 2147483647) + (cell % 100000000000000000 * 48271 + (k + 1) * 69621) % 2147483647 * 40014 + k * 7919) % 2147483629) * 16807
    + (cell % 100000000000000000 * 48271 + (k + 1) * 69621) % 2147483647) % 2147483563) / 16
def sp_law_mixed : FSpec := Fn fun vs _ r => ∃ c k, vs = [I c, I k] ∧ r = .inr (I (mixed c k))
theorem mo_law_mixed : ∀ vs, Mono (sp_law_mixed vs) := Fn_mo
theorem p17 : (10 : Int) ^ Int.toNat 17 = 100000000000000000 := by decide
theorem p18 : (10 : Int) ^ Int.toNat 18 = 1000000000000000000 := by decide
theorem w_law_mixed : ∀ (ss : List S) (M : Mem) (Q : S → Mem → Prop) (E : Xc → Mem → Prop), ss.length = 2 → sp_law_mixed ss M Q E → wSs Γ_law_mixed b_law_mixed (startS N_law_mixed ss) M (exits M Q E) := by
  rintro ss M Q E hl ⟨r, ⟨c, k, rfl, rfl⟩, q⟩
  walk_at "law_mixed"
  rw [p17]
  refine ⟨⟨by decide, by decide, by decide⟩, by decide, mul_r (by decide), mul_r (by decide), mul_l ?_, mul_r (by decide), mul_r (by decide), mul_r (by decide), div_ok (by decide), ret_here q⟩
  constructor <;> omega
theorem k_law_mixed {c k : Int} {M : Mem} {Q : S → Mem → Prop} {E : Xc → Mem → Prop} : sp_law_mixed [.d (.int c), .d (.int k)] M Q E ↔ Q (.d (.int (mixed c k))) M :=
  ⟨fun ⟨r, ⟨y, z, e, er⟩, q⟩ => by cases e; subst er; exact q, fun q => ⟨_, ⟨c, k, rfl, rfl⟩, q⟩⟩
theorem mixed_nn (c k : Int) : 0 ≤ mixed c k := by
  unfold mixed
  omega
/-! _law_numbers -/
abbrev s_law_numbers : Stmt := topS 15
def N_law_numbers : List Str := ["cell", "many", "limit", "rest", "row", "k"]
theorem sc_law_numbers : FnScope N_law_numbers ["cell", "many", "limit"] (defScope s_law_numbers) := ⟨rfl, rfl, rfl, by decide +kernel, rfl, by decide +kernel, by decide +kernel⟩
def b_law_numbers_1 : Ss := .cons (.cond (.cmp .Gt (.var 3) (.cst (.int 0))) (.cons (.app (.var 4) (.bin .Mod (.var 3) (.var 2))) (.cons (.asg (.nm 3) (.bin .FloorDiv (.var 3) (.var 2))) .nil)) (.cons (.app (.var 4) (.bin .Mod (.call "_law_mixed" (.cons (.var 0) (.cons (.var 5) .nil))) (.var 2))) .nil)) .nil
def b_law_numbers : Ss := .cons (.asg (.nm 3) (.cst (.int 0))) (.cons (.cond (.cmp .GtE (.var 0) (.bin .Pow (.cst (.int 10)) (.cst (.int 18)))) (.cons (.asg (.nm 3) (.bin .Sub (.var 0) (.bin .Pow (.cst (.int 10)) (.cst (.int 18))))) .nil) (.nil)) (.cons (.asg (.nm 4) (.al (.disp (.nil)))) (.cons (.loop (.nm 5) (.rng (.cons (.var 1) .nil)) b_law_numbers_1) (.cons (.ret (.var 4)) .nil))))
theorem ub_law_numbers_1 : b_law_numbers_1 = .cons (.cond (.cmp .Gt (.var 3) (.cst (.int 0))) (.cons (.app (.var 4) (.bin .Mod (.var 3) (.var 2))) (.cons (.asg (.nm 3) (.bin .FloorDiv (.var 3) (.var 2))) .nil)) (.cons (.app (.var 4) (.bin .Mod (.call "_law_mixed" (.cons (.var 0) (.cons (.var 5) .nil))) (.var 2))) .nil)) .nil := rfl
theorem ub_law_numbers : b_law_numbers = .cons (.asg (.nm 3) (.cst (.int 0))) (.cons (.cond (.cmp .GtE (.var 0) (.bin .Pow (.cst (.int 10)) (.cst (.int 18)))) (.cons (.asg (.nm 3) (.bin .Sub (.var 0) (.bin .Pow (.cst (.int 10)) (.cst (.int 18))))) .nil) (.nil)) (.cons (.asg (.nm 4) (.al (.disp (.nil)))) (.cons (.loop (.nm 5) (.rng (.cons (.var 1) .nil)) b_law_numbers_1) (.cons (.ret (.var 4)) .nil)))) := rfl
theorem st_law_numbers {x0 x1 x2 : S} : startS N_law_numbers [x0, x1, x2] = [some x0, some x1, some x2, none, none, none] := rfl
def lib_law_numbers : Lib := [("_law_mixed", ["cell", "k"], sp_law_mixed)]
abbrev Γ_law_numbers : G.Env := lib_law_numbers.env (MroF tab)
theorem Φ_law_numbers_law_mixed : Γ_law_numbers.Φ "_law_mixed" = some sp_law_mixed := by rfl
theorem φ_law_numbers_law_mixed {P : FSpec → Prop} : (∃ φ, Γ_law_numbers.Φ "_law_mixed" = some φ ∧ P φ) = P sp_law_mixed := by rw [Φ_law_numbers_law_mixed]; exact ex_self
local macro_rules | `(tactic| walk_at "law_numbers") => `(tactic| simp (maxSteps := 1000000) only [ub_law_numbers, st_law_numbers, exits, Φ_law_numbers_law_mixed, ↓φ_law_numbers_law_mixed, ↓k_law_mixed, ↓xv_0, ↓xv_S, ↓da_snoc, ↓da_app, ↓e_cst, ↓e_neg, ↓e_not, ↓e_and, ↓e_or, ↓e_ite, ↓e_bin, ↓e_cmp, ↓e_chain, ↓e_tup, ↓e_fr, ↓e_ddisp, ↓e_ix, ↓e_sl, ↓e_rev, ↓e_call, ↓e_callK, ↓e_b1, ↓e_b2, ↓e_isX, ↓e_xval, ↓e_get, ↓e_pop, ↓e_popAt, ↓e_index, ↓t_not, ↓t_and, ↓t_or, ↓a_nil, ↓a_cons, ↓o_none, ↓o_some, ↓c_none, ↓c_some, ↓f_disp, ↓f_comp, ↓f_comp2, ↓f_listOf, ↓i_of, ↓i_rng, ↓i_zip, ↓i_rev, ↓t_var, ↓t_cst, ↓t_neg, ↓t_ite, ↓t_bin, ↓t_cmp, ↓t_chain, ↓t_tup, ↓t_fr, ↓t_al, ↓t_ddisp, ↓t_ix, ↓t_sl, ↓t_rev, ↓t_call, ↓t_callK, ↓t_b1, ↓t_b2, ↓t_isI, ↓t_isX, ↓t_xval, ↓t_get, ↓t_pop, ↓t_popAt, ↓t_index, ↓s_asg, ↓s_setIx, ↓s_augIx, ↓s_expr, ↓s_ret, ↓s_retN, ↓s_cond, ↓s_loop, ↓s_whl, ↓s_raise, ↓s_tryX, ↓s_pass, ↓s_brk, ↓s_cont, ↓b_nil, ↓b_cons, ↓h_nil, ↓r_add, ↓r_sub, ↓r_mul, ↓r_div, ↓r_mod, ↓r_pow, ↓r_shl, ↓r_cat, ↓r_cats, ↓r_rep, ↓r_lt, ↓r_le, ↓r_gt, ↓r_ge, ↓r_eqI, ↓r_neI, ↓r_augA, ↓r_augS, ↓r_augM, ↓tg_tpt, ↓tg_tpm, ↓tgs_nil, ↓tgs_cons, ↓turn_nx, ↓turn_ct, ↓turn_bk, ↓turn_rt, ↓turn_ex, ↓d_nil, ↓d_eq, ↓rng_1, ↓rng_2, ↓b_int, ↓b_intb, ↓b_bool, ↓b_boolb, ↓b_lent, ↓b_lenl, ↓b_tupt, ↓b_tupl, ↓b_str, ↓b_repr', ↓xp_d, ↓b_abs, ↓b_sum, ↓b_all, ↓b_any, ↓b_max, ↓b_min, ↓ix_t, ↓ix_l, ↓sl_t, ↓sl_l, ↓c_eqb, ↓c_neb, ↓c_isN, ↓c_isnN, ↓isx_eq, ↓xval_eq, ↓c_inT, ↓c_inL, ↓c_ninT, ↓c_ninL, ↓c_ltT, ↓c_leT, ↓c_gtT, ↓c_geT, ↓c_eqS, ↓c_neS, ↓b_lenm, ↓v_0, ↓v_S, ↓n_0, ↓n_S, ↓un_0, ↓un_S, ↓s_aug', ↓s_par', ↓h_cons', ↓xl_k, ↓xl_0, ↓xl_S, ↓xl_z, ↓md_k, ↓md_0, ↓mm_0, ↓mm_S, ↓nw_1, ↓nw_2, ↓nw_3, ↓nw_4, ↓nw_5, ↓e_al', ↓ix_m', ↓b_tupm', ↓sl_m', ↓ex_map, ↓ap_l, ↓s_app', ↓xt_l, ↓s_ext', ↓in_l, ↓s_ins', ↓p_put', ↓wt_d, ↓wt_k, ↓wt_k0, ↓to_S, ↓to_z, ↓e_isI1, ↓e_isI2, ↓ex_tb, ↓ex_ti, ↓ex_tn, ↓ex_tt, ↓ex_tl, ↓ex_i, ↓ex_B, ↓xd_nil, ↓xd_cons, ↓xd_map, ↓xi_t, ↓xi_l, ↓xi_m, ↓f_cat', ↓f_rep', ↓f_slice', ↓i_enum', nw_0, e_var, e_cst, e_neg, e_not, e_and, e_or, e_ite, e_bin, e_cmp, e_chain, e_tup, e_fr, e_al, e_ddisp, e_ix, e_sl, e_rev, e_call, e_callK, e_b1, e_b2, e_isI, e_isX, e_xval, e_get, e_pop, e_popAt, e_index, t_not, t_and, t_or, a_nil, a_cons, o_none, o_some, c_none, c_some, f_disp, f_comp, f_comp2, f_listOf, f_cat, f_rep, f_slice, i_of, i_rng, i_enum, i_zip, i_rev, t_var, t_cst, t_neg, t_ite, t_bin, t_cmp, t_chain, t_tup, t_fr, t_al, t_ddisp, t_ix, t_sl, t_rev, t_call, t_callK, t_b1, t_b2, t_isI, t_isX, t_xval, t_get, t_pop, t_popAt, t_index, s_asg, s_setIx, s_par, s_aug, s_augIx, s_expr, s_app, s_ext, s_ins, s_ret, s_retN, s_cond, s_loop, s_whl, s_raise, s_tryX, s_pass, s_brk, s_cont, b_nil, b_cons, h_nil, h_cons, r_add, r_sub, r_mul, r_div, r_mod, r_pow, r_shl, r_cat, r_cats, r_rep, r_lt, r_le, r_gt, r_ge, r_eqI, r_neI, tr_bool, tr_int, tr_none, tr_tuple, tr_list, r_augA, r_augS, r_augM, m_get, m_get0, m_set, m_set0, ex_v, ex_k, ex_lst, tg_nm, tg_tpt, tg_tpm, tgs_nil, tgs_cons, tgAt_eq, List.getElem?_cons_succ, List.getElem?_cons_zero, List.set_cons_succ, List.set_cons_zero, List.length_append, List.length_cons, List.length_nil, List.append_assoc, List.cons_append, List.nil_append, decide_eq_true_eq, I, B, N0, S.l.injEq, S.d.injEq, Option.some.injEq, MO.lst.injEq, exists_eq_left', exists_and_left, mapM_d, Bool.false_eq_true, isTy, at_0, at_1, mapM_s, List.map_cons, List.map_nil, List.any_cons, List.any_nil, id_eq, Bool.or_false, Bool.not_true, Bool.not_false, ↓reduceIte, turn_nx, turn_ct, turn_bk, turn_rt, turn_ex, ty_m, Int.zero_add, d_nil, d_eq, rng_1, rng_2, b_int, b_intb, b_bool, b_boolb, b_lent, b_lenl, b_lenm, b_tupt, b_tupl, b_tupm, b_str, b_repr', b_abs, b_sum, b_all, b_any, b_max, b_min, ix_t, ix_l, ix_m, sl_t, sl_l, sl_m, ty_d, it_t, it_l, pd_d, c_eqb, c_neb, c_isN, c_isnN, isx_eq, xval_eq, true_and, and_true, List.append_nil, wipeS, tgSlots, tgSlotss, c_inT, c_inL, c_ninT, c_ninL, c_ltT, c_leT, c_gtT, c_geT, it_k, it_k0, ty_k, ty_k0, lo_1, to_1, to_2, beq_self_eq_true, sd_inj, da_nil, da_cons, da_map, Option.map_some, p_put, Nat.reduceAdd, Int.reduceEq, Int.reduceLT, Int.reduceLE, c_noneF, c_eqS, c_neS, eq_self, decide_true, decide_false, pints_len, itm_len, sz_0, sz_1, sz_2, sz_3, sz_4, sz_5, sz_6, sz_7, sz_8, int?_d, ok_of_d, ex_self, Nat.zero_add])
theorem lm_law_numbers : ∀ p ∈ lib_law_numbers, ∀ vs, Mono (p.2.2 vs) := by
  intro p hp
  simp only [lib_law_numbers, List.mem_cons, List.not_mem_nil, or_false] at hp
  subst hp
  exact mo_law_mixed
theorem mb_law_numbers (s : Ss) : MonoS (wSs Γ_law_numbers s) := mSs s _ (Lib.mo lm_law_numbers)
theorem ck_law_numbers : kSs b_law_numbers ⟨N_law_numbers, defScope s_law_numbers, lib_law_numbers.fs, kws, cs, hs, true⟩ (defBody s_law_numbers) = true := by decide +kernel
theorem bd_law_numbers : Bd "_law_numbers" s_law_numbers ["cell", "many", "limit"] := fun _ _ _ _ _ _ us hl => match us, hl with | [_, _, _], _ => rfl
theorem kb_law_numbers : ∀ q ∈ kws, q.1 = "_law_numbers" → BdK "_law_numbers" s_law_numbers ["cell", "many", "limit"] q.2.1 q.2.2 := by
  intro q hq e
  simp only [kws, List.mem_cons, List.not_mem_nil, or_false] at hq
  subst hq
  · exact absurd e (by decide)
/-- the digits of what is left, then mixed numbers -/
def lawNums (cell limit : Int) : Nat → Int → Int → List Int
  | 0, _, _ => []
  | n + 1, k, rest => if 0 < rest then rest % limit :: lawNums cell limit n (k + 1) (rest / limit) else mixed cell k % limit :: lawNums cell limit n (k + 1) rest
def lawNumbers (cell : Int) (many : Nat) (limit : Int) : List Int := lawNums cell limit many 0 (if 1000000000000000000 ≤ cell then cell - 1000000000000000000 else 0)
def sp_law_numbers : FSpec := Fn fun vs _ r => ∃ (c : Int) (m : Nat) (l : Int), vs = [I c, I m, I l] ∧ (m < 16000000 ∧ 0 < l ∧ l < 1073741824) ∧ r = .inr (.d (.list (pints (lawNumbers c m l))))
theorem mo_law_numbers : ∀ vs, Mono (sp_law_numbers vs) := Fn_mo
theorem numbers_loop {M : Mem} {Q : S → Mem → Prop} {E : Xc → Mem → Prop} {c l : Int} {m : Nat} (h1 : m < 16000000) (h2 : 0 < l) (h3 : l < 1073741824) {rest0 : Int} (q : Q (.d (.list (pints (lawNums c l m 0 rest0)))) M) :
    wFor (wTg (.nm 5)) (fun _ => True) (wSs Γ_law_numbers b_law_numbers_1) (rngItems 0 m) [some (.d (.int c)), some (.d (.int m)), some (.d (.int l)), some (.d (.int rest0)), some (.l M.length), none] (M ++ [.lst []])
      { nx := fun ρ1 M1 => ∃ v, ρ1[4]? = some (some v) ∧ ∃ r M2, Ex M M1 v r M2 ∧ Q r M2, rt := fun v M' => ∃ r M2, Ex M M' v r M2 ∧ Q r M2, ex := fun x x_1 M' => ∃ r M2, Ex M M' x.val r M2 ∧ E { cls := x.cls, fld := x.fld, val := r } M2 } := by
  refine for_rng m (by omega) (mb_law_numbers _) (fun i ρ M' => ∃ rest row k, ρ = [some (.d (.int c)), some (.d (.int m)), some (.d (.int l)), some (.d (.int rest)), some (.l M.length), k] ∧ M' = M ++ [.lst ((pints row).map .d)] ∧ row.length = i ∧ row ++ lawNums c l (m - i) i rest = lawNums c l m 0 rest0)
    ⟨rest0, [], none, rfl, rfl, rfl, by simp⟩ ?_ ?_
  · rintro ρ M' ⟨rest, row, k, rfl, rfl, hl, e⟩
    refine ⟨.l M.length, rfl, ret_frz0 ?_⟩
    rw [Nat.sub_self] at e
    simp only [lawNums, List.append_nil] at e
    rw [e]
    exact q
  · rintro i ρ M' hi ⟨rest, row, k, rfl, rfl, hl, e⟩
    have hm : m - i = (m - (i + 1)) + 1 := by omega
    rw [hm, lawNums] at e
    simp only [ub_law_numbers_1]
    walk_at "law_numbers"
    have hz : (List.map S.d (pints row)).length < sizeLine := by
      have e1 : (List.map S.d (pints row)).length = i := by simp [pints, hl]
      have e2 : sizeLine = 16777216 := by decide
      omega
    have hp : ∀ z : Int, List.map S.d (pints row) ++ [S.d (PyData.int z)] = List.map S.d (pints (row ++ [z])) := fun z => by simp [pints]
    split
    · rename_i h0
      rw [if_pos h0] at e
      exact ⟨h2, hz, div_ok ⟨h2, h3⟩, rest / l, row ++ [rest % l], _, rfl, by rw [hp], by simp [hl], by simpa using e⟩
    · rename_i h0
      rw [if_neg h0] at e
      exact ⟨h2, hz, rest, row ++ [mixed c i % l], _, rfl, by rw [hp], by simp [hl], by simpa using e⟩
theorem w_law_numbers : ∀ (ss : List S) (M : Mem) (Q : S → Mem → Prop) (E : Xc → Mem → Prop), ss.length = 3 → sp_law_numbers ss M Q E → wSs Γ_law_numbers b_law_numbers (startS N_law_numbers ss) M (exits M Q E) := by
  rintro ss M Q E hl ⟨r, ⟨c, m, l, rfl, ⟨h1, h2, h3⟩, rfl⟩, q⟩
  walk_at "law_numbers"
  rw [p18]
  have hk : rngOk 0 m := by unfold rngOk; omega
  refine ⟨⟨by decide, by decide, by decide⟩, ?_⟩
  unfold lawNumbers at q
  split
  · rename_i h
    rw [if_pos h] at q
    exact ⟨⟨by decide, by decide, by decide⟩, hk, numbers_loop h1 h2 h3 q⟩
  · rename_i h
    rw [if_neg h] at q
    exact ⟨hk, numbers_loop h1 h2 h3 q⟩
theorem k_law_numbers {c l : Int} {m : Nat} {M : Mem} {Q : S → Mem → Prop} {E : Xc → Mem → Prop} (h : m < 16000000 ∧ 0 < l ∧ l < 1073741824) : sp_law_numbers [.d (.int c), .d (.int m), .d (.int l)] M Q E ↔ Q (.d (.list (pints (lawNumbers c m l)))) M :=
  ⟨fun ⟨r, ⟨y, z, u, e, _, er⟩, q⟩ => by
    simp only [List.cons.injEq, S.d.injEq, PyData.int.injEq, Int.natCast_inj, and_true] at e
    obtain ⟨rfl, rfl, rfl⟩ := e
    subst er
    exact q, fun q => ⟨_, ⟨c, m, l, rfl, h, rfl⟩, q⟩⟩
/-! _law_drawn_web -/
abbrev s_law_drawn_web : Stmt := topS 16
def N_law_drawn_web : List Str := ["cell", "points", "bound", "draws", "web", "k", "a", "b"]
theorem sc_law_drawn_web : FnScope N_law_drawn_web ["cell", "points", "bound"] (defScope s_law_drawn_web) := ⟨rfl, rfl, rfl, by decide +kernel, rfl, by decide +kernel, by decide +kernel⟩
def b_law_drawn_web_2 : Ss := .cons (.cond (.cmp .Lt (.ix (.var 3) (.var 5)) (.var 2)) (.cons (.app (.var 4) (.tup (.cons (.var 6) (.cons (.var 7) .nil)))) .nil) (.nil)) (.cons (.asg (.nm 5) (.bin .Add (.var 5) (.cst (.int 1)))) .nil)
def b_law_drawn_web_1 : Ss := .cons (.loop (.nm 7) (.rng (.cons (.bin .Add (.var 6) (.cst (.int 1))) (.cons (.var 1) .nil))) b_law_drawn_web_2) .nil
def b_law_drawn_web : Ss := .cons (.asg (.nm 3) (.call "_law_numbers" (.cons (.var 0) (.cons (.bin .FloorDiv (.bin .Mult (.var 1) (.bin .Sub (.var 1) (.cst (.int 1)))) (.cst (.int 2))) (.cons (.cst (.int 10)) .nil))))) (.cons (.asg (.nm 4) (.al (.disp (.nil)))) (.cons (.asg (.nm 5) (.cst (.int 0))) (.cons (.loop (.nm 6) (.rng (.cons (.var 1) .nil)) b_law_drawn_web_1) (.cons (.ret (.var 4)) .nil))))
theorem ub_law_drawn_web_2 : b_law_drawn_web_2 = .cons (.cond (.cmp .Lt (.ix (.var 3) (.var 5)) (.var 2)) (.cons (.app (.var 4) (.tup (.cons (.var 6) (.cons (.var 7) .nil)))) .nil) (.nil)) (.cons (.asg (.nm 5) (.bin .Add (.var 5) (.cst (.int 1)))) .nil) := rfl
theorem ub_law_drawn_web_1 : b_law_drawn_web_1 = .cons (.loop (.nm 7) (.rng (.cons (.bin .Add (.var 6) (.cst (.int 1))) (.cons (.var 1) .nil))) b_law_drawn_web_2) .nil := rfl
theorem ub_law_drawn_web : b_law_drawn_web = .cons (.asg (.nm 3) (.call "_law_numbers" (.cons (.var 0) (.cons (.bin .FloorDiv (.bin .Mult (.var 1) (.bin .Sub (.var 1) (.cst (.int 1)))) (.cst (.int 2))) (.cons (.cst (.int 10)) .nil))))) (.cons (.asg (.nm 4) (.al (.disp (.nil)))) (.cons (.asg (.nm 5) (.cst (.int 0))) (.cons (.loop (.nm 6) (.rng (.cons (.var 1) .nil)) b_law_drawn_web_1) (.cons (.ret (.var 4)) .nil)))) := rfl
theorem st_law_drawn_web {x0 x1 x2 : S} : startS N_law_drawn_web [x0, x1, x2] = [some x0, some x1, some x2, none, none, none, none, none] := rfl
def lib_law_drawn_web : Lib := [("_law_numbers", ["cell", "many", "limit"], sp_law_numbers)]
abbrev Γ_law_drawn_web : G.Env := lib_law_drawn_web.env (MroF tab)
theorem Φ_law_drawn_web_law_numbers : Γ_law_drawn_web.Φ "_law_numbers" = some sp_law_numbers := by rfl
theorem φ_law_drawn_web_law_numbers {P : FSpec → Prop} : (∃ φ, Γ_law_drawn_web.Φ "_law_numbers" = some φ ∧ P φ) = P sp_law_numbers := by rw [Φ_law_drawn_web_law_numbers]; exact ex_self
local macro_rules | `(tactic| walk_at "law_drawn_web") => `(tactic| simp (maxSteps := 1000000) only [ub_law_drawn_web, st_law_drawn_web, exits, Φ_law_drawn_web_law_numbers, ↓φ_law_drawn_web_law_numbers, ↓k_law_numbers, ↓xv_0, ↓xv_S, ↓da_snoc, ↓da_app, ↓e_cst, ↓e_neg, ↓e_not, ↓e_and, ↓e_or, ↓e_ite, ↓e_bin, ↓e_cmp, ↓e_chain, ↓e_tup, ↓e_fr, ↓e_ddisp, ↓e_ix, ↓e_sl, ↓e_rev, ↓e_call, ↓e_callK, ↓e_b1, ↓e_b2, ↓e_isX, ↓e_xval, ↓e_get, ↓e_pop, ↓e_popAt, ↓e_index, ↓t_not, ↓t_and, ↓t_or, ↓a_nil, ↓a_cons, ↓o_none, ↓o_some, ↓c_none, ↓c_some, ↓f_disp, ↓f_comp, ↓f_comp2, ↓f_listOf, ↓i_of, ↓i_rng, ↓i_zip, ↓i_rev, ↓t_var, ↓t_cst, ↓t_neg, ↓t_ite, ↓t_bin, ↓t_cmp, ↓t_chain, ↓t_tup, ↓t_fr, ↓t_al, ↓t_ddisp, ↓t_ix, ↓t_sl, ↓t_rev, ↓t_call, ↓t_callK, ↓t_b1, ↓t_b2, ↓t_isI, ↓t_isX, ↓t_xval, ↓t_get, ↓t_pop, ↓t_popAt, ↓t_index, ↓s_asg, ↓s_setIx, ↓s_augIx, ↓s_expr, ↓s_ret, ↓s_retN, ↓s_cond, ↓s_loop, ↓s_whl, ↓s_raise, ↓s_tryX, ↓s_pass, ↓s_brk, ↓s_cont, ↓b_nil, ↓b_cons, ↓h_nil, ↓r_add, ↓r_sub, ↓r_mul, ↓r_div, ↓r_mod, ↓r_pow, ↓r_shl, ↓r_cat, ↓r_cats, ↓r_rep, ↓r_lt, ↓r_le, ↓r_gt, ↓r_ge, ↓r_eqI, ↓r_neI, ↓r_augA, ↓r_augS, ↓r_augM, ↓tg_tpt, ↓tg_tpm, ↓tgs_nil, ↓tgs_cons, ↓turn_nx, ↓turn_ct, ↓turn_bk, ↓turn_rt, ↓turn_ex, ↓d_nil, ↓d_eq, ↓rng_1, ↓rng_2, ↓b_int, ↓b_intb, ↓b_bool, ↓b_boolb, ↓b_lent, ↓b_lenl, ↓b_tupt, ↓b_tupl, ↓b_str, ↓b_repr', ↓xp_d, ↓b_abs, ↓b_sum, ↓b_all, ↓b_any, ↓b_max, ↓b_min, ↓ix_t, ↓ix_l, ↓sl_t, ↓sl_l, ↓c_eqb, ↓c_neb, ↓c_isN, ↓c_isnN, ↓isx_eq, ↓xval_eq, ↓c_inT, ↓c_inL, ↓c_ninT, ↓c_ninL, ↓c_ltT, ↓c_leT, ↓c_gtT, ↓c_geT, ↓c_eqS, ↓c_neS, ↓b_lenm, ↓v_0, ↓v_S, ↓n_0, ↓n_S, ↓un_0, ↓un_S, ↓s_aug', ↓s_par', ↓h_cons', ↓xl_k, ↓xl_0, ↓xl_S, ↓xl_z, ↓md_k, ↓md_0, ↓mm_0, ↓mm_S, ↓nw_1, ↓nw_2, ↓nw_3, ↓nw_4, ↓nw_5, ↓e_al', ↓ix_m', ↓b_tupm', ↓sl_m', ↓ex_map, ↓ap_l, ↓s_app', ↓xt_l, ↓s_ext', ↓in_l, ↓s_ins', ↓p_put', ↓wt_d, ↓wt_k, ↓wt_k0, ↓to_S, ↓to_z, ↓e_isI1, ↓e_isI2, ↓ex_tb, ↓ex_ti, ↓ex_tn, ↓ex_tt, ↓ex_tl, ↓ex_i, ↓ex_B, ↓xd_nil, ↓xd_cons, ↓xd_map, ↓xi_t, ↓xi_l, ↓xi_m, ↓f_cat', ↓f_rep', ↓f_slice', ↓i_enum', nw_0, e_var, e_cst, e_neg, e_not, e_and, e_or, e_ite, e_bin, e_cmp, e_chain, e_tup, e_fr, e_al, e_ddisp, e_ix, e_sl, e_rev, e_call, e_callK, e_b1, e_b2, e_isI, e_isX, e_xval, e_get, e_pop, e_popAt, e_index, t_not, t_and, t_or, a_nil, a_cons, o_none, o_some, c_none, c_some, f_disp, f_comp, f_comp2, f_listOf, f_cat, f_rep, f_slice, i_of, i_rng, i_enum, i_zip, i_rev, t_var, t_cst, t_neg, t_ite, t_bin, t_cmp, t_chain, t_tup, t_fr, t_al, t_ddisp, t_ix, t_sl, t_rev, t_call, t_callK, t_b1, t_b2, t_isI, t_isX, t_xval, t_get, t_pop, t_popAt, t_index, s_asg, s_setIx, s_par, s_aug, s_augIx, s_expr, s_app, s_ext, s_ins, s_ret, s_retN, s_cond, s_loop, s_whl, s_raise, s_tryX, s_pass, s_brk, s_cont, b_nil, b_cons, h_nil, h_cons, r_add, r_sub, r_mul, r_div, r_mod, r_pow, r_shl, r_cat, r_cats, r_rep, r_lt, r_le, r_gt, r_ge, r_eqI, r_neI, tr_bool, tr_int, tr_none, tr_tuple, tr_list, r_augA, r_augS, r_augM, m_get, m_get0, m_set, m_set0, ex_v, ex_k, ex_lst, tg_nm, tg_tpt, tg_tpm, tgs_nil, tgs_cons, tgAt_eq, List.getElem?_cons_succ, List.getElem?_cons_zero, List.set_cons_succ, List.set_cons_zero, List.length_append, List.length_cons, List.length_nil, List.append_assoc, List.cons_append, List.nil_append, decide_eq_true_eq, I, B, N0, S.l.injEq, S.d.injEq, Option.some.injEq, MO.lst.injEq, exists_eq_left', exists_and_left, mapM_d, Bool.false_eq_true, isTy, at_0, at_1, mapM_s, List.map_cons, List.map_nil, List.any_cons, List.any_nil, id_eq, Bool.or_false, Bool.not_true, Bool.not_false, ↓reduceIte, turn_nx, turn_ct, turn_bk, turn_rt, turn_ex, ty_m, Int.zero_add, d_nil, d_eq, rng_1, rng_2, b_int, b_intb, b_bool, b_boolb, b_lent, b_lenl, b_lenm, b_tupt, b_tupl, b_tupm, b_str, b_repr', b_abs, b_sum, b_all, b_any, b_max, b_min, ix_t, ix_l, ix_m, sl_t, sl_l, sl_m, ty_d, it_t, it_l, pd_d, c_eqb, c_neb, c_isN, c_isnN, isx_eq, xval_eq, true_and, and_true, List.append_nil, wipeS, tgSlots, tgSlotss, c_inT, c_inL, c_ninT, c_ninL, c_ltT, c_leT, c_gtT, c_geT, it_k, it_k0, ty_k, ty_k0, lo_1, to_1, to_2, beq_self_eq_true, sd_inj, da_nil, da_cons, da_map, Option.map_some, p_put, Nat.reduceAdd, Int.reduceEq, Int.reduceLT, Int.reduceLE, c_noneF, c_eqS, c_neS, eq_self, decide_true, decide_false, pints_len, itm_len, sz_0, sz_1, sz_2, sz_3, sz_4, sz_5, sz_6, sz_7, sz_8, int?_d, ok_of_d, ex_self, Nat.zero_add])
theorem lm_law_drawn_web : ∀ p ∈ lib_law_drawn_web, ∀ vs, Mono (p.2.2 vs) := by
  intro p hp
  simp only [lib_law_drawn_web, List.mem_cons, List.not_mem_nil, or_false] at hp
  subst hp
  exact mo_law_numbers
theorem mb_law_drawn_web (s : Ss) : MonoS (wSs Γ_law_drawn_web s) := mSs s _ (Lib.mo lm_law_drawn_web)
theorem ck_law_drawn_web : kSs b_law_drawn_web ⟨N_law_drawn_web, defScope s_law_drawn_web, lib_law_drawn_web.fs, kws, cs, hs, true⟩ (defBody s_law_drawn_web) = true := by decide +kernel
theorem bd_law_drawn_web : Bd "_law_drawn_web" s_law_drawn_web ["cell", "points", "bound"] := fun _ _ _ _ _ _ us hl => match us, hl with | [_, _, _], _ => rfl
theorem kb_law_drawn_web : ∀ q ∈ kws, q.1 = "_law_drawn_web" → BdK "_law_drawn_web" s_law_drawn_web ["cell", "points", "bound"] q.2.1 q.2.2 := by
  intro q hq e
  simp only [kws, List.mem_cons, List.not_mem_nil, or_false] at hq
  subst hq
  · exact absurd e (by decide)
def triN : Nat → Nat
  | 0 => 0
  | m + 1 => triN m + m
theorem triN_half : ∀ n < 31, n * (n - 1) / 2 = triN n := by decide
theorem triN_le : ∀ n < 31, triN n ≤ 500 := by decide
theorem lawNums_len (c l : Int) : ∀ (n : Nat) (k r : Int), (lawNums c l n k r).length = n
  | 0, _, _ => rfl
  | n + 1, k, r => by
    unfold lawNums
    split <;> rw [List.length_cons, lawNums_len]
def sp_law_drawn_web : FSpec := fun vs M Q E => match vs with
  | [.d (.int c), .d (.int n), .d (.int b)] => (0 ≤ n ∧ n ≤ 30) ∧ ∀ w, Good w n → Q (.d (.list (webL w))) M
  | _ => False
theorem mo_law_drawn_web : ∀ vs, Mono (sp_law_drawn_web vs) := by
  intro vs M Q Q' X X' hq hx h
  unfold sp_law_drawn_web at *
  split at h
  · exact ⟨h.1, fun w g => hq _ _ (h.2 w g)⟩
  · exact h
/-- what is drawn up to the pair (a, b) -/
structure Drw (w : List (Int × Int)) (n : Int) (a b : Int) (k : Nat) : Prop where
  ps : ∀ p ∈ w, isP n p ∧ (p.1 < a ∨ p.1 = a ∧ p.2 < b)
  up : w.Pairwise ltP
  len : w.length ≤ k
theorem Drw.skip {w : List (Int × Int)} {n a b : Int} {k : Nat} (d : Drw w n a b k) : Drw w n a (b + 1) (k + 1) := ⟨fun p hp => ⟨(d.ps p hp).1, by have := (d.ps p hp).2; omega⟩, d.up, by have := d.len; omega⟩
theorem Drw.add {w : List (Int × Int)} {n a b : Int} {k : Nat} (d : Drw w n a b k) (h0 : 0 ≤ a) (h1 : a < b) (h2 : b < n) : Drw (w ++ [(a, b)]) n a (b + 1) (k + 1) := by
  refine ⟨fun p hp => ?_, ?_, ?_⟩
  · rcases List.mem_append.mp hp with hp | hp
    · exact d.skip.ps p hp
    · rw [List.mem_singleton] at hp
      subst hp
      exact ⟨⟨h0, h1, h2⟩, .inr ⟨rfl, by omega⟩⟩
  · rw [List.pairwise_append]
    refine ⟨d.up, List.pairwise_singleton _ _, fun p hp q hq => ?_⟩
    rw [List.mem_singleton] at hq
    subst hq
    exact (d.ps p hp).2
  · rw [List.length_append]
    have := d.len
    simp only [List.length_cons, List.length_nil]
    omega
theorem Drw.next {w : List (Int × Int)} {n a b : Int} {k : Nat} (d : Drw w n a b k) : Drw w n (a + 1) (a + 1 + 1) k := ⟨fun p hp => ⟨(d.ps p hp).1, by have := (d.ps p hp).2; omega⟩, d.up, d.len⟩
theorem drawn_inner {M : Mem} {c bd : Int} {n a : Nat} {dr : List Int} (hn : n ≤ 30) (ha : a < n) (hd : dr.length = triN n) {w : List (Int × Int)} {k : Nat} {s7 : Option S} (d : Drw w n a (a + 1) k) (hk : k + triN (n - a) = triN n)
    {O : Outs} (q : ∀ w k s7, Drw w n a n k → k + triN (n - (a + 1)) = triN n → O.nx [some (I c), some (I n), some (I bd), some (.d (.list (pints dr))), some (.l M.length), some (.d (.int (k : Nat))), some (.d (.int a)), s7] (M ++ [.lst ((webL w).map .d)])) :
    wFor (wTg (.nm 7)) (fun _ => True) (wSs Γ_law_drawn_web b_law_drawn_web_2) (rngItems ((a : Int) + 1) n) [some (I c), some (I n), some (I bd), some (.d (.list (pints dr))), some (.l M.length), some (.d (.int (k : Nat))), some (.d (.int a)), s7] (M ++ [.lst ((webL w).map .d)]) O := by
  refine for_rng (n - (a + 1)) (by omega) (mb_law_drawn_web _) (fun j ρ M' => ∃ w k s7, ρ = [some (I c), some (I n), some (I bd), some (.d (.list (pints dr))), some (.l M.length), some (.d (.int (k : Nat))), some (.d (.int a)), s7] ∧ M' = M ++ [.lst ((webL w).map .d)] ∧ Drw w n a ((a : Int) + 1 + (j : Nat)) k ∧ k + (triN (n - (a + 1)) + (n - (a + 1) - j)) = triN n)
    ⟨w, k, s7, rfl, rfl, by simpa using d, ?_⟩ ?_ ?_
  · have e : n - a = (n - (a + 1)) + 1 := by omega
    rw [e, triN] at hk
    omega
  · rintro ρ M' ⟨w, k, s7, rfl, rfl, d, e⟩
    refine q w k s7 ?_ (by omega)
    have : ((a : Int) + 1 + ((n - (a + 1) : Nat) : Int)) = n := by omega
    rw [this] at d
    exact d
  · rintro j ρ M' hj ⟨w, k, s7, rfl, rfl, d, e⟩
    have hk : k < dr.length := by omega
    have hs : w.length < sizeLine := by
      have h1 := d.len
      have h2 := triN_le n (by omega)
      rw [slS]
      omega
    have hv : atI (pints dr) (k : Int) = some (.int dr[k]) := at_nat (by simp [pints, hk])
    have hp : ∀ a b : Int, List.map S.d (webL w) ++ [S.d (.tuple [.int a, .int b])] = List.map S.d (webL (w ++ [(a, b)])) := fun a b => by simp [webL, pairD]
    have hl : (List.map S.d (webL w)).length < sizeLine := by simpa [webL] using hs
    simp only [ub_law_drawn_web_2]
    walk_at "law_drawn_web"
    refine ⟨_, hv, ?_⟩
    walk_at "law_drawn_web"
    split
    · refine ⟨hl, w ++ [((a : Int), (a : Int) + 1 + (j : Nat))], k + 1, _, rfl, by rw [hp], ?_, by omega⟩
      have := d.add (by omega) (by omega) (by omega)
      rw [Int.add_assoc ((a : Int) + 1)] at this
      exact this
    · refine ⟨w, k + 1, _, rfl, rfl, ?_, by omega⟩
      have := d.skip
      rw [Int.add_assoc ((a : Int) + 1)] at this
      exact this
theorem w_law_drawn_web : ∀ (ss : List S) (M : Mem) (Q : S → Mem → Prop) (E : Xc → Mem → Prop), ss.length = 3 → sp_law_drawn_web ss M Q E → wSs Γ_law_drawn_web b_law_drawn_web (startS N_law_drawn_web ss) M (exits M Q E) := by
  intro ss M Q E hl h
  unfold sp_law_drawn_web at h
  split at h
  case h_2 => exact h.elim
  rename_i c n bd
  obtain ⟨⟨h0, h1⟩, h⟩ := h
  obtain ⟨n, rfl⟩ := Int.eq_ofNat_of_zero_le h0
  have hm : (n : Int) * ((n : Int) - 1) / 2 = (triN n : Nat) := by
    have := triN_half n (by omega)
    cases n with
    | zero => rfl
    | succ m => 
      have e : ((m + 1 : Nat) : Int) * (((m + 1 : Nat) : Int) - 1) = (((m + 1) * (m + 1 - 1) : Nat) : Int) := by
        have : ((m + 1 : Nat) : Int) - 1 = ((m + 1 - 1 : Nat) : Int) := by omega
        rw [this]
        exact (Int.natCast_mul _ _).symm
      rw [e, ← this]
      exact (Int.natCast_ediv _ _).symm
  have ht := triN_le n (by omega)
  have hl : (lawNumbers c (triN n) 10).length = triN n := lawNums_len _ _ _ _ _
  walk_at "law_drawn_web"
  refine ⟨mul_l (by constructor <;> omega), div_ok (by decide), ?_⟩
  rw [hm]
  refine (k_law_numbers ⟨by omega, by decide, by decide⟩).mpr ⟨by unfold rngOk; omega, ?_⟩
  refine for_rng n (by omega) (mb_law_drawn_web _) (fun a ρ M' => ∃ w k s6 s7, ρ = [some (I c), some (I n), some (I bd), some (.d (.list (pints (lawNumbers c (triN n) 10)))), some (.l M.length), some (.d (.int (k : Nat))), s6, s7] ∧ M' = M ++ [.lst ((webL w).map .d)] ∧ Drw w n a ((a : Int) + 1) k ∧ k + triN (n - a) = triN n)
    ⟨[], 0, none, none, rfl, rfl, ⟨fun _ h => (nomatch h), List.Pairwise.nil, Nat.le_refl _⟩, by simp⟩ ?_ ?_
  · rintro ρ M' ⟨w, k, s6, s7, rfl, rfl, d, e⟩
    exact ⟨_, rfl, ret_frz0 (h w ⟨fun p hp => (d.ps p hp).1, d.up, by have := d.len; omega⟩)⟩
  · rintro a ρ M' ha ⟨w, k, s6, s7, rfl, rfl, d, e⟩
    simp only [ub_law_drawn_web_1]
    walk_at "law_drawn_web"
    refine ⟨by unfold rngOk; omega, drawn_inner (by omega) ha hl d e fun w k s7 d e => ?_⟩
    exact ⟨w, k, _, s7, rfl, rfl, ⟨fun p hp => ⟨(d.ps p hp).1, by have := (d.ps p hp).2; have := (d.ps p hp).1; unfold isP at this; omega⟩, d.up, d.len⟩, e⟩
theorem k_law_drawn_web {c n b : Int} {M : Mem} {Q : S → Mem → Prop} {E : Xc → Mem → Prop} : sp_law_drawn_web [.d (.int c), .d (.int n), .d (.int b)] M Q E = ((0 ≤ n ∧ n ≤ 30) ∧ ∀ w, Good w n → Q (.d (.list (webL w))) M) := rfl
/-! _law_changed -/
abbrev s_law_changed : Stmt := topS 18
def N_law_changed : List Str := ["web", "points", "way", "cell", "pairs", "at", "a", "b"]
theorem sc_law_changed : FnScope N_law_changed ["web", "points", "way", "cell"] (defScope s_law_changed) := ⟨rfl, rfl, rfl, by decide +kernel, rfl, by decide +kernel, by decide +kernel⟩
def b_law_changed : Ss := .cons (.asg (.nm 4) (.al (.listOf (.var 0)))) (.cons (.asg (.nm 5) (.cst (.int 0))) (.cons (.cond (.cmp .Gt (.b1 .len (.var 4)) (.cst (.int 0))) (.cons (.asg (.nm 5) (.bin .Mod (.b1 .int (.var 3)) (.b1 .len (.var 4)))) .nil) (.nil)) (.cons (.cond (.or (.cmp .Eq (.var 2) (.cst (.int 0))) (.and (.cmp .Gt (.var 2) (.cst (.int 6))) (.cmp .Eq (.b1 .len (.var 4)) (.cst (.int 0))))) (.cons (.ret (.var 4)) .nil) (.nil)) (.cons (.cond (.cmp .Eq (.var 2) (.cst (.int 1))) (.cons (.ret (.b1 .tuple (.fr (.cat (.var 4) (.fr (.disp (.cons (.tup (.cons (.var 1) (.cons (.bin .Add (.var 1) (.cst (.int 1))) .nil))) .nil))))))) .nil) (.nil)) (.cons (.cond (.cmp .Eq (.var 2) (.cst (.int 2))) (.cons (.ret (.b1 .tuple (.fr (.cat (.fr (.disp (.cons (.tup (.cons (.neg (.cst (.int 1))) (.cons (.cst (.int 0)) .nil))) .nil))) (.var 4))))) .nil) (.nil)) (.cons (.cond (.cmp .Eq (.var 2) (.cst (.int 3))) (.cons (.ret (.ix (.fr (.disp (.cons (.cst .none) (.cons (.cst (.int 0)) (.cons (.cst (.str "")) (.cons (.cst (.dict [])) (.cons (.cst (.str "01")) (.cons (.cst (.bool true)) .nil)))))))) (.bin .Mod (.b1 .int (.var 3)) (.cst (.int 6))))) .nil) (.nil)) (.cons (.cond (.cmp .Eq (.var 2) (.cst (.int 4))) (.cons (.ret (.b1 .tuple (.fr (.cat (.var 4) (.fr (.disp (.cons (.tup (.cons (.bin .Sub (.var 1) (.cst (.int 1))) (.cons (.var 1) .nil))) .nil))))))) .nil) (.nil)) (.cons (.cond (.cmp .Eq (.var 2) (.cst (.int 5))) (.cons (.ret (.b1 .tuple (.fr (.cat (.var 4) (.fr (.disp (.cons (.cst .none) .nil))))))) .nil) (.nil)) (.cons (.cond (.cmp .Eq (.var 2) (.cst (.int 6))) (.cons (.ret (.b1 .tuple (.fr (.cat (.var 4) (.fr (.disp (.cons (.tup (.cons (.b2 .max (.cst (.int 0)) (.bin .Sub (.var 1) (.cst (.int 1)))) (.cons (.b2 .max (.cst (.int 0)) (.bin .Sub (.var 1) (.cst (.int 1)))) .nil))) .nil))))))) .nil) (.nil)) (.cons (.asg (.tp [.nm 6, .nm 7]) (.ix (.var 4) (.var 5))) (.cons (.cond (.cmp .Eq (.var 2) (.cst (.int 7))) (.cons (.setIx (.var 4) (.var 5) (.fr (.disp (.cons (.var 6) (.cons (.var 7) .nil))))) .nil) (.nil)) (.cons (.cond (.cmp .Eq (.var 2) (.cst (.int 8))) (.cons (.setIx (.var 4) (.var 5) (.tup (.cons (.var 7) (.cons (.var 6) .nil)))) .nil) (.nil)) (.cons (.cond (.cmp .Eq (.var 2) (.cst (.int 9))) (.cons (.ins (.var 4) (.var 5) (.tup (.cons (.var 6) (.cons (.var 7) .nil)))) .nil) (.nil)) (.cons (.cond (.cmp .Eq (.var 2) (.cst (.int 10))) (.cons (.ret (.b1 .tuple (.fr (.cat (.sl (.var 4) (.some (.var 5)) .none) (.sl (.var 4) .none (.some (.var 5))))))) .nil) (.nil)) (.cons (.cond (.cmp .Eq (.var 2) (.cst (.int 11))) (.cons (.setIx (.var 4) (.var 5) (.tup (.cons (.var 6) (.cons (.var 7) (.cons (.var 7) .nil))))) .nil) (.nil)) (.cons (.cond (.cmp .Eq (.var 2) (.cst (.int 12))) (.cons (.setIx (.var 4) (.var 5) (.tup (.cons (.b1 .bool (.var 6)) (.cons (.var 7) .nil)))) .nil) (.nil)) (.cons (.cond (.cmp .Eq (.var 2) (.cst (.int 13))) (.cons (.setIx (.var 4) (.var 5) (.tup (.cons (.var 6) (.cons (.b1 .str (.var 7)) .nil)))) .nil) (.nil)) (.cons (.cond (.cmp .Eq (.var 2) (.cst (.int 14))) (.cons (.setIx (.var 4) (.var 5) (.tup (.cons (.var 6) .nil))) .nil) (.nil)) (.cons (.cond (.cmp .Eq (.var 2) (.cst (.int 15))) (.cons (.ret (.b1 .tuple (.fr (.cat (.sl (.var 4) .none (.some (.var 5))) (.sl (.var 4) (.some (.bin .Add (.var 5) (.cst (.int 1)))) .none))))) .nil) (.nil)) (.cons (.ret (.b1 .tuple (.var 4))) .nil))))))))))))))))))))
theorem ub_law_changed : b_law_changed = .cons (.asg (.nm 4) (.al (.listOf (.var 0)))) (.cons (.asg (.nm 5) (.cst (.int 0))) (.cons (.cond (.cmp .Gt (.b1 .len (.var 4)) (.cst (.int 0))) (.cons (.asg (.nm 5) (.bin .Mod (.b1 .int (.var 3)) (.b1 .len (.var 4)))) .nil) (.nil)) (.cons (.cond (.or (.cmp .Eq (.var 2) (.cst (.int 0))) (.and (.cmp .Gt (.var 2) (.cst (.int 6))) (.cmp .Eq (.b1 .len (.var 4)) (.cst (.int 0))))) (.cons (.ret (.var 4)) .nil) (.nil)) (.cons (.cond (.cmp .Eq (.var 2) (.cst (.int 1))) (.cons (.ret (.b1 .tuple (.fr (.cat (.var 4) (.fr (.disp (.cons (.tup (.cons (.var 1) (.cons (.bin .Add (.var 1) (.cst (.int 1))) .nil))) .nil))))))) .nil) (.nil)) (.cons (.cond (.cmp .Eq (.var 2) (.cst (.int 2))) (.cons (.ret (.b1 .tuple (.fr (.cat (.fr (.disp (.cons (.tup (.cons (.neg (.cst (.int 1))) (.cons (.cst (.int 0)) .nil))) .nil))) (.var 4))))) .nil) (.nil)) (.cons (.cond (.cmp .Eq (.var 2) (.cst (.int 3))) (.cons (.ret (.ix (.fr (.disp (.cons (.cst .none) (.cons (.cst (.int 0)) (.cons (.cst (.str "")) (.cons (.cst (.dict [])) (.cons (.cst (.str "01")) (.cons (.cst (.bool true)) .nil)))))))) (.bin .Mod (.b1 .int (.var 3)) (.cst (.int 6))))) .nil) (.nil)) (.cons (.cond (.cmp .Eq (.var 2) (.cst (.int 4))) (.cons (.ret (.b1 .tuple (.fr (.cat (.var 4) (.fr (.disp (.cons (.tup (.cons (.bin .Sub (.var 1) (.cst (.int 1))) (.cons (.var 1) .nil))) .nil))))))) .nil) (.nil)) (.cons (.cond (.cmp .Eq (.var 2) (.cst (.int 5))) (.cons (.ret (.b1 .tuple (.fr (.cat (.var 4) (.fr (.disp (.cons (.cst .none) .nil))))))) .nil) (.nil)) (.cons (.cond (.cmp .Eq (.var 2) (.cst (.int 6))) (.cons (.ret (.b1 .tuple (.fr (.cat (.var 4) (.fr (.disp (.cons (.tup (.cons (.b2 .max (.cst (.int 0)) (.bin .Sub (.var 1) (.cst (.int 1)))) (.cons (.b2 .max (.cst (.int 0)) (.bin .Sub (.var 1) (.cst (.int 1)))) .nil))) .nil))))))) .nil) (.nil)) (.cons (.asg (.tp [.nm 6, .nm 7]) (.ix (.var 4) (.var 5))) (.cons (.cond (.cmp .Eq (.var 2) (.cst (.int 7))) (.cons (.setIx (.var 4) (.var 5) (.fr (.disp (.cons (.var 6) (.cons (.var 7) .nil))))) .nil) (.nil)) (.cons (.cond (.cmp .Eq (.var 2) (.cst (.int 8))) (.cons (.setIx (.var 4) (.var 5) (.tup (.cons (.var 7) (.cons (.var 6) .nil)))) .nil) (.nil)) (.cons (.cond (.cmp .Eq (.var 2) (.cst (.int 9))) (.cons (.ins (.var 4) (.var 5) (.tup (.cons (.var 6) (.cons (.var 7) .nil)))) .nil) (.nil)) (.cons (.cond (.cmp .Eq (.var 2) (.cst (.int 10))) (.cons (.ret (.b1 .tuple (.fr (.cat (.sl (.var 4) (.some (.var 5)) .none) (.sl (.var 4) .none (.some (.var 5))))))) .nil) (.nil)) (.cons (.cond (.cmp .Eq (.var 2) (.cst (.int 11))) (.cons (.setIx (.var 4) (.var 5) (.tup (.cons (.var 6) (.cons (.var 7) (.cons (.var 7) .nil))))) .nil) (.nil)) (.cons (.cond (.cmp .Eq (.var 2) (.cst (.int 12))) (.cons (.setIx (.var 4) (.var 5) (.tup (.cons (.b1 .bool (.var 6)) (.cons (.var 7) .nil)))) .nil) (.nil)) (.cons (.cond (.cmp .Eq (.var 2) (.cst (.int 13))) (.cons (.setIx (.var 4) (.var 5) (.tup (.cons (.var 6) (.cons (.b1 .str (.var 7)) .nil)))) .nil) (.nil)) (.cons (.cond (.cmp .Eq (.var 2) (.cst (.int 14))) (.cons (.setIx (.var 4) (.var 5) (.tup (.cons (.var 6) .nil))) .nil) (.nil)) (.cons (.cond (.cmp .Eq (.var 2) (.cst (.int 15))) (.cons (.ret (.b1 .tuple (.fr (.cat (.sl (.var 4) .none (.some (.var 5))) (.sl (.var 4) (.some (.bin .Add (.var 5) (.cst (.int 1)))) .none))))) .nil) (.nil)) (.cons (.ret (.b1 .tuple (.var 4))) .nil)))))))))))))))))))) := rfl
theorem st_law_changed {x0 x1 x2 x3 : S} : startS N_law_changed [x0, x1, x2, x3] = [some x0, some x1, some x2, some x3, none, none, none, none] := rfl
def lib_law_changed : Lib := []
abbrev Γ_law_changed : G.Env := lib_law_changed.env (MroF tab)
local macro_rules | `(tactic| walk_at "law_changed") => `(tactic| simp (maxSteps := 1000000) only [ub_law_changed, st_law_changed, exits, ↓xv_0, ↓xv_S, ↓da_snoc, ↓da_app, ↓e_cst, ↓e_neg, ↓e_not, ↓e_and, ↓e_or, ↓e_ite, ↓e_bin, ↓e_cmp, ↓e_chain, ↓e_tup, ↓e_fr, ↓e_ddisp, ↓e_ix, ↓e_sl, ↓e_rev, ↓e_call, ↓e_callK, ↓e_b1, ↓e_b2, ↓e_isX, ↓e_xval, ↓e_get, ↓e_pop, ↓e_popAt, ↓e_index, ↓t_not, ↓t_and, ↓t_or, ↓a_nil, ↓a_cons, ↓o_none, ↓o_some, ↓c_none, ↓c_some, ↓f_disp, ↓f_comp, ↓f_comp2, ↓f_listOf, ↓i_of, ↓i_rng, ↓i_zip, ↓i_rev, ↓t_var, ↓t_cst, ↓t_neg, ↓t_ite, ↓t_bin, ↓t_cmp, ↓t_chain, ↓t_tup, ↓t_fr, ↓t_al, ↓t_ddisp, ↓t_ix, ↓t_sl, ↓t_rev, ↓t_call, ↓t_callK, ↓t_b1, ↓t_b2, ↓t_isI, ↓t_isX, ↓t_xval, ↓t_get, ↓t_pop, ↓t_popAt, ↓t_index, ↓s_asg, ↓s_setIx, ↓s_augIx, ↓s_expr, ↓s_ret, ↓s_retN, ↓s_cond, ↓s_loop, ↓s_whl, ↓s_raise, ↓s_tryX, ↓s_pass, ↓s_brk, ↓s_cont, ↓b_nil, ↓b_cons, ↓h_nil, ↓r_add, ↓r_sub, ↓r_mul, ↓r_div, ↓r_mod, ↓r_pow, ↓r_shl, ↓r_cat, ↓r_cats, ↓r_rep, ↓r_lt, ↓r_le, ↓r_gt, ↓r_ge, ↓r_eqI, ↓r_neI, ↓r_augA, ↓r_augS, ↓r_augM, ↓tg_tpt, ↓tg_tpm, ↓tgs_nil, ↓tgs_cons, ↓turn_nx, ↓turn_ct, ↓turn_bk, ↓turn_rt, ↓turn_ex, ↓d_nil, ↓d_eq, ↓rng_1, ↓rng_2, ↓b_int, ↓b_intb, ↓b_bool, ↓b_boolb, ↓b_lent, ↓b_lenl, ↓b_tupt, ↓b_tupl, ↓b_str, ↓b_repr', ↓xp_d, ↓b_abs, ↓b_sum, ↓b_all, ↓b_any, ↓b_max, ↓b_min, ↓ix_t, ↓ix_l, ↓sl_t, ↓sl_l, ↓c_eqb, ↓c_neb, ↓c_isN, ↓c_isnN, ↓isx_eq, ↓xval_eq, ↓c_inT, ↓c_inL, ↓c_ninT, ↓c_ninL, ↓c_ltT, ↓c_leT, ↓c_gtT, ↓c_geT, ↓c_eqS, ↓c_neS, ↓b_lenm, ↓v_0, ↓v_S, ↓n_0, ↓n_S, ↓un_0, ↓un_S, ↓s_aug', ↓s_par', ↓h_cons', ↓xl_k, ↓xl_0, ↓xl_S, ↓xl_z, ↓md_k, ↓md_0, ↓mm_0, ↓mm_S, ↓nw_1, ↓nw_2, ↓nw_3, ↓nw_4, ↓nw_5, ↓e_al', ↓ix_m', ↓b_tupm', ↓sl_m', ↓ex_map, ↓ap_l, ↓s_app', ↓xt_l, ↓s_ext', ↓in_l, ↓s_ins', ↓p_put', ↓wt_d, ↓wt_k, ↓wt_k0, ↓to_S, ↓to_z, ↓e_isI1, ↓e_isI2, ↓ex_tb, ↓ex_ti, ↓ex_tn, ↓ex_tt, ↓ex_tl, ↓ex_i, ↓ex_B, ↓xd_nil, ↓xd_cons, ↓xd_map, ↓xi_t, ↓xi_l, ↓xi_m, ↓f_cat', ↓f_rep', ↓f_slice', ↓i_enum', nw_0, e_var, e_cst, e_neg, e_not, e_and, e_or, e_ite, e_bin, e_cmp, e_chain, e_tup, e_fr, e_al, e_ddisp, e_ix, e_sl, e_rev, e_call, e_callK, e_b1, e_b2, e_isI, e_isX, e_xval, e_get, e_pop, e_popAt, e_index, t_not, t_and, t_or, a_nil, a_cons, o_none, o_some, c_none, c_some, f_disp, f_comp, f_comp2, f_listOf, f_cat, f_rep, f_slice, i_of, i_rng, i_enum, i_zip, i_rev, t_var, t_cst, t_neg, t_ite, t_bin, t_cmp, t_chain, t_tup, t_fr, t_al, t_ddisp, t_ix, t_sl, t_rev, t_call, t_callK, t_b1, t_b2, t_isI, t_isX, t_xval, t_get, t_pop, t_popAt, t_index, s_asg, s_setIx, s_par, s_aug, s_augIx, s_expr, s_app, s_ext, s_ins, s_ret, s_retN, s_cond, s_loop, s_whl, s_raise, s_tryX, s_pass, s_brk, s_cont, b_nil, b_cons, h_nil, h_cons, r_add, r_sub, r_mul, r_div, r_mod, r_pow, r_shl, r_cat, r_cats, r_rep, r_lt, r_le, r_gt, r_ge, r_eqI, r_neI, tr_bool, tr_int, tr_none, tr_tuple, tr_list, r_augA, r_augS, r_augM, m_get, m_get0, m_set, m_set0, ex_v, ex_k, ex_lst, tg_nm, tg_tpt, tg_tpm, tgs_nil, tgs_cons, tgAt_eq, List.getElem?_cons_succ, List.getElem?_cons_zero, List.set_cons_succ, List.set_cons_zero, List.length_append, List.length_cons, List.length_nil, List.append_assoc, List.cons_append, List.nil_append, decide_eq_true_eq, I, B, N0, S.l.injEq, S.d.injEq, Option.some.injEq, MO.lst.injEq, exists_eq_left', exists_and_left, mapM_d, Bool.false_eq_true, isTy, at_0, at_1, mapM_s, List.map_cons, List.map_nil, List.any_cons, List.any_nil, id_eq, Bool.or_false, Bool.not_true, Bool.not_false, ↓reduceIte, turn_nx, turn_ct, turn_bk, turn_rt, turn_ex, ty_m, Int.zero_add, d_nil, d_eq, rng_1, rng_2, b_int, b_intb, b_bool, b_boolb, b_lent, b_lenl, b_lenm, b_tupt, b_tupl, b_tupm, b_str, b_repr', b_abs, b_sum, b_all, b_any, b_max, b_min, ix_t, ix_l, ix_m, sl_t, sl_l, sl_m, ty_d, it_t, it_l, pd_d, c_eqb, c_neb, c_isN, c_isnN, isx_eq, xval_eq, true_and, and_true, List.append_nil, wipeS, tgSlots, tgSlotss, c_inT, c_inL, c_ninT, c_ninL, c_ltT, c_leT, c_gtT, c_geT, it_k, it_k0, ty_k, ty_k0, lo_1, to_1, to_2, beq_self_eq_true, sd_inj, da_nil, da_cons, da_map, Option.map_some, p_put, Nat.reduceAdd, Int.reduceEq, Int.reduceLT, Int.reduceLE, c_noneF, c_eqS, c_neS, eq_self, decide_true, decide_false, pints_len, itm_len, sz_0, sz_1, sz_2, sz_3, sz_4, sz_5, sz_6, sz_7, sz_8, int?_d, ok_of_d, ex_self, Nat.zero_add])
local macro_rules | `(tactic| walk_at "law_changed!2") => `(tactic| simp (maxSteps := 1000000) only [↓$(Lean.mkIdent `hx1):ident, ↓$(Lean.mkIdent `hx2):ident, ub_law_changed, st_law_changed, exits, ↓xv_0, ↓xv_S, ↓da_snoc, ↓da_app, ↓e_cst, ↓e_neg, ↓e_not, ↓e_and, ↓e_or, ↓e_ite, ↓e_bin, ↓e_cmp, ↓e_chain, ↓e_tup, ↓e_fr, ↓e_ddisp, ↓e_ix, ↓e_sl, ↓e_rev, ↓e_call, ↓e_callK, ↓e_b1, ↓e_b2, ↓e_isX, ↓e_xval, ↓e_get, ↓e_pop, ↓e_popAt, ↓e_index, ↓t_not, ↓t_and, ↓t_or, ↓a_nil, ↓a_cons, ↓o_none, ↓o_some, ↓c_none, ↓c_some, ↓f_disp, ↓f_comp, ↓f_comp2, ↓f_listOf, ↓i_of, ↓i_rng, ↓i_zip, ↓i_rev, ↓t_var, ↓t_cst, ↓t_neg, ↓t_ite, ↓t_bin, ↓t_cmp, ↓t_chain, ↓t_tup, ↓t_fr, ↓t_al, ↓t_ddisp, ↓t_ix, ↓t_sl, ↓t_rev, ↓t_call, ↓t_callK, ↓t_b1, ↓t_b2, ↓t_isI, ↓t_isX, ↓t_xval, ↓t_get, ↓t_pop, ↓t_popAt, ↓t_index, ↓s_asg, ↓s_setIx, ↓s_augIx, ↓s_expr, ↓s_ret, ↓s_retN, ↓s_cond, ↓s_loop, ↓s_whl, ↓s_raise, ↓s_tryX, ↓s_pass, ↓s_brk, ↓s_cont, ↓b_nil, ↓b_cons, ↓h_nil, ↓r_add, ↓r_sub, ↓r_mul, ↓r_div, ↓r_mod, ↓r_pow, ↓r_shl, ↓r_cat, ↓r_cats, ↓r_rep, ↓r_lt, ↓r_le, ↓r_gt, ↓r_ge, ↓r_eqI, ↓r_neI, ↓r_augA, ↓r_augS, ↓r_augM, ↓tg_tpt, ↓tg_tpm, ↓tgs_nil, ↓tgs_cons, ↓turn_nx, ↓turn_ct, ↓turn_bk, ↓turn_rt, ↓turn_ex, ↓d_nil, ↓d_eq, ↓rng_1, ↓rng_2, ↓b_int, ↓b_intb, ↓b_bool, ↓b_boolb, ↓b_lent, ↓b_lenl, ↓b_tupt, ↓b_tupl, ↓b_str, ↓b_repr', ↓xp_d, ↓b_abs, ↓b_sum, ↓b_all, ↓b_any, ↓b_max, ↓b_min, ↓ix_t, ↓ix_l, ↓sl_t, ↓sl_l, ↓c_eqb, ↓c_neb, ↓c_isN, ↓c_isnN, ↓isx_eq, ↓xval_eq, ↓c_inT, ↓c_inL, ↓c_ninT, ↓c_ninL, ↓c_ltT, ↓c_leT, ↓c_gtT, ↓c_geT, ↓c_eqS, ↓c_neS, ↓b_lenm, ↓v_0, ↓v_S, ↓n_0, ↓n_S, ↓un_0, ↓un_S, ↓s_aug', ↓s_par', ↓h_cons', ↓xl_k, ↓xl_0, ↓xl_S, ↓xl_z, ↓md_k, ↓md_0, ↓mm_0, ↓mm_S, ↓nw_1, ↓nw_2, ↓nw_3, ↓nw_4, ↓nw_5, ↓e_al', ↓ix_m', ↓b_tupm', ↓sl_m', ↓ex_map, ↓ap_l, ↓s_app', ↓xt_l, ↓s_ext', ↓in_l, ↓s_ins', ↓p_put', ↓wt_d, ↓wt_k, ↓wt_k0, ↓to_S, ↓to_z, ↓e_isI1, ↓e_isI2, ↓ex_tb, ↓ex_ti, ↓ex_tn, ↓ex_tt, ↓ex_tl, ↓ex_i, ↓ex_B, ↓xd_nil, ↓xd_cons, ↓xd_map, ↓xi_t, ↓xi_l, ↓xi_m, ↓f_cat', ↓f_rep', ↓f_slice', ↓i_enum', nw_0, e_var, e_cst, e_neg, e_not, e_and, e_or, e_ite, e_bin, e_cmp, e_chain, e_tup, e_fr, e_al, e_ddisp, e_ix, e_sl, e_rev, e_call, e_callK, e_b1, e_b2, e_isI, e_isX, e_xval, e_get, e_pop, e_popAt, e_index, t_not, t_and, t_or, a_nil, a_cons, o_none, o_some, c_none, c_some, f_disp, f_comp, f_comp2, f_listOf, f_cat, f_rep, f_slice, i_of, i_rng, i_enum, i_zip, i_rev, t_var, t_cst, t_neg, t_ite, t_bin, t_cmp, t_chain, t_tup, t_fr, t_al, t_ddisp, t_ix, t_sl, t_rev, t_call, t_callK, t_b1, t_b2, t_isI, t_isX, t_xval, t_get, t_pop, t_popAt, t_index, s_asg, s_setIx, s_par, s_aug, s_augIx, s_expr, s_app, s_ext, s_ins, s_ret, s_retN, s_cond, s_loop, s_whl, s_raise, s_tryX, s_pass, s_brk, s_cont, b_nil, b_cons, h_nil, h_cons, r_add, r_sub, r_mul, r_div, r_mod, r_pow, r_shl, r_cat, r_cats, r_rep, r_lt, r_le, r_gt, r_ge, r_eqI, r_neI, tr_bool, tr_int, tr_none, tr_tuple, tr_list, r_augA, r_augS, r_augM, m_get, m_get0, m_set, m_set0, ex_v, ex_k, ex_lst, tg_nm, tg_tpt, tg_tpm, tgs_nil, tgs_cons, tgAt_eq, List.getElem?_cons_succ, List.getElem?_cons_zero, List.set_cons_succ, List.set_cons_zero, List.length_append, List.length_cons, List.length_nil, List.append_assoc, List.cons_append, List.nil_append, decide_eq_true_eq, I, B, N0, S.l.injEq, S.d.injEq, Option.some.injEq, MO.lst.injEq, exists_eq_left', exists_and_left, mapM_d, Bool.false_eq_true, isTy, at_0, at_1, mapM_s, List.map_cons, List.map_nil, List.any_cons, List.any_nil, id_eq, Bool.or_false, Bool.not_true, Bool.not_false, ↓reduceIte, turn_nx, turn_ct, turn_bk, turn_rt, turn_ex, ty_m, Int.zero_add, d_nil, d_eq, rng_1, rng_2, b_int, b_intb, b_bool, b_boolb, b_lent, b_lenl, b_lenm, b_tupt, b_tupl, b_tupm, b_str, b_repr', b_abs, b_sum, b_all, b_any, b_max, b_min, ix_t, ix_l, ix_m, sl_t, sl_l, sl_m, ty_d, it_t, it_l, pd_d, c_eqb, c_neb, c_isN, c_isnN, isx_eq, xval_eq, true_and, and_true, List.append_nil, wipeS, tgSlots, tgSlotss, c_inT, c_inL, c_ninT, c_ninL, c_ltT, c_leT, c_gtT, c_geT, it_k, it_k0, ty_k, ty_k0, lo_1, to_1, to_2, beq_self_eq_true, sd_inj, da_nil, da_cons, da_map, Option.map_some, p_put, Nat.reduceAdd, Int.reduceEq, Int.reduceLT, Int.reduceLE, c_noneF, c_eqS, c_neS, eq_self, decide_true, decide_false, pints_len, itm_len, sz_0, sz_1, sz_2, sz_3, sz_4, sz_5, sz_6, sz_7, sz_8, int?_d, ok_of_d, ex_self, Nat.zero_add])
local macro_rules | `(tactic| walk_at "law_changed!3") => `(tactic| simp (maxSteps := 1000000) only [↓$(Lean.mkIdent `hx1):ident, ↓$(Lean.mkIdent `hx2):ident, ↓$(Lean.mkIdent `hx3):ident, ub_law_changed, st_law_changed, exits, ↓xv_0, ↓xv_S, ↓da_snoc, ↓da_app, ↓e_cst, ↓e_neg, ↓e_not, ↓e_and, ↓e_or, ↓e_ite, ↓e_bin, ↓e_cmp, ↓e_chain, ↓e_tup, ↓e_fr, ↓e_ddisp, ↓e_ix, ↓e_sl, ↓e_rev, ↓e_call, ↓e_callK, ↓e_b1, ↓e_b2, ↓e_isX, ↓e_xval, ↓e_get, ↓e_pop, ↓e_popAt, ↓e_index, ↓t_not, ↓t_and, ↓t_or, ↓a_nil, ↓a_cons, ↓o_none, ↓o_some, ↓c_none, ↓c_some, ↓f_disp, ↓f_comp, ↓f_comp2, ↓f_listOf, ↓i_of, ↓i_rng, ↓i_zip, ↓i_rev, ↓t_var, ↓t_cst, ↓t_neg, ↓t_ite, ↓t_bin, ↓t_cmp, ↓t_chain, ↓t_tup, ↓t_fr, ↓t_al, ↓t_ddisp, ↓t_ix, ↓t_sl, ↓t_rev, ↓t_call, ↓t_callK, ↓t_b1, ↓t_b2, ↓t_isI, ↓t_isX, ↓t_xval, ↓t_get, ↓t_pop, ↓t_popAt, ↓t_index, ↓s_asg, ↓s_setIx, ↓s_augIx, ↓s_expr, ↓s_ret, ↓s_retN, ↓s_cond, ↓s_loop, ↓s_whl, ↓s_raise, ↓s_tryX, ↓s_pass, ↓s_brk, ↓s_cont, ↓b_nil, ↓b_cons, ↓h_nil, ↓r_add, ↓r_sub, ↓r_mul, ↓r_div, ↓r_mod, ↓r_pow, ↓r_shl, ↓r_cat, ↓r_cats, ↓r_rep, ↓r_lt, ↓r_le, ↓r_gt, ↓r_ge, ↓r_eqI, ↓r_neI, ↓r_augA, ↓r_augS, ↓r_augM, ↓tg_tpt, ↓tg_tpm, ↓tgs_nil, ↓tgs_cons, ↓turn_nx, ↓turn_ct, ↓turn_bk, ↓turn_rt, ↓turn_ex, ↓d_nil, ↓d_eq, ↓rng_1, ↓rng_2, ↓b_int, ↓b_intb, ↓b_bool, ↓b_boolb, ↓b_lent, ↓b_lenl, ↓b_tupt, ↓b_tupl, ↓b_str, ↓b_repr', ↓xp_d, ↓b_abs, ↓b_sum, ↓b_all, ↓b_any, ↓b_max, ↓b_min, ↓ix_t, ↓ix_l, ↓sl_t, ↓sl_l, ↓c_eqb, ↓c_neb, ↓c_isN, ↓c_isnN, ↓isx_eq, ↓xval_eq, ↓c_inT, ↓c_inL, ↓c_ninT, ↓c_ninL, ↓c_ltT, ↓c_leT, ↓c_gtT, ↓c_geT, ↓c_eqS, ↓c_neS, ↓b_lenm, ↓v_0, ↓v_S, ↓n_0, ↓n_S, ↓un_0, ↓un_S, ↓s_aug', ↓s_par', ↓h_cons', ↓xl_k, ↓xl_0, ↓xl_S, ↓xl_z, ↓md_k, ↓md_0, ↓mm_0, ↓mm_S, ↓nw_1, ↓nw_2, ↓nw_3, ↓nw_4, ↓nw_5, ↓e_al', ↓ix_m', ↓b_tupm', ↓sl_m', ↓ex_map, ↓ap_l, ↓s_app', ↓xt_l, ↓s_ext', ↓in_l, ↓s_ins', ↓p_put', ↓wt_d, ↓wt_k, ↓wt_k0, ↓to_S, ↓to_z, ↓e_isI1, ↓e_isI2, ↓ex_tb, ↓ex_ti, ↓ex_tn, ↓ex_tt, ↓ex_tl, ↓ex_i, ↓ex_B, ↓xd_nil, ↓xd_cons, ↓xd_map, ↓xi_t, ↓xi_l, ↓xi_m, ↓f_cat', ↓f_rep', ↓f_slice', ↓i_enum', nw_0, e_var, e_cst, e_neg, e_not, e_and, e_or, e_ite, e_bin, e_cmp, e_chain, e_tup, e_fr, e_al, e_ddisp, e_ix, e_sl, e_rev, e_call, e_callK, e_b1, e_b2, e_isI, e_isX, e_xval, e_get, e_pop, e_popAt, e_index, t_not, t_and, t_or, a_nil, a_cons, o_none, o_some, c_none, c_some, f_disp, f_comp, f_comp2, f_listOf, f_cat, f_rep, f_slice, i_of, i_rng, i_enum, i_zip, i_rev, t_var, t_cst, t_neg, t_ite, t_bin, t_cmp, t_chain, t_tup, t_fr, t_al, t_ddisp, t_ix, t_sl, t_rev, t_call, t_callK, t_b1, t_b2, t_isI, t_isX, t_xval, t_get, t_pop, t_popAt, t_index, s_asg, s_setIx, s_par, s_aug, s_augIx, s_expr, s_app, s_ext, s_ins, s_ret, s_retN, s_cond, s_loop, s_whl, s_raise, s_tryX, s_pass, s_brk, s_cont, b_nil, b_cons, h_nil, h_cons, r_add, r_sub, r_mul, r_div, r_mod, r_pow, r_shl, r_cat, r_cats, r_rep, r_lt, r_le, r_gt, r_ge, r_eqI, r_neI, tr_bool, tr_int, tr_none, tr_tuple, tr_list, r_augA, r_augS, r_augM, m_get, m_get0, m_set, m_set0, ex_v, ex_k, ex_lst, tg_nm, tg_tpt, tg_tpm, tgs_nil, tgs_cons, tgAt_eq, List.getElem?_cons_succ, List.getElem?_cons_zero, List.set_cons_succ, List.set_cons_zero, List.length_append, List.length_cons, List.length_nil, List.append_assoc, List.cons_append, List.nil_append, decide_eq_true_eq, I, B, N0, S.l.injEq, S.d.injEq, Option.some.injEq, MO.lst.injEq, exists_eq_left', exists_and_left, mapM_d, Bool.false_eq_true, isTy, at_0, at_1, mapM_s, List.map_cons, List.map_nil, List.any_cons, List.any_nil, id_eq, Bool.or_false, Bool.not_true, Bool.not_false, ↓reduceIte, turn_nx, turn_ct, turn_bk, turn_rt, turn_ex, ty_m, Int.zero_add, d_nil, d_eq, rng_1, rng_2, b_int, b_intb, b_bool, b_boolb, b_lent, b_lenl, b_lenm, b_tupt, b_tupl, b_tupm, b_str, b_repr', b_abs, b_sum, b_all, b_any, b_max, b_min, ix_t, ix_l, ix_m, sl_t, sl_l, sl_m, ty_d, it_t, it_l, pd_d, c_eqb, c_neb, c_isN, c_isnN, isx_eq, xval_eq, true_and, and_true, List.append_nil, wipeS, tgSlots, tgSlotss, c_inT, c_inL, c_ninT, c_ninL, c_ltT, c_leT, c_gtT, c_geT, it_k, it_k0, ty_k, ty_k0, lo_1, to_1, to_2, beq_self_eq_true, sd_inj, da_nil, da_cons, da_map, Option.map_some, p_put, Nat.reduceAdd, Int.reduceEq, Int.reduceLT, Int.reduceLE, c_noneF, c_eqS, c_neS, eq_self, decide_true, decide_false, pints_len, itm_len, sz_0, sz_1, sz_2, sz_3, sz_4, sz_5, sz_6, sz_7, sz_8, int?_d, ok_of_d, ex_self, Nat.zero_add])
theorem lm_law_changed : ∀ p ∈ lib_law_changed, ∀ vs, Mono (p.2.2 vs) := fun p hp => by cases hp
theorem mb_law_changed (s : Ss) : MonoS (wSs Γ_law_changed s) := mSs s _ (Lib.mo lm_law_changed)
theorem ck_law_changed : kSs b_law_changed ⟨N_law_changed, defScope s_law_changed, lib_law_changed.fs, kws, cs, hs, true⟩ (defBody s_law_changed) = true := by decide +kernel
theorem bd_law_changed : Bd "_law_changed" s_law_changed ["web", "points", "way", "cell"] := fun _ _ _ _ _ _ us hl => match us, hl with | [_, _, _, _], _ => rfl
theorem kb_law_changed : ∀ q ∈ kws, q.1 = "_law_changed" → BdK "_law_changed" s_law_changed ["web", "points", "way", "cell"] q.2.1 q.2.2 := by
  intro q hq e
  simp only [kws, List.mem_cons, List.not_mem_nil, or_false] at hq
  subst hq
  · exact absurd e (by decide)
structure Nice (c : PD) : Prop where
  rp : RpOk c
  tl : tupLen c
theorem nice_tup {xs : List PD} (h : ∀ x ∈ xs, Rp x 200 2) (hl : xs.length ≤ 1200) : Nice (.tuple xs) :=
  ⟨(Rp.tup h hl).rep (by omega) (by omega), fun ys e => by cases e; rw [slS]; omega⟩
theorem nice_lst {xs : List PD} (h : ∀ x ∈ xs, Rp x 200 2) (hl : xs.length ≤ 1200) : Nice (.list xs) :=
  ⟨(Rp.lst h hl).rep (by omega) (by omega), fun ys e => by cases e⟩
theorem rp_pair {a b : Int} (ha : -2000 ≤ a ∧ a ≤ 2000) (hb : -2000 ≤ b ∧ b ≤ 2000) : Rp (.tuple [.int a, .int b]) 200 2 := by
  have := Rp.tup (xs := [.int a, .int b]) (w := 41) (d := 0) (n := 2) (fun x hx => by
    simp only [List.mem_cons, List.not_mem_nil, or_false] at hx
    rcases hx with rfl | rfl
    · exact Rp.int (by omega)
    · exact Rp.int (by omega)) (by simp)
  exact this.mo (by omega) (by omega)
theorem el_web {w : List (Int × Int)} {n : Int} (g : Good w n) (h : n ≤ 30) : ∀ x ∈ webL w, Rp x 200 2 := by
  intro x hx
  obtain ⟨p, hp, rfl⟩ := List.mem_map.mp hx
  have := g.ps p hp
  unfold isP at this
  exact rp_pair (by omega) (by omega)
theorem nice_snoc {w : List (Int × Int)} {n : Int} (g : Good w n) (h : n ≤ 30) {x : PD} (hx : Rp x 200 2) : Nice (.tuple (webL w ++ [x])) :=
  nice_tup (fun y hy => (List.mem_append.mp hy).elim (el_web g h y) fun hy => by rw [List.mem_singleton] at hy; rw [hy]; exact hx) (by have := g.len; simp only [webL, List.length_append, List.length_map, List.length_cons, List.length_nil]; omega)
theorem nice_cons {w : List (Int × Int)} {n : Int} (g : Good w n) (h : n ≤ 30) {x : PD} (hx : Rp x 200 2) : Nice (.tuple (x :: webL w)) :=
  nice_tup (fun y hy => (List.mem_cons.mp hy).elim (fun e => e ▸ hx) (el_web g h y)) (by have := g.len; simp only [webL, List.length_map, List.length_cons]; omega)
theorem str_small : ∀ m < 32, PyData.canLay0 (.str (Str.ofString (toString ((m : Nat) : Int)))) = true ∧ (Str.ofString (toString ((m : Nat) : Int))).cps.size ≤ 2 := by decide +kernel
theorem at_web {w : List (Int × Int)} (hp : 0 < ((List.map S.d (webL w)).length : Int)) (cell : Int) : ∃ a b j, cell % ((List.map S.d (webL w)).length : Int) = ((j : Nat) : Int) ∧ j < w.length ∧ atI (List.map S.d (webL w)) (cell % ((List.map S.d (webL w)).length : Int)) = some (.d (.tuple [.int a, .int b])) ∧ (a, b) ∈ w := by
  have h0 := Int.emod_nonneg cell (Int.ne_of_gt hp)
  have h1 := Int.emod_lt_of_pos cell hp
  obtain ⟨j, hj⟩ := Int.eq_ofNat_of_zero_le h0
  rw [hj] at h1 ⊢
  have hl : (List.map S.d (webL w)).length = w.length := by simp [webL]
  have h2 : j < w.length := by omega
  exact ⟨w[j].1, w[j].2, j, rfl, h2, at_nat (by simp [webL, pairD, h2]), List.getElem_mem h2⟩
def sp_law_changed : FSpec := fun vs M Q E => match vs with
  | [.d (.list xs), .d (.int n), .d (.int way), .d (.int cell)] => (0 ≤ n ∧ n ≤ 30 ∧ 0 ≤ way ∧ way < 16 ∧ ∃ w, xs = webL w ∧ Good w n) ∧ ∀ c, Nice c → Q (.d c) M
  | _ => False
theorem mo_law_changed : ∀ vs, Mono (sp_law_changed vs) := by
  intro vs M Q Q' X X' hq hx h
  unfold sp_law_changed at *
  split at h
  · exact ⟨h.1, fun w g => hq _ _ (h.2 w g)⟩
  · exact h
theorem w_law_changed : ∀ (ss : List S) (M : Mem) (Q : S → Mem → Prop) (E : Xc → Mem → Prop), ss.length = 4 → sp_law_changed ss M Q E → wSs Γ_law_changed b_law_changed (startS N_law_changed ss) M (exits M Q E) := by
  intro ss M Q E hl h
  unfold sp_law_changed at h
  split at h
  case h_2 => exact h.elim
  rename_i xs n way cell
  obtain ⟨⟨h0, h1, h2, h3, w, rfl, g⟩, h⟩ := h
  have nw : Nice (.list (webL w)) := nice_lst (el_web g h1) (by have := g.len; simp only [webL, List.length_map]; omega)
  have fin : ∀ c t, Nice c → ∃ r M2, Ex M (M ++ t) (.d c) r M2 ∧ Q r M2 := fun c t hc => ret_data (h c hc)
  have hlen := g.len
  have sl := slS
  have s1 : (List.map S.d (webL w)).length + 1 ≤ sizeLine := by simp only [webL, List.length_map]; omega
  have s2 : 1 + (List.map S.d (webL w)).length ≤ sizeLine := by simp only [webL, List.length_map]; omega
  have wl : (webL w).length = w.length := by simp [webL]
  have wl2 : (List.map S.d (webL w)).length = w.length := by simp [webL]
  have hways : way = 0 ∨ way = 1 ∨ way = 2 ∨ way = 3 ∨ way = 4 ∨ way = 5 ∨ way = 6 ∨ way = 7 ∨ way = 8 ∨ way = 9 ∨ way = 10 ∨ way = 11 ∨ way = 12 ∨ way = 13 ∨ way = 14 ∨ way = 15 := by omega
  rcases hways with rfl | rfl | rfl | rfl | rfl | rfl | rfl | rfl | rfl | rfl | rfl | rfl | rfl | rfl | rfl | rfl
  · walk_at "law_changed"
    split
    · exact ⟨by assumption, ret_frz0 (h _ nw)⟩
    · exact ret_frz0 (h _ nw)
  · walk_at "law_changed"
    have hx := nice_snoc g h1 (x := .tuple [.int n, .int (n + 1)]) (rp_pair (by omega) (by omega))
    split
    · exact ⟨by assumption, s1, fin _ _ hx⟩
    · exact ⟨s1, fin _ _ hx⟩
  · walk_at "law_changed"
    have hx := nice_cons g h1 (x := .tuple [.int (-1), .int 0]) (rp_pair (by omega) (by omega))
    split
    · exact ⟨by assumption, s2, fin _ _ hx⟩
    · exact ⟨s2, fin _ _ hx⟩
  · walk_at "law_changed"
    have hv : ∃ v, atI [PyData.none, .int 0, .str "", .dict [], .str "01", .bool true] (cell % 6) = some v ∧ Nice v := by
      have hc : cell % 6 = 0 ∨ cell % 6 = 1 ∨ cell % 6 = 2 ∨ cell % 6 = 3 ∨ cell % 6 = 4 ∨ cell % 6 = 5 := by omega
      have nn : ∀ {x : PD}, Rp x 200 2 → (∀ xs, x ≠ .tuple xs) → Nice x := fun h n => ⟨h.rep (by omega) (by omega), fun xs e => absurd e (n xs)⟩
      rcases hc with e | e | e | e | e | e <;> rw [e] <;> refine ⟨_, at_of (by decide) rfl, ?_⟩
      · exact nn ((Rp.none (d := 0)).mo (by omega) (by omega)) (fun _ e => by cases e)
      · exact nn ((Rp.int (d := 0) (by decide)).mo (by omega) (by omega)) (fun _ e => by cases e)
      · exact nn (Rp.str (by decide +kernel) (by decide +kernel)) (fun _ e => by cases e)
      · exact ⟨RpOk.empty, fun _ e => by cases e⟩
      · exact nn (Rp.str (by decide +kernel) (by decide +kernel)) (fun _ e => by cases e)
      · exact nn ((Rp.bool (d := 0)).mo (by omega) (by omega)) (fun _ e => by cases e)
    obtain ⟨v, hv, nv⟩ := hv
    split
    · exact ⟨by assumption, v, hv, fin _ _ nv⟩
    · exact ⟨v, hv, fin _ _ nv⟩
  · walk_at "law_changed"
    have hx := nice_snoc g h1 (x := .tuple [.int (n - 1), .int n]) (rp_pair (by omega) (by omega))
    split
    · exact ⟨by assumption, s1, fin _ _ hx⟩
    · exact ⟨s1, fin _ _ hx⟩
  · walk_at "law_changed"
    have hx := nice_snoc g h1 (x := .none) ((Rp.none (d := 0)).mo (by omega) (by omega))
    split
    · exact ⟨by assumption, s1, fin _ _ hx⟩
    · exact ⟨s1, fin _ _ hx⟩
  · walk_at "law_changed"
    have hx := nice_snoc g h1 (x := .tuple [.int (if n - 1 > 0 then n - 1 else 0), .int (if n - 1 > 0 then n - 1 else 0)]) (rp_pair (by split <;> omega) (by split <;> omega))
    split
    · exact ⟨by assumption, s1, fin _ _ hx⟩
    · exact ⟨s1, fin _ _ hx⟩
  · by_cases hp : 0 < ((List.map S.d (webL w)).length : Int)
    · obtain ⟨a, b, j, hj, hj2, hv, hm⟩ := at_web hp cell
      have hx1 : ∀ P : S → Prop, (∃ v, atI (List.map S.d (webL w)) (cell % ((List.map S.d (webL w)).length : Int)) = some v ∧ P v) = P (.d (.tuple [.int a, .int b])) := fun P => by rw [hv]; exact ex_self
      have hx2 : (0 < ((List.map S.d (webL w)).length : Int)) = True := eq_true hp
      have hx3 : (((List.map S.d (webL w)).length : Int) = 0) = False := eq_false (by omega)
      have hp2 := g.ps _ hm
      obtain ⟨p1, p2, p3⟩ := hp2
      simp only at p1 p2 p3
      have hix : ixN (List.map S.d (webL w)).length (cell % ((List.map S.d (webL w)).length : Int)) = some j := by
        rw [hj, ix_ofN (by omega) (by rw [List.length_map]; omega)]
        simp
      have fset : ∀ x, Rp x 200 2 → ∃ j, ixN (List.map S.d (webL w)).length (cell % ((List.map S.d (webL w)).length : Int)) = some j ∧ ∃ xs, (List.map S.d (webL w)).set j (S.d x) = List.map S.d xs ∧ ∃ r M2, Ex M (M ++ [MO.lst ((List.map S.d (webL w)).set j (S.d x))]) (S.d (.tuple xs)) r M2 ∧ Q r M2 := fun x hx =>
        ⟨j, hix, (webL w).set j x, List.map_set.symm, fin _ _ (nice_tup (fun y hy => (List.mem_or_eq_of_mem_set hy).elim (el_web g h1 y) fun e => e ▸ hx) (by rw [List.length_set]; omega))⟩
      have fcut : ∀ l1 l2 l3 l4, Nice (.tuple (cut (webL w) l1 l2 ++ cut (webL w) l3 l4)) := fun l1 l2 l3 l4 =>
        nice_tup (fun y hy => el_web g h1 y ((List.mem_append.mp hy).elim mem_cut mem_cut)) (by
          have c1 := cut_len (webL w) l1 l2
          have c2 := cut_len (webL w) l3 l4
          rw [List.length_append]
          omega)
      have c1 : ∀ l1 l2, (cut (webL w) l1 l2).length ≤ 500 := fun l1 l2 => Nat.le_trans (cut_len _ _ _) (by omega)
      have cc : ∀ l1 l2 l3 l4, (cut (webL w) l1 l2).length + (cut (webL w) l3 l4).length ≤ sizeLine := fun l1 l2 l3 l4 => by
        have := c1 l1 l2
        have := c1 l3 l4
        omega
      walk_at "law_changed!3"
      exact fset _ (Rp.mo (Rp.lst (w := 41) (d := 0) (n := 2) (fun x hx => by simp only [List.mem_cons, List.not_mem_nil, or_false] at hx; rcases hx with rfl | rfl <;> exact Rp.int (by omega)) (by simp)) (by omega) (by omega))
    · have hx1 : (0 < ((List.map S.d (webL w)).length : Int)) = False := eq_false hp
      have hx2 : (((List.map S.d (webL w)).length : Int) = 0) = True := eq_true (by omega)
      walk_at "law_changed!2"
      exact ret_frz0 (h _ nw)
  · by_cases hp : 0 < ((List.map S.d (webL w)).length : Int)
    · obtain ⟨a, b, j, hj, hj2, hv, hm⟩ := at_web hp cell
      have hx1 : ∀ P : S → Prop, (∃ v, atI (List.map S.d (webL w)) (cell % ((List.map S.d (webL w)).length : Int)) = some v ∧ P v) = P (.d (.tuple [.int a, .int b])) := fun P => by rw [hv]; exact ex_self
      have hx2 : (0 < ((List.map S.d (webL w)).length : Int)) = True := eq_true hp
      have hx3 : (((List.map S.d (webL w)).length : Int) = 0) = False := eq_false (by omega)
      have hp2 := g.ps _ hm
      obtain ⟨p1, p2, p3⟩ := hp2
      simp only at p1 p2 p3
      have hix : ixN (List.map S.d (webL w)).length (cell % ((List.map S.d (webL w)).length : Int)) = some j := by
        rw [hj, ix_ofN (by omega) (by rw [List.length_map]; omega)]
        simp
      have fset : ∀ x, Rp x 200 2 → ∃ j, ixN (List.map S.d (webL w)).length (cell % ((List.map S.d (webL w)).length : Int)) = some j ∧ ∃ xs, (List.map S.d (webL w)).set j (S.d x) = List.map S.d xs ∧ ∃ r M2, Ex M (M ++ [MO.lst ((List.map S.d (webL w)).set j (S.d x))]) (S.d (.tuple xs)) r M2 ∧ Q r M2 := fun x hx =>
        ⟨j, hix, (webL w).set j x, List.map_set.symm, fin _ _ (nice_tup (fun y hy => (List.mem_or_eq_of_mem_set hy).elim (el_web g h1 y) fun e => e ▸ hx) (by rw [List.length_set]; omega))⟩
      have fcut : ∀ l1 l2 l3 l4, Nice (.tuple (cut (webL w) l1 l2 ++ cut (webL w) l3 l4)) := fun l1 l2 l3 l4 =>
        nice_tup (fun y hy => el_web g h1 y ((List.mem_append.mp hy).elim mem_cut mem_cut)) (by
          have c1 := cut_len (webL w) l1 l2
          have c2 := cut_len (webL w) l3 l4
          rw [List.length_append]
          omega)
      have c1 : ∀ l1 l2, (cut (webL w) l1 l2).length ≤ 500 := fun l1 l2 => Nat.le_trans (cut_len _ _ _) (by omega)
      have cc : ∀ l1 l2 l3 l4, (cut (webL w) l1 l2).length + (cut (webL w) l3 l4).length ≤ sizeLine := fun l1 l2 l3 l4 => by
        have := c1 l1 l2
        have := c1 l3 l4
        omega
      walk_at "law_changed!3"
      exact fset _ (rp_pair (by omega) (by omega))
    · have hx1 : (0 < ((List.map S.d (webL w)).length : Int)) = False := eq_false hp
      have hx2 : (((List.map S.d (webL w)).length : Int) = 0) = True := eq_true (by omega)
      walk_at "law_changed!2"
      exact ret_frz0 (h _ nw)
  · by_cases hp : 0 < ((List.map S.d (webL w)).length : Int)
    · obtain ⟨a, b, j, hj, hj2, hv, hm⟩ := at_web hp cell
      have hx1 : ∀ P : S → Prop, (∃ v, atI (List.map S.d (webL w)) (cell % ((List.map S.d (webL w)).length : Int)) = some v ∧ P v) = P (.d (.tuple [.int a, .int b])) := fun P => by rw [hv]; exact ex_self
      have hx2 : (0 < ((List.map S.d (webL w)).length : Int)) = True := eq_true hp
      have hx3 : (((List.map S.d (webL w)).length : Int) = 0) = False := eq_false (by omega)
      have hp2 := g.ps _ hm
      obtain ⟨p1, p2, p3⟩ := hp2
      simp only at p1 p2 p3
      have hix : ixN (List.map S.d (webL w)).length (cell % ((List.map S.d (webL w)).length : Int)) = some j := by
        rw [hj, ix_ofN (by omega) (by rw [List.length_map]; omega)]
        simp
      have fset : ∀ x, Rp x 200 2 → ∃ j, ixN (List.map S.d (webL w)).length (cell % ((List.map S.d (webL w)).length : Int)) = some j ∧ ∃ xs, (List.map S.d (webL w)).set j (S.d x) = List.map S.d xs ∧ ∃ r M2, Ex M (M ++ [MO.lst ((List.map S.d (webL w)).set j (S.d x))]) (S.d (.tuple xs)) r M2 ∧ Q r M2 := fun x hx =>
        ⟨j, hix, (webL w).set j x, List.map_set.symm, fin _ _ (nice_tup (fun y hy => (List.mem_or_eq_of_mem_set hy).elim (el_web g h1 y) fun e => e ▸ hx) (by rw [List.length_set]; omega))⟩
      have fcut : ∀ l1 l2 l3 l4, Nice (.tuple (cut (webL w) l1 l2 ++ cut (webL w) l3 l4)) := fun l1 l2 l3 l4 =>
        nice_tup (fun y hy => el_web g h1 y ((List.mem_append.mp hy).elim mem_cut mem_cut)) (by
          have c1 := cut_len (webL w) l1 l2
          have c2 := cut_len (webL w) l3 l4
          rw [List.length_append]
          omega)
      have c1 : ∀ l1 l2, (cut (webL w) l1 l2).length ≤ 500 := fun l1 l2 => Nat.le_trans (cut_len _ _ _) (by omega)
      have cc : ∀ l1 l2 l3 l4, (cut (webL w) l1 l2).length + (cut (webL w) l3 l4).length ≤ sizeLine := fun l1 l2 l3 l4 => by
        have := c1 l1 l2
        have := c1 l3 l4
        omega
      walk_at "law_changed!3"
      refine ⟨⟨by omega, by omega⟩, by omega, (webL w).take j ++ .tuple [.int a, .int b] :: (webL w).drop j, ?_, ?_⟩
      · rw [hj]
        simp
      · refine fin _ _ (nice_tup (fun x hx => ?_) ?_)
        · rcases List.mem_append.mp hx with hx | hx
          · exact el_web g h1 x (List.mem_of_mem_take hx)
          · rcases List.mem_cons.mp hx with rfl | hx
            · exact rp_pair (by omega) (by omega)
            · exact el_web g h1 x (List.mem_of_mem_drop hx)
        · simp only [List.length_append, List.length_cons, List.length_take, List.length_drop]
          omega
    · have hx1 : (0 < ((List.map S.d (webL w)).length : Int)) = False := eq_false hp
      have hx2 : (((List.map S.d (webL w)).length : Int) = 0) = True := eq_true (by omega)
      walk_at "law_changed!2"
      exact ret_frz0 (h _ nw)
  · by_cases hp : 0 < ((List.map S.d (webL w)).length : Int)
    · obtain ⟨a, b, j, hj, hj2, hv, hm⟩ := at_web hp cell
      have hx1 : ∀ P : S → Prop, (∃ v, atI (List.map S.d (webL w)) (cell % ((List.map S.d (webL w)).length : Int)) = some v ∧ P v) = P (.d (.tuple [.int a, .int b])) := fun P => by rw [hv]; exact ex_self
      have hx2 : (0 < ((List.map S.d (webL w)).length : Int)) = True := eq_true hp
      have hx3 : (((List.map S.d (webL w)).length : Int) = 0) = False := eq_false (by omega)
      have hp2 := g.ps _ hm
      obtain ⟨p1, p2, p3⟩ := hp2
      simp only at p1 p2 p3
      have hix : ixN (List.map S.d (webL w)).length (cell % ((List.map S.d (webL w)).length : Int)) = some j := by
        rw [hj, ix_ofN (by omega) (by rw [List.length_map]; omega)]
        simp
      have fset : ∀ x, Rp x 200 2 → ∃ j, ixN (List.map S.d (webL w)).length (cell % ((List.map S.d (webL w)).length : Int)) = some j ∧ ∃ xs, (List.map S.d (webL w)).set j (S.d x) = List.map S.d xs ∧ ∃ r M2, Ex M (M ++ [MO.lst ((List.map S.d (webL w)).set j (S.d x))]) (S.d (.tuple xs)) r M2 ∧ Q r M2 := fun x hx =>
        ⟨j, hix, (webL w).set j x, List.map_set.symm, fin _ _ (nice_tup (fun y hy => (List.mem_or_eq_of_mem_set hy).elim (el_web g h1 y) fun e => e ▸ hx) (by rw [List.length_set]; omega))⟩
      have fcut : ∀ l1 l2 l3 l4, Nice (.tuple (cut (webL w) l1 l2 ++ cut (webL w) l3 l4)) := fun l1 l2 l3 l4 =>
        nice_tup (fun y hy => el_web g h1 y ((List.mem_append.mp hy).elim mem_cut mem_cut)) (by
          have c1 := cut_len (webL w) l1 l2
          have c2 := cut_len (webL w) l3 l4
          rw [List.length_append]
          omega)
      have c1 : ∀ l1 l2, (cut (webL w) l1 l2).length ≤ 500 := fun l1 l2 => Nat.le_trans (cut_len _ _ _) (by omega)
      have cc : ∀ l1 l2 l3 l4, (cut (webL w) l1 l2).length + (cut (webL w) l3 l4).length ≤ sizeLine := fun l1 l2 l3 l4 => by
        have := c1 l1 l2
        have := c1 l3 l4
        omega
      walk_at "law_changed!3"
      refine ⟨by rw [List.length_map (as := cut _ _ _), List.length_map (as := cut _ _ _)]; exact cc _ _ _ _, fin _ _ (fcut _ _ _ _)⟩
    · have hx1 : (0 < ((List.map S.d (webL w)).length : Int)) = False := eq_false hp
      have hx2 : (((List.map S.d (webL w)).length : Int) = 0) = True := eq_true (by omega)
      walk_at "law_changed!2"
      exact ret_frz0 (h _ nw)
  · by_cases hp : 0 < ((List.map S.d (webL w)).length : Int)
    · obtain ⟨a, b, j, hj, hj2, hv, hm⟩ := at_web hp cell
      have hx1 : ∀ P : S → Prop, (∃ v, atI (List.map S.d (webL w)) (cell % ((List.map S.d (webL w)).length : Int)) = some v ∧ P v) = P (.d (.tuple [.int a, .int b])) := fun P => by rw [hv]; exact ex_self
      have hx2 : (0 < ((List.map S.d (webL w)).length : Int)) = True := eq_true hp
      have hx3 : (((List.map S.d (webL w)).length : Int) = 0) = False := eq_false (by omega)
      have hp2 := g.ps _ hm
      obtain ⟨p1, p2, p3⟩ := hp2
      simp only at p1 p2 p3
      have hix : ixN (List.map S.d (webL w)).length (cell % ((List.map S.d (webL w)).length : Int)) = some j := by
        rw [hj, ix_ofN (by omega) (by rw [List.length_map]; omega)]
        simp
      have fset : ∀ x, Rp x 200 2 → ∃ j, ixN (List.map S.d (webL w)).length (cell % ((List.map S.d (webL w)).length : Int)) = some j ∧ ∃ xs, (List.map S.d (webL w)).set j (S.d x) = List.map S.d xs ∧ ∃ r M2, Ex M (M ++ [MO.lst ((List.map S.d (webL w)).set j (S.d x))]) (S.d (.tuple xs)) r M2 ∧ Q r M2 := fun x hx =>
        ⟨j, hix, (webL w).set j x, List.map_set.symm, fin _ _ (nice_tup (fun y hy => (List.mem_or_eq_of_mem_set hy).elim (el_web g h1 y) fun e => e ▸ hx) (by rw [List.length_set]; omega))⟩
      have fcut : ∀ l1 l2 l3 l4, Nice (.tuple (cut (webL w) l1 l2 ++ cut (webL w) l3 l4)) := fun l1 l2 l3 l4 =>
        nice_tup (fun y hy => el_web g h1 y ((List.mem_append.mp hy).elim mem_cut mem_cut)) (by
          have c1 := cut_len (webL w) l1 l2
          have c2 := cut_len (webL w) l3 l4
          rw [List.length_append]
          omega)
      have c1 : ∀ l1 l2, (cut (webL w) l1 l2).length ≤ 500 := fun l1 l2 => Nat.le_trans (cut_len _ _ _) (by omega)
      have cc : ∀ l1 l2 l3 l4, (cut (webL w) l1 l2).length + (cut (webL w) l3 l4).length ≤ sizeLine := fun l1 l2 l3 l4 => by
        have := c1 l1 l2
        have := c1 l3 l4
        omega
      walk_at "law_changed!3"
      exact fset _ (Rp.mo (Rp.tup (w := 41) (d := 0) (n := 3) (fun x hx => by simp only [List.mem_cons, List.not_mem_nil, or_false] at hx; rcases hx with rfl | rfl | rfl <;> exact Rp.int (by omega)) (by simp)) (by omega) (by omega))
    · have hx1 : (0 < ((List.map S.d (webL w)).length : Int)) = False := eq_false hp
      have hx2 : (((List.map S.d (webL w)).length : Int) = 0) = True := eq_true (by omega)
      walk_at "law_changed!2"
      exact ret_frz0 (h _ nw)
  · by_cases hp : 0 < ((List.map S.d (webL w)).length : Int)
    · obtain ⟨a, b, j, hj, hj2, hv, hm⟩ := at_web hp cell
      have hx1 : ∀ P : S → Prop, (∃ v, atI (List.map S.d (webL w)) (cell % ((List.map S.d (webL w)).length : Int)) = some v ∧ P v) = P (.d (.tuple [.int a, .int b])) := fun P => by rw [hv]; exact ex_self
      have hx2 : (0 < ((List.map S.d (webL w)).length : Int)) = True := eq_true hp
      have hx3 : (((List.map S.d (webL w)).length : Int) = 0) = False := eq_false (by omega)
      have hp2 := g.ps _ hm
      obtain ⟨p1, p2, p3⟩ := hp2
      simp only at p1 p2 p3
      have hix : ixN (List.map S.d (webL w)).length (cell % ((List.map S.d (webL w)).length : Int)) = some j := by
        rw [hj, ix_ofN (by omega) (by rw [List.length_map]; omega)]
        simp
      have fset : ∀ x, Rp x 200 2 → ∃ j, ixN (List.map S.d (webL w)).length (cell % ((List.map S.d (webL w)).length : Int)) = some j ∧ ∃ xs, (List.map S.d (webL w)).set j (S.d x) = List.map S.d xs ∧ ∃ r M2, Ex M (M ++ [MO.lst ((List.map S.d (webL w)).set j (S.d x))]) (S.d (.tuple xs)) r M2 ∧ Q r M2 := fun x hx =>
        ⟨j, hix, (webL w).set j x, List.map_set.symm, fin _ _ (nice_tup (fun y hy => (List.mem_or_eq_of_mem_set hy).elim (el_web g h1 y) fun e => e ▸ hx) (by rw [List.length_set]; omega))⟩
      have fcut : ∀ l1 l2 l3 l4, Nice (.tuple (cut (webL w) l1 l2 ++ cut (webL w) l3 l4)) := fun l1 l2 l3 l4 =>
        nice_tup (fun y hy => el_web g h1 y ((List.mem_append.mp hy).elim mem_cut mem_cut)) (by
          have c1 := cut_len (webL w) l1 l2
          have c2 := cut_len (webL w) l3 l4
          rw [List.length_append]
          omega)
      have c1 : ∀ l1 l2, (cut (webL w) l1 l2).length ≤ 500 := fun l1 l2 => Nat.le_trans (cut_len _ _ _) (by omega)
      have cc : ∀ l1 l2 l3 l4, (cut (webL w) l1 l2).length + (cut (webL w) l3 l4).length ≤ sizeLine := fun l1 l2 l3 l4 => by
        have := c1 l1 l2
        have := c1 l3 l4
        omega
      walk_at "law_changed!3"
      exact fset _ (Rp.mo (Rp.tup (w := 41) (d := 0) (n := 2) (fun x hx => by simp only [List.mem_cons, List.not_mem_nil, or_false] at hx; rcases hx with rfl | rfl; exact (Rp.bool (d := 0)).mo (by omega) (by omega); exact Rp.int (by omega)) (by simp)) (by omega) (by omega))
    · have hx1 : (0 < ((List.map S.d (webL w)).length : Int)) = False := eq_false hp
      have hx2 : (((List.map S.d (webL w)).length : Int) = 0) = True := eq_true (by omega)
      walk_at "law_changed!2"
      exact ret_frz0 (h _ nw)
  · by_cases hp : 0 < ((List.map S.d (webL w)).length : Int)
    · obtain ⟨a, b, j, hj, hj2, hv, hm⟩ := at_web hp cell
      have hx1 : ∀ P : S → Prop, (∃ v, atI (List.map S.d (webL w)) (cell % ((List.map S.d (webL w)).length : Int)) = some v ∧ P v) = P (.d (.tuple [.int a, .int b])) := fun P => by rw [hv]; exact ex_self
      have hx2 : (0 < ((List.map S.d (webL w)).length : Int)) = True := eq_true hp
      have hx3 : (((List.map S.d (webL w)).length : Int) = 0) = False := eq_false (by omega)
      have hp2 := g.ps _ hm
      obtain ⟨p1, p2, p3⟩ := hp2
      simp only at p1 p2 p3
      have hix : ixN (List.map S.d (webL w)).length (cell % ((List.map S.d (webL w)).length : Int)) = some j := by
        rw [hj, ix_ofN (by omega) (by rw [List.length_map]; omega)]
        simp
      have fset : ∀ x, Rp x 200 2 → ∃ j, ixN (List.map S.d (webL w)).length (cell % ((List.map S.d (webL w)).length : Int)) = some j ∧ ∃ xs, (List.map S.d (webL w)).set j (S.d x) = List.map S.d xs ∧ ∃ r M2, Ex M (M ++ [MO.lst ((List.map S.d (webL w)).set j (S.d x))]) (S.d (.tuple xs)) r M2 ∧ Q r M2 := fun x hx =>
        ⟨j, hix, (webL w).set j x, List.map_set.symm, fin _ _ (nice_tup (fun y hy => (List.mem_or_eq_of_mem_set hy).elim (el_web g h1 y) fun e => e ▸ hx) (by rw [List.length_set]; omega))⟩
      have fcut : ∀ l1 l2 l3 l4, Nice (.tuple (cut (webL w) l1 l2 ++ cut (webL w) l3 l4)) := fun l1 l2 l3 l4 =>
        nice_tup (fun y hy => el_web g h1 y ((List.mem_append.mp hy).elim mem_cut mem_cut)) (by
          have c1 := cut_len (webL w) l1 l2
          have c2 := cut_len (webL w) l3 l4
          rw [List.length_append]
          omega)
      have c1 : ∀ l1 l2, (cut (webL w) l1 l2).length ≤ 500 := fun l1 l2 => Nat.le_trans (cut_len _ _ _) (by omega)
      have cc : ∀ l1 l2 l3 l4, (cut (webL w) l1 l2).length + (cut (webL w) l3 l4).length ≤ sizeLine := fun l1 l2 l3 l4 => by
        have := c1 l1 l2
        have := c1 l3 l4
        omega
      walk_at "law_changed!3"
      refine ⟨by have := log12 (n := b.natAbs) (by omega); omega, fset _ (Rp.mo (Rp.tup (w := 41) (d := 0) (n := 2) (fun x hx => ?_) (by simp)) (by omega) (by omega))⟩
      simp only [List.mem_cons, List.not_mem_nil, or_false] at hx
      rcases hx with rfl | rfl
      · exact Rp.int (by omega)
      · obtain ⟨m, rfl⟩ := Int.eq_ofNat_of_zero_le (a := b) (by omega)
        have := str_small m (by omega)
        exact Rp.str this.1 (by omega)
    · have hx1 : (0 < ((List.map S.d (webL w)).length : Int)) = False := eq_false hp
      have hx2 : (((List.map S.d (webL w)).length : Int) = 0) = True := eq_true (by omega)
      walk_at "law_changed!2"
      exact ret_frz0 (h _ nw)
  · by_cases hp : 0 < ((List.map S.d (webL w)).length : Int)
    · obtain ⟨a, b, j, hj, hj2, hv, hm⟩ := at_web hp cell
      have hx1 : ∀ P : S → Prop, (∃ v, atI (List.map S.d (webL w)) (cell % ((List.map S.d (webL w)).length : Int)) = some v ∧ P v) = P (.d (.tuple [.int a, .int b])) := fun P => by rw [hv]; exact ex_self
      have hx2 : (0 < ((List.map S.d (webL w)).length : Int)) = True := eq_true hp
      have hx3 : (((List.map S.d (webL w)).length : Int) = 0) = False := eq_false (by omega)
      have hp2 := g.ps _ hm
      obtain ⟨p1, p2, p3⟩ := hp2
      simp only at p1 p2 p3
      have hix : ixN (List.map S.d (webL w)).length (cell % ((List.map S.d (webL w)).length : Int)) = some j := by
        rw [hj, ix_ofN (by omega) (by rw [List.length_map]; omega)]
        simp
      have fset : ∀ x, Rp x 200 2 → ∃ j, ixN (List.map S.d (webL w)).length (cell % ((List.map S.d (webL w)).length : Int)) = some j ∧ ∃ xs, (List.map S.d (webL w)).set j (S.d x) = List.map S.d xs ∧ ∃ r M2, Ex M (M ++ [MO.lst ((List.map S.d (webL w)).set j (S.d x))]) (S.d (.tuple xs)) r M2 ∧ Q r M2 := fun x hx =>
        ⟨j, hix, (webL w).set j x, List.map_set.symm, fin _ _ (nice_tup (fun y hy => (List.mem_or_eq_of_mem_set hy).elim (el_web g h1 y) fun e => e ▸ hx) (by rw [List.length_set]; omega))⟩
      have fcut : ∀ l1 l2 l3 l4, Nice (.tuple (cut (webL w) l1 l2 ++ cut (webL w) l3 l4)) := fun l1 l2 l3 l4 =>
        nice_tup (fun y hy => el_web g h1 y ((List.mem_append.mp hy).elim mem_cut mem_cut)) (by
          have c1 := cut_len (webL w) l1 l2
          have c2 := cut_len (webL w) l3 l4
          rw [List.length_append]
          omega)
      have c1 : ∀ l1 l2, (cut (webL w) l1 l2).length ≤ 500 := fun l1 l2 => Nat.le_trans (cut_len _ _ _) (by omega)
      have cc : ∀ l1 l2 l3 l4, (cut (webL w) l1 l2).length + (cut (webL w) l3 l4).length ≤ sizeLine := fun l1 l2 l3 l4 => by
        have := c1 l1 l2
        have := c1 l3 l4
        omega
      walk_at "law_changed!3"
      exact fset _ (Rp.mo (Rp.tup (w := 41) (d := 0) (n := 1) (fun x hx => by simp only [List.mem_cons, List.not_mem_nil, or_false] at hx; rcases hx with rfl; exact Rp.int (by omega)) (by simp)) (by omega) (by omega))
    · have hx1 : (0 < ((List.map S.d (webL w)).length : Int)) = False := eq_false hp
      have hx2 : (((List.map S.d (webL w)).length : Int) = 0) = True := eq_true (by omega)
      walk_at "law_changed!2"
      exact ret_frz0 (h _ nw)
  · by_cases hp : 0 < ((List.map S.d (webL w)).length : Int)
    · obtain ⟨a, b, j, hj, hj2, hv, hm⟩ := at_web hp cell
      have hx1 : ∀ P : S → Prop, (∃ v, atI (List.map S.d (webL w)) (cell % ((List.map S.d (webL w)).length : Int)) = some v ∧ P v) = P (.d (.tuple [.int a, .int b])) := fun P => by rw [hv]; exact ex_self
      have hx2 : (0 < ((List.map S.d (webL w)).length : Int)) = True := eq_true hp
      have hx3 : (((List.map S.d (webL w)).length : Int) = 0) = False := eq_false (by omega)
      have hp2 := g.ps _ hm
      obtain ⟨p1, p2, p3⟩ := hp2
      simp only at p1 p2 p3
      have hix : ixN (List.map S.d (webL w)).length (cell % ((List.map S.d (webL w)).length : Int)) = some j := by
        rw [hj, ix_ofN (by omega) (by rw [List.length_map]; omega)]
        simp
      have fset : ∀ x, Rp x 200 2 → ∃ j, ixN (List.map S.d (webL w)).length (cell % ((List.map S.d (webL w)).length : Int)) = some j ∧ ∃ xs, (List.map S.d (webL w)).set j (S.d x) = List.map S.d xs ∧ ∃ r M2, Ex M (M ++ [MO.lst ((List.map S.d (webL w)).set j (S.d x))]) (S.d (.tuple xs)) r M2 ∧ Q r M2 := fun x hx =>
        ⟨j, hix, (webL w).set j x, List.map_set.symm, fin _ _ (nice_tup (fun y hy => (List.mem_or_eq_of_mem_set hy).elim (el_web g h1 y) fun e => e ▸ hx) (by rw [List.length_set]; omega))⟩
      have fcut : ∀ l1 l2 l3 l4, Nice (.tuple (cut (webL w) l1 l2 ++ cut (webL w) l3 l4)) := fun l1 l2 l3 l4 =>
        nice_tup (fun y hy => el_web g h1 y ((List.mem_append.mp hy).elim mem_cut mem_cut)) (by
          have c1 := cut_len (webL w) l1 l2
          have c2 := cut_len (webL w) l3 l4
          rw [List.length_append]
          omega)
      have c1 : ∀ l1 l2, (cut (webL w) l1 l2).length ≤ 500 := fun l1 l2 => Nat.le_trans (cut_len _ _ _) (by omega)
      have cc : ∀ l1 l2 l3 l4, (cut (webL w) l1 l2).length + (cut (webL w) l3 l4).length ≤ sizeLine := fun l1 l2 l3 l4 => by
        have := c1 l1 l2
        have := c1 l3 l4
        omega
      walk_at "law_changed!3"
      refine ⟨by rw [List.length_map (as := cut _ _ _), List.length_map (as := cut _ _ _)]; exact cc _ _ _ _, fin _ _ (fcut _ _ _ _)⟩
    · have hx1 : (0 < ((List.map S.d (webL w)).length : Int)) = False := eq_false hp
      have hx2 : (((List.map S.d (webL w)).length : Int) = 0) = True := eq_true (by omega)
      walk_at "law_changed!2"
      exact ret_frz0 (h _ nw)
theorem k_law_changed {w : List (Int × Int)} {n way cell : Int} {M : Mem} {Q : S → Mem → Prop} {E : Xc → Mem → Prop} : sp_law_changed [.d (.list (webL w)), .d (.int n), .d (.int way), .d (.int cell)] M Q E = ((0 ≤ n ∧ n ≤ 30 ∧ 0 ≤ way ∧ way < 16 ∧ ∃ w', webL w = webL w' ∧ Good w' n) ∧ ∀ c, Nice c → Q (.d c) M) := rfl
/-! _law_judged -/
abbrev s_law_judged : Stmt := topS 17
def N_law_judged : List Str := ["value", "points", "last", "pair", "x"]
theorem sc_law_judged : FnScope N_law_judged ["value", "points"] (defScope s_law_judged) := ⟨rfl, rfl, rfl, by decide +kernel, rfl, by decide +kernel, by decide +kernel⟩
def b_law_judged_2 : Ss := .cons (.cond (.or (.not (.isI (.var 4) ["int"])) (.or (.isI (.var 4) ["bool"]) (.or (.cmp .Lt (.var 4) (.cst (.int 0))) (.cmp .GtE (.var 4) (.var 1))))) (.cons (.ret (.cst (.bool false))) .nil) (.nil)) .nil
def b_law_judged_1 : Ss := .cons (.cond (.or (.not (.isI (.var 3) ["tuple"])) (.cmp .NotEq (.b1 .len (.var 3)) (.cst (.int 2)))) (.cons (.ret (.cst (.bool false))) .nil) (.nil)) (.cons (.loop (.nm 4) (.of (.var 3)) b_law_judged_2) (.cons (.cond (.or (.cmp .GtE (.ix (.var 3) (.cst (.int 0))) (.ix (.var 3) (.cst (.int 1)))) (.cmp .LtE (.var 3) (.var 2))) (.cons (.ret (.cst (.bool false))) .nil) (.nil)) (.cons (.asg (.nm 2) (.var 3)) .nil)))
def b_law_judged : Ss := .cons (.cond (.not (.isI (.var 0) ["tuple"])) (.cons (.ret (.cst (.bool false))) .nil) (.nil)) (.cons (.asg (.nm 2) (.tup (.cons (.neg (.cst (.int 1))) (.cons (.neg (.cst (.int 1))) .nil)))) (.cons (.loop (.nm 3) (.of (.var 0)) b_law_judged_1) (.cons (.ret (.cst (.bool true))) .nil)))
theorem ub_law_judged_2 : b_law_judged_2 = .cons (.cond (.or (.not (.isI (.var 4) ["int"])) (.or (.isI (.var 4) ["bool"]) (.or (.cmp .Lt (.var 4) (.cst (.int 0))) (.cmp .GtE (.var 4) (.var 1))))) (.cons (.ret (.cst (.bool false))) .nil) (.nil)) .nil := rfl
theorem ub_law_judged_1 : b_law_judged_1 = .cons (.cond (.or (.not (.isI (.var 3) ["tuple"])) (.cmp .NotEq (.b1 .len (.var 3)) (.cst (.int 2)))) (.cons (.ret (.cst (.bool false))) .nil) (.nil)) (.cons (.loop (.nm 4) (.of (.var 3)) b_law_judged_2) (.cons (.cond (.or (.cmp .GtE (.ix (.var 3) (.cst (.int 0))) (.ix (.var 3) (.cst (.int 1)))) (.cmp .LtE (.var 3) (.var 2))) (.cons (.ret (.cst (.bool false))) .nil) (.nil)) (.cons (.asg (.nm 2) (.var 3)) .nil))) := rfl
theorem ub_law_judged : b_law_judged = .cons (.cond (.not (.isI (.var 0) ["tuple"])) (.cons (.ret (.cst (.bool false))) .nil) (.nil)) (.cons (.asg (.nm 2) (.tup (.cons (.neg (.cst (.int 1))) (.cons (.neg (.cst (.int 1))) .nil)))) (.cons (.loop (.nm 3) (.of (.var 0)) b_law_judged_1) (.cons (.ret (.cst (.bool true))) .nil))) := rfl
theorem st_law_judged {x0 x1 : S} : startS N_law_judged [x0, x1] = [some x0, some x1, none, none, none] := rfl
def lib_law_judged : Lib := []
abbrev Γ_law_judged : G.Env := lib_law_judged.env (MroF tab)
local macro_rules | `(tactic| walk_at "law_judged") => `(tactic| simp (maxSteps := 1000000) only [ub_law_judged, st_law_judged, exits, ↓xv_0, ↓xv_S, ↓da_snoc, ↓da_app, ↓e_cst, ↓e_neg, ↓e_not, ↓e_and, ↓e_or, ↓e_ite, ↓e_bin, ↓e_cmp, ↓e_chain, ↓e_tup, ↓e_fr, ↓e_ddisp, ↓e_ix, ↓e_sl, ↓e_rev, ↓e_call, ↓e_callK, ↓e_b1, ↓e_b2, ↓e_isX, ↓e_xval, ↓e_get, ↓e_pop, ↓e_popAt, ↓e_index, ↓t_not, ↓t_and, ↓t_or, ↓a_nil, ↓a_cons, ↓o_none, ↓o_some, ↓c_none, ↓c_some, ↓f_disp, ↓f_comp, ↓f_comp2, ↓f_listOf, ↓i_of, ↓i_rng, ↓i_zip, ↓i_rev, ↓t_var, ↓t_cst, ↓t_neg, ↓t_ite, ↓t_bin, ↓t_cmp, ↓t_chain, ↓t_tup, ↓t_fr, ↓t_al, ↓t_ddisp, ↓t_ix, ↓t_sl, ↓t_rev, ↓t_call, ↓t_callK, ↓t_b1, ↓t_b2, ↓t_isI, ↓t_isX, ↓t_xval, ↓t_get, ↓t_pop, ↓t_popAt, ↓t_index, ↓s_asg, ↓s_setIx, ↓s_augIx, ↓s_expr, ↓s_ret, ↓s_retN, ↓s_cond, ↓s_loop, ↓s_whl, ↓s_raise, ↓s_tryX, ↓s_pass, ↓s_brk, ↓s_cont, ↓b_nil, ↓b_cons, ↓h_nil, ↓r_add, ↓r_sub, ↓r_mul, ↓r_div, ↓r_mod, ↓r_pow, ↓r_shl, ↓r_cat, ↓r_cats, ↓r_rep, ↓r_lt, ↓r_le, ↓r_gt, ↓r_ge, ↓r_eqI, ↓r_neI, ↓r_augA, ↓r_augS, ↓r_augM, ↓tg_tpt, ↓tg_tpm, ↓tgs_nil, ↓tgs_cons, ↓turn_nx, ↓turn_ct, ↓turn_bk, ↓turn_rt, ↓turn_ex, ↓d_nil, ↓d_eq, ↓rng_1, ↓rng_2, ↓b_int, ↓b_intb, ↓b_bool, ↓b_boolb, ↓b_lent, ↓b_lenl, ↓b_tupt, ↓b_tupl, ↓b_str, ↓b_repr', ↓xp_d, ↓b_abs, ↓b_sum, ↓b_all, ↓b_any, ↓b_max, ↓b_min, ↓ix_t, ↓ix_l, ↓sl_t, ↓sl_l, ↓c_eqb, ↓c_neb, ↓c_isN, ↓c_isnN, ↓isx_eq, ↓xval_eq, ↓c_inT, ↓c_inL, ↓c_ninT, ↓c_ninL, ↓c_ltT, ↓c_leT, ↓c_gtT, ↓c_geT, ↓c_eqS, ↓c_neS, ↓b_lenm, ↓v_0, ↓v_S, ↓n_0, ↓n_S, ↓un_0, ↓un_S, ↓s_aug', ↓s_par', ↓h_cons', ↓xl_k, ↓xl_0, ↓xl_S, ↓xl_z, ↓md_k, ↓md_0, ↓mm_0, ↓mm_S, ↓nw_1, ↓nw_2, ↓nw_3, ↓nw_4, ↓nw_5, ↓e_al', ↓ix_m', ↓b_tupm', ↓sl_m', ↓ex_map, ↓ap_l, ↓s_app', ↓xt_l, ↓s_ext', ↓in_l, ↓s_ins', ↓p_put', ↓wt_d, ↓wt_k, ↓wt_k0, ↓to_S, ↓to_z, ↓e_isI1, ↓e_isI2, ↓ex_tb, ↓ex_ti, ↓ex_tn, ↓ex_tt, ↓ex_tl, ↓ex_i, ↓ex_B, ↓xd_nil, ↓xd_cons, ↓xd_map, ↓xi_t, ↓xi_l, ↓xi_m, ↓f_cat', ↓f_rep', ↓f_slice', ↓i_enum', nw_0, e_var, e_cst, e_neg, e_not, e_and, e_or, e_ite, e_bin, e_cmp, e_chain, e_tup, e_fr, e_al, e_ddisp, e_ix, e_sl, e_rev, e_call, e_callK, e_b1, e_b2, e_isI, e_isX, e_xval, e_get, e_pop, e_popAt, e_index, t_not, t_and, t_or, a_nil, a_cons, o_none, o_some, c_none, c_some, f_disp, f_comp, f_comp2, f_listOf, f_cat, f_rep, f_slice, i_of, i_rng, i_enum, i_zip, i_rev, t_var, t_cst, t_neg, t_ite, t_bin, t_cmp, t_chain, t_tup, t_fr, t_al, t_ddisp, t_ix, t_sl, t_rev, t_call, t_callK, t_b1, t_b2, t_isI, t_isX, t_xval, t_get, t_pop, t_popAt, t_index, s_asg, s_setIx, s_par, s_aug, s_augIx, s_expr, s_app, s_ext, s_ins, s_ret, s_retN, s_cond, s_loop, s_whl, s_raise, s_tryX, s_pass, s_brk, s_cont, b_nil, b_cons, h_nil, h_cons, r_add, r_sub, r_mul, r_div, r_mod, r_pow, r_shl, r_cat, r_cats, r_rep, r_lt, r_le, r_gt, r_ge, r_eqI, r_neI, tr_bool, tr_int, tr_none, tr_tuple, tr_list, r_augA, r_augS, r_augM, m_get, m_get0, m_set, m_set0, ex_v, ex_k, ex_lst, tg_nm, tg_tpt, tg_tpm, tgs_nil, tgs_cons, tgAt_eq, List.getElem?_cons_succ, List.getElem?_cons_zero, List.set_cons_succ, List.set_cons_zero, List.length_append, List.length_cons, List.length_nil, List.append_assoc, List.cons_append, List.nil_append, decide_eq_true_eq, I, B, N0, S.l.injEq, S.d.injEq, Option.some.injEq, MO.lst.injEq, exists_eq_left', exists_and_left, mapM_d, Bool.false_eq_true, isTy, at_0, at_1, mapM_s, List.map_cons, List.map_nil, List.any_cons, List.any_nil, id_eq, Bool.or_false, Bool.not_true, Bool.not_false, ↓reduceIte, turn_nx, turn_ct, turn_bk, turn_rt, turn_ex, ty_m, Int.zero_add, d_nil, d_eq, rng_1, rng_2, b_int, b_intb, b_bool, b_boolb, b_lent, b_lenl, b_lenm, b_tupt, b_tupl, b_tupm, b_str, b_repr', b_abs, b_sum, b_all, b_any, b_max, b_min, ix_t, ix_l, ix_m, sl_t, sl_l, sl_m, ty_d, it_t, it_l, pd_d, c_eqb, c_neb, c_isN, c_isnN, isx_eq, xval_eq, true_and, and_true, List.append_nil, wipeS, tgSlots, tgSlotss, c_inT, c_inL, c_ninT, c_ninL, c_ltT, c_leT, c_gtT, c_geT, it_k, it_k0, ty_k, ty_k0, lo_1, to_1, to_2, beq_self_eq_true, sd_inj, da_nil, da_cons, da_map, Option.map_some, p_put, Nat.reduceAdd, Int.reduceEq, Int.reduceLT, Int.reduceLE, c_noneF, c_eqS, c_neS, eq_self, decide_true, decide_false, pints_len, itm_len, sz_0, sz_1, sz_2, sz_3, sz_4, sz_5, sz_6, sz_7, sz_8, int?_d, ok_of_d, ex_self, Nat.zero_add])
theorem lm_law_judged : ∀ p ∈ lib_law_judged, ∀ vs, Mono (p.2.2 vs) := fun p hp => by cases hp
theorem mb_law_judged (s : Ss) : MonoS (wSs Γ_law_judged s) := mSs s _ (Lib.mo lm_law_judged)
theorem ck_law_judged : kSs b_law_judged ⟨N_law_judged, defScope s_law_judged, lib_law_judged.fs, kws, cs, hs, true⟩ (defBody s_law_judged) = true := by decide +kernel
theorem bd_law_judged : Bd "_law_judged" s_law_judged ["value", "points"] := fun _ _ _ _ _ _ us hl => match us, hl with | [_, _], _ => rfl
theorem kb_law_judged : ∀ q ∈ kws, q.1 = "_law_judged" → BdK "_law_judged" s_law_judged ["value", "points"] q.2.1 q.2.2 := by
  intro q hq e
  simp only [kws, List.mem_cons, List.not_mem_nil, or_false] at hq
  subst hq
  · exact absurd e (by decide)
def sp_law_judged : FSpec := fun vs M Q E => match vs with
  | [.d v, .d (.int n)] => Q (B (isWebD v n)) M
  | _ => False
theorem mo_law_judged : ∀ vs, Mono (sp_law_judged vs) := by
  intro vs M Q Q' X X' hq hx h
  unfold sp_law_judged at *
  split at h
  · exact hq _ _ h
  · exact h
def okX (x : PD) (n : Int) : Bool := match x with
  | .int i => decide (0 ≤ i) && decide (i < n)
  | _ => false
theorem judged_x {v x l : PD} {n : Int} {pr : Option S} {M : Mem} {O : Outs} (h1 : okX x n = true → O.nx [some (.d v), some (.d (.int n)), some (.d l), pr, some (.d x)] M) (h2 : okX x n = false → O.rt (B false) M) :
    wSs Γ_law_judged b_law_judged_2 [some (.d v), some (.d (.int n)), some (.d l), pr, some (.d x)] M O := by
  simp only [ub_law_judged_2]
  cases x with
  | int i =>
    walk_at "law_judged"
    simp only [okX] at h1 h2
    by_cases c1 : i < 0
    · have c3 : ¬ 0 ≤ i := by omega
      simp [c3] at h2
      simpa [c1] using h2
    · by_cases c2 : n ≤ i
      · have c3 : ¬ i < n := by omega
        simp [c3] at h2
        simpa [c1, c2] using h2
      · have c3 : 0 ≤ i := by omega
        have c4 : i < n := by omega
        simp [c3, c4] at h1
        simpa [c1, c2] using h1
  | _ =>
    have h3 := h2 rfl
    walk_at "law_judged"
    first
      | exact h3
      | simpa using h3
theorem w_law_judged : ∀ (ss : List S) (M : Mem) (Q : S → Mem → Prop) (E : Xc → Mem → Prop), ss.length = 2 → sp_law_judged ss M Q E → wSs Γ_law_judged b_law_judged (startS N_law_judged ss) M (exits M Q E) := by
  intro ss M Q E hl h
  unfold sp_law_judged at h
  split at h
  case h_2 => exact h.elim
  rename_i v n
  cases v with
  | tuple xs =>
    rw [← jd_web] at h
    walk_at "law_judged"
    refine for_dat (fun _ => trivial) (mb_law_judged _) (fun i ρ M' => ∃ a b s3 s4, ρ = [some (.d (.tuple xs)), some (.d (.int n)), some (.d (.tuple [.int a, .int b])), s3, s4] ∧ M' = M ∧ jd n (.tuple [.int a, .int b]) (xs.drop i) = jd n last0 xs)
      ⟨-1, -1, none, none, rfl, rfl, rfl⟩ ?_ ?_
    · rintro ρ M' ⟨a, b, s3, s4, rfl, rfl, e⟩
      rw [List.drop_of_length_le (Nat.le_refl _), jd] at e
      rw [← e] at h
      exact ret_here h
    · rintro i x ρ M' ex ⟨a, b, s3, s4, rfl, rfl, e⟩
      obtain ⟨h1, h2⟩ := List.getElem?_eq_some_iff.mp ex
      rw [List.drop_eq_getElem_cons h1, h2, jd] at e
      simp only [ub_law_judged_1]
      have no : isPairD x n = false → Q (B false) M' := fun z => by
        rw [z] at e
        rw [← e] at h
        exact h
      cases x with
      | tuple ys =>
        match ys, no, e, ex with
        | [], no, e, ex =>
          walk_at "law_judged"
          exact ret_here (no rfl)
        | [u], no, e, ex =>
          walk_at "law_judged"
          exact ret_here (no (by cases u <;> rfl))
        | u :: v :: z :: r, no, e, ex =>
          have hz : isPairD (.tuple (u :: v :: z :: r)) n = false := by cases u <;> cases v <;> rfl
          walk_at "law_judged"
          rw [if_pos (by simp; omega)]
          exact ret_here (no hz)
        | [u, v], no, e, ex =>
          walk_at "law_judged"
          simp only [wFor, wTg]
          rw [if_neg (by decide)]
          have no2 : (okX u n = false ∨ okX v n = false) → Q (B false) M' := fun z => no (by
            cases q : isPairD (.tuple [u, v]) n with
            | false => rfl
            | true =>
              obtain ⟨p, e, h1, h2, h3⟩ := isPair_some q
              cases e
              rcases z with z | z
              · simp only [okX, Bool.and_eq_false_iff, decide_eq_false_iff_not] at z
                omega
              · simp only [okX, Bool.and_eq_false_iff, decide_eq_false_iff_not] at z
                omega)
          refine ⟨trivial, judged_x (fun hu => ⟨trivial, judged_x (fun hv => ⟨trivial, ?_⟩) fun hv => ret_here (no2 (.inr hv))⟩) fun hu => ret_here (no2 (.inl hu))⟩
          cases u <;> first | cases hu | skip
          cases v <;> first | cases hv | skip
          rename_i c d
          simp only [okX, Bool.and_eq_true, decide_eq_true_eq] at hu hv
          walk_at "law_judged"
          split
          · rename_i hc
            refine ret_here (no ?_)
            cases q : isPairD (.tuple [.int c, .int d]) n with
            | false => rfl
            | true =>
              obtain ⟨p, e, h1, h2, h3⟩ := isPair_some q
              cases e
              omega
          · rename_i hc
            have hp : isPairD (.tuple [.int c, .int d]) n = true := isPair_of (p := (c, d)) ⟨hu.1, by show c < d; omega, hv.2⟩
            rw [hp, Bool.true_and] at e
            refine ⟨⟨okd_pair, okd_pair, alike_pair⟩, ?_⟩
            split
            · rename_i hl
              rw [Bool.not_eq_true'] at hl
              rw [hl, Bool.false_and] at e
              rw [← e] at h
              exact ret_here h
            · rename_i hl
              rw [Bool.not_eq_true', Bool.not_eq_false] at hl
              rw [hl, Bool.true_and] at e
              exact ⟨c, d, _, _, rfl, e⟩
      | _ =>
        walk_at "law_judged"
        exact ret_here (no rfl)
  | _ =>
    walk_at "law_judged"
    exact ret_here h
theorem k_law_judged {v : PD} {n : Int} {M : Mem} {Q : S → Mem → Prop} {E : Xc → Mem → Prop} : sp_law_judged [.d v, .d (.int n)] M Q E = Q (B (isWebD v n)) M := rfl
/-! _law_cell -/
abbrev s_law_cell : Stmt := topS 13
def N_law_cell : List Str := ["script", "k"]
theorem sc_law_cell : FnScope N_law_cell ["script", "k"] (defScope s_law_cell) := ⟨rfl, rfl, rfl, by decide +kernel, rfl, by decide +kernel, by decide +kernel⟩
def b_law_cell : Ss := .cons (.cond (.cmp .Lt (.var 1) (.b1 .len (.var 0))) (.cons (.ret (.b1 .int (.ix (.var 0) (.var 1)))) .nil) (.nil)) (.cons (.cond (.cmp .Eq (.b1 .len (.var 0)) (.cst (.int 0))) (.cons (.ret (.bin .Add (.bin .Mult (.cst (.int 1013)) (.var 1)) (.cst (.int 4)))) .nil) (.nil)) (.cons (.ret (.bin .Add (.bin .Mult (.b1 .int (.ix (.var 0) (.bin .Mod (.var 1) (.b1 .len (.var 0))))) (.cst (.int 48271))) (.bin .Mult (.cst (.int 69621)) (.var 1)))) .nil))
theorem ub_law_cell : b_law_cell = .cons (.cond (.cmp .Lt (.var 1) (.b1 .len (.var 0))) (.cons (.ret (.b1 .int (.ix (.var 0) (.var 1)))) .nil) (.nil)) (.cons (.cond (.cmp .Eq (.b1 .len (.var 0)) (.cst (.int 0))) (.cons (.ret (.bin .Add (.bin .Mult (.cst (.int 1013)) (.var 1)) (.cst (.int 4)))) .nil) (.nil)) (.cons (.ret (.bin .Add (.bin .Mult (.b1 .int (.ix (.var 0) (.bin .Mod (.var 1) (.b1 .len (.var 0))))) (.cst (.int 48271))) (.bin .Mult (.cst (.int 69621)) (.var 1)))) .nil)) := rfl
theorem st_law_cell {x0 x1 : S} : startS N_law_cell [x0, x1] = [some x0, some x1] := rfl
def lib_law_cell : Lib := []
abbrev Γ_law_cell : G.Env := lib_law_cell.env (MroF tab)
local macro_rules | `(tactic| walk_at "law_cell") => `(tactic| simp (maxSteps := 1000000) only [ub_law_cell, st_law_cell, exits, ↓xv_0, ↓xv_S, ↓da_snoc, ↓da_app, ↓e_cst, ↓e_neg, ↓e_not, ↓e_and, ↓e_or, ↓e_ite, ↓e_bin, ↓e_cmp, ↓e_chain, ↓e_tup, ↓e_fr, ↓e_ddisp, ↓e_ix, ↓e_sl, ↓e_rev, ↓e_call, ↓e_callK, ↓e_b1, ↓e_b2, ↓e_isX, ↓e_xval, ↓e_get, ↓e_pop, ↓e_popAt, ↓e_index, ↓t_not, ↓t_and, ↓t_or, ↓a_nil, ↓a_cons, ↓o_none, ↓o_some, ↓c_none, ↓c_some, ↓f_disp, ↓f_comp, ↓f_comp2, ↓f_listOf, ↓i_of, ↓i_rng, ↓i_zip, ↓i_rev, ↓t_var, ↓t_cst, ↓t_neg, ↓t_ite, ↓t_bin, ↓t_cmp, ↓t_chain, ↓t_tup, ↓t_fr, ↓t_al, ↓t_ddisp, ↓t_ix, ↓t_sl, ↓t_rev, ↓t_call, ↓t_callK, ↓t_b1, ↓t_b2, ↓t_isI, ↓t_isX, ↓t_xval, ↓t_get, ↓t_pop, ↓t_popAt, ↓t_index, ↓s_asg, ↓s_setIx, ↓s_augIx, ↓s_expr, ↓s_ret, ↓s_retN, ↓s_cond, ↓s_loop, ↓s_whl, ↓s_raise, ↓s_tryX, ↓s_pass, ↓s_brk, ↓s_cont, ↓b_nil, ↓b_cons, ↓h_nil, ↓r_add, ↓r_sub, ↓r_mul, ↓r_div, ↓r_mod, ↓r_pow, ↓r_shl, ↓r_cat, ↓r_cats, ↓r_rep, ↓r_lt, ↓r_le, ↓r_gt, ↓r_ge, ↓r_eqI, ↓r_neI, ↓r_augA, ↓r_augS, ↓r_augM, ↓tg_tpt, ↓tg_tpm, ↓tgs_nil, ↓tgs_cons, ↓turn_nx, ↓turn_ct, ↓turn_bk, ↓turn_rt, ↓turn_ex, ↓d_nil, ↓d_eq, ↓rng_1, ↓rng_2, ↓b_int, ↓b_intb, ↓b_bool, ↓b_boolb, ↓b_lent, ↓b_lenl, ↓b_tupt, ↓b_tupl, ↓b_str, ↓b_repr', ↓xp_d, ↓b_abs, ↓b_sum, ↓b_all, ↓b_any, ↓b_max, ↓b_min, ↓ix_t, ↓ix_l, ↓sl_t, ↓sl_l, ↓c_eqb, ↓c_neb, ↓c_isN, ↓c_isnN, ↓isx_eq, ↓xval_eq, ↓c_inT, ↓c_inL, ↓c_ninT, ↓c_ninL, ↓c_ltT, ↓c_leT, ↓c_gtT, ↓c_geT, ↓c_eqS, ↓c_neS, ↓b_lenm, ↓v_0, ↓v_S, ↓n_0, ↓n_S, ↓un_0, ↓un_S, ↓s_aug', ↓s_par', ↓h_cons', ↓xl_k, ↓xl_0, ↓xl_S, ↓xl_z, ↓md_k, ↓md_0, ↓mm_0, ↓mm_S, ↓nw_1, ↓nw_2, ↓nw_3, ↓nw_4, ↓nw_5, ↓e_al', ↓ix_m', ↓b_tupm', ↓sl_m', ↓ex_map, ↓ap_l, ↓s_app', ↓xt_l, ↓s_ext', ↓in_l, ↓s_ins', ↓p_put', ↓wt_d, ↓wt_k, ↓wt_k0, ↓to_S, ↓to_z, ↓e_isI1, ↓e_isI2, ↓ex_tb, ↓ex_ti, ↓ex_tn, ↓ex_tt, ↓ex_tl, ↓ex_i, ↓ex_B, ↓xd_nil, ↓xd_cons, ↓xd_map, ↓xi_t, ↓xi_l, ↓xi_m, ↓f_cat', ↓f_rep', ↓f_slice', ↓i_enum', nw_0, e_var, e_cst, e_neg, e_not, e_and, e_or, e_ite, e_bin, e_cmp, e_chain, e_tup, e_fr, e_al, e_ddisp, e_ix, e_sl, e_rev, e_call, e_callK, e_b1, e_b2, e_isI, e_isX, e_xval, e_get, e_pop, e_popAt, e_index, t_not, t_and, t_or, a_nil, a_cons, o_none, o_some, c_none, c_some, f_disp, f_comp, f_comp2, f_listOf, f_cat, f_rep, f_slice, i_of, i_rng, i_enum, i_zip, i_rev, t_var, t_cst, t_neg, t_ite, t_bin, t_cmp, t_chain, t_tup, t_fr, t_al, t_ddisp, t_ix, t_sl, t_rev, t_call, t_callK, t_b1, t_b2, t_isI, t_isX, t_xval, t_get, t_pop, t_popAt, t_index, s_asg, s_setIx, s_par, s_aug, s_augIx, s_expr, s_app, s_ext, s_ins, s_ret, s_retN, s_cond, s_loop, s_whl, s_raise, s_tryX, s_pass, s_brk, s_cont, b_nil, b_cons, h_nil, h_cons, r_add, r_sub, r_mul, r_div, r_mod, r_pow, r_shl, r_cat, r_cats, r_rep, r_lt, r_le, r_gt, r_ge, r_eqI, r_neI, tr_bool, tr_int, tr_none, tr_tuple, tr_list, r_augA, r_augS, r_augM, m_get, m_get0, m_set, m_set0, ex_v, ex_k, ex_lst, tg_nm, tg_tpt, tg_tpm, tgs_nil, tgs_cons, tgAt_eq, List.getElem?_cons_succ, List.getElem?_cons_zero, List.set_cons_succ, List.set_cons_zero, List.length_append, List.length_cons, List.length_nil, List.append_assoc, List.cons_append, List.nil_append, decide_eq_true_eq, I, B, N0, S.l.injEq, S.d.injEq, Option.some.injEq, MO.lst.injEq, exists_eq_left', exists_and_left, mapM_d, Bool.false_eq_true, isTy, at_0, at_1, mapM_s, List.map_cons, List.map_nil, List.any_cons, List.any_nil, id_eq, Bool.or_false, Bool.not_true, Bool.not_false, ↓reduceIte, turn_nx, turn_ct, turn_bk, turn_rt, turn_ex, ty_m, Int.zero_add, d_nil, d_eq, rng_1, rng_2, b_int, b_intb, b_bool, b_boolb, b_lent, b_lenl, b_lenm, b_tupt, b_tupl, b_tupm, b_str, b_repr', b_abs, b_sum, b_all, b_any, b_max, b_min, ix_t, ix_l, ix_m, sl_t, sl_l, sl_m, ty_d, it_t, it_l, pd_d, c_eqb, c_neb, c_isN, c_isnN, isx_eq, xval_eq, true_and, and_true, List.append_nil, wipeS, tgSlots, tgSlotss, c_inT, c_inL, c_ninT, c_ninL, c_ltT, c_leT, c_gtT, c_geT, it_k, it_k0, ty_k, ty_k0, lo_1, to_1, to_2, beq_self_eq_true, sd_inj, da_nil, da_cons, da_map, Option.map_some, p_put, Nat.reduceAdd, Int.reduceEq, Int.reduceLT, Int.reduceLE, c_noneF, c_eqS, c_neS, eq_self, decide_true, decide_false, pints_len, itm_len, sz_0, sz_1, sz_2, sz_3, sz_4, sz_5, sz_6, sz_7, sz_8, int?_d, ok_of_d, ex_self, Nat.zero_add])
theorem lm_law_cell : ∀ p ∈ lib_law_cell, ∀ vs, Mono (p.2.2 vs) := fun p hp => by cases hp
theorem mb_law_cell (s : Ss) : MonoS (wSs Γ_law_cell s) := mSs s _ (Lib.mo lm_law_cell)
theorem ck_law_cell : kSs b_law_cell ⟨N_law_cell, defScope s_law_cell, lib_law_cell.fs, kws, cs, hs, true⟩ (defBody s_law_cell) = true := by decide +kernel
theorem bd_law_cell : Bd "_law_cell" s_law_cell ["script", "k"] := fun _ _ _ _ _ _ us hl => match us, hl with | [_, _], _ => rfl
theorem kb_law_cell : ∀ q ∈ kws, q.1 = "_law_cell" → BdK "_law_cell" s_law_cell ["script", "k"] q.2.1 q.2.2 := by
  intro q hq e
  simp only [kws, List.mem_cons, List.not_mem_nil, or_false] at hq
  subst hq
  · exact absurd e (by decide)
def sp_law_cell : FSpec := fun vs M Q E => match vs with
  | [.d (.list xs), .d (.int k)] => (0 ≤ k ∧ k < 1000 ∧ ∃ ns, xs = pints ns) ∧ ∀ c, Q (I c) M
  | _ => False
theorem mo_law_cell : ∀ vs, Mono (sp_law_cell vs) := by
  intro vs M Q Q' X X' hq hx h
  unfold sp_law_cell at *
  split at h
  · exact ⟨h.1, fun c => hq _ _ (h.2 c)⟩
  · exact h
theorem w_law_cell : ∀ (ss : List S) (M : Mem) (Q : S → Mem → Prop) (E : Xc → Mem → Prop), ss.length = 2 → sp_law_cell ss M Q E → wSs Γ_law_cell b_law_cell (startS N_law_cell ss) M (exits M Q E) := by
  intro ss M Q E hl h
  unfold sp_law_cell at h
  split at h
  case h_2 => exact h.elim
  rename_i xs k
  obtain ⟨⟨h0, h1, ns, rfl⟩, h⟩ := h
  walk_at "law_cell"
  split
  · rename_i hk
    obtain ⟨v, _, hv⟩ := at_pints h0 hk
    refine ⟨_, hv, ?_⟩
    exact ret_here (h v)
  · split
    · exact ⟨mul_l ⟨by decide, by decide⟩, ret_here (h _)⟩
    · rename_i hn
      have hp : 0 < (ns.length : Int) := by omega
      obtain ⟨v, _, hv⟩ := at_pints (ns := ns) (Int.emod_nonneg k (Int.ne_of_gt hp)) (Int.emod_lt_of_pos k hp)
      refine ⟨hp, _, hv, ?_⟩
      walk_at "law_cell"
      exact ⟨mul_r ⟨by decide, by decide⟩, mul_l ⟨by decide, by decide⟩, ret_here (h _)⟩
theorem k_law_cell {ns : List Int} {k : Int} {M : Mem} {Q : S → Mem → Prop} {E : Xc → Mem → Prop} : sp_law_cell [.d (.list (pints ns)), .d (.int k)] M Q E = ((0 ≤ k ∧ k < 1000) ∧ ∀ c, Q (I c) M) := by
  apply propext
  constructor
  · exact fun h => ⟨⟨h.1.1, h.1.2.1⟩, h.2⟩
  · exact fun h => ⟨⟨h.1.1, h.1.2, ns, rfl⟩, h.2⟩
/-! is_integer -/
abbrev s_is_integer : Stmt := topS 1
def N_is_integer : List Str := ["value"]
theorem sc_is_integer : FnScope N_is_integer ["value"] (defScope s_is_integer) := ⟨rfl, rfl, rfl, by decide +kernel, rfl, by decide +kernel, by decide +kernel⟩
def b_is_integer : Ss := .cons (.ret (.and (.isI (.var 0) ["int"]) (.not (.isI (.var 0) ["bool"])))) .nil
theorem ub_is_integer : b_is_integer = .cons (.ret (.and (.isI (.var 0) ["int"]) (.not (.isI (.var 0) ["bool"])))) .nil := rfl
theorem st_is_integer {x0 : S} : startS N_is_integer [x0] = [some x0] := rfl
def lib_is_integer : Lib := []
abbrev Γ_is_integer : G.Env := lib_is_integer.env (MroF tab)
local macro_rules | `(tactic| walk_at "is_integer") => `(tactic| simp (maxSteps := 1000000) only [ub_is_integer, st_is_integer, exits, ↓xv_0, ↓xv_S, ↓da_snoc, ↓da_app, ↓e_cst, ↓e_neg, ↓e_not, ↓e_and, ↓e_or, ↓e_ite, ↓e_bin, ↓e_cmp, ↓e_chain, ↓e_tup, ↓e_fr, ↓e_ddisp, ↓e_ix, ↓e_sl, ↓e_rev, ↓e_call, ↓e_callK, ↓e_b1, ↓e_b2, ↓e_isX, ↓e_xval, ↓e_get, ↓e_pop, ↓e_popAt, ↓e_index, ↓t_not, ↓t_and, ↓t_or, ↓a_nil, ↓a_cons, ↓o_none, ↓o_some, ↓c_none, ↓c_some, ↓f_disp, ↓f_comp, ↓f_comp2, ↓f_listOf, ↓i_of, ↓i_rng, ↓i_zip, ↓i_rev, ↓t_var, ↓t_cst, ↓t_neg, ↓t_ite, ↓t_bin, ↓t_cmp, ↓t_chain, ↓t_tup, ↓t_fr, ↓t_al, ↓t_ddisp, ↓t_ix, ↓t_sl, ↓t_rev, ↓t_call, ↓t_callK, ↓t_b1, ↓t_b2, ↓t_isI, ↓t_isX, ↓t_xval, ↓t_get, ↓t_pop, ↓t_popAt, ↓t_index, ↓s_asg, ↓s_setIx, ↓s_augIx, ↓s_expr, ↓s_ret, ↓s_retN, ↓s_cond, ↓s_loop, ↓s_whl, ↓s_raise, ↓s_tryX, ↓s_pass, ↓s_brk, ↓s_cont, ↓b_nil, ↓b_cons, ↓h_nil, ↓r_add, ↓r_sub, ↓r_mul, ↓r_div, ↓r_mod, ↓r_pow, ↓r_shl, ↓r_cat, ↓r_cats, ↓r_rep, ↓r_lt, ↓r_le, ↓r_gt, ↓r_ge, ↓r_eqI, ↓r_neI, ↓r_augA, ↓r_augS, ↓r_augM, ↓tg_tpt, ↓tg_tpm, ↓tgs_nil, ↓tgs_cons, ↓turn_nx, ↓turn_ct, ↓turn_bk, ↓turn_rt, ↓turn_ex, ↓d_nil, ↓d_eq, ↓rng_1, ↓rng_2, ↓b_int, ↓b_intb, ↓b_bool, ↓b_boolb, ↓b_lent, ↓b_lenl, ↓b_tupt, ↓b_tupl, ↓b_str, ↓b_repr', ↓xp_d, ↓b_abs, ↓b_sum, ↓b_all, ↓b_any, ↓b_max, ↓b_min, ↓ix_t, ↓ix_l, ↓sl_t, ↓sl_l, ↓c_eqb, ↓c_neb, ↓c_isN, ↓c_isnN, ↓isx_eq, ↓xval_eq, ↓c_inT, ↓c_inL, ↓c_ninT, ↓c_ninL, ↓c_ltT, ↓c_leT, ↓c_gtT, ↓c_geT, ↓c_eqS, ↓c_neS, ↓b_lenm, ↓v_0, ↓v_S, ↓n_0, ↓n_S, ↓un_0, ↓un_S, ↓s_aug', ↓s_par', ↓h_cons', ↓xl_k, ↓xl_0, ↓xl_S, ↓xl_z, ↓md_k, ↓md_0, ↓mm_0, ↓mm_S, ↓nw_1, ↓nw_2, ↓nw_3, ↓nw_4, ↓nw_5, ↓e_al', ↓ix_m', ↓b_tupm', ↓sl_m', ↓ex_map, ↓ap_l, ↓s_app', ↓xt_l, ↓s_ext', ↓in_l, ↓s_ins', ↓p_put', ↓wt_d, ↓wt_k, ↓wt_k0, ↓to_S, ↓to_z, ↓e_isI1, ↓e_isI2, ↓ex_tb, ↓ex_ti, ↓ex_tn, ↓ex_tt, ↓ex_tl, ↓ex_i, ↓ex_B, ↓xd_nil, ↓xd_cons, ↓xd_map, ↓xi_t, ↓xi_l, ↓xi_m, ↓f_cat', ↓f_rep', ↓f_slice', ↓i_enum', nw_0, e_var, e_cst, e_neg, e_not, e_and, e_or, e_ite, e_bin, e_cmp, e_chain, e_tup, e_fr, e_al, e_ddisp, e_ix, e_sl, e_rev, e_call, e_callK, e_b1, e_b2, e_isI, e_isX, e_xval, e_get, e_pop, e_popAt, e_index, t_not, t_and, t_or, a_nil, a_cons, o_none, o_some, c_none, c_some, f_disp, f_comp, f_comp2, f_listOf, f_cat, f_rep, f_slice, i_of, i_rng, i_enum, i_zip, i_rev, t_var, t_cst, t_neg, t_ite, t_bin, t_cmp, t_chain, t_tup, t_fr, t_al, t_ddisp, t_ix, t_sl, t_rev, t_call, t_callK, t_b1, t_b2, t_isI, t_isX, t_xval, t_get, t_pop, t_popAt, t_index, s_asg, s_setIx, s_par, s_aug, s_augIx, s_expr, s_app, s_ext, s_ins, s_ret, s_retN, s_cond, s_loop, s_whl, s_raise, s_tryX, s_pass, s_brk, s_cont, b_nil, b_cons, h_nil, h_cons, r_add, r_sub, r_mul, r_div, r_mod, r_pow, r_shl, r_cat, r_cats, r_rep, r_lt, r_le, r_gt, r_ge, r_eqI, r_neI, tr_bool, tr_int, tr_none, tr_tuple, tr_list, r_augA, r_augS, r_augM, m_get, m_get0, m_set, m_set0, ex_v, ex_k, ex_lst, tg_nm, tg_tpt, tg_tpm, tgs_nil, tgs_cons, tgAt_eq, List.getElem?_cons_succ, List.getElem?_cons_zero, List.set_cons_succ, List.set_cons_zero, List.length_append, List.length_cons, List.length_nil, List.append_assoc, List.cons_append, List.nil_append, decide_eq_true_eq, I, B, N0, S.l.injEq, S.d.injEq, Option.some.injEq, MO.lst.injEq, exists_eq_left', exists_and_left, mapM_d, Bool.false_eq_true, isTy, at_0, at_1, mapM_s, List.map_cons, List.map_nil, List.any_cons, List.any_nil, id_eq, Bool.or_false, Bool.not_true, Bool.not_false, ↓reduceIte, turn_nx, turn_ct, turn_bk, turn_rt, turn_ex, ty_m, Int.zero_add, d_nil, d_eq, rng_1, rng_2, b_int, b_intb, b_bool, b_boolb, b_lent, b_lenl, b_lenm, b_tupt, b_tupl, b_tupm, b_str, b_repr', b_abs, b_sum, b_all, b_any, b_max, b_min, ix_t, ix_l, ix_m, sl_t, sl_l, sl_m, ty_d, it_t, it_l, pd_d, c_eqb, c_neb, c_isN, c_isnN, isx_eq, xval_eq, true_and, and_true, List.append_nil, wipeS, tgSlots, tgSlotss, c_inT, c_inL, c_ninT, c_ninL, c_ltT, c_leT, c_gtT, c_geT, it_k, it_k0, ty_k, ty_k0, lo_1, to_1, to_2, beq_self_eq_true, sd_inj, da_nil, da_cons, da_map, Option.map_some, p_put, Nat.reduceAdd, Int.reduceEq, Int.reduceLT, Int.reduceLE, c_noneF, c_eqS, c_neS, eq_self, decide_true, decide_false, pints_len, itm_len, sz_0, sz_1, sz_2, sz_3, sz_4, sz_5, sz_6, sz_7, sz_8, int?_d, ok_of_d, ex_self, Nat.zero_add])
theorem lm_is_integer : ∀ p ∈ lib_is_integer, ∀ vs, Mono (p.2.2 vs) := fun p hp => by cases hp
theorem mb_is_integer (s : Ss) : MonoS (wSs Γ_is_integer s) := mSs s _ (Lib.mo lm_is_integer)
theorem ck_is_integer : kSs b_is_integer ⟨N_is_integer, defScope s_is_integer, lib_is_integer.fs, kws, cs, hs, true⟩ (defBody s_is_integer) = true := by decide +kernel
theorem bd_is_integer : Bd "is_integer" s_is_integer ["value"] := fun _ _ _ _ _ _ us hl => match us, hl with | [_], _ => rfl
theorem kb_is_integer : ∀ q ∈ kws, q.1 = "is_integer" → BdK "is_integer" s_is_integer ["value"] q.2.1 q.2.2 := by
  intro q hq e
  simp only [kws, List.mem_cons, List.not_mem_nil, or_false] at hq
  subst hq
  · exact absurd e (by decide)
def sp_is_integer : FSpec := Fn fun vs _ r => ∃ x, vs = [.d x] ∧ r = .inr (B (isIntD x))
theorem mo_is_integer : ∀ vs, Mono (sp_is_integer vs) := Fn_mo
theorem w_is_integer : ∀ (ss : List S) (M : Mem) (Q : S → Mem → Prop) (E : Xc → Mem → Prop), ss.length = 1 → sp_is_integer ss M Q E → wSs Γ_is_integer b_is_integer (startS N_is_integer ss) M (exits M Q E) := by
  rintro ss M Q E hl ⟨r, ⟨x, rfl, rfl⟩, q⟩
  walk_at "is_integer"
  have q' := ret_here q
  cases x <;> simpa [isTy, isIntD] using q'
theorem k_is_integer {x : PD} {M : Mem} {Q : S → Mem → Prop} {E : Xc → Mem → Prop} : sp_is_integer [.d x] M Q E ↔ Q (B (isIntD x)) M :=
  ⟨fun ⟨r, ⟨y, e, er⟩, q⟩ => by cases e; subst er; exact q, fun q => ⟨_, ⟨x, rfl, rfl⟩, q⟩⟩
/-! is_number -/
abbrev s_is_number : Stmt := topS 2
def N_is_number : List Str := ["value"]
theorem sc_is_number : FnScope N_is_number ["value"] (defScope s_is_number) := ⟨rfl, rfl, rfl, by decide +kernel, rfl, by decide +kernel, by decide +kernel⟩
def b_is_number : Ss := .cons (.ret (.and (.call "is_integer" (.cons (.var 0) .nil)) (.cmp .GtE (.var 0) (.cst (.int 0))))) .nil
theorem ub_is_number : b_is_number = .cons (.ret (.and (.call "is_integer" (.cons (.var 0) .nil)) (.cmp .GtE (.var 0) (.cst (.int 0))))) .nil := rfl
theorem st_is_number {x0 : S} : startS N_is_number [x0] = [some x0] := rfl
def lib_is_number : Lib := [("is_integer", ["value"], sp_is_integer)]
abbrev Γ_is_number : G.Env := lib_is_number.env (MroF tab)
theorem Φ_is_number_is_integer : Γ_is_number.Φ "is_integer" = some sp_is_integer := by rfl
theorem φ_is_number_is_integer {P : FSpec → Prop} : (∃ φ, Γ_is_number.Φ "is_integer" = some φ ∧ P φ) = P sp_is_integer := by rw [Φ_is_number_is_integer]; exact ex_self
local macro_rules | `(tactic| walk_at "is_number") => `(tactic| simp (maxSteps := 1000000) only [ub_is_number, st_is_number, exits, Φ_is_number_is_integer, ↓φ_is_number_is_integer, ↓k_is_integer, ↓xv_0, ↓xv_S, ↓da_snoc, ↓da_app, ↓e_cst, ↓e_neg, ↓e_not, ↓e_and, ↓e_or, ↓e_ite, ↓e_bin, ↓e_cmp, ↓e_chain, ↓e_tup, ↓e_fr, ↓e_ddisp, ↓e_ix, ↓e_sl, ↓e_rev, ↓e_call, ↓e_callK, ↓e_b1, ↓e_b2, ↓e_isX, ↓e_xval, ↓e_get, ↓e_pop, ↓e_popAt, ↓e_index, ↓t_not, ↓t_and, ↓t_or, ↓a_nil, ↓a_cons, ↓o_none, ↓o_some, ↓c_none, ↓c_some, ↓f_disp, ↓f_comp, ↓f_comp2, ↓f_listOf, ↓i_of, ↓i_rng, ↓i_zip, ↓i_rev, ↓t_var, ↓t_cst, ↓t_neg, ↓t_ite, ↓t_bin, ↓t_cmp, ↓t_chain, ↓t_tup, ↓t_fr, ↓t_al, ↓t_ddisp, ↓t_ix, ↓t_sl, ↓t_rev, ↓t_call, ↓t_callK, ↓t_b1, ↓t_b2, ↓t_isI, ↓t_isX, ↓t_xval, ↓t_get, ↓t_pop, ↓t_popAt, ↓t_index, ↓s_asg, ↓s_setIx, ↓s_augIx, ↓s_expr, ↓s_ret, ↓s_retN, ↓s_cond, ↓s_loop, ↓s_whl, ↓s_raise, ↓s_tryX, ↓s_pass, ↓s_brk, ↓s_cont, ↓b_nil, ↓b_cons, ↓h_nil, ↓r_add, ↓r_sub, ↓r_mul, ↓r_div, ↓r_mod, ↓r_pow, ↓r_shl, ↓r_cat, ↓r_cats, ↓r_rep, ↓r_lt, ↓r_le, ↓r_gt, ↓r_ge, ↓r_eqI, ↓r_neI, ↓r_augA, ↓r_augS, ↓r_augM, ↓tg_tpt, ↓tg_tpm, ↓tgs_nil, ↓tgs_cons, ↓turn_nx, ↓turn_ct, ↓turn_bk, ↓turn_rt, ↓turn_ex, ↓d_nil, ↓d_eq, ↓rng_1, ↓rng_2, ↓b_int, ↓b_intb, ↓b_bool, ↓b_boolb, ↓b_lent, ↓b_lenl, ↓b_tupt, ↓b_tupl, ↓b_str, ↓b_repr', ↓xp_d, ↓b_abs, ↓b_sum, ↓b_all, ↓b_any, ↓b_max, ↓b_min, ↓ix_t, ↓ix_l, ↓sl_t, ↓sl_l, ↓c_eqb, ↓c_neb, ↓c_isN, ↓c_isnN, ↓isx_eq, ↓xval_eq, ↓c_inT, ↓c_inL, ↓c_ninT, ↓c_ninL, ↓c_ltT, ↓c_leT, ↓c_gtT, ↓c_geT, ↓c_eqS, ↓c_neS, ↓b_lenm, ↓v_0, ↓v_S, ↓n_0, ↓n_S, ↓un_0, ↓un_S, ↓s_aug', ↓s_par', ↓h_cons', ↓xl_k, ↓xl_0, ↓xl_S, ↓xl_z, ↓md_k, ↓md_0, ↓mm_0, ↓mm_S, ↓nw_1, ↓nw_2, ↓nw_3, ↓nw_4, ↓nw_5, ↓e_al', ↓ix_m', ↓b_tupm', ↓sl_m', ↓ex_map, ↓ap_l, ↓s_app', ↓xt_l, ↓s_ext', ↓in_l, ↓s_ins', ↓p_put', ↓wt_d, ↓wt_k, ↓wt_k0, ↓to_S, ↓to_z, ↓e_isI1, ↓e_isI2, ↓ex_tb, ↓ex_ti, ↓ex_tn, ↓ex_tt, ↓ex_tl, ↓ex_i, ↓ex_B, ↓xd_nil, ↓xd_cons, ↓xd_map, ↓xi_t, ↓xi_l, ↓xi_m, ↓f_cat', ↓f_rep', ↓f_slice', ↓i_enum', nw_0, e_var, e_cst, e_neg, e_not, e_and, e_or, e_ite, e_bin, e_cmp, e_chain, e_tup, e_fr, e_al, e_ddisp, e_ix, e_sl, e_rev, e_call, e_callK, e_b1, e_b2, e_isI, e_isX, e_xval, e_get, e_pop, e_popAt, e_index, t_not, t_and, t_or, a_nil, a_cons, o_none, o_some, c_none, c_some, f_disp, f_comp, f_comp2, f_listOf, f_cat, f_rep, f_slice, i_of, i_rng, i_enum, i_zip, i_rev, t_var, t_cst, t_neg, t_ite, t_bin, t_cmp, t_chain, t_tup, t_fr, t_al, t_ddisp, t_ix, t_sl, t_rev, t_call, t_callK, t_b1, t_b2, t_isI, t_isX, t_xval, t_get, t_pop, t_popAt, t_index, s_asg, s_setIx, s_par, s_aug, s_augIx, s_expr, s_app, s_ext, s_ins, s_ret, s_retN, s_cond, s_loop, s_whl, s_raise, s_tryX, s_pass, s_brk, s_cont, b_nil, b_cons, h_nil, h_cons, r_add, r_sub, r_mul, r_div, r_mod, r_pow, r_shl, r_cat, r_cats, r_rep, r_lt, r_le, r_gt, r_ge, r_eqI, r_neI, tr_bool, tr_int, tr_none, tr_tuple, tr_list, r_augA, r_augS, r_augM, m_get, m_get0, m_set, m_set0, ex_v, ex_k, ex_lst, tg_nm, tg_tpt, tg_tpm, tgs_nil, tgs_cons, tgAt_eq, List.getElem?_cons_succ, List.getElem?_cons_zero, List.set_cons_succ, List.set_cons_zero, List.length_append, List.length_cons, List.length_nil, List.append_assoc, List.cons_append, List.nil_append, decide_eq_true_eq, I, B, N0, S.l.injEq, S.d.injEq, Option.some.injEq, MO.lst.injEq, exists_eq_left', exists_and_left, mapM_d, Bool.false_eq_true, isTy, at_0, at_1, mapM_s, List.map_cons, List.map_nil, List.any_cons, List.any_nil, id_eq, Bool.or_false, Bool.not_true, Bool.not_false, ↓reduceIte, turn_nx, turn_ct, turn_bk, turn_rt, turn_ex, ty_m, Int.zero_add, d_nil, d_eq, rng_1, rng_2, b_int, b_intb, b_bool, b_boolb, b_lent, b_lenl, b_lenm, b_tupt, b_tupl, b_tupm, b_str, b_repr', b_abs, b_sum, b_all, b_any, b_max, b_min, ix_t, ix_l, ix_m, sl_t, sl_l, sl_m, ty_d, it_t, it_l, pd_d, c_eqb, c_neb, c_isN, c_isnN, isx_eq, xval_eq, true_and, and_true, List.append_nil, wipeS, tgSlots, tgSlotss, c_inT, c_inL, c_ninT, c_ninL, c_ltT, c_leT, c_gtT, c_geT, it_k, it_k0, ty_k, ty_k0, lo_1, to_1, to_2, beq_self_eq_true, sd_inj, da_nil, da_cons, da_map, Option.map_some, p_put, Nat.reduceAdd, Int.reduceEq, Int.reduceLT, Int.reduceLE, c_noneF, c_eqS, c_neS, eq_self, decide_true, decide_false, pints_len, itm_len, sz_0, sz_1, sz_2, sz_3, sz_4, sz_5, sz_6, sz_7, sz_8, int?_d, ok_of_d, ex_self, Nat.zero_add])
theorem lm_is_number : ∀ p ∈ lib_is_number, ∀ vs, Mono (p.2.2 vs) := by
  intro p hp
  simp only [lib_is_number, List.mem_cons, List.not_mem_nil, or_false] at hp
  subst hp
  exact mo_is_integer
theorem mb_is_number (s : Ss) : MonoS (wSs Γ_is_number s) := mSs s _ (Lib.mo lm_is_number)
theorem ck_is_number : kSs b_is_number ⟨N_is_number, defScope s_is_number, lib_is_number.fs, kws, cs, hs, true⟩ (defBody s_is_number) = true := by decide +kernel
theorem bd_is_number : Bd "is_number" s_is_number ["value"] := fun _ _ _ _ _ _ us hl => match us, hl with | [_], _ => rfl
theorem kb_is_number : ∀ q ∈ kws, q.1 = "is_number" → BdK "is_number" s_is_number ["value"] q.2.1 q.2.2 := by
  intro q hq e
  simp only [kws, List.mem_cons, List.not_mem_nil, or_false] at hq
  subst hq
  · exact absurd e (by decide)
def sp_is_number : FSpec := Fn fun vs _ r => ∃ x, vs = [.d x] ∧ r = .inr (B (isNumD x))
theorem mo_is_number : ∀ vs, Mono (sp_is_number vs) := Fn_mo
theorem w_is_number : ∀ (ss : List S) (M : Mem) (Q : S → Mem → Prop) (E : Xc → Mem → Prop), ss.length = 1 → sp_is_number ss M Q E → wSs Γ_is_number b_is_number (startS N_is_number ss) M (exits M Q E) := by
  rintro ss M Q E hl ⟨r, ⟨x, rfl, rfl⟩, q⟩
  walk_at "is_number"
  have q' := ret_here q
  cases x <;> simp [isNumD, isIntD, G.wCmp, G.wOrd] at q' ⊢ <;> exact q'
theorem k_is_number {x : PD} {M : Mem} {Q : S → Mem → Prop} {E : Xc → Mem → Prop} : sp_is_number [.d x] M Q E ↔ Q (B (isNumD x)) M :=
  ⟨fun ⟨r, ⟨y, e, er⟩, q⟩ => by cases e; subst er; exact q, fun q => ⟨_, ⟨x, rfl, rfl⟩, q⟩⟩
/-! _is_pair -/
abbrev s_is_pair : Stmt := topS 8
def N_is_pair : List Str := ["value", "points"]
theorem sc_is_pair : FnScope N_is_pair ["value", "points"] (defScope s_is_pair) := ⟨rfl, rfl, rfl, by decide +kernel, rfl, by decide +kernel, by decide +kernel⟩
def b_is_pair : Ss := .cons (.cond (.or (.not (.isI (.var 0) ["tuple"])) (.cmp .NotEq (.b1 .len (.var 0)) (.cst (.int 2)))) (.cons (.ret (.cst (.bool false))) .nil) (.nil)) (.cons (.ret (.and (.call "is_number" (.cons (.ix (.var 0) (.cst (.int 0))) .nil)) (.and (.call "is_number" (.cons (.ix (.var 0) (.cst (.int 1))) .nil)) (.chain .Lt .Lt (.ix (.var 0) (.cst (.int 0))) (.ix (.var 0) (.cst (.int 1))) (.var 1))))) .nil)
theorem ub_is_pair : b_is_pair = .cons (.cond (.or (.not (.isI (.var 0) ["tuple"])) (.cmp .NotEq (.b1 .len (.var 0)) (.cst (.int 2)))) (.cons (.ret (.cst (.bool false))) .nil) (.nil)) (.cons (.ret (.and (.call "is_number" (.cons (.ix (.var 0) (.cst (.int 0))) .nil)) (.and (.call "is_number" (.cons (.ix (.var 0) (.cst (.int 1))) .nil)) (.chain .Lt .Lt (.ix (.var 0) (.cst (.int 0))) (.ix (.var 0) (.cst (.int 1))) (.var 1))))) .nil) := rfl
theorem st_is_pair {x0 x1 : S} : startS N_is_pair [x0, x1] = [some x0, some x1] := rfl
def lib_is_pair : Lib := [("is_number", ["value"], sp_is_number)]
abbrev Γ_is_pair : G.Env := lib_is_pair.env (MroF tab)
theorem Φ_is_pair_is_number : Γ_is_pair.Φ "is_number" = some sp_is_number := by rfl
theorem φ_is_pair_is_number {P : FSpec → Prop} : (∃ φ, Γ_is_pair.Φ "is_number" = some φ ∧ P φ) = P sp_is_number := by rw [Φ_is_pair_is_number]; exact ex_self
local macro_rules | `(tactic| walk_at "is_pair") => `(tactic| simp (maxSteps := 1000000) only [ub_is_pair, st_is_pair, exits, Φ_is_pair_is_number, ↓φ_is_pair_is_number, ↓k_is_number, ↓xv_0, ↓xv_S, ↓da_snoc, ↓da_app, ↓e_cst, ↓e_neg, ↓e_not, ↓e_and, ↓e_or, ↓e_ite, ↓e_bin, ↓e_cmp, ↓e_chain, ↓e_tup, ↓e_fr, ↓e_ddisp, ↓e_ix, ↓e_sl, ↓e_rev, ↓e_call, ↓e_callK, ↓e_b1, ↓e_b2, ↓e_isX, ↓e_xval, ↓e_get, ↓e_pop, ↓e_popAt, ↓e_index, ↓t_not, ↓t_and, ↓t_or, ↓a_nil, ↓a_cons, ↓o_none, ↓o_some, ↓c_none, ↓c_some, ↓f_disp, ↓f_comp, ↓f_comp2, ↓f_listOf, ↓i_of, ↓i_rng, ↓i_zip, ↓i_rev, ↓t_var, ↓t_cst, ↓t_neg, ↓t_ite, ↓t_bin, ↓t_cmp, ↓t_chain, ↓t_tup, ↓t_fr, ↓t_al, ↓t_ddisp, ↓t_ix, ↓t_sl, ↓t_rev, ↓t_call, ↓t_callK, ↓t_b1, ↓t_b2, ↓t_isI, ↓t_isX, ↓t_xval, ↓t_get, ↓t_pop, ↓t_popAt, ↓t_index, ↓s_asg, ↓s_setIx, ↓s_augIx, ↓s_expr, ↓s_ret, ↓s_retN, ↓s_cond, ↓s_loop, ↓s_whl, ↓s_raise, ↓s_tryX, ↓s_pass, ↓s_brk, ↓s_cont, ↓b_nil, ↓b_cons, ↓h_nil, ↓r_add, ↓r_sub, ↓r_mul, ↓r_div, ↓r_mod, ↓r_pow, ↓r_shl, ↓r_cat, ↓r_cats, ↓r_rep, ↓r_lt, ↓r_le, ↓r_gt, ↓r_ge, ↓r_eqI, ↓r_neI, ↓r_augA, ↓r_augS, ↓r_augM, ↓tg_tpt, ↓tg_tpm, ↓tgs_nil, ↓tgs_cons, ↓turn_nx, ↓turn_ct, ↓turn_bk, ↓turn_rt, ↓turn_ex, ↓d_nil, ↓d_eq, ↓rng_1, ↓rng_2, ↓b_int, ↓b_intb, ↓b_bool, ↓b_boolb, ↓b_lent, ↓b_lenl, ↓b_tupt, ↓b_tupl, ↓b_str, ↓b_repr', ↓xp_d, ↓b_abs, ↓b_sum, ↓b_all, ↓b_any, ↓b_max, ↓b_min, ↓ix_t, ↓ix_l, ↓sl_t, ↓sl_l, ↓c_eqb, ↓c_neb, ↓c_isN, ↓c_isnN, ↓isx_eq, ↓xval_eq, ↓c_inT, ↓c_inL, ↓c_ninT, ↓c_ninL, ↓c_ltT, ↓c_leT, ↓c_gtT, ↓c_geT, ↓c_eqS, ↓c_neS, ↓b_lenm, ↓v_0, ↓v_S, ↓n_0, ↓n_S, ↓un_0, ↓un_S, ↓s_aug', ↓s_par', ↓h_cons', ↓xl_k, ↓xl_0, ↓xl_S, ↓xl_z, ↓md_k, ↓md_0, ↓mm_0, ↓mm_S, ↓nw_1, ↓nw_2, ↓nw_3, ↓nw_4, ↓nw_5, ↓e_al', ↓ix_m', ↓b_tupm', ↓sl_m', ↓ex_map, ↓ap_l, ↓s_app', ↓xt_l, ↓s_ext', ↓in_l, ↓s_ins', ↓p_put', ↓wt_d, ↓wt_k, ↓wt_k0, ↓to_S, ↓to_z, ↓e_isI1, ↓e_isI2, ↓ex_tb, ↓ex_ti, ↓ex_tn, ↓ex_tt, ↓ex_tl, ↓ex_i, ↓ex_B, ↓xd_nil, ↓xd_cons, ↓xd_map, ↓xi_t, ↓xi_l, ↓xi_m, ↓f_cat', ↓f_rep', ↓f_slice', ↓i_enum', nw_0, e_var, e_cst, e_neg, e_not, e_and, e_or, e_ite, e_bin, e_cmp, e_chain, e_tup, e_fr, e_al, e_ddisp, e_ix, e_sl, e_rev, e_call, e_callK, e_b1, e_b2, e_isI, e_isX, e_xval, e_get, e_pop, e_popAt, e_index, t_not, t_and, t_or, a_nil, a_cons, o_none, o_some, c_none, c_some, f_disp, f_comp, f_comp2, f_listOf, f_cat, f_rep, f_slice, i_of, i_rng, i_enum, i_zip, i_rev, t_var, t_cst, t_neg, t_ite, t_bin, t_cmp, t_chain, t_tup, t_fr, t_al, t_ddisp, t_ix, t_sl, t_rev, t_call, t_callK, t_b1, t_b2, t_isI, t_isX, t_xval, t_get, t_pop, t_popAt, t_index, s_asg, s_setIx, s_par, s_aug, s_augIx, s_expr, s_app, s_ext, s_ins, s_ret, s_retN, s_cond, s_loop, s_whl, s_raise, s_tryX, s_pass, s_brk, s_cont, b_nil, b_cons, h_nil, h_cons, r_add, r_sub, r_mul, r_div, r_mod, r_pow, r_shl, r_cat, r_cats, r_rep, r_lt, r_le, r_gt, r_ge, r_eqI, r_neI, tr_bool, tr_int, tr_none, tr_tuple, tr_list, r_augA, r_augS, r_augM, m_get, m_get0, m_set, m_set0, ex_v, ex_k, ex_lst, tg_nm, tg_tpt, tg_tpm, tgs_nil, tgs_cons, tgAt_eq, List.getElem?_cons_succ, List.getElem?_cons_zero, List.set_cons_succ, List.set_cons_zero, List.length_append, List.length_cons, List.length_nil, List.append_assoc, List.cons_append, List.nil_append, decide_eq_true_eq, I, B, N0, S.l.injEq, S.d.injEq, Option.some.injEq, MO.lst.injEq, exists_eq_left', exists_and_left, mapM_d, Bool.false_eq_true, isTy, at_0, at_1, mapM_s, List.map_cons, List.map_nil, List.any_cons, List.any_nil, id_eq, Bool.or_false, Bool.not_true, Bool.not_false, ↓reduceIte, turn_nx, turn_ct, turn_bk, turn_rt, turn_ex, ty_m, Int.zero_add, d_nil, d_eq, rng_1, rng_2, b_int, b_intb, b_bool, b_boolb, b_lent, b_lenl, b_lenm, b_tupt, b_tupl, b_tupm, b_str, b_repr', b_abs, b_sum, b_all, b_any, b_max, b_min, ix_t, ix_l, ix_m, sl_t, sl_l, sl_m, ty_d, it_t, it_l, pd_d, c_eqb, c_neb, c_isN, c_isnN, isx_eq, xval_eq, true_and, and_true, List.append_nil, wipeS, tgSlots, tgSlotss, c_inT, c_inL, c_ninT, c_ninL, c_ltT, c_leT, c_gtT, c_geT, it_k, it_k0, ty_k, ty_k0, lo_1, to_1, to_2, beq_self_eq_true, sd_inj, da_nil, da_cons, da_map, Option.map_some, p_put, Nat.reduceAdd, Int.reduceEq, Int.reduceLT, Int.reduceLE, c_noneF, c_eqS, c_neS, eq_self, decide_true, decide_false, pints_len, itm_len, sz_0, sz_1, sz_2, sz_3, sz_4, sz_5, sz_6, sz_7, sz_8, int?_d, ok_of_d, ex_self, Nat.zero_add])
theorem lm_is_pair : ∀ p ∈ lib_is_pair, ∀ vs, Mono (p.2.2 vs) := by
  intro p hp
  simp only [lib_is_pair, List.mem_cons, List.not_mem_nil, or_false] at hp
  subst hp
  exact mo_is_number
theorem mb_is_pair (s : Ss) : MonoS (wSs Γ_is_pair s) := mSs s _ (Lib.mo lm_is_pair)
theorem ck_is_pair : kSs b_is_pair ⟨N_is_pair, defScope s_is_pair, lib_is_pair.fs, kws, cs, hs, true⟩ (defBody s_is_pair) = true := by decide +kernel
theorem bd_is_pair : Bd "_is_pair" s_is_pair ["value", "points"] := fun _ _ _ _ _ _ us hl => match us, hl with | [_, _], _ => rfl
theorem kb_is_pair : ∀ q ∈ kws, q.1 = "_is_pair" → BdK "_is_pair" s_is_pair ["value", "points"] q.2.1 q.2.2 := by
  intro q hq e
  simp only [kws, List.mem_cons, List.not_mem_nil, or_false] at hq
  subst hq
  · exact absurd e (by decide)
def sp_is_pair : FSpec := Fn fun vs _ r => ∃ x p, vs = [.d x, I p] ∧ r = .inr (B (isPairD x p))
theorem mo_is_pair : ∀ vs, Mono (sp_is_pair vs) := Fn_mo
theorem w_is_pair : ∀ (ss : List S) (M : Mem) (Q : S → Mem → Prop) (E : Xc → Mem → Prop), ss.length = 2 → sp_is_pair ss M Q E → wSs Γ_is_pair b_is_pair (startS N_is_pair ss) M (exits M Q E) := by
  rintro ss M Q E hl ⟨r, ⟨x, p, rfl, rfl⟩, q⟩
  have q' : Q (B (isPairD x p)) M := q
  cases x with
  | tuple xs =>
    match xs, q' with
    | [], q' =>
      walk_at "is_pair"
      exact ret_here q'
    | [a], q' =>
      have q2 : Q (B false) M := by cases a <;> exact q'
      walk_at "is_pair"
      exact ret_here q2
    | [a, b], q' =>
      cases a with
      | int a =>
        cases b with
        | int b =>
          walk_at "is_pair"
          rw [if_neg (by decide)]
          simp only [isNumD, decide_eq_true_eq]
          by_cases h1 : 0 ≤ a <;> by_cases h2 : 0 ≤ b <;> by_cases h3 : a < b <;> by_cases h4 : b < p <;> simp only [isPairD, h1, h2, h3, h4, decide_true, decide_false, Bool.and_true, Bool.and_false, if_true, if_false] at q' ⊢ <;> first
            | exact ret_here q'
            | (refine ⟨_, rfl, ?_⟩
               simp only [if_true, Bool.false_eq_true, if_false]
               exact ret_here q')
        | _ =>
          walk_at "is_pair"
          rw [if_neg (by decide)]
          simp only [isNumD, decide_eq_true_eq]
          by_cases h1 : 0 ≤ a <;> simp only [h1, if_true, if_false, Bool.false_eq_true] <;> exact ret_here q'
      | _ =>
        walk_at "is_pair"
        rw [if_neg (by decide)]
        simp only [isNumD, Bool.false_eq_true, if_false]
        exact ret_here q'
    | a :: b :: c :: r, q' =>
      have q2 : Q (B false) M := by cases a <;> cases b <;> exact q'
      walk_at "is_pair"
      rw [if_pos (by simp; omega)]
      exact ret_here q2
  | _ =>
    walk_at "is_pair"
    exact ret_here q'
theorem k_is_pair {x : PD} {p : Int} {M : Mem} {Q : S → Mem → Prop} {E : Xc → Mem → Prop} : sp_is_pair [.d x, .d (.int p)] M Q E ↔ Q (.d (.bool (isPairD x p))) M :=
  ⟨fun ⟨r, ⟨y, z, e, er⟩, q⟩ => by cases e; subst er; exact q, fun q => ⟨_, ⟨x, p, rfl, rfl⟩, q⟩⟩
/-! is_web -/
abbrev s_is_web : Stmt := topS 9
def N_is_web : List Str := ["value", "points", "k", "pair"]
theorem sc_is_web : FnScope N_is_web ["value", "points"] (defScope s_is_web) := ⟨rfl, rfl, rfl, by decide +kernel, rfl, by decide +kernel, by decide +kernel⟩
def b_is_web : Ss := .cons (.cond (.not (.call "is_number" (.cons (.var 1) .nil))) (.cons (.raise "InvalidNumber" (.var 1)) .nil) (.nil)) (.cons (.cond (.or (.not (.isI (.var 0) ["tuple"])) (.not (.b1 .all (.fr (.comp (.call "_is_pair" (.cons (.var 3) (.cons (.var 1) .nil))) (.nm 3) (.of (.var 0)) .none))))) (.cons (.ret (.cst (.bool false))) .nil) (.nil)) (.cons (.ret (.b1 .all (.fr (.comp (.cmp .Lt (.ix (.var 0) (.bin .Sub (.var 2) (.cst (.int 1)))) (.ix (.var 0) (.var 2))) (.nm 2) (.rng (.cons (.cst (.int 1)) (.cons (.b1 .len (.var 0)) .nil))) .none)))) .nil))
theorem ub_is_web : b_is_web = .cons (.cond (.not (.call "is_number" (.cons (.var 1) .nil))) (.cons (.raise "InvalidNumber" (.var 1)) .nil) (.nil)) (.cons (.cond (.or (.not (.isI (.var 0) ["tuple"])) (.not (.b1 .all (.fr (.comp (.call "_is_pair" (.cons (.var 3) (.cons (.var 1) .nil))) (.nm 3) (.of (.var 0)) .none))))) (.cons (.ret (.cst (.bool false))) .nil) (.nil)) (.cons (.ret (.b1 .all (.fr (.comp (.cmp .Lt (.ix (.var 0) (.bin .Sub (.var 2) (.cst (.int 1)))) (.ix (.var 0) (.var 2))) (.nm 2) (.rng (.cons (.cst (.int 1)) (.cons (.b1 .len (.var 0)) .nil))) .none)))) .nil)) := rfl
theorem st_is_web {x0 x1 : S} : startS N_is_web [x0, x1] = [some x0, some x1, none, none] := rfl
def lib_is_web : Lib := [("is_number", ["value"], sp_is_number), ("_is_pair", ["value", "points"], sp_is_pair)]
abbrev Γ_is_web : G.Env := lib_is_web.env (MroF tab)
theorem Φ_is_web_is_number : Γ_is_web.Φ "is_number" = some sp_is_number := by rfl
theorem φ_is_web_is_number {P : FSpec → Prop} : (∃ φ, Γ_is_web.Φ "is_number" = some φ ∧ P φ) = P sp_is_number := by rw [Φ_is_web_is_number]; exact ex_self
theorem Φ_is_web_is_pair : Γ_is_web.Φ "_is_pair" = some sp_is_pair := by rfl
theorem φ_is_web_is_pair {P : FSpec → Prop} : (∃ φ, Γ_is_web.Φ "_is_pair" = some φ ∧ P φ) = P sp_is_pair := by rw [Φ_is_web_is_pair]; exact ex_self
local macro_rules | `(tactic| walk_at "is_web") => `(tactic| simp (maxSteps := 1000000) only [ub_is_web, st_is_web, exits, Φ_is_web_is_number, Φ_is_web_is_pair, ↓φ_is_web_is_number, ↓φ_is_web_is_pair, ↓k_is_number, ↓k_is_pair, ↓xv_0, ↓xv_S, ↓da_snoc, ↓da_app, ↓e_cst, ↓e_neg, ↓e_not, ↓e_and, ↓e_or, ↓e_ite, ↓e_bin, ↓e_cmp, ↓e_chain, ↓e_tup, ↓e_fr, ↓e_ddisp, ↓e_ix, ↓e_sl, ↓e_rev, ↓e_call, ↓e_callK, ↓e_b1, ↓e_b2, ↓e_isX, ↓e_xval, ↓e_get, ↓e_pop, ↓e_popAt, ↓e_index, ↓t_not, ↓t_and, ↓t_or, ↓a_nil, ↓a_cons, ↓o_none, ↓o_some, ↓c_none, ↓c_some, ↓f_disp, ↓f_comp, ↓f_comp2, ↓f_listOf, ↓i_of, ↓i_rng, ↓i_zip, ↓i_rev, ↓t_var, ↓t_cst, ↓t_neg, ↓t_ite, ↓t_bin, ↓t_cmp, ↓t_chain, ↓t_tup, ↓t_fr, ↓t_al, ↓t_ddisp, ↓t_ix, ↓t_sl, ↓t_rev, ↓t_call, ↓t_callK, ↓t_b1, ↓t_b2, ↓t_isI, ↓t_isX, ↓t_xval, ↓t_get, ↓t_pop, ↓t_popAt, ↓t_index, ↓s_asg, ↓s_setIx, ↓s_augIx, ↓s_expr, ↓s_ret, ↓s_retN, ↓s_cond, ↓s_loop, ↓s_whl, ↓s_raise, ↓s_tryX, ↓s_pass, ↓s_brk, ↓s_cont, ↓b_nil, ↓b_cons, ↓h_nil, ↓r_add, ↓r_sub, ↓r_mul, ↓r_div, ↓r_mod, ↓r_pow, ↓r_shl, ↓r_cat, ↓r_cats, ↓r_rep, ↓r_lt, ↓r_le, ↓r_gt, ↓r_ge, ↓r_eqI, ↓r_neI, ↓r_augA, ↓r_augS, ↓r_augM, ↓tg_tpt, ↓tg_tpm, ↓tgs_nil, ↓tgs_cons, ↓turn_nx, ↓turn_ct, ↓turn_bk, ↓turn_rt, ↓turn_ex, ↓d_nil, ↓d_eq, ↓rng_1, ↓rng_2, ↓b_int, ↓b_intb, ↓b_bool, ↓b_boolb, ↓b_lent, ↓b_lenl, ↓b_tupt, ↓b_tupl, ↓b_str, ↓b_repr', ↓xp_d, ↓b_abs, ↓b_sum, ↓b_all, ↓b_any, ↓b_max, ↓b_min, ↓ix_t, ↓ix_l, ↓sl_t, ↓sl_l, ↓c_eqb, ↓c_neb, ↓c_isN, ↓c_isnN, ↓isx_eq, ↓xval_eq, ↓c_inT, ↓c_inL, ↓c_ninT, ↓c_ninL, ↓c_ltT, ↓c_leT, ↓c_gtT, ↓c_geT, ↓c_eqS, ↓c_neS, ↓b_lenm, ↓v_0, ↓v_S, ↓n_0, ↓n_S, ↓un_0, ↓un_S, ↓s_aug', ↓s_par', ↓h_cons', ↓xl_k, ↓xl_0, ↓xl_S, ↓xl_z, ↓md_k, ↓md_0, ↓mm_0, ↓mm_S, ↓nw_1, ↓nw_2, ↓nw_3, ↓nw_4, ↓nw_5, ↓e_al', ↓ix_m', ↓b_tupm', ↓sl_m', ↓ex_map, ↓ap_l, ↓s_app', ↓xt_l, ↓s_ext', ↓in_l, ↓s_ins', ↓p_put', ↓wt_d, ↓wt_k, ↓wt_k0, ↓to_S, ↓to_z, ↓e_isI1, ↓e_isI2, ↓ex_tb, ↓ex_ti, ↓ex_tn, ↓ex_tt, ↓ex_tl, ↓ex_i, ↓ex_B, ↓xd_nil, ↓xd_cons, ↓xd_map, ↓xi_t, ↓xi_l, ↓xi_m, ↓f_cat', ↓f_rep', ↓f_slice', ↓i_enum', nw_0, e_var, e_cst, e_neg, e_not, e_and, e_or, e_ite, e_bin, e_cmp, e_chain, e_tup, e_fr, e_al, e_ddisp, e_ix, e_sl, e_rev, e_call, e_callK, e_b1, e_b2, e_isI, e_isX, e_xval, e_get, e_pop, e_popAt, e_index, t_not, t_and, t_or, a_nil, a_cons, o_none, o_some, c_none, c_some, f_disp, f_comp, f_comp2, f_listOf, f_cat, f_rep, f_slice, i_of, i_rng, i_enum, i_zip, i_rev, t_var, t_cst, t_neg, t_ite, t_bin, t_cmp, t_chain, t_tup, t_fr, t_al, t_ddisp, t_ix, t_sl, t_rev, t_call, t_callK, t_b1, t_b2, t_isI, t_isX, t_xval, t_get, t_pop, t_popAt, t_index, s_asg, s_setIx, s_par, s_aug, s_augIx, s_expr, s_app, s_ext, s_ins, s_ret, s_retN, s_cond, s_loop, s_whl, s_raise, s_tryX, s_pass, s_brk, s_cont, b_nil, b_cons, h_nil, h_cons, r_add, r_sub, r_mul, r_div, r_mod, r_pow, r_shl, r_cat, r_cats, r_rep, r_lt, r_le, r_gt, r_ge, r_eqI, r_neI, tr_bool, tr_int, tr_none, tr_tuple, tr_list, r_augA, r_augS, r_augM, m_get, m_get0, m_set, m_set0, ex_v, ex_k, ex_lst, tg_nm, tg_tpt, tg_tpm, tgs_nil, tgs_cons, tgAt_eq, List.getElem?_cons_succ, List.getElem?_cons_zero, List.set_cons_succ, List.set_cons_zero, List.length_append, List.length_cons, List.length_nil, List.append_assoc, List.cons_append, List.nil_append, decide_eq_true_eq, I, B, N0, S.l.injEq, S.d.injEq, Option.some.injEq, MO.lst.injEq, exists_eq_left', exists_and_left, mapM_d, Bool.false_eq_true, isTy, at_0, at_1, mapM_s, List.map_cons, List.map_nil, List.any_cons, List.any_nil, id_eq, Bool.or_false, Bool.not_true, Bool.not_false, ↓reduceIte, turn_nx, turn_ct, turn_bk, turn_rt, turn_ex, ty_m, Int.zero_add, d_nil, d_eq, rng_1, rng_2, b_int, b_intb, b_bool, b_boolb, b_lent, b_lenl, b_lenm, b_tupt, b_tupl, b_tupm, b_str, b_repr', b_abs, b_sum, b_all, b_any, b_max, b_min, ix_t, ix_l, ix_m, sl_t, sl_l, sl_m, ty_d, it_t, it_l, pd_d, c_eqb, c_neb, c_isN, c_isnN, isx_eq, xval_eq, true_and, and_true, List.append_nil, wipeS, tgSlots, tgSlotss, c_inT, c_inL, c_ninT, c_ninL, c_ltT, c_leT, c_gtT, c_geT, it_k, it_k0, ty_k, ty_k0, lo_1, to_1, to_2, beq_self_eq_true, sd_inj, da_nil, da_cons, da_map, Option.map_some, p_put, Nat.reduceAdd, Int.reduceEq, Int.reduceLT, Int.reduceLE, c_noneF, c_eqS, c_neS, eq_self, decide_true, decide_false, pints_len, itm_len, sz_0, sz_1, sz_2, sz_3, sz_4, sz_5, sz_6, sz_7, sz_8, int?_d, ok_of_d, ex_self, Nat.zero_add])
theorem lm_is_web : ∀ p ∈ lib_is_web, ∀ vs, Mono (p.2.2 vs) := by
  intro p hp
  simp only [lib_is_web, List.mem_cons, List.not_mem_nil, or_false] at hp
  rcases hp with rfl | rfl
  · exact mo_is_number
  · exact mo_is_pair
theorem mb_is_web (s : Ss) : MonoS (wSs Γ_is_web s) := mSs s _ (Lib.mo lm_is_web)
theorem ck_is_web : kSs b_is_web ⟨N_is_web, defScope s_is_web, lib_is_web.fs, kws, cs, hs, true⟩ (defBody s_is_web) = true := by decide +kernel
theorem bd_is_web : Bd "is_web" s_is_web ["value", "points"] := fun _ _ _ _ _ _ us hl => match us, hl with | [_, _], _ => rfl
theorem kb_is_web : ∀ q ∈ kws, q.1 = "is_web" → BdK "is_web" s_is_web ["value", "points"] q.2.1 q.2.2 := by
  intro q hq e
  simp only [kws, List.mem_cons, List.not_mem_nil, or_false] at hq
  subst hq
  · exact absurd e (by decide)
def sp_is_web : FSpec := fun vs M Q E => match vs with
  | [.d v, .d p] => tupLen v ∧ (match numOf p with
    | some i => Q (B (isWebD v i)) M
    | none => E ⟨"InvalidNumber", "value", .d p⟩ M)
  | _ => False
theorem mo_is_web : ∀ vs, Mono (sp_is_web vs) := by
  intro vs M Q Q' X X' hq hx h
  unfold sp_is_web at *
  split at h
  · refine ⟨h.1, ?_⟩
    have h2 := h.2
    split at h2
    · exact hq _ _ h2
    · exact hx _ _ h2
  · exact h
theorem w_is_web : ∀ (ss : List S) (M : Mem) (Q : S → Mem → Prop) (E : Xc → Mem → Prop), ss.length = 2 → sp_is_web ss M Q E → wSs Γ_is_web b_is_web (startS N_is_web ss) M (exits M Q E) := by
  intro ss M Q E hl h
  unfold sp_is_web at h
  split at h
  case h_2 => exact h.elim
  rename_i v p
  obtain ⟨ht, h⟩ := h
  cases hp : numOf p with
  | none =>
    simp only [hp] at h
    walk_at "is_web"
    rw [isNum_none hp]
    simp only [Bool.not_false, if_true]
    rw [if_neg (by decide)]
    exact ret_here h
  | some i =>
    simp only [hp] at h
    obtain ⟨rfl, hi⟩ := numOf_some hp
    have hn : isNumD (.int i) = true := decide_eq_true hi
    cases v with
    | tuple xs =>
      walk_at "is_web"
      simp only [hn, Bool.not_true, if_false, Bool.false_eq_true]
      have hx : xs.length ≤ sizeLine := ht _ rfl
      refine ⟨hx, lc_dat trivial (f := fun x => B (isPairD x i)) (fun x _ Q q => ?_) (in_bools ?_)⟩
      · walk_at "is_web"
        exact q
      rw [List.all_map]
      cases hw : xs.all (isPairD · i) with
      | false =>
        have e : xs.all (id ∘ fun x => isPairD x i) = false := hw
        rw [if_pos (by rw [e]; rfl)]
        have : isWebD (.tuple xs) i = false := by
          show (xs.all (isPairD · i) && incrD xs) = false
          rw [hw]
          rfl
        rw [this] at h
        exact ret_here h
      | true =>
        rw [if_neg (by
          have : xs.all (id ∘ fun x => isPairD x i) = true := hw
          rw [this]
          decide)]
        have : isWebD (.tuple xs) i = incrD xs := by
          show (xs.all (isPairD · i) && incrD xs) = _
          rw [hw]
          rfl
        rw [this, incr_range] at h
        obtain ⟨w, rfl, _⟩ := all_pairs hw
        have sl := slS
        refine ⟨by unfold rngOk; omega, rng_len (n := (webL w).length) (by omega) hx, ?_⟩
        refine lc_rng (f := fun k => B (PySem.W.dataLt ((webL w).getD k .none) ((webL w).getD (k + 1) .none))) ((webL w).length - 1) (by omega) trivial (fun k hk Q q => ?_) (in_bools ?_)
        · have h1 : k < w.length := by simp only [webL, List.length_map] at hk; omega
          have h2 : k + 1 < w.length := by simp only [webL, List.length_map] at hk; omega
          have g1 : (webL w)[k]? = some (pairD w[k]) := by simp [webL, h1]
          have g2 : (webL w)[k + 1]? = some (pairD w[k + 1]) := by simp [webL, h2]
          have e1 : atI (webL w) (1 + (k : Int) - 1) = some (pairD w[k]) := by
            have : (1 + (k : Int) - 1) = (k : Int) := by omega
            rw [this]
            exact at_nat g1
          have e2 : atI (webL w) (1 + (k : Int)) = some (pairD w[k + 1]) := by
            have : (1 + (k : Int)) = ((k + 1 : Nat) : Int) := by omega
            rw [this]
            exact at_nat g2
          walk_at "is_web"
          refine ⟨_, e1, _, e2, ?_⟩
          rw [List.getD_eq_getElem?_getD, List.getD_eq_getElem?_getD, g1, g2] at q
          exact ⟨⟨okd_pair, okd_pair, alike_pair⟩, q⟩
        · rw [List.all_map]
          exact ret_here h
    | _ =>
      walk_at "is_web"
      simp only [hn, Bool.not_true, if_false, Bool.false_eq_true, Bool.not_false, if_true]
      exact ret_here h
theorem k_is_web {v p : PD} {M : Mem} {Q : S → Mem → Prop} {E : Xc → Mem → Prop} : sp_is_web [.d v, .d p] M Q E = (tupLen v ∧ (match numOf p with
    | some i => Q (B (isWebD v i)) M
    | none => E ⟨"InvalidNumber", "value", .d p⟩ M)) := rfl
/-! _law_says -/
abbrev s_law_says : Stmt := topS 19
def N_law_says : List Str := ["value", "points", "due", "told"]
theorem sc_law_says : FnScope N_law_says ["value", "points", "due"] (defScope s_law_says) := ⟨rfl, rfl, rfl, by decide +kernel, rfl, by decide +kernel, by decide +kernel⟩
def b_law_says : Ss := .cons (.asg (.nm 3) (.call "is_web" (.cons (.var 0) (.cons (.var 1) .nil)))) (.cons (.ret (.and (.isI (.var 3) ["bool"]) (.cmp .Eq (.var 3) (.var 2)))) .nil)
theorem ub_law_says : b_law_says = .cons (.asg (.nm 3) (.call "is_web" (.cons (.var 0) (.cons (.var 1) .nil)))) (.cons (.ret (.and (.isI (.var 3) ["bool"]) (.cmp .Eq (.var 3) (.var 2)))) .nil) := rfl
theorem st_law_says {x0 x1 x2 : S} : startS N_law_says [x0, x1, x2] = [some x0, some x1, some x2, none] := rfl
def lib_law_says : Lib := [("is_web", ["value", "points"], sp_is_web)]
abbrev Γ_law_says : G.Env := lib_law_says.env (MroF tab)
theorem Φ_law_says_is_web : Γ_law_says.Φ "is_web" = some sp_is_web := by rfl
theorem φ_law_says_is_web {P : FSpec → Prop} : (∃ φ, Γ_law_says.Φ "is_web" = some φ ∧ P φ) = P sp_is_web := by rw [Φ_law_says_is_web]; exact ex_self
local macro_rules | `(tactic| walk_at "law_says") => `(tactic| simp (maxSteps := 1000000) only [ub_law_says, st_law_says, exits, Φ_law_says_is_web, ↓φ_law_says_is_web, ↓k_is_web, ↓xv_0, ↓xv_S, ↓da_snoc, ↓da_app, ↓e_cst, ↓e_neg, ↓e_not, ↓e_and, ↓e_or, ↓e_ite, ↓e_bin, ↓e_cmp, ↓e_chain, ↓e_tup, ↓e_fr, ↓e_ddisp, ↓e_ix, ↓e_sl, ↓e_rev, ↓e_call, ↓e_callK, ↓e_b1, ↓e_b2, ↓e_isX, ↓e_xval, ↓e_get, ↓e_pop, ↓e_popAt, ↓e_index, ↓t_not, ↓t_and, ↓t_or, ↓a_nil, ↓a_cons, ↓o_none, ↓o_some, ↓c_none, ↓c_some, ↓f_disp, ↓f_comp, ↓f_comp2, ↓f_listOf, ↓i_of, ↓i_rng, ↓i_zip, ↓i_rev, ↓t_var, ↓t_cst, ↓t_neg, ↓t_ite, ↓t_bin, ↓t_cmp, ↓t_chain, ↓t_tup, ↓t_fr, ↓t_al, ↓t_ddisp, ↓t_ix, ↓t_sl, ↓t_rev, ↓t_call, ↓t_callK, ↓t_b1, ↓t_b2, ↓t_isI, ↓t_isX, ↓t_xval, ↓t_get, ↓t_pop, ↓t_popAt, ↓t_index, ↓s_asg, ↓s_setIx, ↓s_augIx, ↓s_expr, ↓s_ret, ↓s_retN, ↓s_cond, ↓s_loop, ↓s_whl, ↓s_raise, ↓s_tryX, ↓s_pass, ↓s_brk, ↓s_cont, ↓b_nil, ↓b_cons, ↓h_nil, ↓r_add, ↓r_sub, ↓r_mul, ↓r_div, ↓r_mod, ↓r_pow, ↓r_shl, ↓r_cat, ↓r_cats, ↓r_rep, ↓r_lt, ↓r_le, ↓r_gt, ↓r_ge, ↓r_eqI, ↓r_neI, ↓r_augA, ↓r_augS, ↓r_augM, ↓tg_tpt, ↓tg_tpm, ↓tgs_nil, ↓tgs_cons, ↓turn_nx, ↓turn_ct, ↓turn_bk, ↓turn_rt, ↓turn_ex, ↓d_nil, ↓d_eq, ↓rng_1, ↓rng_2, ↓b_int, ↓b_intb, ↓b_bool, ↓b_boolb, ↓b_lent, ↓b_lenl, ↓b_tupt, ↓b_tupl, ↓b_str, ↓b_repr', ↓xp_d, ↓b_abs, ↓b_sum, ↓b_all, ↓b_any, ↓b_max, ↓b_min, ↓ix_t, ↓ix_l, ↓sl_t, ↓sl_l, ↓c_eqb, ↓c_neb, ↓c_isN, ↓c_isnN, ↓isx_eq, ↓xval_eq, ↓c_inT, ↓c_inL, ↓c_ninT, ↓c_ninL, ↓c_ltT, ↓c_leT, ↓c_gtT, ↓c_geT, ↓c_eqS, ↓c_neS, ↓b_lenm, ↓v_0, ↓v_S, ↓n_0, ↓n_S, ↓un_0, ↓un_S, ↓s_aug', ↓s_par', ↓h_cons', ↓xl_k, ↓xl_0, ↓xl_S, ↓xl_z, ↓md_k, ↓md_0, ↓mm_0, ↓mm_S, ↓nw_1, ↓nw_2, ↓nw_3, ↓nw_4, ↓nw_5, ↓e_al', ↓ix_m', ↓b_tupm', ↓sl_m', ↓ex_map, ↓ap_l, ↓s_app', ↓xt_l, ↓s_ext', ↓in_l, ↓s_ins', ↓p_put', ↓wt_d, ↓wt_k, ↓wt_k0, ↓to_S, ↓to_z, ↓e_isI1, ↓e_isI2, ↓ex_tb, ↓ex_ti, ↓ex_tn, ↓ex_tt, ↓ex_tl, ↓ex_i, ↓ex_B, ↓xd_nil, ↓xd_cons, ↓xd_map, ↓xi_t, ↓xi_l, ↓xi_m, ↓f_cat', ↓f_rep', ↓f_slice', ↓i_enum', nw_0, e_var, e_cst, e_neg, e_not, e_and, e_or, e_ite, e_bin, e_cmp, e_chain, e_tup, e_fr, e_al, e_ddisp, e_ix, e_sl, e_rev, e_call, e_callK, e_b1, e_b2, e_isI, e_isX, e_xval, e_get, e_pop, e_popAt, e_index, t_not, t_and, t_or, a_nil, a_cons, o_none, o_some, c_none, c_some, f_disp, f_comp, f_comp2, f_listOf, f_cat, f_rep, f_slice, i_of, i_rng, i_enum, i_zip, i_rev, t_var, t_cst, t_neg, t_ite, t_bin, t_cmp, t_chain, t_tup, t_fr, t_al, t_ddisp, t_ix, t_sl, t_rev, t_call, t_callK, t_b1, t_b2, t_isI, t_isX, t_xval, t_get, t_pop, t_popAt, t_index, s_asg, s_setIx, s_par, s_aug, s_augIx, s_expr, s_app, s_ext, s_ins, s_ret, s_retN, s_cond, s_loop, s_whl, s_raise, s_tryX, s_pass, s_brk, s_cont, b_nil, b_cons, h_nil, h_cons, r_add, r_sub, r_mul, r_div, r_mod, r_pow, r_shl, r_cat, r_cats, r_rep, r_lt, r_le, r_gt, r_ge, r_eqI, r_neI, tr_bool, tr_int, tr_none, tr_tuple, tr_list, r_augA, r_augS, r_augM, m_get, m_get0, m_set, m_set0, ex_v, ex_k, ex_lst, tg_nm, tg_tpt, tg_tpm, tgs_nil, tgs_cons, tgAt_eq, List.getElem?_cons_succ, List.getElem?_cons_zero, List.set_cons_succ, List.set_cons_zero, List.length_append, List.length_cons, List.length_nil, List.append_assoc, List.cons_append, List.nil_append, decide_eq_true_eq, I, B, N0, S.l.injEq, S.d.injEq, Option.some.injEq, MO.lst.injEq, exists_eq_left', exists_and_left, mapM_d, Bool.false_eq_true, isTy, at_0, at_1, mapM_s, List.map_cons, List.map_nil, List.any_cons, List.any_nil, id_eq, Bool.or_false, Bool.not_true, Bool.not_false, ↓reduceIte, turn_nx, turn_ct, turn_bk, turn_rt, turn_ex, ty_m, Int.zero_add, d_nil, d_eq, rng_1, rng_2, b_int, b_intb, b_bool, b_boolb, b_lent, b_lenl, b_lenm, b_tupt, b_tupl, b_tupm, b_str, b_repr', b_abs, b_sum, b_all, b_any, b_max, b_min, ix_t, ix_l, ix_m, sl_t, sl_l, sl_m, ty_d, it_t, it_l, pd_d, c_eqb, c_neb, c_isN, c_isnN, isx_eq, xval_eq, true_and, and_true, List.append_nil, wipeS, tgSlots, tgSlotss, c_inT, c_inL, c_ninT, c_ninL, c_ltT, c_leT, c_gtT, c_geT, it_k, it_k0, ty_k, ty_k0, lo_1, to_1, to_2, beq_self_eq_true, sd_inj, da_nil, da_cons, da_map, Option.map_some, p_put, Nat.reduceAdd, Int.reduceEq, Int.reduceLT, Int.reduceLE, c_noneF, c_eqS, c_neS, eq_self, decide_true, decide_false, pints_len, itm_len, sz_0, sz_1, sz_2, sz_3, sz_4, sz_5, sz_6, sz_7, sz_8, int?_d, ok_of_d, ex_self, Nat.zero_add])
theorem lm_law_says : ∀ p ∈ lib_law_says, ∀ vs, Mono (p.2.2 vs) := by
  intro p hp
  simp only [lib_law_says, List.mem_cons, List.not_mem_nil, or_false] at hp
  subst hp
  exact mo_is_web
theorem mb_law_says (s : Ss) : MonoS (wSs Γ_law_says s) := mSs s _ (Lib.mo lm_law_says)
theorem ck_law_says : kSs b_law_says ⟨N_law_says, defScope s_law_says, lib_law_says.fs, kws, cs, hs, true⟩ (defBody s_law_says) = true := by decide +kernel
theorem bd_law_says : Bd "_law_says" s_law_says ["value", "points", "due"] := fun _ _ _ _ _ _ us hl => match us, hl with | [_, _, _], _ => rfl
theorem kb_law_says : ∀ q ∈ kws, q.1 = "_law_says" → BdK "_law_says" s_law_says ["value", "points", "due"] q.2.1 q.2.2 := by
  intro q hq e
  simp only [kws, List.mem_cons, List.not_mem_nil, or_false] at hq
  subst hq
  · exact absurd e (by decide)
def sp_law_says : FSpec := fun vs M Q E => match vs with
  | [.d v, .d (.int i), .d (.bool due)] => (tupLen v ∧ 0 ≤ i) ∧ Q (B (isWebD v i == due)) M
  | _ => False
theorem mo_law_says : ∀ vs, Mono (sp_law_says vs) := by
  intro vs M Q Q' X X' hq hx h
  unfold sp_law_says at *
  split at h
  · exact ⟨h.1, hq _ _ h.2⟩
  · exact h
theorem w_law_says : ∀ (ss : List S) (M : Mem) (Q : S → Mem → Prop) (E : Xc → Mem → Prop), ss.length = 3 → sp_law_says ss M Q E → wSs Γ_law_says b_law_says (startS N_law_says ss) M (exits M Q E) := by
  intro ss M Q E hl h
  unfold sp_law_says at h
  split at h
  case h_2 => exact h.elim
  rename_i v i due
  obtain ⟨⟨ht, hi⟩, h⟩ := h
  walk_at "law_says"
  refine ⟨ht, ?_⟩
  simp only [numOf_of hi]
  exact ret_here h
theorem k_law_says {v : PD} {i : Int} {due : Bool} {M : Mem} {Q : S → Mem → Prop} {E : Xc → Mem → Prop} : sp_law_says [.d v, .d (.int i), .d (.bool due)] M Q E = ((tupLen v ∧ 0 ≤ i) ∧ Q (B (isWebD v i == due)) M) := rfl
/-! need_web -/
abbrev s_need_web : Stmt := topS 10
def N_need_web : List Str := ["web", "points"]
theorem sc_need_web : FnScope N_need_web ["web", "points"] (defScope s_need_web) := ⟨rfl, rfl, rfl, by decide +kernel, rfl, by decide +kernel, by decide +kernel⟩
def b_need_web : Ss := .cons (.cond (.not (.call "is_web" (.cons (.var 0) (.cons (.var 1) .nil)))) (.cons (.raise "InvalidWeb" (.var 0)) .nil) (.nil)) .nil
theorem ub_need_web : b_need_web = .cons (.cond (.not (.call "is_web" (.cons (.var 0) (.cons (.var 1) .nil)))) (.cons (.raise "InvalidWeb" (.var 0)) .nil) (.nil)) .nil := rfl
theorem st_need_web {x0 x1 : S} : startS N_need_web [x0, x1] = [some x0, some x1] := rfl
def lib_need_web : Lib := [("is_web", ["value", "points"], sp_is_web)]
abbrev Γ_need_web : G.Env := lib_need_web.env (MroF tab)
theorem Φ_need_web_is_web : Γ_need_web.Φ "is_web" = some sp_is_web := by rfl
theorem φ_need_web_is_web {P : FSpec → Prop} : (∃ φ, Γ_need_web.Φ "is_web" = some φ ∧ P φ) = P sp_is_web := by rw [Φ_need_web_is_web]; exact ex_self
local macro_rules | `(tactic| walk_at "need_web") => `(tactic| simp (maxSteps := 1000000) only [ub_need_web, st_need_web, exits, Φ_need_web_is_web, ↓φ_need_web_is_web, ↓k_is_web, ↓xv_0, ↓xv_S, ↓da_snoc, ↓da_app, ↓e_cst, ↓e_neg, ↓e_not, ↓e_and, ↓e_or, ↓e_ite, ↓e_bin, ↓e_cmp, ↓e_chain, ↓e_tup, ↓e_fr, ↓e_ddisp, ↓e_ix, ↓e_sl, ↓e_rev, ↓e_call, ↓e_callK, ↓e_b1, ↓e_b2, ↓e_isX, ↓e_xval, ↓e_get, ↓e_pop, ↓e_popAt, ↓e_index, ↓t_not, ↓t_and, ↓t_or, ↓a_nil, ↓a_cons, ↓o_none, ↓o_some, ↓c_none, ↓c_some, ↓f_disp, ↓f_comp, ↓f_comp2, ↓f_listOf, ↓i_of, ↓i_rng, ↓i_zip, ↓i_rev, ↓t_var, ↓t_cst, ↓t_neg, ↓t_ite, ↓t_bin, ↓t_cmp, ↓t_chain, ↓t_tup, ↓t_fr, ↓t_al, ↓t_ddisp, ↓t_ix, ↓t_sl, ↓t_rev, ↓t_call, ↓t_callK, ↓t_b1, ↓t_b2, ↓t_isI, ↓t_isX, ↓t_xval, ↓t_get, ↓t_pop, ↓t_popAt, ↓t_index, ↓s_asg, ↓s_setIx, ↓s_augIx, ↓s_expr, ↓s_ret, ↓s_retN, ↓s_cond, ↓s_loop, ↓s_whl, ↓s_raise, ↓s_tryX, ↓s_pass, ↓s_brk, ↓s_cont, ↓b_nil, ↓b_cons, ↓h_nil, ↓r_add, ↓r_sub, ↓r_mul, ↓r_div, ↓r_mod, ↓r_pow, ↓r_shl, ↓r_cat, ↓r_cats, ↓r_rep, ↓r_lt, ↓r_le, ↓r_gt, ↓r_ge, ↓r_eqI, ↓r_neI, ↓r_augA, ↓r_augS, ↓r_augM, ↓tg_tpt, ↓tg_tpm, ↓tgs_nil, ↓tgs_cons, ↓turn_nx, ↓turn_ct, ↓turn_bk, ↓turn_rt, ↓turn_ex, ↓d_nil, ↓d_eq, ↓rng_1, ↓rng_2, ↓b_int, ↓b_intb, ↓b_bool, ↓b_boolb, ↓b_lent, ↓b_lenl, ↓b_tupt, ↓b_tupl, ↓b_str, ↓b_repr', ↓xp_d, ↓b_abs, ↓b_sum, ↓b_all, ↓b_any, ↓b_max, ↓b_min, ↓ix_t, ↓ix_l, ↓sl_t, ↓sl_l, ↓c_eqb, ↓c_neb, ↓c_isN, ↓c_isnN, ↓isx_eq, ↓xval_eq, ↓c_inT, ↓c_inL, ↓c_ninT, ↓c_ninL, ↓c_ltT, ↓c_leT, ↓c_gtT, ↓c_geT, ↓c_eqS, ↓c_neS, ↓b_lenm, ↓v_0, ↓v_S, ↓n_0, ↓n_S, ↓un_0, ↓un_S, ↓s_aug', ↓s_par', ↓h_cons', ↓xl_k, ↓xl_0, ↓xl_S, ↓xl_z, ↓md_k, ↓md_0, ↓mm_0, ↓mm_S, ↓nw_1, ↓nw_2, ↓nw_3, ↓nw_4, ↓nw_5, ↓e_al', ↓ix_m', ↓b_tupm', ↓sl_m', ↓ex_map, ↓ap_l, ↓s_app', ↓xt_l, ↓s_ext', ↓in_l, ↓s_ins', ↓p_put', ↓wt_d, ↓wt_k, ↓wt_k0, ↓to_S, ↓to_z, ↓e_isI1, ↓e_isI2, ↓ex_tb, ↓ex_ti, ↓ex_tn, ↓ex_tt, ↓ex_tl, ↓ex_i, ↓ex_B, ↓xd_nil, ↓xd_cons, ↓xd_map, ↓xi_t, ↓xi_l, ↓xi_m, ↓f_cat', ↓f_rep', ↓f_slice', ↓i_enum', nw_0, e_var, e_cst, e_neg, e_not, e_and, e_or, e_ite, e_bin, e_cmp, e_chain, e_tup, e_fr, e_al, e_ddisp, e_ix, e_sl, e_rev, e_call, e_callK, e_b1, e_b2, e_isI, e_isX, e_xval, e_get, e_pop, e_popAt, e_index, t_not, t_and, t_or, a_nil, a_cons, o_none, o_some, c_none, c_some, f_disp, f_comp, f_comp2, f_listOf, f_cat, f_rep, f_slice, i_of, i_rng, i_enum, i_zip, i_rev, t_var, t_cst, t_neg, t_ite, t_bin, t_cmp, t_chain, t_tup, t_fr, t_al, t_ddisp, t_ix, t_sl, t_rev, t_call, t_callK, t_b1, t_b2, t_isI, t_isX, t_xval, t_get, t_pop, t_popAt, t_index, s_asg, s_setIx, s_par, s_aug, s_augIx, s_expr, s_app, s_ext, s_ins, s_ret, s_retN, s_cond, s_loop, s_whl, s_raise, s_tryX, s_pass, s_brk, s_cont, b_nil, b_cons, h_nil, h_cons, r_add, r_sub, r_mul, r_div, r_mod, r_pow, r_shl, r_cat, r_cats, r_rep, r_lt, r_le, r_gt, r_ge, r_eqI, r_neI, tr_bool, tr_int, tr_none, tr_tuple, tr_list, r_augA, r_augS, r_augM, m_get, m_get0, m_set, m_set0, ex_v, ex_k, ex_lst, tg_nm, tg_tpt, tg_tpm, tgs_nil, tgs_cons, tgAt_eq, List.getElem?_cons_succ, List.getElem?_cons_zero, List.set_cons_succ, List.set_cons_zero, List.length_append, List.length_cons, List.length_nil, List.append_assoc, List.cons_append, List.nil_append, decide_eq_true_eq, I, B, N0, S.l.injEq, S.d.injEq, Option.some.injEq, MO.lst.injEq, exists_eq_left', exists_and_left, mapM_d, Bool.false_eq_true, isTy, at_0, at_1, mapM_s, List.map_cons, List.map_nil, List.any_cons, List.any_nil, id_eq, Bool.or_false, Bool.not_true, Bool.not_false, ↓reduceIte, turn_nx, turn_ct, turn_bk, turn_rt, turn_ex, ty_m, Int.zero_add, d_nil, d_eq, rng_1, rng_2, b_int, b_intb, b_bool, b_boolb, b_lent, b_lenl, b_lenm, b_tupt, b_tupl, b_tupm, b_str, b_repr', b_abs, b_sum, b_all, b_any, b_max, b_min, ix_t, ix_l, ix_m, sl_t, sl_l, sl_m, ty_d, it_t, it_l, pd_d, c_eqb, c_neb, c_isN, c_isnN, isx_eq, xval_eq, true_and, and_true, List.append_nil, wipeS, tgSlots, tgSlotss, c_inT, c_inL, c_ninT, c_ninL, c_ltT, c_leT, c_gtT, c_geT, it_k, it_k0, ty_k, ty_k0, lo_1, to_1, to_2, beq_self_eq_true, sd_inj, da_nil, da_cons, da_map, Option.map_some, p_put, Nat.reduceAdd, Int.reduceEq, Int.reduceLT, Int.reduceLE, c_noneF, c_eqS, c_neS, eq_self, decide_true, decide_false, pints_len, itm_len, sz_0, sz_1, sz_2, sz_3, sz_4, sz_5, sz_6, sz_7, sz_8, int?_d, ok_of_d, ex_self, Nat.zero_add])
theorem lm_need_web : ∀ p ∈ lib_need_web, ∀ vs, Mono (p.2.2 vs) := by
  intro p hp
  simp only [lib_need_web, List.mem_cons, List.not_mem_nil, or_false] at hp
  subst hp
  exact mo_is_web
theorem mb_need_web (s : Ss) : MonoS (wSs Γ_need_web s) := mSs s _ (Lib.mo lm_need_web)
theorem ck_need_web : kSs b_need_web ⟨N_need_web, defScope s_need_web, lib_need_web.fs, kws, cs, hs, true⟩ (defBody s_need_web) = true := by decide +kernel
theorem bd_need_web : Bd "need_web" s_need_web ["web", "points"] := fun _ _ _ _ _ _ us hl => match us, hl with | [_, _], _ => rfl
theorem kb_need_web : ∀ q ∈ kws, q.1 = "need_web" → BdK "need_web" s_need_web ["web", "points"] q.2.1 q.2.2 := by
  intro q hq e
  simp only [kws, List.mem_cons, List.not_mem_nil, or_false] at hq
  subst hq
  · exact absurd e (by decide)
def sp_need_web : FSpec := fun vs M Q E => match vs with
  | [.d v, .d p] => tupLen v ∧ (match numOf p with
    | some i => if isWebD v i = true then Q N0 M else E ⟨"InvalidWeb", "value", .d v⟩ M
    | none => E ⟨"InvalidNumber", "value", .d p⟩ M)
  | _ => False
theorem mo_need_web : ∀ vs, Mono (sp_need_web vs) := by
  intro vs M Q Q' X X' hq hx h
  unfold sp_need_web at *
  split at h
  · refine ⟨h.1, ?_⟩
    have h2 := h.2
    split at h2
    · split at h2
      · rw [if_pos (by assumption)]
        exact hq _ _ h2
      · rw [if_neg (by assumption)]
        exact hx _ _ h2
    · exact hx _ _ h2
  · exact h
theorem w_need_web : ∀ (ss : List S) (M : Mem) (Q : S → Mem → Prop) (E : Xc → Mem → Prop), ss.length = 2 → sp_need_web ss M Q E → wSs Γ_need_web b_need_web (startS N_need_web ss) M (exits M Q E) := by
  intro ss M Q E hl h
  unfold sp_need_web at h
  split at h
  case h_2 => exact h.elim
  rename_i v p
  obtain ⟨ht, h⟩ := h
  walk_at "need_web"
  refine ⟨ht, ?_⟩
  cases hp : numOf p with
  | none =>
    simp only [hp] at h ⊢
    exact ret_here h
  | some i =>
    simp only [hp] at h ⊢
    cases hw : isWebD v i with
    | true =>
      rw [if_pos hw] at h
      simp only [Bool.not_true, if_false, Bool.false_eq_true]
      exact ret_here h
    | false =>
      rw [if_neg (by rw [hw]; decide)] at h
      simp only [Bool.not_false, if_true]
      rw [if_neg (by decide)]
      exact ret_here h
theorem k_need_web {v p : PD} {M : Mem} {Q : S → Mem → Prop} {E : Xc → Mem → Prop} : sp_need_web [.d v, .d p] M Q E = (tupLen v ∧ (match numOf p with
    | some i => if isWebD v i = true then Q N0 M else E ⟨"InvalidWeb", "value", .d v⟩ M
    | none => E ⟨"InvalidNumber", "value", .d p⟩ M)) := rfl
/-! degrees -/
abbrev s_degrees : Stmt := topS 11
def N_degrees : List Str := ["web", "points", "found", "a", "b"]
theorem sc_degrees : FnScope N_degrees ["web", "points"] (defScope s_degrees) := ⟨rfl, rfl, rfl, by decide +kernel, rfl, by decide +kernel, by decide +kernel⟩
def b_degrees_1 : Ss := .cons (.augIx (.var 2) (.var 3) .Add (.cst (.int 1))) (.cons (.augIx (.var 2) (.var 4) .Add (.cst (.int 1))) .nil)
def b_degrees : Ss := .cons (.expr (.call "need_web" (.cons (.var 0) (.cons (.var 1) .nil)))) (.cons (.asg (.nm 2) (.al (.rep (.fr (.disp (.cons (.cst (.int 0)) .nil))) (.var 1)))) (.cons (.loop (.tp [.nm 3, .nm 4]) (.of (.var 0)) b_degrees_1) (.cons (.ret (.b1 .tuple (.var 2))) .nil)))
theorem ub_degrees_1 : b_degrees_1 = .cons (.augIx (.var 2) (.var 3) .Add (.cst (.int 1))) (.cons (.augIx (.var 2) (.var 4) .Add (.cst (.int 1))) .nil) := rfl
theorem ub_degrees : b_degrees = .cons (.expr (.call "need_web" (.cons (.var 0) (.cons (.var 1) .nil)))) (.cons (.asg (.nm 2) (.al (.rep (.fr (.disp (.cons (.cst (.int 0)) .nil))) (.var 1)))) (.cons (.loop (.tp [.nm 3, .nm 4]) (.of (.var 0)) b_degrees_1) (.cons (.ret (.b1 .tuple (.var 2))) .nil))) := rfl
theorem st_degrees {x0 x1 : S} : startS N_degrees [x0, x1] = [some x0, some x1, none, none, none] := rfl
def lib_degrees : Lib := [("need_web", ["web", "points"], sp_need_web)]
abbrev Γ_degrees : G.Env := lib_degrees.env (MroF tab)
theorem Φ_degrees_need_web : Γ_degrees.Φ "need_web" = some sp_need_web := by rfl
theorem φ_degrees_need_web {P : FSpec → Prop} : (∃ φ, Γ_degrees.Φ "need_web" = some φ ∧ P φ) = P sp_need_web := by rw [Φ_degrees_need_web]; exact ex_self
local macro_rules | `(tactic| walk_at "degrees") => `(tactic| simp (maxSteps := 1000000) only [ub_degrees, st_degrees, exits, Φ_degrees_need_web, ↓φ_degrees_need_web, ↓k_need_web, ↓xv_0, ↓xv_S, ↓da_snoc, ↓da_app, ↓e_cst, ↓e_neg, ↓e_not, ↓e_and, ↓e_or, ↓e_ite, ↓e_bin, ↓e_cmp, ↓e_chain, ↓e_tup, ↓e_fr, ↓e_ddisp, ↓e_ix, ↓e_sl, ↓e_rev, ↓e_call, ↓e_callK, ↓e_b1, ↓e_b2, ↓e_isX, ↓e_xval, ↓e_get, ↓e_pop, ↓e_popAt, ↓e_index, ↓t_not, ↓t_and, ↓t_or, ↓a_nil, ↓a_cons, ↓o_none, ↓o_some, ↓c_none, ↓c_some, ↓f_disp, ↓f_comp, ↓f_comp2, ↓f_listOf, ↓i_of, ↓i_rng, ↓i_zip, ↓i_rev, ↓t_var, ↓t_cst, ↓t_neg, ↓t_ite, ↓t_bin, ↓t_cmp, ↓t_chain, ↓t_tup, ↓t_fr, ↓t_al, ↓t_ddisp, ↓t_ix, ↓t_sl, ↓t_rev, ↓t_call, ↓t_callK, ↓t_b1, ↓t_b2, ↓t_isI, ↓t_isX, ↓t_xval, ↓t_get, ↓t_pop, ↓t_popAt, ↓t_index, ↓s_asg, ↓s_setIx, ↓s_augIx, ↓s_expr, ↓s_ret, ↓s_retN, ↓s_cond, ↓s_loop, ↓s_whl, ↓s_raise, ↓s_tryX, ↓s_pass, ↓s_brk, ↓s_cont, ↓b_nil, ↓b_cons, ↓h_nil, ↓r_add, ↓r_sub, ↓r_mul, ↓r_div, ↓r_mod, ↓r_pow, ↓r_shl, ↓r_cat, ↓r_cats, ↓r_rep, ↓r_lt, ↓r_le, ↓r_gt, ↓r_ge, ↓r_eqI, ↓r_neI, ↓r_augA, ↓r_augS, ↓r_augM, ↓tg_tpt, ↓tg_tpm, ↓tgs_nil, ↓tgs_cons, ↓turn_nx, ↓turn_ct, ↓turn_bk, ↓turn_rt, ↓turn_ex, ↓d_nil, ↓d_eq, ↓rng_1, ↓rng_2, ↓b_int, ↓b_intb, ↓b_bool, ↓b_boolb, ↓b_lent, ↓b_lenl, ↓b_tupt, ↓b_tupl, ↓b_str, ↓b_repr', ↓xp_d, ↓b_abs, ↓b_sum, ↓b_all, ↓b_any, ↓b_max, ↓b_min, ↓ix_t, ↓ix_l, ↓sl_t, ↓sl_l, ↓c_eqb, ↓c_neb, ↓c_isN, ↓c_isnN, ↓isx_eq, ↓xval_eq, ↓c_inT, ↓c_inL, ↓c_ninT, ↓c_ninL, ↓c_ltT, ↓c_leT, ↓c_gtT, ↓c_geT, ↓c_eqS, ↓c_neS, ↓b_lenm, ↓v_0, ↓v_S, ↓n_0, ↓n_S, ↓un_0, ↓un_S, ↓s_aug', ↓s_par', ↓h_cons', ↓xl_k, ↓xl_0, ↓xl_S, ↓xl_z, ↓md_k, ↓md_0, ↓mm_0, ↓mm_S, ↓nw_1, ↓nw_2, ↓nw_3, ↓nw_4, ↓nw_5, ↓e_al', ↓ix_m', ↓b_tupm', ↓sl_m', ↓ex_map, ↓ap_l, ↓s_app', ↓xt_l, ↓s_ext', ↓in_l, ↓s_ins', ↓p_put', ↓wt_d, ↓wt_k, ↓wt_k0, ↓to_S, ↓to_z, ↓e_isI1, ↓e_isI2, ↓ex_tb, ↓ex_ti, ↓ex_tn, ↓ex_tt, ↓ex_tl, ↓ex_i, ↓ex_B, ↓xd_nil, ↓xd_cons, ↓xd_map, ↓xi_t, ↓xi_l, ↓xi_m, ↓f_cat', ↓f_rep', ↓f_slice', ↓i_enum', nw_0, e_var, e_cst, e_neg, e_not, e_and, e_or, e_ite, e_bin, e_cmp, e_chain, e_tup, e_fr, e_al, e_ddisp, e_ix, e_sl, e_rev, e_call, e_callK, e_b1, e_b2, e_isI, e_isX, e_xval, e_get, e_pop, e_popAt, e_index, t_not, t_and, t_or, a_nil, a_cons, o_none, o_some, c_none, c_some, f_disp, f_comp, f_comp2, f_listOf, f_cat, f_rep, f_slice, i_of, i_rng, i_enum, i_zip, i_rev, t_var, t_cst, t_neg, t_ite, t_bin, t_cmp, t_chain, t_tup, t_fr, t_al, t_ddisp, t_ix, t_sl, t_rev, t_call, t_callK, t_b1, t_b2, t_isI, t_isX, t_xval, t_get, t_pop, t_popAt, t_index, s_asg, s_setIx, s_par, s_aug, s_augIx, s_expr, s_app, s_ext, s_ins, s_ret, s_retN, s_cond, s_loop, s_whl, s_raise, s_tryX, s_pass, s_brk, s_cont, b_nil, b_cons, h_nil, h_cons, r_add, r_sub, r_mul, r_div, r_mod, r_pow, r_shl, r_cat, r_cats, r_rep, r_lt, r_le, r_gt, r_ge, r_eqI, r_neI, tr_bool, tr_int, tr_none, tr_tuple, tr_list, r_augA, r_augS, r_augM, m_get, m_get0, m_set, m_set0, ex_v, ex_k, ex_lst, tg_nm, tg_tpt, tg_tpm, tgs_nil, tgs_cons, tgAt_eq, List.getElem?_cons_succ, List.getElem?_cons_zero, List.set_cons_succ, List.set_cons_zero, List.length_append, List.length_cons, List.length_nil, List.append_assoc, List.cons_append, List.nil_append, decide_eq_true_eq, I, B, N0, S.l.injEq, S.d.injEq, Option.some.injEq, MO.lst.injEq, exists_eq_left', exists_and_left, mapM_d, Bool.false_eq_true, isTy, at_0, at_1, mapM_s, List.map_cons, List.map_nil, List.any_cons, List.any_nil, id_eq, Bool.or_false, Bool.not_true, Bool.not_false, ↓reduceIte, turn_nx, turn_ct, turn_bk, turn_rt, turn_ex, ty_m, Int.zero_add, d_nil, d_eq, rng_1, rng_2, b_int, b_intb, b_bool, b_boolb, b_lent, b_lenl, b_lenm, b_tupt, b_tupl, b_tupm, b_str, b_repr', b_abs, b_sum, b_all, b_any, b_max, b_min, ix_t, ix_l, ix_m, sl_t, sl_l, sl_m, ty_d, it_t, it_l, pd_d, c_eqb, c_neb, c_isN, c_isnN, isx_eq, xval_eq, true_and, and_true, List.append_nil, wipeS, tgSlots, tgSlotss, c_inT, c_inL, c_ninT, c_ninL, c_ltT, c_leT, c_gtT, c_geT, it_k, it_k0, ty_k, ty_k0, lo_1, to_1, to_2, beq_self_eq_true, sd_inj, da_nil, da_cons, da_map, Option.map_some, p_put, Nat.reduceAdd, Int.reduceEq, Int.reduceLT, Int.reduceLE, c_noneF, c_eqS, c_neS, eq_self, decide_true, decide_false, pints_len, itm_len, sz_0, sz_1, sz_2, sz_3, sz_4, sz_5, sz_6, sz_7, sz_8, int?_d, ok_of_d, ex_self, Nat.zero_add])
theorem lm_degrees : ∀ p ∈ lib_degrees, ∀ vs, Mono (p.2.2 vs) := by
  intro p hp
  simp only [lib_degrees, List.mem_cons, List.not_mem_nil, or_false] at hp
  subst hp
  exact mo_need_web
theorem mb_degrees (s : Ss) : MonoS (wSs Γ_degrees s) := mSs s _ (Lib.mo lm_degrees)
theorem ck_degrees : kSs b_degrees ⟨N_degrees, defScope s_degrees, lib_degrees.fs, kws, cs, hs, true⟩ (defBody s_degrees) = true := by decide +kernel
theorem bd_degrees : Bd "degrees" s_degrees ["web", "points"] := fun _ _ _ _ _ _ us hl => match us, hl with | [_, _], _ => rfl
theorem kb_degrees : ∀ q ∈ kws, q.1 = "degrees" → BdK "degrees" s_degrees ["web", "points"] q.2.1 q.2.2 := by
  intro q hq e
  simp only [kws, List.mem_cons, List.not_mem_nil, or_false] at hq
  subst hq
  · exact fun _ _ _ _ _ _ us ws h1 h2 => match us, ws, h1, h2 with | [], [_, _], _, _ => rfl
def sp_degrees : FSpec := fun vs M Q E => match vs with
  | [.d v, .d p] => tupLen v ∧ (match numOf p with
    | some i => if isWebD v i = true then i ≤ 1000000 ∧ Q (.d (.tuple (pints (degD v i)))) M else E ⟨"InvalidWeb", "value", .d v⟩ M
    | none => E ⟨"InvalidNumber", "value", .d p⟩ M)
  | _ => False
theorem mo_degrees : ∀ vs, Mono (sp_degrees vs) := by
  intro vs M Q Q' X X' hq hx h
  unfold sp_degrees at *
  split at h
  · refine ⟨h.1, ?_⟩
    have h2 := h.2
    split at h2
    · split at h2
      · rw [if_pos (by assumption)]
        exact ⟨h2.1, hq _ _ h2.2⟩
      · rw [if_neg (by assumption)]
        exact hx _ _ h2
    · exact hx _ _ h2
  · exact h
theorem cnt_step {k : Nat} {xs : List PD} {i : Nat} {a b : Int} (e : xs[i]? = some (.tuple [.int a, .int b])) (h : a < b) : cntD k (xs.take (i + 1)) = cntD k (xs.take i) + (if a = k then 1 else 0) + (if b = k then 1 else 0) := by
  obtain ⟨h1, h2⟩ := List.getElem?_eq_some_iff.mp e
  unfold cntD
  rw [List.take_succ_eq_append_getElem h1, List.filter_append, List.length_append, h2]
  by_cases h3 : a = k
  · have h4 : ¬ b = k := by omega
    simp [hasPt, h3, h4]
  · by_cases h4 : b = k <;> simp [hasPt, h3, h4]
theorem degrees_loop {M : Mem} {Q : S → Mem → Prop} {E : Xc → Mem → Prop} {w : List (Int × Int)} {n : Nat} (hw : ∀ p ∈ w, isP n p) (q : Q (.d (.tuple (pints (degD (.tuple (webL w)) n)))) M) {ok : Mem → Prop} (hok : ∀ M, ok M) :
    wFor (wTg (.tp [.nm 3, .nm 4])) ok (wSs Γ_degrees b_degrees_1) (((webL w).map S.d).map Itm.one) [some (.d (.tuple (webL w))), some (.d (.int n)), some (.l M.length), none, none] (M ++ [.lst (fL n fun _ => 0)])
      { nx := fun ρ1 M1 => ∃ v, ρ1[2]? = some (some v) ∧ wB1 .tuple v M1 fun v M' => ∃ r M2, Ex M M' v r M2 ∧ Q r M2, rt := (exits M Q E).rt, ex := (exits M Q E).ex } := by
  refine for_tgs hok (mb_degrees _) (fun i ρ M' => ∃ s3 s4, ρ = [some (.d (.tuple (webL w))), some (.d (.int n)), some (.l M.length), s3, s4] ∧ M' = M ++ [.lst (fL n fun k => cntD k ((webL w).take i))]) ⟨none, none, rfl, rfl⟩ ?_ ?_
  · rintro ρ M' ⟨s3, s4, rfl, rfl⟩
    rw [List.take_of_length_le (Nat.le_refl _)]
    rw [fL_data]
    have : pints (degD (.tuple (webL w)) n) = (List.range n).map fun k => PyData.int (cntD k (webL w)) := by simp [pints, degD]
    rw [this] at q
    walk_at "degrees"
    exact ret_data q
  · rintro i x ρ M' e ⟨s3, s4, rfl, rfl⟩
    have e2 := e
    unfold webL at e2
    rw [List.getElem?_map] at e2
    cases ew : w[i]? with
    | none => rw [ew] at e2; cases e2
    | some p =>
      rw [ew] at e2
      cases e2
      obtain ⟨a, b⟩ := p
      have hp := hw _ (List.mem_of_getElem? ew)
      obtain ⟨h1, h2, h3⟩ := hp
      simp only at h1 h2 h3
      show wTg _ (.one (.d (.tuple [.int a, .int b]))) _ _
      simp only [ub_degrees_1]
      walk_at "degrees"
      refine ⟨_, at_of h1 (fL_get (by omega)), ?_⟩
      rw [r_augA]
      refine ⟨a.toNat, ix_of h1 (by rw [fL_len]; omega), ?_⟩
      rw [fL_set]
      refine ⟨_, at_of (by omega) (fL_get (by omega)), ?_⟩
      rw [r_augA]
      refine ⟨b.toNat, ix_of (by omega) (by rw [fL_len]; omega), _, _, rfl, ?_⟩
      rw [fL_set]
      have : (fun j => if j = b.toNat then (if b.toNat = a.toNat then cntD a.toNat ((webL w).take i) + 1 else cntD b.toNat ((webL w).take i)) + 1 else if j = a.toNat then cntD a.toNat ((webL w).take i) + 1 else cntD j ((webL w).take i)) = fun k => cntD k ((webL w).take (i + 1)) := by
        funext j
        rw [cnt_step e h2]
        have n1 : ¬ b.toNat = a.toNat := by omega
        by_cases j1 : j = b.toNat
        · subst j1
          have e1 : ¬ a = (b.toNat : Int) := by omega
          have e2 : b = (b.toNat : Int) := by omega
          rw [if_pos rfl, if_neg n1, if_neg e1, if_pos e2]
          omega
        · have e2 : ¬ b = (j : Int) := by omega
          rw [if_neg j1, if_neg e2]
          by_cases j2 : j = a.toNat
          · subst j2
            have e1 : a = (a.toNat : Int) := by omega
            rw [if_pos rfl, if_pos e1]
            omega
          · have e1 : ¬ a = (j : Int) := by omega
            rw [if_neg j2, if_neg e1]
            omega
      rw [this]
theorem w_degrees : ∀ (ss : List S) (M : Mem) (Q : S → Mem → Prop) (E : Xc → Mem → Prop), ss.length = 2 → sp_degrees ss M Q E → wSs Γ_degrees b_degrees (startS N_degrees ss) M (exits M Q E) := by
  intro ss M Q E hl h
  unfold sp_degrees at h
  split at h
  case h_2 => exact h.elim
  rename_i v p
  obtain ⟨ht, h⟩ := h
  walk_at "degrees"
  refine ⟨ht, ?_⟩
  cases hp : numOf p with
  | none =>
    simp only [hp] at h ⊢
    exact ret_here h
  | some i =>
    obtain ⟨rfl, hi⟩ := numOf_some hp
    simp only [hp] at h ⊢
    cases hw : isWebD v i with
    | false =>
      rw [if_neg (by rw [hw]; decide)] at h
      rw [if_neg (by decide)]
      exact ret_here h
    | true =>
      rw [if_pos hw] at h
      obtain ⟨w, rfl, hw⟩ := isWeb_some hw
      rw [if_pos rfl]
      have sl := slS
      obtain ⟨n, rfl⟩ := Int.eq_ofNat_of_zero_le hi
      refine ⟨n, rfl, ⟨by omega, by omega, by omega⟩, _, it_t, ?_⟩
      have e : (List.replicate (n : Int).toNat [S.d (PyData.int 0)]).flatten = fL n fun _ => 0 := by
        unfold fL
        apply List.ext_getElem
        · simp
        · intro i h1 h2
          simp
      rw [e]
      exact degrees_loop (by assumption) h.2 fun _ => trivial
theorem k_degrees {v p : PD} {M : Mem} {Q : S → Mem → Prop} {E : Xc → Mem → Prop} : sp_degrees [.d v, .d p] M Q E = (tupLen v ∧ (match numOf p with
    | some i => if isWebD v i = true then i ≤ 1000000 ∧ Q (.d (.tuple (pints (degD v i)))) M else E ⟨"InvalidWeb", "value", .d v⟩ M
    | none => E ⟨"InvalidNumber", "value", .d p⟩ M)) := rfl
/-! _law_refused -/
abbrev s_law_refused : Stmt := topS 20
def N_law_refused : List Str := ["value", "points", "judge", "number", "shown", "e"]
theorem sc_law_refused : FnScope N_law_refused ["value", "points", "judge", "number"] (defScope s_law_refused) := ⟨rfl, rfl, rfl, by decide +kernel, rfl, by decide +kernel, by decide +kernel⟩
def b_law_refused : Ss := .cons (.asg (.nm 4) (.b1 .repr (.var 0))) (.cons (.cond (.var 3) (.cons (.asg (.nm 4) (.b1 .repr (.var 1))) .nil) (.nil)) (.cons (.tryX (.cons (.cond (.var 2) (.cons (.expr (.call "is_web" (.cons (.var 0) (.cons (.var 1) .nil)))) .nil) (.cons (.expr (.call "degrees" (.cons (.var 0) (.cons (.var 1) .nil)))) .nil)) .nil) (.cons "StairError" 5 (.cons (.cond (.or (.not (.isX (.var 5) ["ValueError"])) (.or (.cmp .NotEq (.isX (.var 5) ["InvalidNumber"]) (.var 3)) (.cmp .Eq (.isX (.var 5) ["InvalidWeb"]) (.var 3)))) (.cons (.ret (.cst (.bool false))) .nil) (.nil)) (.cons (.ret (.cmp .Eq (.b1 .repr (.xval (.var 5) "value")) (.var 4))) .nil)) (.nil))) (.cons (.ret (.cst (.bool false))) .nil)))
theorem ub_law_refused : b_law_refused = .cons (.asg (.nm 4) (.b1 .repr (.var 0))) (.cons (.cond (.var 3) (.cons (.asg (.nm 4) (.b1 .repr (.var 1))) .nil) (.nil)) (.cons (.tryX (.cons (.cond (.var 2) (.cons (.expr (.call "is_web" (.cons (.var 0) (.cons (.var 1) .nil)))) .nil) (.cons (.expr (.call "degrees" (.cons (.var 0) (.cons (.var 1) .nil)))) .nil)) .nil) (.cons "StairError" 5 (.cons (.cond (.or (.not (.isX (.var 5) ["ValueError"])) (.or (.cmp .NotEq (.isX (.var 5) ["InvalidNumber"]) (.var 3)) (.cmp .Eq (.isX (.var 5) ["InvalidWeb"]) (.var 3)))) (.cons (.ret (.cst (.bool false))) .nil) (.nil)) (.cons (.ret (.cmp .Eq (.b1 .repr (.xval (.var 5) "value")) (.var 4))) .nil)) (.nil))) (.cons (.ret (.cst (.bool false))) .nil))) := rfl
theorem st_law_refused {x0 x1 x2 x3 : S} : startS N_law_refused [x0, x1, x2, x3] = [some x0, some x1, some x2, some x3, none, none] := rfl
def lib_law_refused : Lib := [("is_web", ["value", "points"], sp_is_web), ("degrees", ["web", "points"], sp_degrees)]
abbrev Γ_law_refused : G.Env := lib_law_refused.env (MroF tab)
theorem Φ_law_refused_is_web : Γ_law_refused.Φ "is_web" = some sp_is_web := by rfl
theorem φ_law_refused_is_web {P : FSpec → Prop} : (∃ φ, Γ_law_refused.Φ "is_web" = some φ ∧ P φ) = P sp_is_web := by rw [Φ_law_refused_is_web]; exact ex_self
theorem Φ_law_refused_degrees : Γ_law_refused.Φ "degrees" = some sp_degrees := by rfl
theorem φ_law_refused_degrees {P : FSpec → Prop} : (∃ φ, Γ_law_refused.Φ "degrees" = some φ ∧ P φ) = P sp_degrees := by rw [Φ_law_refused_degrees]; exact ex_self
theorem mr_law_refused_InvalidNumber : Γ_law_refused.mro "InvalidNumber" = some (["InvalidNumber", "StairError", "ValueError"] : List Str) := by rfl
theorem mr_law_refused_InvalidWeb : Γ_law_refused.mro "InvalidWeb" = some (["InvalidWeb", "StairError", "ValueError"] : List Str) := by rfl
local macro_rules | `(tactic| walk_at "law_refused") => `(tactic| simp (maxSteps := 1000000) only [ub_law_refused, st_law_refused, exits, Φ_law_refused_is_web, Φ_law_refused_degrees, ↓φ_law_refused_is_web, ↓φ_law_refused_degrees, ↓k_is_web, ↓k_degrees, mr_law_refused_InvalidNumber, mr_law_refused_InvalidWeb, cn_InvalidNumber_StairError, cn_InvalidNumber_InvalidWeb, cn_InvalidNumber_InvalidNumber, cn_InvalidNumber_ValueError, cn_InvalidWeb_StairError, cn_InvalidWeb_InvalidWeb, cn_InvalidWeb_InvalidNumber, cn_InvalidWeb_ValueError, ↓xv_0, ↓xv_S, ↓da_snoc, ↓da_app, ↓e_cst, ↓e_neg, ↓e_not, ↓e_and, ↓e_or, ↓e_ite, ↓e_bin, ↓e_cmp, ↓e_chain, ↓e_tup, ↓e_fr, ↓e_ddisp, ↓e_ix, ↓e_sl, ↓e_rev, ↓e_call, ↓e_callK, ↓e_b1, ↓e_b2, ↓e_isX, ↓e_xval, ↓e_get, ↓e_pop, ↓e_popAt, ↓e_index, ↓t_not, ↓t_and, ↓t_or, ↓a_nil, ↓a_cons, ↓o_none, ↓o_some, ↓c_none, ↓c_some, ↓f_disp, ↓f_comp, ↓f_comp2, ↓f_listOf, ↓i_of, ↓i_rng, ↓i_zip, ↓i_rev, ↓t_var, ↓t_cst, ↓t_neg, ↓t_ite, ↓t_bin, ↓t_cmp, ↓t_chain, ↓t_tup, ↓t_fr, ↓t_al, ↓t_ddisp, ↓t_ix, ↓t_sl, ↓t_rev, ↓t_call, ↓t_callK, ↓t_b1, ↓t_b2, ↓t_isI, ↓t_isX, ↓t_xval, ↓t_get, ↓t_pop, ↓t_popAt, ↓t_index, ↓s_asg, ↓s_setIx, ↓s_augIx, ↓s_expr, ↓s_ret, ↓s_retN, ↓s_cond, ↓s_loop, ↓s_whl, ↓s_raise, ↓s_tryX, ↓s_pass, ↓s_brk, ↓s_cont, ↓b_nil, ↓b_cons, ↓h_nil, ↓r_add, ↓r_sub, ↓r_mul, ↓r_div, ↓r_mod, ↓r_pow, ↓r_shl, ↓r_cat, ↓r_cats, ↓r_rep, ↓r_lt, ↓r_le, ↓r_gt, ↓r_ge, ↓r_eqI, ↓r_neI, ↓r_augA, ↓r_augS, ↓r_augM, ↓tg_tpt, ↓tg_tpm, ↓tgs_nil, ↓tgs_cons, ↓turn_nx, ↓turn_ct, ↓turn_bk, ↓turn_rt, ↓turn_ex, ↓d_nil, ↓d_eq, ↓rng_1, ↓rng_2, ↓b_int, ↓b_intb, ↓b_bool, ↓b_boolb, ↓b_lent, ↓b_lenl, ↓b_tupt, ↓b_tupl, ↓b_str, ↓b_repr', ↓xp_d, ↓b_abs, ↓b_sum, ↓b_all, ↓b_any, ↓b_max, ↓b_min, ↓ix_t, ↓ix_l, ↓sl_t, ↓sl_l, ↓c_eqb, ↓c_neb, ↓c_isN, ↓c_isnN, ↓isx_eq, ↓xval_eq, ↓c_inT, ↓c_inL, ↓c_ninT, ↓c_ninL, ↓c_ltT, ↓c_leT, ↓c_gtT, ↓c_geT, ↓c_eqS, ↓c_neS, ↓b_lenm, ↓v_0, ↓v_S, ↓n_0, ↓n_S, ↓un_0, ↓un_S, ↓s_aug', ↓s_par', ↓h_cons', ↓xl_k, ↓xl_0, ↓xl_S, ↓xl_z, ↓md_k, ↓md_0, ↓mm_0, ↓mm_S, ↓nw_1, ↓nw_2, ↓nw_3, ↓nw_4, ↓nw_5, ↓e_al', ↓ix_m', ↓b_tupm', ↓sl_m', ↓ex_map, ↓ap_l, ↓s_app', ↓xt_l, ↓s_ext', ↓in_l, ↓s_ins', ↓p_put', ↓wt_d, ↓wt_k, ↓wt_k0, ↓to_S, ↓to_z, ↓e_isI1, ↓e_isI2, ↓ex_tb, ↓ex_ti, ↓ex_tn, ↓ex_tt, ↓ex_tl, ↓ex_i, ↓ex_B, ↓xd_nil, ↓xd_cons, ↓xd_map, ↓xi_t, ↓xi_l, ↓xi_m, ↓f_cat', ↓f_rep', ↓f_slice', ↓i_enum', nw_0, e_var, e_cst, e_neg, e_not, e_and, e_or, e_ite, e_bin, e_cmp, e_chain, e_tup, e_fr, e_al, e_ddisp, e_ix, e_sl, e_rev, e_call, e_callK, e_b1, e_b2, e_isI, e_isX, e_xval, e_get, e_pop, e_popAt, e_index, t_not, t_and, t_or, a_nil, a_cons, o_none, o_some, c_none, c_some, f_disp, f_comp, f_comp2, f_listOf, f_cat, f_rep, f_slice, i_of, i_rng, i_enum, i_zip, i_rev, t_var, t_cst, t_neg, t_ite, t_bin, t_cmp, t_chain, t_tup, t_fr, t_al, t_ddisp, t_ix, t_sl, t_rev, t_call, t_callK, t_b1, t_b2, t_isI, t_isX, t_xval, t_get, t_pop, t_popAt, t_index, s_asg, s_setIx, s_par, s_aug, s_augIx, s_expr, s_app, s_ext, s_ins, s_ret, s_retN, s_cond, s_loop, s_whl, s_raise, s_tryX, s_pass, s_brk, s_cont, b_nil, b_cons, h_nil, h_cons, r_add, r_sub, r_mul, r_div, r_mod, r_pow, r_shl, r_cat, r_cats, r_rep, r_lt, r_le, r_gt, r_ge, r_eqI, r_neI, tr_bool, tr_int, tr_none, tr_tuple, tr_list, r_augA, r_augS, r_augM, m_get, m_get0, m_set, m_set0, ex_v, ex_k, ex_lst, tg_nm, tg_tpt, tg_tpm, tgs_nil, tgs_cons, tgAt_eq, List.getElem?_cons_succ, List.getElem?_cons_zero, List.set_cons_succ, List.set_cons_zero, List.length_append, List.length_cons, List.length_nil, List.append_assoc, List.cons_append, List.nil_append, decide_eq_true_eq, I, B, N0, S.l.injEq, S.d.injEq, Option.some.injEq, MO.lst.injEq, exists_eq_left', exists_and_left, mapM_d, Bool.false_eq_true, isTy, at_0, at_1, mapM_s, List.map_cons, List.map_nil, List.any_cons, List.any_nil, id_eq, Bool.or_false, Bool.not_true, Bool.not_false, ↓reduceIte, turn_nx, turn_ct, turn_bk, turn_rt, turn_ex, ty_m, Int.zero_add, d_nil, d_eq, rng_1, rng_2, b_int, b_intb, b_bool, b_boolb, b_lent, b_lenl, b_lenm, b_tupt, b_tupl, b_tupm, b_str, b_repr', b_abs, b_sum, b_all, b_any, b_max, b_min, ix_t, ix_l, ix_m, sl_t, sl_l, sl_m, ty_d, it_t, it_l, pd_d, c_eqb, c_neb, c_isN, c_isnN, isx_eq, xval_eq, true_and, and_true, List.append_nil, wipeS, tgSlots, tgSlotss, c_inT, c_inL, c_ninT, c_ninL, c_ltT, c_leT, c_gtT, c_geT, it_k, it_k0, ty_k, ty_k0, lo_1, to_1, to_2, beq_self_eq_true, sd_inj, da_nil, da_cons, da_map, Option.map_some, p_put, Nat.reduceAdd, Int.reduceEq, Int.reduceLT, Int.reduceLE, c_noneF, c_eqS, c_neS, eq_self, decide_true, decide_false, pints_len, itm_len, sz_0, sz_1, sz_2, sz_3, sz_4, sz_5, sz_6, sz_7, sz_8, int?_d, ok_of_d, ex_self, Nat.zero_add])
theorem lm_law_refused : ∀ p ∈ lib_law_refused, ∀ vs, Mono (p.2.2 vs) := by
  intro p hp
  simp only [lib_law_refused, List.mem_cons, List.not_mem_nil, or_false] at hp
  rcases hp with rfl | rfl
  · exact mo_is_web
  · exact mo_degrees
theorem mb_law_refused (s : Ss) : MonoS (wSs Γ_law_refused s) := mSs s _ (Lib.mo lm_law_refused)
theorem ck_law_refused : kSs b_law_refused ⟨N_law_refused, defScope s_law_refused, lib_law_refused.fs, kws, cs, hs, true⟩ (defBody s_law_refused) = true := by decide +kernel
theorem bd_law_refused : Bd "_law_refused" s_law_refused ["value", "points", "judge", "number"] := fun _ _ _ _ _ _ us hl => match us, hl with | [_, _, _, _], _ => rfl
theorem kb_law_refused : ∀ q ∈ kws, q.1 = "_law_refused" → BdK "_law_refused" s_law_refused ["value", "points", "judge", "number"] q.2.1 q.2.2 := by
  intro q hq e
  simp only [kws, List.mem_cons, List.not_mem_nil, or_false] at hq
  subst hq
  · exact absurd e (by decide)
def sp_law_refused : FSpec := fun vs M Q E => match vs with
  | [.d v, .d p, .d (.bool judge), .d (.bool number)] => (RpOk v ∧ (number = true → RpOk p) ∧ tupLen v ∧ ((number = true ∧ numOf p = none) ∨ (number = false ∧ judge = false ∧ ∃ i, numOf p = some i ∧ isWebD v i = false))) ∧ Q (B true) M
  | _ => False
theorem mo_law_refused : ∀ vs, Mono (sp_law_refused vs) := by
  intro vs M Q Q' X X' hq hx h
  unfold sp_law_refused at *
  split at h
  · exact ⟨h.1, hq _ _ h.2⟩
  · exact h
theorem w_law_refused : ∀ (ss : List S) (M : Mem) (Q : S → Mem → Prop) (E : Xc → Mem → Prop), ss.length = 4 → sp_law_refused ss M Q E → wSs Γ_law_refused b_law_refused (startS N_law_refused ss) M (exits M Q E) := by
  intro ss M Q E hl h
  unfold sp_law_refused at h
  split at h
  case h_2 => exact h.elim
  rename_i v p judge number
  obtain ⟨⟨h1, h2, h3, h4⟩, h⟩ := h
  rcases h4 with ⟨rfl, h4⟩ | ⟨rfl, rfl, i, h4, h5⟩
  · walk_at "law_refused"
    simp only [h4]
    refine ⟨h1, h2 rfl, ?_⟩
    split <;> exact ⟨h3, fun _ _ => by rw [if_neg (by decide)]; exact ⟨h2 rfl, ret_here h⟩⟩
  · walk_at "law_refused"
    simp only [h4, h5]
    refine ⟨h1, h3, ?_⟩
    rw [if_neg (by decide)]
    intro a dd
    rw [if_neg (by decide)]
    exact ⟨h1, ret_here h⟩
theorem k_law_refused {v p : PD} {judge number : Bool} {M : Mem} {Q : S → Mem → Prop} {E : Xc → Mem → Prop} : sp_law_refused [.d v, .d p, .d (.bool judge), .d (.bool number)] M Q E = ((RpOk v ∧ (number = true → RpOk p) ∧ tupLen v ∧ ((number = true ∧ numOf p = none) ∨ (number = false ∧ judge = false ∧ ∃ i, numOf p = some i ∧ isWebD v i = false))) ∧ Q (B true) M) := rfl
/-! law -/
abbrev s_law : Stmt := topS 21
def N_law : List Str := ["script", "points", "web", "value", "due", "changed", "right", "wrong", "other", "k", "pair"]
theorem sc_law : FnScope N_law ["script"] (defScope s_law) := ⟨rfl, rfl, rfl, by decide +kernel, rfl, by decide +kernel, by decide +kernel⟩
def b_law_1 : Ss := .cons (.cond (.or (.not (.call "_law_refused" (.cons (.var 8) (.cons (.var 7) (.cons (.cst (.bool true)) (.cons (.cst (.bool true)) .nil)))))) (.not (.call "_law_refused" (.cons (.var 8) (.cons (.var 7) (.cons (.cst (.bool false)) (.cons (.cst (.bool true)) .nil))))))) (.cons (.ret (.cst (.bool false))) .nil) (.nil)) .nil
def b_law_c13 : Ss := .cons (.loop (.nm 8) (.of (.fr (.disp (.cons (.var 3) (.cons (.var 5) .nil))))) b_law_1) (.cons (.ret (.cst (.bool true))) .nil)
def b_law_c12 : Ss := .cons (.asg (.nm 7) (.ix (.fr (.disp (.cons (.neg (.cst (.int 1))) (.cons (.cst .none) (.cons (.cst (.bool true)) (.cons (.cst (.bool false)) (.cons (.cst (.str "3")) (.cons (.tup (.nil)) (.cons (.fr (.disp (.cons (.cst (.int 3)) .nil))) (.cons (.neg (.cst (.int 7))) .nil)))))))))) (.bin .Mod (.call "_law_cell" (.cons (.var 0) (.cons (.cst (.int 5)) .nil))) (.cst (.int 8))))) (b_law_c13)
def b_law_c8 : Ss := .cons (.asg (.nm 6) (.call "_law_judged" (.cons (.var 5) (.cons (.var 1) .nil)))) (.cons (.cond (.or (.not (.call "_law_says" (.cons (.var 5) (.cons (.var 1) (.cons (.var 6) .nil))))) (.and (.not (.var 6)) (.not (.call "_law_refused" (.cons (.var 5) (.cons (.var 1) (.cons (.cst (.bool false)) (.cons (.cst (.bool false)) .nil)))))))) (.cons (.ret (.cst (.bool false))) .nil) (.nil)) (.cons (.cond (.and (.cmp .Gt (.var 1) (.cst (.int 0))) (.not (.call "_law_says" (.cons (.var 3) (.cons (.bin .Sub (.var 1) (.cst (.int 1))) (.cons (.call "_law_judged" (.cons (.var 3) (.cons (.bin .Sub (.var 1) (.cst (.int 1))) .nil))) .nil)))))) (.cons (.ret (.cst (.bool false))) .nil) (.nil)) (.cons (.cond (.and (.cmp .Lt (.var 1) (.cst (.int 30))) (.cmp .NotEq (.b1 .repr (.callK "degrees" (.nil) ["points", "web"] (.cons (.bin .Add (.var 1) (.cst (.int 1))) (.cons (.var 3) .nil)))) (.b1 .repr (.bin .Add (.var 4) (.tup (.cons (.cst (.int 0)) .nil)))))) (.cons (.ret (.cst (.bool false))) .nil) (.nil)) (b_law_c12))))
def b_law_c7 : Ss := .cons (.asg (.nm 5) (.call "_law_changed" (.cons (.var 2) (.cons (.var 1) (.cons (.bin .Mod (.call "_law_cell" (.cons (.var 0) (.cons (.cst (.int 3)) .nil))) (.cst (.int 16))) (.cons (.call "_law_cell" (.cons (.var 0) (.cons (.cst (.int 4)) .nil))) .nil)))))) (b_law_c8)
def b_law_c6 : Ss := .cons (.cond (.or (.cmp .NotEq (.b1 .repr (.call "degrees" (.cons (.var 3) (.cons (.var 1) .nil)))) (.b1 .repr (.var 4))) (.cmp .NotEq (.b1 .repr (.call "degrees" (.cons (.tup (.nil)) (.cons (.var 1) .nil)))) (.b1 .repr (.bin .Mult (.tup (.cons (.cst (.int 0)) .nil)) (.var 1))))) (.cons (.ret (.cst (.bool false))) .nil) (.nil)) (b_law_c7)
def b_law_c5 : Ss := .cons (.asg (.nm 4) (.b1 .tuple (.fr (.comp (.b1 .len (.fr (.comp (.var 10) (.nm 10) (.of (.var 2)) (.some (.cmp .In (.var 9) (.var 10)))))) (.nm 9) (.rng (.cons (.var 1) .nil)) .none)))) (b_law_c6)
def b_law_c3 : Ss := .cons (.asg (.nm 3) (.b1 .tuple (.var 2))) (.cons (.cond (.not (.call "_law_says" (.cons (.var 3) (.cons (.var 1) (.cons (.cst (.bool true)) .nil))))) (.cons (.ret (.cst (.bool false))) .nil) (.nil)) (b_law_c5))
def b_law_c2 : Ss := .cons (.asg (.nm 2) (.call "_law_drawn_web" (.cons (.call "_law_cell" (.cons (.var 0) (.cons (.cst (.int 2)) .nil))) (.cons (.var 1) (.cons (.ix (.fr (.disp (.cons (.cst (.int 1)) (.cons (.cst (.int 5)) (.cons (.cst (.int 9)) .nil))))) (.bin .Mod (.bin .FloorDiv (.call "_law_cell" (.cons (.var 0) (.cons (.cst (.int 1)) .nil))) (.cst (.int 3))) (.cst (.int 3)))) .nil))))) (b_law_c3)
def b_law : Ss := .cons (.asg (.nm 1) (.bin .Mod (.call "_law_cell" (.cons (.var 0) (.cons (.cst (.int 0)) .nil))) (.cst (.int 31)))) (.cons (.cond (.cmp .Eq (.bin .Mod (.call "_law_cell" (.cons (.var 0) (.cons (.cst (.int 1)) .nil))) (.cst (.int 3))) (.cst (.int 0))) (.cons (.asg (.nm 1) (.bin .Mod (.var 1) (.cst (.int 5)))) .nil) (.nil)) (b_law_c2))
theorem ub_law_1 : b_law_1 = .cons (.cond (.or (.not (.call "_law_refused" (.cons (.var 8) (.cons (.var 7) (.cons (.cst (.bool true)) (.cons (.cst (.bool true)) .nil)))))) (.not (.call "_law_refused" (.cons (.var 8) (.cons (.var 7) (.cons (.cst (.bool false)) (.cons (.cst (.bool true)) .nil))))))) (.cons (.ret (.cst (.bool false))) .nil) (.nil)) .nil := rfl
theorem ub_law_c13 : b_law_c13 = .cons (.loop (.nm 8) (.of (.fr (.disp (.cons (.var 3) (.cons (.var 5) .nil))))) b_law_1) (.cons (.ret (.cst (.bool true))) .nil) := rfl
theorem ub_law_c12 : b_law_c12 = .cons (.asg (.nm 7) (.ix (.fr (.disp (.cons (.neg (.cst (.int 1))) (.cons (.cst .none) (.cons (.cst (.bool true)) (.cons (.cst (.bool false)) (.cons (.cst (.str "3")) (.cons (.tup (.nil)) (.cons (.fr (.disp (.cons (.cst (.int 3)) .nil))) (.cons (.neg (.cst (.int 7))) .nil)))))))))) (.bin .Mod (.call "_law_cell" (.cons (.var 0) (.cons (.cst (.int 5)) .nil))) (.cst (.int 8))))) (b_law_c13) := rfl
theorem ub_law_c8 : b_law_c8 = .cons (.asg (.nm 6) (.call "_law_judged" (.cons (.var 5) (.cons (.var 1) .nil)))) (.cons (.cond (.or (.not (.call "_law_says" (.cons (.var 5) (.cons (.var 1) (.cons (.var 6) .nil))))) (.and (.not (.var 6)) (.not (.call "_law_refused" (.cons (.var 5) (.cons (.var 1) (.cons (.cst (.bool false)) (.cons (.cst (.bool false)) .nil)))))))) (.cons (.ret (.cst (.bool false))) .nil) (.nil)) (.cons (.cond (.and (.cmp .Gt (.var 1) (.cst (.int 0))) (.not (.call "_law_says" (.cons (.var 3) (.cons (.bin .Sub (.var 1) (.cst (.int 1))) (.cons (.call "_law_judged" (.cons (.var 3) (.cons (.bin .Sub (.var 1) (.cst (.int 1))) .nil))) .nil)))))) (.cons (.ret (.cst (.bool false))) .nil) (.nil)) (.cons (.cond (.and (.cmp .Lt (.var 1) (.cst (.int 30))) (.cmp .NotEq (.b1 .repr (.callK "degrees" (.nil) ["points", "web"] (.cons (.bin .Add (.var 1) (.cst (.int 1))) (.cons (.var 3) .nil)))) (.b1 .repr (.bin .Add (.var 4) (.tup (.cons (.cst (.int 0)) .nil)))))) (.cons (.ret (.cst (.bool false))) .nil) (.nil)) (b_law_c12)))) := rfl
theorem ub_law_c7 : b_law_c7 = .cons (.asg (.nm 5) (.call "_law_changed" (.cons (.var 2) (.cons (.var 1) (.cons (.bin .Mod (.call "_law_cell" (.cons (.var 0) (.cons (.cst (.int 3)) .nil))) (.cst (.int 16))) (.cons (.call "_law_cell" (.cons (.var 0) (.cons (.cst (.int 4)) .nil))) .nil)))))) (b_law_c8) := rfl
theorem ub_law_c6 : b_law_c6 = .cons (.cond (.or (.cmp .NotEq (.b1 .repr (.call "degrees" (.cons (.var 3) (.cons (.var 1) .nil)))) (.b1 .repr (.var 4))) (.cmp .NotEq (.b1 .repr (.call "degrees" (.cons (.tup (.nil)) (.cons (.var 1) .nil)))) (.b1 .repr (.bin .Mult (.tup (.cons (.cst (.int 0)) .nil)) (.var 1))))) (.cons (.ret (.cst (.bool false))) .nil) (.nil)) (b_law_c7) := rfl
theorem ub_law_c5 : b_law_c5 = .cons (.asg (.nm 4) (.b1 .tuple (.fr (.comp (.b1 .len (.fr (.comp (.var 10) (.nm 10) (.of (.var 2)) (.some (.cmp .In (.var 9) (.var 10)))))) (.nm 9) (.rng (.cons (.var 1) .nil)) .none)))) (b_law_c6) := rfl
theorem ub_law_c3 : b_law_c3 = .cons (.asg (.nm 3) (.b1 .tuple (.var 2))) (.cons (.cond (.not (.call "_law_says" (.cons (.var 3) (.cons (.var 1) (.cons (.cst (.bool true)) .nil))))) (.cons (.ret (.cst (.bool false))) .nil) (.nil)) (b_law_c5)) := rfl
theorem ub_law_c2 : b_law_c2 = .cons (.asg (.nm 2) (.call "_law_drawn_web" (.cons (.call "_law_cell" (.cons (.var 0) (.cons (.cst (.int 2)) .nil))) (.cons (.var 1) (.cons (.ix (.fr (.disp (.cons (.cst (.int 1)) (.cons (.cst (.int 5)) (.cons (.cst (.int 9)) .nil))))) (.bin .Mod (.bin .FloorDiv (.call "_law_cell" (.cons (.var 0) (.cons (.cst (.int 1)) .nil))) (.cst (.int 3))) (.cst (.int 3)))) .nil))))) (b_law_c3) := rfl
theorem ub_law : b_law = .cons (.asg (.nm 1) (.bin .Mod (.call "_law_cell" (.cons (.var 0) (.cons (.cst (.int 0)) .nil))) (.cst (.int 31)))) (.cons (.cond (.cmp .Eq (.bin .Mod (.call "_law_cell" (.cons (.var 0) (.cons (.cst (.int 1)) .nil))) (.cst (.int 3))) (.cst (.int 0))) (.cons (.asg (.nm 1) (.bin .Mod (.var 1) (.cst (.int 5)))) .nil) (.nil)) (b_law_c2)) := rfl
theorem st_law {x0 : S} : startS N_law [x0] = [some x0, none, none, none, none, none, none, none, none, none, none] := rfl
def lib_law : Lib := [("_law_drawn_web", ["cell", "points", "bound"], sp_law_drawn_web), ("_law_changed", ["web", "points", "way", "cell"], sp_law_changed), ("_law_judged", ["value", "points"], sp_law_judged), ("_law_cell", ["script", "k"], sp_law_cell), ("_law_says", ["value", "points", "due"], sp_law_says), ("degrees", ["web", "points"], sp_degrees), ("_law_refused", ["value", "points", "judge", "number"], sp_law_refused)]
abbrev Γ_law : G.Env := lib_law.env (MroF tab)
theorem Φ_law_law_drawn_web : Γ_law.Φ "_law_drawn_web" = some sp_law_drawn_web := by rfl
theorem φ_law_law_drawn_web {P : FSpec → Prop} : (∃ φ, Γ_law.Φ "_law_drawn_web" = some φ ∧ P φ) = P sp_law_drawn_web := by rw [Φ_law_law_drawn_web]; exact ex_self
theorem Φ_law_law_changed : Γ_law.Φ "_law_changed" = some sp_law_changed := by rfl
theorem φ_law_law_changed {P : FSpec → Prop} : (∃ φ, Γ_law.Φ "_law_changed" = some φ ∧ P φ) = P sp_law_changed := by rw [Φ_law_law_changed]; exact ex_self
theorem Φ_law_law_judged : Γ_law.Φ "_law_judged" = some sp_law_judged := by rfl
theorem φ_law_law_judged {P : FSpec → Prop} : (∃ φ, Γ_law.Φ "_law_judged" = some φ ∧ P φ) = P sp_law_judged := by rw [Φ_law_law_judged]; exact ex_self
theorem Φ_law_law_cell : Γ_law.Φ "_law_cell" = some sp_law_cell := by rfl
theorem φ_law_law_cell {P : FSpec → Prop} : (∃ φ, Γ_law.Φ "_law_cell" = some φ ∧ P φ) = P sp_law_cell := by rw [Φ_law_law_cell]; exact ex_self
theorem Φ_law_law_says : Γ_law.Φ "_law_says" = some sp_law_says := by rfl
theorem φ_law_law_says {P : FSpec → Prop} : (∃ φ, Γ_law.Φ "_law_says" = some φ ∧ P φ) = P sp_law_says := by rw [Φ_law_law_says]; exact ex_self
theorem Φ_law_degrees : Γ_law.Φ "degrees" = some sp_degrees := by rfl
theorem φ_law_degrees {P : FSpec → Prop} : (∃ φ, Γ_law.Φ "degrees" = some φ ∧ P φ) = P sp_degrees := by rw [Φ_law_degrees]; exact ex_self
theorem κ_law_degrees_0 {w0 w1 : S} {M : Mem} {Q : S → Mem → Prop} {X : Xc → Mem → Prop} : sp_degrees (([] : List S) ++ List.filterMap (fun p => List.lookup p ((["points", "web"] : List Str).zip [w0, w1])) (List.drop ([] : List S).length (Γ_law.ps "degrees"))) M Q X = sp_degrees [w1, w0] M Q X := by rfl
theorem ps_law_degrees : Γ_law.ps "degrees" = (["web", "points"] : List Str) := by rfl
theorem Φ_law_law_refused : Γ_law.Φ "_law_refused" = some sp_law_refused := by rfl
theorem φ_law_law_refused {P : FSpec → Prop} : (∃ φ, Γ_law.Φ "_law_refused" = some φ ∧ P φ) = P sp_law_refused := by rw [Φ_law_law_refused]; exact ex_self
local macro_rules | `(tactic| walk_at "law") => `(tactic| simp (maxSteps := 1000000) only [↓κ_law_degrees_0, ub_law, st_law, exits, Φ_law_law_drawn_web, Φ_law_law_changed, Φ_law_law_judged, Φ_law_law_cell, Φ_law_law_says, Φ_law_degrees, Φ_law_law_refused, ps_law_degrees, ↓φ_law_law_drawn_web, ↓φ_law_law_changed, ↓φ_law_law_judged, ↓φ_law_law_cell, ↓φ_law_law_says, ↓φ_law_degrees, ↓φ_law_law_refused, ↓k_law_drawn_web, ↓k_law_changed, ↓k_law_judged, ↓k_law_cell, ↓k_law_says, ↓k_degrees, ↓k_law_refused, ↓xv_0, ↓xv_S, ↓da_snoc, ↓da_app, ↓e_cst, ↓e_neg, ↓e_not, ↓e_and, ↓e_or, ↓e_ite, ↓e_bin, ↓e_cmp, ↓e_chain, ↓e_tup, ↓e_fr, ↓e_ddisp, ↓e_ix, ↓e_sl, ↓e_rev, ↓e_call, ↓e_callK, ↓e_b1, ↓e_b2, ↓e_isX, ↓e_xval, ↓e_get, ↓e_pop, ↓e_popAt, ↓e_index, ↓t_not, ↓t_and, ↓t_or, ↓a_nil, ↓a_cons, ↓o_none, ↓o_some, ↓c_none, ↓c_some, ↓f_disp, ↓f_comp, ↓f_comp2, ↓f_listOf, ↓i_of, ↓i_rng, ↓i_zip, ↓i_rev, ↓t_var, ↓t_cst, ↓t_neg, ↓t_ite, ↓t_bin, ↓t_cmp, ↓t_chain, ↓t_tup, ↓t_fr, ↓t_al, ↓t_ddisp, ↓t_ix, ↓t_sl, ↓t_rev, ↓t_call, ↓t_callK, ↓t_b1, ↓t_b2, ↓t_isI, ↓t_isX, ↓t_xval, ↓t_get, ↓t_pop, ↓t_popAt, ↓t_index, ↓s_asg, ↓s_setIx, ↓s_augIx, ↓s_expr, ↓s_ret, ↓s_retN, ↓s_cond, ↓s_loop, ↓s_whl, ↓s_raise, ↓s_tryX, ↓s_pass, ↓s_brk, ↓s_cont, ↓b_nil, ↓b_cons, ↓h_nil, ↓r_add, ↓r_sub, ↓r_mul, ↓r_div, ↓r_mod, ↓r_pow, ↓r_shl, ↓r_cat, ↓r_cats, ↓r_rep, ↓r_lt, ↓r_le, ↓r_gt, ↓r_ge, ↓r_eqI, ↓r_neI, ↓r_augA, ↓r_augS, ↓r_augM, ↓tg_tpt, ↓tg_tpm, ↓tgs_nil, ↓tgs_cons, ↓turn_nx, ↓turn_ct, ↓turn_bk, ↓turn_rt, ↓turn_ex, ↓d_nil, ↓d_eq, ↓rng_1, ↓rng_2, ↓b_int, ↓b_intb, ↓b_bool, ↓b_boolb, ↓b_lent, ↓b_lenl, ↓b_tupt, ↓b_tupl, ↓b_str, ↓b_repr', ↓xp_d, ↓b_abs, ↓b_sum, ↓b_all, ↓b_any, ↓b_max, ↓b_min, ↓ix_t, ↓ix_l, ↓sl_t, ↓sl_l, ↓c_eqb, ↓c_neb, ↓c_isN, ↓c_isnN, ↓isx_eq, ↓xval_eq, ↓c_inT, ↓c_inL, ↓c_ninT, ↓c_ninL, ↓c_ltT, ↓c_leT, ↓c_gtT, ↓c_geT, ↓c_eqS, ↓c_neS, ↓b_lenm, ↓v_0, ↓v_S, ↓n_0, ↓n_S, ↓un_0, ↓un_S, ↓s_aug', ↓s_par', ↓h_cons', ↓xl_k, ↓xl_0, ↓xl_S, ↓xl_z, ↓md_k, ↓md_0, ↓mm_0, ↓mm_S, ↓nw_1, ↓nw_2, ↓nw_3, ↓nw_4, ↓nw_5, ↓e_al', ↓ix_m', ↓b_tupm', ↓sl_m', ↓ex_map, ↓ap_l, ↓s_app', ↓xt_l, ↓s_ext', ↓in_l, ↓s_ins', ↓p_put', ↓wt_d, ↓wt_k, ↓wt_k0, ↓to_S, ↓to_z, ↓e_isI1, ↓e_isI2, ↓ex_tb, ↓ex_ti, ↓ex_tn, ↓ex_tt, ↓ex_tl, ↓ex_i, ↓ex_B, ↓xd_nil, ↓xd_cons, ↓xd_map, ↓xi_t, ↓xi_l, ↓xi_m, ↓f_cat', ↓f_rep', ↓f_slice', ↓i_enum', nw_0, e_var, e_cst, e_neg, e_not, e_and, e_or, e_ite, e_bin, e_cmp, e_chain, e_tup, e_fr, e_al, e_ddisp, e_ix, e_sl, e_rev, e_call, e_callK, e_b1, e_b2, e_isI, e_isX, e_xval, e_get, e_pop, e_popAt, e_index, t_not, t_and, t_or, a_nil, a_cons, o_none, o_some, c_none, c_some, f_disp, f_comp, f_comp2, f_listOf, f_cat, f_rep, f_slice, i_of, i_rng, i_enum, i_zip, i_rev, t_var, t_cst, t_neg, t_ite, t_bin, t_cmp, t_chain, t_tup, t_fr, t_al, t_ddisp, t_ix, t_sl, t_rev, t_call, t_callK, t_b1, t_b2, t_isI, t_isX, t_xval, t_get, t_pop, t_popAt, t_index, s_asg, s_setIx, s_par, s_aug, s_augIx, s_expr, s_app, s_ext, s_ins, s_ret, s_retN, s_cond, s_loop, s_whl, s_raise, s_tryX, s_pass, s_brk, s_cont, b_nil, b_cons, h_nil, h_cons, r_add, r_sub, r_mul, r_div, r_mod, r_pow, r_shl, r_cat, r_cats, r_rep, r_lt, r_le, r_gt, r_ge, r_eqI, r_neI, tr_bool, tr_int, tr_none, tr_tuple, tr_list, r_augA, r_augS, r_augM, m_get, m_get0, m_set, m_set0, ex_v, ex_k, ex_lst, tg_nm, tg_tpt, tg_tpm, tgs_nil, tgs_cons, tgAt_eq, List.getElem?_cons_succ, List.getElem?_cons_zero, List.set_cons_succ, List.set_cons_zero, List.length_append, List.length_cons, List.length_nil, List.append_assoc, List.cons_append, List.nil_append, decide_eq_true_eq, I, B, N0, S.l.injEq, S.d.injEq, Option.some.injEq, MO.lst.injEq, exists_eq_left', exists_and_left, mapM_d, Bool.false_eq_true, isTy, at_0, at_1, mapM_s, List.map_cons, List.map_nil, List.any_cons, List.any_nil, id_eq, Bool.or_false, Bool.not_true, Bool.not_false, ↓reduceIte, turn_nx, turn_ct, turn_bk, turn_rt, turn_ex, ty_m, Int.zero_add, d_nil, d_eq, rng_1, rng_2, b_int, b_intb, b_bool, b_boolb, b_lent, b_lenl, b_lenm, b_tupt, b_tupl, b_tupm, b_str, b_repr', b_abs, b_sum, b_all, b_any, b_max, b_min, ix_t, ix_l, ix_m, sl_t, sl_l, sl_m, ty_d, it_t, it_l, pd_d, c_eqb, c_neb, c_isN, c_isnN, isx_eq, xval_eq, true_and, and_true, List.append_nil, wipeS, tgSlots, tgSlotss, c_inT, c_inL, c_ninT, c_ninL, c_ltT, c_leT, c_gtT, c_geT, it_k, it_k0, ty_k, ty_k0, lo_1, to_1, to_2, beq_self_eq_true, sd_inj, da_nil, da_cons, da_map, Option.map_some, p_put, Nat.reduceAdd, Int.reduceEq, Int.reduceLT, Int.reduceLE, c_noneF, c_eqS, c_neS, eq_self, decide_true, decide_false, pints_len, itm_len, sz_0, sz_1, sz_2, sz_3, sz_4, sz_5, sz_6, sz_7, sz_8, int?_d, ok_of_d, ex_self, Nat.zero_add])
local macro_rules | `(tactic| walk_at "law!1") => `(tactic| simp (maxSteps := 1000000) only [↓$(Lean.mkIdent `hx1):ident, ↓κ_law_degrees_0, ub_law, st_law, exits, Φ_law_law_drawn_web, Φ_law_law_changed, Φ_law_law_judged, Φ_law_law_cell, Φ_law_law_says, Φ_law_degrees, Φ_law_law_refused, ps_law_degrees, ↓φ_law_law_drawn_web, ↓φ_law_law_changed, ↓φ_law_law_judged, ↓φ_law_law_cell, ↓φ_law_law_says, ↓φ_law_degrees, ↓φ_law_law_refused, ↓k_law_drawn_web, ↓k_law_changed, ↓k_law_judged, ↓k_law_cell, ↓k_law_says, ↓k_degrees, ↓k_law_refused, ↓xv_0, ↓xv_S, ↓da_snoc, ↓da_app, ↓e_cst, ↓e_neg, ↓e_not, ↓e_and, ↓e_or, ↓e_ite, ↓e_bin, ↓e_cmp, ↓e_chain, ↓e_tup, ↓e_fr, ↓e_ddisp, ↓e_ix, ↓e_sl, ↓e_rev, ↓e_call, ↓e_callK, ↓e_b1, ↓e_b2, ↓e_isX, ↓e_xval, ↓e_get, ↓e_pop, ↓e_popAt, ↓e_index, ↓t_not, ↓t_and, ↓t_or, ↓a_nil, ↓a_cons, ↓o_none, ↓o_some, ↓c_none, ↓c_some, ↓f_disp, ↓f_comp, ↓f_comp2, ↓f_listOf, ↓i_of, ↓i_rng, ↓i_zip, ↓i_rev, ↓t_var, ↓t_cst, ↓t_neg, ↓t_ite, ↓t_bin, ↓t_cmp, ↓t_chain, ↓t_tup, ↓t_fr, ↓t_al, ↓t_ddisp, ↓t_ix, ↓t_sl, ↓t_rev, ↓t_call, ↓t_callK, ↓t_b1, ↓t_b2, ↓t_isI, ↓t_isX, ↓t_xval, ↓t_get, ↓t_pop, ↓t_popAt, ↓t_index, ↓s_asg, ↓s_setIx, ↓s_augIx, ↓s_expr, ↓s_ret, ↓s_retN, ↓s_cond, ↓s_loop, ↓s_whl, ↓s_raise, ↓s_tryX, ↓s_pass, ↓s_brk, ↓s_cont, ↓b_nil, ↓b_cons, ↓h_nil, ↓r_add, ↓r_sub, ↓r_mul, ↓r_div, ↓r_mod, ↓r_pow, ↓r_shl, ↓r_cat, ↓r_cats, ↓r_rep, ↓r_lt, ↓r_le, ↓r_gt, ↓r_ge, ↓r_eqI, ↓r_neI, ↓r_augA, ↓r_augS, ↓r_augM, ↓tg_tpt, ↓tg_tpm, ↓tgs_nil, ↓tgs_cons, ↓turn_nx, ↓turn_ct, ↓turn_bk, ↓turn_rt, ↓turn_ex, ↓d_nil, ↓d_eq, ↓rng_1, ↓rng_2, ↓b_int, ↓b_intb, ↓b_bool, ↓b_boolb, ↓b_lent, ↓b_lenl, ↓b_tupt, ↓b_tupl, ↓b_str, ↓b_repr', ↓xp_d, ↓b_abs, ↓b_sum, ↓b_all, ↓b_any, ↓b_max, ↓b_min, ↓ix_t, ↓ix_l, ↓sl_t, ↓sl_l, ↓c_eqb, ↓c_neb, ↓c_isN, ↓c_isnN, ↓isx_eq, ↓xval_eq, ↓c_inT, ↓c_inL, ↓c_ninT, ↓c_ninL, ↓c_ltT, ↓c_leT, ↓c_gtT, ↓c_geT, ↓c_eqS, ↓c_neS, ↓b_lenm, ↓v_0, ↓v_S, ↓n_0, ↓n_S, ↓un_0, ↓un_S, ↓s_aug', ↓s_par', ↓h_cons', ↓xl_k, ↓xl_0, ↓xl_S, ↓xl_z, ↓md_k, ↓md_0, ↓mm_0, ↓mm_S, ↓nw_1, ↓nw_2, ↓nw_3, ↓nw_4, ↓nw_5, ↓e_al', ↓ix_m', ↓b_tupm', ↓sl_m', ↓ex_map, ↓ap_l, ↓s_app', ↓xt_l, ↓s_ext', ↓in_l, ↓s_ins', ↓p_put', ↓wt_d, ↓wt_k, ↓wt_k0, ↓to_S, ↓to_z, ↓e_isI1, ↓e_isI2, ↓ex_tb, ↓ex_ti, ↓ex_tn, ↓ex_tt, ↓ex_tl, ↓ex_i, ↓ex_B, ↓xd_nil, ↓xd_cons, ↓xd_map, ↓xi_t, ↓xi_l, ↓xi_m, ↓f_cat', ↓f_rep', ↓f_slice', ↓i_enum', nw_0, e_var, e_cst, e_neg, e_not, e_and, e_or, e_ite, e_bin, e_cmp, e_chain, e_tup, e_fr, e_al, e_ddisp, e_ix, e_sl, e_rev, e_call, e_callK, e_b1, e_b2, e_isI, e_isX, e_xval, e_get, e_pop, e_popAt, e_index, t_not, t_and, t_or, a_nil, a_cons, o_none, o_some, c_none, c_some, f_disp, f_comp, f_comp2, f_listOf, f_cat, f_rep, f_slice, i_of, i_rng, i_enum, i_zip, i_rev, t_var, t_cst, t_neg, t_ite, t_bin, t_cmp, t_chain, t_tup, t_fr, t_al, t_ddisp, t_ix, t_sl, t_rev, t_call, t_callK, t_b1, t_b2, t_isI, t_isX, t_xval, t_get, t_pop, t_popAt, t_index, s_asg, s_setIx, s_par, s_aug, s_augIx, s_expr, s_app, s_ext, s_ins, s_ret, s_retN, s_cond, s_loop, s_whl, s_raise, s_tryX, s_pass, s_brk, s_cont, b_nil, b_cons, h_nil, h_cons, r_add, r_sub, r_mul, r_div, r_mod, r_pow, r_shl, r_cat, r_cats, r_rep, r_lt, r_le, r_gt, r_ge, r_eqI, r_neI, tr_bool, tr_int, tr_none, tr_tuple, tr_list, r_augA, r_augS, r_augM, m_get, m_get0, m_set, m_set0, ex_v, ex_k, ex_lst, tg_nm, tg_tpt, tg_tpm, tgs_nil, tgs_cons, tgAt_eq, List.getElem?_cons_succ, List.getElem?_cons_zero, List.set_cons_succ, List.set_cons_zero, List.length_append, List.length_cons, List.length_nil, List.append_assoc, List.cons_append, List.nil_append, decide_eq_true_eq, I, B, N0, S.l.injEq, S.d.injEq, Option.some.injEq, MO.lst.injEq, exists_eq_left', exists_and_left, mapM_d, Bool.false_eq_true, isTy, at_0, at_1, mapM_s, List.map_cons, List.map_nil, List.any_cons, List.any_nil, id_eq, Bool.or_false, Bool.not_true, Bool.not_false, ↓reduceIte, turn_nx, turn_ct, turn_bk, turn_rt, turn_ex, ty_m, Int.zero_add, d_nil, d_eq, rng_1, rng_2, b_int, b_intb, b_bool, b_boolb, b_lent, b_lenl, b_lenm, b_tupt, b_tupl, b_tupm, b_str, b_repr', b_abs, b_sum, b_all, b_any, b_max, b_min, ix_t, ix_l, ix_m, sl_t, sl_l, sl_m, ty_d, it_t, it_l, pd_d, c_eqb, c_neb, c_isN, c_isnN, isx_eq, xval_eq, true_and, and_true, List.append_nil, wipeS, tgSlots, tgSlotss, c_inT, c_inL, c_ninT, c_ninL, c_ltT, c_leT, c_gtT, c_geT, it_k, it_k0, ty_k, ty_k0, lo_1, to_1, to_2, beq_self_eq_true, sd_inj, da_nil, da_cons, da_map, Option.map_some, p_put, Nat.reduceAdd, Int.reduceEq, Int.reduceLT, Int.reduceLE, c_noneF, c_eqS, c_neS, eq_self, decide_true, decide_false, pints_len, itm_len, sz_0, sz_1, sz_2, sz_3, sz_4, sz_5, sz_6, sz_7, sz_8, int?_d, ok_of_d, ex_self, Nat.zero_add])
local macro_rules | `(tactic| walk_at "law!2") => `(tactic| simp (maxSteps := 1000000) only [↓$(Lean.mkIdent `hx1):ident, ↓$(Lean.mkIdent `hx2):ident, ↓κ_law_degrees_0, ub_law, st_law, exits, Φ_law_law_drawn_web, Φ_law_law_changed, Φ_law_law_judged, Φ_law_law_cell, Φ_law_law_says, Φ_law_degrees, Φ_law_law_refused, ps_law_degrees, ↓φ_law_law_drawn_web, ↓φ_law_law_changed, ↓φ_law_law_judged, ↓φ_law_law_cell, ↓φ_law_law_says, ↓φ_law_degrees, ↓φ_law_law_refused, ↓k_law_drawn_web, ↓k_law_changed, ↓k_law_judged, ↓k_law_cell, ↓k_law_says, ↓k_degrees, ↓k_law_refused, ↓xv_0, ↓xv_S, ↓da_snoc, ↓da_app, ↓e_cst, ↓e_neg, ↓e_not, ↓e_and, ↓e_or, ↓e_ite, ↓e_bin, ↓e_cmp, ↓e_chain, ↓e_tup, ↓e_fr, ↓e_ddisp, ↓e_ix, ↓e_sl, ↓e_rev, ↓e_call, ↓e_callK, ↓e_b1, ↓e_b2, ↓e_isX, ↓e_xval, ↓e_get, ↓e_pop, ↓e_popAt, ↓e_index, ↓t_not, ↓t_and, ↓t_or, ↓a_nil, ↓a_cons, ↓o_none, ↓o_some, ↓c_none, ↓c_some, ↓f_disp, ↓f_comp, ↓f_comp2, ↓f_listOf, ↓i_of, ↓i_rng, ↓i_zip, ↓i_rev, ↓t_var, ↓t_cst, ↓t_neg, ↓t_ite, ↓t_bin, ↓t_cmp, ↓t_chain, ↓t_tup, ↓t_fr, ↓t_al, ↓t_ddisp, ↓t_ix, ↓t_sl, ↓t_rev, ↓t_call, ↓t_callK, ↓t_b1, ↓t_b2, ↓t_isI, ↓t_isX, ↓t_xval, ↓t_get, ↓t_pop, ↓t_popAt, ↓t_index, ↓s_asg, ↓s_setIx, ↓s_augIx, ↓s_expr, ↓s_ret, ↓s_retN, ↓s_cond, ↓s_loop, ↓s_whl, ↓s_raise, ↓s_tryX, ↓s_pass, ↓s_brk, ↓s_cont, ↓b_nil, ↓b_cons, ↓h_nil, ↓r_add, ↓r_sub, ↓r_mul, ↓r_div, ↓r_mod, ↓r_pow, ↓r_shl, ↓r_cat, ↓r_cats, ↓r_rep, ↓r_lt, ↓r_le, ↓r_gt, ↓r_ge, ↓r_eqI, ↓r_neI, ↓r_augA, ↓r_augS, ↓r_augM, ↓tg_tpt, ↓tg_tpm, ↓tgs_nil, ↓tgs_cons, ↓turn_nx, ↓turn_ct, ↓turn_bk, ↓turn_rt, ↓turn_ex, ↓d_nil, ↓d_eq, ↓rng_1, ↓rng_2, ↓b_int, ↓b_intb, ↓b_bool, ↓b_boolb, ↓b_lent, ↓b_lenl, ↓b_tupt, ↓b_tupl, ↓b_str, ↓b_repr', ↓xp_d, ↓b_abs, ↓b_sum, ↓b_all, ↓b_any, ↓b_max, ↓b_min, ↓ix_t, ↓ix_l, ↓sl_t, ↓sl_l, ↓c_eqb, ↓c_neb, ↓c_isN, ↓c_isnN, ↓isx_eq, ↓xval_eq, ↓c_inT, ↓c_inL, ↓c_ninT, ↓c_ninL, ↓c_ltT, ↓c_leT, ↓c_gtT, ↓c_geT, ↓c_eqS, ↓c_neS, ↓b_lenm, ↓v_0, ↓v_S, ↓n_0, ↓n_S, ↓un_0, ↓un_S, ↓s_aug', ↓s_par', ↓h_cons', ↓xl_k, ↓xl_0, ↓xl_S, ↓xl_z, ↓md_k, ↓md_0, ↓mm_0, ↓mm_S, ↓nw_1, ↓nw_2, ↓nw_3, ↓nw_4, ↓nw_5, ↓e_al', ↓ix_m', ↓b_tupm', ↓sl_m', ↓ex_map, ↓ap_l, ↓s_app', ↓xt_l, ↓s_ext', ↓in_l, ↓s_ins', ↓p_put', ↓wt_d, ↓wt_k, ↓wt_k0, ↓to_S, ↓to_z, ↓e_isI1, ↓e_isI2, ↓ex_tb, ↓ex_ti, ↓ex_tn, ↓ex_tt, ↓ex_tl, ↓ex_i, ↓ex_B, ↓xd_nil, ↓xd_cons, ↓xd_map, ↓xi_t, ↓xi_l, ↓xi_m, ↓f_cat', ↓f_rep', ↓f_slice', ↓i_enum', nw_0, e_var, e_cst, e_neg, e_not, e_and, e_or, e_ite, e_bin, e_cmp, e_chain, e_tup, e_fr, e_al, e_ddisp, e_ix, e_sl, e_rev, e_call, e_callK, e_b1, e_b2, e_isI, e_isX, e_xval, e_get, e_pop, e_popAt, e_index, t_not, t_and, t_or, a_nil, a_cons, o_none, o_some, c_none, c_some, f_disp, f_comp, f_comp2, f_listOf, f_cat, f_rep, f_slice, i_of, i_rng, i_enum, i_zip, i_rev, t_var, t_cst, t_neg, t_ite, t_bin, t_cmp, t_chain, t_tup, t_fr, t_al, t_ddisp, t_ix, t_sl, t_rev, t_call, t_callK, t_b1, t_b2, t_isI, t_isX, t_xval, t_get, t_pop, t_popAt, t_index, s_asg, s_setIx, s_par, s_aug, s_augIx, s_expr, s_app, s_ext, s_ins, s_ret, s_retN, s_cond, s_loop, s_whl, s_raise, s_tryX, s_pass, s_brk, s_cont, b_nil, b_cons, h_nil, h_cons, r_add, r_sub, r_mul, r_div, r_mod, r_pow, r_shl, r_cat, r_cats, r_rep, r_lt, r_le, r_gt, r_ge, r_eqI, r_neI, tr_bool, tr_int, tr_none, tr_tuple, tr_list, r_augA, r_augS, r_augM, m_get, m_get0, m_set, m_set0, ex_v, ex_k, ex_lst, tg_nm, tg_tpt, tg_tpm, tgs_nil, tgs_cons, tgAt_eq, List.getElem?_cons_succ, List.getElem?_cons_zero, List.set_cons_succ, List.set_cons_zero, List.length_append, List.length_cons, List.length_nil, List.append_assoc, List.cons_append, List.nil_append, decide_eq_true_eq, I, B, N0, S.l.injEq, S.d.injEq, Option.some.injEq, MO.lst.injEq, exists_eq_left', exists_and_left, mapM_d, Bool.false_eq_true, isTy, at_0, at_1, mapM_s, List.map_cons, List.map_nil, List.any_cons, List.any_nil, id_eq, Bool.or_false, Bool.not_true, Bool.not_false, ↓reduceIte, turn_nx, turn_ct, turn_bk, turn_rt, turn_ex, ty_m, Int.zero_add, d_nil, d_eq, rng_1, rng_2, b_int, b_intb, b_bool, b_boolb, b_lent, b_lenl, b_lenm, b_tupt, b_tupl, b_tupm, b_str, b_repr', b_abs, b_sum, b_all, b_any, b_max, b_min, ix_t, ix_l, ix_m, sl_t, sl_l, sl_m, ty_d, it_t, it_l, pd_d, c_eqb, c_neb, c_isN, c_isnN, isx_eq, xval_eq, true_and, and_true, List.append_nil, wipeS, tgSlots, tgSlotss, c_inT, c_inL, c_ninT, c_ninL, c_ltT, c_leT, c_gtT, c_geT, it_k, it_k0, ty_k, ty_k0, lo_1, to_1, to_2, beq_self_eq_true, sd_inj, da_nil, da_cons, da_map, Option.map_some, p_put, Nat.reduceAdd, Int.reduceEq, Int.reduceLT, Int.reduceLE, c_noneF, c_eqS, c_neS, eq_self, decide_true, decide_false, pints_len, itm_len, sz_0, sz_1, sz_2, sz_3, sz_4, sz_5, sz_6, sz_7, sz_8, int?_d, ok_of_d, ex_self, Nat.zero_add])
local macro_rules | `(tactic| walk_at "law!5") => `(tactic| simp (maxSteps := 1000000) only [↓$(Lean.mkIdent `hx1):ident, ↓$(Lean.mkIdent `hx2):ident, ↓$(Lean.mkIdent `hx3):ident, ↓$(Lean.mkIdent `hx4):ident, ↓$(Lean.mkIdent `hx5):ident, ↓κ_law_degrees_0, ub_law, st_law, exits, Φ_law_law_drawn_web, Φ_law_law_changed, Φ_law_law_judged, Φ_law_law_cell, Φ_law_law_says, Φ_law_degrees, Φ_law_law_refused, ps_law_degrees, ↓φ_law_law_drawn_web, ↓φ_law_law_changed, ↓φ_law_law_judged, ↓φ_law_law_cell, ↓φ_law_law_says, ↓φ_law_degrees, ↓φ_law_law_refused, ↓k_law_drawn_web, ↓k_law_changed, ↓k_law_judged, ↓k_law_cell, ↓k_law_says, ↓k_degrees, ↓k_law_refused, ↓xv_0, ↓xv_S, ↓da_snoc, ↓da_app, ↓e_cst, ↓e_neg, ↓e_not, ↓e_and, ↓e_or, ↓e_ite, ↓e_bin, ↓e_cmp, ↓e_chain, ↓e_tup, ↓e_fr, ↓e_ddisp, ↓e_ix, ↓e_sl, ↓e_rev, ↓e_call, ↓e_callK, ↓e_b1, ↓e_b2, ↓e_isX, ↓e_xval, ↓e_get, ↓e_pop, ↓e_popAt, ↓e_index, ↓t_not, ↓t_and, ↓t_or, ↓a_nil, ↓a_cons, ↓o_none, ↓o_some, ↓c_none, ↓c_some, ↓f_disp, ↓f_comp, ↓f_comp2, ↓f_listOf, ↓i_of, ↓i_rng, ↓i_zip, ↓i_rev, ↓t_var, ↓t_cst, ↓t_neg, ↓t_ite, ↓t_bin, ↓t_cmp, ↓t_chain, ↓t_tup, ↓t_fr, ↓t_al, ↓t_ddisp, ↓t_ix, ↓t_sl, ↓t_rev, ↓t_call, ↓t_callK, ↓t_b1, ↓t_b2, ↓t_isI, ↓t_isX, ↓t_xval, ↓t_get, ↓t_pop, ↓t_popAt, ↓t_index, ↓s_asg, ↓s_setIx, ↓s_augIx, ↓s_expr, ↓s_ret, ↓s_retN, ↓s_cond, ↓s_loop, ↓s_whl, ↓s_raise, ↓s_tryX, ↓s_pass, ↓s_brk, ↓s_cont, ↓b_nil, ↓b_cons, ↓h_nil, ↓r_add, ↓r_sub, ↓r_mul, ↓r_div, ↓r_mod, ↓r_pow, ↓r_shl, ↓r_cat, ↓r_cats, ↓r_rep, ↓r_lt, ↓r_le, ↓r_gt, ↓r_ge, ↓r_eqI, ↓r_neI, ↓r_augA, ↓r_augS, ↓r_augM, ↓tg_tpt, ↓tg_tpm, ↓tgs_nil, ↓tgs_cons, ↓turn_nx, ↓turn_ct, ↓turn_bk, ↓turn_rt, ↓turn_ex, ↓d_nil, ↓d_eq, ↓rng_1, ↓rng_2, ↓b_int, ↓b_intb, ↓b_bool, ↓b_boolb, ↓b_lent, ↓b_lenl, ↓b_tupt, ↓b_tupl, ↓b_str, ↓b_repr', ↓xp_d, ↓b_abs, ↓b_sum, ↓b_all, ↓b_any, ↓b_max, ↓b_min, ↓ix_t, ↓ix_l, ↓sl_t, ↓sl_l, ↓c_eqb, ↓c_neb, ↓c_isN, ↓c_isnN, ↓isx_eq, ↓xval_eq, ↓c_inT, ↓c_inL, ↓c_ninT, ↓c_ninL, ↓c_ltT, ↓c_leT, ↓c_gtT, ↓c_geT, ↓c_eqS, ↓c_neS, ↓b_lenm, ↓v_0, ↓v_S, ↓n_0, ↓n_S, ↓un_0, ↓un_S, ↓s_aug', ↓s_par', ↓h_cons', ↓xl_k, ↓xl_0, ↓xl_S, ↓xl_z, ↓md_k, ↓md_0, ↓mm_0, ↓mm_S, ↓nw_1, ↓nw_2, ↓nw_3, ↓nw_4, ↓nw_5, ↓e_al', ↓ix_m', ↓b_tupm', ↓sl_m', ↓ex_map, ↓ap_l, ↓s_app', ↓xt_l, ↓s_ext', ↓in_l, ↓s_ins', ↓p_put', ↓wt_d, ↓wt_k, ↓wt_k0, ↓to_S, ↓to_z, ↓e_isI1, ↓e_isI2, ↓ex_tb, ↓ex_ti, ↓ex_tn, ↓ex_tt, ↓ex_tl, ↓ex_i, ↓ex_B, ↓xd_nil, ↓xd_cons, ↓xd_map, ↓xi_t, ↓xi_l, ↓xi_m, ↓f_cat', ↓f_rep', ↓f_slice', ↓i_enum', nw_0, e_var, e_cst, e_neg, e_not, e_and, e_or, e_ite, e_bin, e_cmp, e_chain, e_tup, e_fr, e_al, e_ddisp, e_ix, e_sl, e_rev, e_call, e_callK, e_b1, e_b2, e_isI, e_isX, e_xval, e_get, e_pop, e_popAt, e_index, t_not, t_and, t_or, a_nil, a_cons, o_none, o_some, c_none, c_some, f_disp, f_comp, f_comp2, f_listOf, f_cat, f_rep, f_slice, i_of, i_rng, i_enum, i_zip, i_rev, t_var, t_cst, t_neg, t_ite, t_bin, t_cmp, t_chain, t_tup, t_fr, t_al, t_ddisp, t_ix, t_sl, t_rev, t_call, t_callK, t_b1, t_b2, t_isI, t_isX, t_xval, t_get, t_pop, t_popAt, t_index, s_asg, s_setIx, s_par, s_aug, s_augIx, s_expr, s_app, s_ext, s_ins, s_ret, s_retN, s_cond, s_loop, s_whl, s_raise, s_tryX, s_pass, s_brk, s_cont, b_nil, b_cons, h_nil, h_cons, r_add, r_sub, r_mul, r_div, r_mod, r_pow, r_shl, r_cat, r_cats, r_rep, r_lt, r_le, r_gt, r_ge, r_eqI, r_neI, tr_bool, tr_int, tr_none, tr_tuple, tr_list, r_augA, r_augS, r_augM, m_get, m_get0, m_set, m_set0, ex_v, ex_k, ex_lst, tg_nm, tg_tpt, tg_tpm, tgs_nil, tgs_cons, tgAt_eq, List.getElem?_cons_succ, List.getElem?_cons_zero, List.set_cons_succ, List.set_cons_zero, List.length_append, List.length_cons, List.length_nil, List.append_assoc, List.cons_append, List.nil_append, decide_eq_true_eq, I, B, N0, S.l.injEq, S.d.injEq, Option.some.injEq, MO.lst.injEq, exists_eq_left', exists_and_left, mapM_d, Bool.false_eq_true, isTy, at_0, at_1, mapM_s, List.map_cons, List.map_nil, List.any_cons, List.any_nil, id_eq, Bool.or_false, Bool.not_true, Bool.not_false, ↓reduceIte, turn_nx, turn_ct, turn_bk, turn_rt, turn_ex, ty_m, Int.zero_add, d_nil, d_eq, rng_1, rng_2, b_int, b_intb, b_bool, b_boolb, b_lent, b_lenl, b_lenm, b_tupt, b_tupl, b_tupm, b_str, b_repr', b_abs, b_sum, b_all, b_any, b_max, b_min, ix_t, ix_l, ix_m, sl_t, sl_l, sl_m, ty_d, it_t, it_l, pd_d, c_eqb, c_neb, c_isN, c_isnN, isx_eq, xval_eq, true_and, and_true, List.append_nil, wipeS, tgSlots, tgSlotss, c_inT, c_inL, c_ninT, c_ninL, c_ltT, c_leT, c_gtT, c_geT, it_k, it_k0, ty_k, ty_k0, lo_1, to_1, to_2, beq_self_eq_true, sd_inj, da_nil, da_cons, da_map, Option.map_some, p_put, Nat.reduceAdd, Int.reduceEq, Int.reduceLT, Int.reduceLE, c_noneF, c_eqS, c_neS, eq_self, decide_true, decide_false, pints_len, itm_len, sz_0, sz_1, sz_2, sz_3, sz_4, sz_5, sz_6, sz_7, sz_8, int?_d, ok_of_d, ex_self, Nat.zero_add])
local macro_rules | `(tactic| walk_at "law!6") => `(tactic| simp (maxSteps := 1000000) only [↓$(Lean.mkIdent `hx1):ident, ↓$(Lean.mkIdent `hx2):ident, ↓$(Lean.mkIdent `hx3):ident, ↓$(Lean.mkIdent `hx4):ident, ↓$(Lean.mkIdent `hx5):ident, ↓$(Lean.mkIdent `hx6):ident, ↓κ_law_degrees_0, ub_law, st_law, exits, Φ_law_law_drawn_web, Φ_law_law_changed, Φ_law_law_judged, Φ_law_law_cell, Φ_law_law_says, Φ_law_degrees, Φ_law_law_refused, ps_law_degrees, ↓φ_law_law_drawn_web, ↓φ_law_law_changed, ↓φ_law_law_judged, ↓φ_law_law_cell, ↓φ_law_law_says, ↓φ_law_degrees, ↓φ_law_law_refused, ↓k_law_drawn_web, ↓k_law_changed, ↓k_law_judged, ↓k_law_cell, ↓k_law_says, ↓k_degrees, ↓k_law_refused, ↓xv_0, ↓xv_S, ↓da_snoc, ↓da_app, ↓e_cst, ↓e_neg, ↓e_not, ↓e_and, ↓e_or, ↓e_ite, ↓e_bin, ↓e_cmp, ↓e_chain, ↓e_tup, ↓e_fr, ↓e_ddisp, ↓e_ix, ↓e_sl, ↓e_rev, ↓e_call, ↓e_callK, ↓e_b1, ↓e_b2, ↓e_isX, ↓e_xval, ↓e_get, ↓e_pop, ↓e_popAt, ↓e_index, ↓t_not, ↓t_and, ↓t_or, ↓a_nil, ↓a_cons, ↓o_none, ↓o_some, ↓c_none, ↓c_some, ↓f_disp, ↓f_comp, ↓f_comp2, ↓f_listOf, ↓i_of, ↓i_rng, ↓i_zip, ↓i_rev, ↓t_var, ↓t_cst, ↓t_neg, ↓t_ite, ↓t_bin, ↓t_cmp, ↓t_chain, ↓t_tup, ↓t_fr, ↓t_al, ↓t_ddisp, ↓t_ix, ↓t_sl, ↓t_rev, ↓t_call, ↓t_callK, ↓t_b1, ↓t_b2, ↓t_isI, ↓t_isX, ↓t_xval, ↓t_get, ↓t_pop, ↓t_popAt, ↓t_index, ↓s_asg, ↓s_setIx, ↓s_augIx, ↓s_expr, ↓s_ret, ↓s_retN, ↓s_cond, ↓s_loop, ↓s_whl, ↓s_raise, ↓s_tryX, ↓s_pass, ↓s_brk, ↓s_cont, ↓b_nil, ↓b_cons, ↓h_nil, ↓r_add, ↓r_sub, ↓r_mul, ↓r_div, ↓r_mod, ↓r_pow, ↓r_shl, ↓r_cat, ↓r_cats, ↓r_rep, ↓r_lt, ↓r_le, ↓r_gt, ↓r_ge, ↓r_eqI, ↓r_neI, ↓r_augA, ↓r_augS, ↓r_augM, ↓tg_tpt, ↓tg_tpm, ↓tgs_nil, ↓tgs_cons, ↓turn_nx, ↓turn_ct, ↓turn_bk, ↓turn_rt, ↓turn_ex, ↓d_nil, ↓d_eq, ↓rng_1, ↓rng_2, ↓b_int, ↓b_intb, ↓b_bool, ↓b_boolb, ↓b_lent, ↓b_lenl, ↓b_tupt, ↓b_tupl, ↓b_str, ↓b_repr', ↓xp_d, ↓b_abs, ↓b_sum, ↓b_all, ↓b_any, ↓b_max, ↓b_min, ↓ix_t, ↓ix_l, ↓sl_t, ↓sl_l, ↓c_eqb, ↓c_neb, ↓c_isN, ↓c_isnN, ↓isx_eq, ↓xval_eq, ↓c_inT, ↓c_inL, ↓c_ninT, ↓c_ninL, ↓c_ltT, ↓c_leT, ↓c_gtT, ↓c_geT, ↓c_eqS, ↓c_neS, ↓b_lenm, ↓v_0, ↓v_S, ↓n_0, ↓n_S, ↓un_0, ↓un_S, ↓s_aug', ↓s_par', ↓h_cons', ↓xl_k, ↓xl_0, ↓xl_S, ↓xl_z, ↓md_k, ↓md_0, ↓mm_0, ↓mm_S, ↓nw_1, ↓nw_2, ↓nw_3, ↓nw_4, ↓nw_5, ↓e_al', ↓ix_m', ↓b_tupm', ↓sl_m', ↓ex_map, ↓ap_l, ↓s_app', ↓xt_l, ↓s_ext', ↓in_l, ↓s_ins', ↓p_put', ↓wt_d, ↓wt_k, ↓wt_k0, ↓to_S, ↓to_z, ↓e_isI1, ↓e_isI2, ↓ex_tb, ↓ex_ti, ↓ex_tn, ↓ex_tt, ↓ex_tl, ↓ex_i, ↓ex_B, ↓xd_nil, ↓xd_cons, ↓xd_map, ↓xi_t, ↓xi_l, ↓xi_m, ↓f_cat', ↓f_rep', ↓f_slice', ↓i_enum', nw_0, e_var, e_cst, e_neg, e_not, e_and, e_or, e_ite, e_bin, e_cmp, e_chain, e_tup, e_fr, e_al, e_ddisp, e_ix, e_sl, e_rev, e_call, e_callK, e_b1, e_b2, e_isI, e_isX, e_xval, e_get, e_pop, e_popAt, e_index, t_not, t_and, t_or, a_nil, a_cons, o_none, o_some, c_none, c_some, f_disp, f_comp, f_comp2, f_listOf, f_cat, f_rep, f_slice, i_of, i_rng, i_enum, i_zip, i_rev, t_var, t_cst, t_neg, t_ite, t_bin, t_cmp, t_chain, t_tup, t_fr, t_al, t_ddisp, t_ix, t_sl, t_rev, t_call, t_callK, t_b1, t_b2, t_isI, t_isX, t_xval, t_get, t_pop, t_popAt, t_index, s_asg, s_setIx, s_par, s_aug, s_augIx, s_expr, s_app, s_ext, s_ins, s_ret, s_retN, s_cond, s_loop, s_whl, s_raise, s_tryX, s_pass, s_brk, s_cont, b_nil, b_cons, h_nil, h_cons, r_add, r_sub, r_mul, r_div, r_mod, r_pow, r_shl, r_cat, r_cats, r_rep, r_lt, r_le, r_gt, r_ge, r_eqI, r_neI, tr_bool, tr_int, tr_none, tr_tuple, tr_list, r_augA, r_augS, r_augM, m_get, m_get0, m_set, m_set0, ex_v, ex_k, ex_lst, tg_nm, tg_tpt, tg_tpm, tgs_nil, tgs_cons, tgAt_eq, List.getElem?_cons_succ, List.getElem?_cons_zero, List.set_cons_succ, List.set_cons_zero, List.length_append, List.length_cons, List.length_nil, List.append_assoc, List.cons_append, List.nil_append, decide_eq_true_eq, I, B, N0, S.l.injEq, S.d.injEq, Option.some.injEq, MO.lst.injEq, exists_eq_left', exists_and_left, mapM_d, Bool.false_eq_true, isTy, at_0, at_1, mapM_s, List.map_cons, List.map_nil, List.any_cons, List.any_nil, id_eq, Bool.or_false, Bool.not_true, Bool.not_false, ↓reduceIte, turn_nx, turn_ct, turn_bk, turn_rt, turn_ex, ty_m, Int.zero_add, d_nil, d_eq, rng_1, rng_2, b_int, b_intb, b_bool, b_boolb, b_lent, b_lenl, b_lenm, b_tupt, b_tupl, b_tupm, b_str, b_repr', b_abs, b_sum, b_all, b_any, b_max, b_min, ix_t, ix_l, ix_m, sl_t, sl_l, sl_m, ty_d, it_t, it_l, pd_d, c_eqb, c_neb, c_isN, c_isnN, isx_eq, xval_eq, true_and, and_true, List.append_nil, wipeS, tgSlots, tgSlotss, c_inT, c_inL, c_ninT, c_ninL, c_ltT, c_leT, c_gtT, c_geT, it_k, it_k0, ty_k, ty_k0, lo_1, to_1, to_2, beq_self_eq_true, sd_inj, da_nil, da_cons, da_map, Option.map_some, p_put, Nat.reduceAdd, Int.reduceEq, Int.reduceLT, Int.reduceLE, c_noneF, c_eqS, c_neS, eq_self, decide_true, decide_false, pints_len, itm_len, sz_0, sz_1, sz_2, sz_3, sz_4, sz_5, sz_6, sz_7, sz_8, int?_d, ok_of_d, ex_self, Nat.zero_add])
theorem lm_law : ∀ p ∈ lib_law, ∀ vs, Mono (p.2.2 vs) := by
  intro p hp
  simp only [lib_law, List.mem_cons, List.not_mem_nil, or_false] at hp
  rcases hp with rfl | rfl | rfl | rfl | rfl | rfl | rfl
  · exact mo_law_drawn_web
  · exact mo_law_changed
  · exact mo_law_judged
  · exact mo_law_cell
  · exact mo_law_says
  · exact mo_degrees
  · exact mo_law_refused
theorem mb_law (s : Ss) : MonoS (wSs Γ_law s) := mSs s _ (Lib.mo lm_law)
theorem ck_law : kSs b_law ⟨N_law, defScope s_law, lib_law.fs, kws, cs, hs, true⟩ (defBody s_law) = true := by decide +kernel
theorem bd_law : Bd "law" s_law ["script"] := fun _ _ _ _ _ _ us hl => match us, hl with | [_], _ => rfl
theorem kb_law : ∀ q ∈ kws, q.1 = "law" → BdK "law" s_law ["script"] q.2.1 q.2.2 := by
  intro q hq e
  simp only [kws, List.mem_cons, List.not_mem_nil, or_false] at hq
  subst hq
  · exact absurd e (by decide)
--cut 2 3 5 6 7 8 12 13
def sp_law : FSpec := fun vs M Q E => match vs with
  | [.d (.list xs)] => (∃ ns, xs = pints ns) ∧ Q (B true) M
  | _ => False
theorem mo_law : ∀ vs, Mono (sp_law vs) := by
  intro vs M Q Q' X X' hq hx h
  unfold sp_law at *
  split at h
  · exact ⟨h.1, hq _ _ h.2⟩
  · exact h
theorem degD_snoc {w : List (Int × Int)} {n : Nat} (g : Good w n) : pints (degD (.tuple (webL w)) ((n : Int) + 1)) = pints (degD (.tuple (webL w)) n) ++ [.int 0] := by
  have e : ((n : Int) + 1).toNat = n + 1 := by omega
  simp only [degD, e, Int.toNat_natCast, List.range_succ, List.map_append, pints, List.map_cons, List.map_nil]
  congr 3
  unfold cntD
  have : (webL w).filter (hasPt n) = [] := by
    rw [List.filter_eq_nil_iff]
    intro x hx
    obtain ⟨p, hp, rfl⟩ := List.mem_map.mp hx
    have := g.ps p hp
    unfold isP at this
    simp only [pairD, hasPt, Bool.or_eq_true, decide_eq_true_eq]
    omega
  rw [this]
  rfl
theorem degD_nil {n : Nat} : pints (degD (.tuple []) n) = (List.replicate n [PyData.int 0]).flatten := by
  apply List.ext_getElem
  · simp [degD, pints]
  · intro i h1 h2
    simp [degD, pints, cntD]
theorem rp_ints {ns : List Int} (h : ∀ z ∈ ns, z.natAbs < 1000000000000) (hl : ns.length ≤ 1000) : RpOk (.tuple (pints ns)) := by
  refine Rp.rep (w := 1000 * (41 + 1)) (d := 1) (Rp.tup (w := 41) (d := 0) (fun x hx => ?_) (by rw [pints_len]; exact hl)) (by omega) (by omega)
  obtain ⟨z, hz, rfl⟩ := List.mem_map.mp hx
  exact Rp.int (h z hz)
theorem degD_rp {w : List (Int × Int)} {n m : Nat} (g : Good w n) (hm : m ≤ 100) : RpOk (.tuple (pints (degD (.tuple (webL w)) m))) := by
  refine rp_ints (fun z hz => ?_) (by simp [degD]; omega)
  simp only [degD, List.mem_map] at hz
  obtain ⟨k, _, rfl⟩ := hz
  unfold cntD
  have h1 := List.length_filter_le (hasPt k) (webL w)
  have h2 := g.len
  have h3 : (webL w).length = w.length := by simp [webL]
  omega
theorem tupLen_nil : tupLen (.tuple []) := fun xs e => by cases e; exact Nat.zero_le _
theorem tupLen_web {w : List (Int × Int)} {n : Int} (g : Good w n) : tupLen (.tuple (webL w)) := fun xs e => by
  cases e
  have := g.len
  rw [slS]
  simp only [webL, List.length_map]
  omega
theorem isWeb_nil {n : Int} : isWebD (.tuple []) n = true := rfl
section
variable {M : Mem} {Q : S → Mem → Prop} {E : Xc → Mem → Prop} {sc : List Int} {n : Nat} {w : List (Int × Int)} {c wr : PD}
theorem law_13 (h : Q (B true) M) (hn : n ≤ 30) (g : Good w n) (hc : Nice c) (h1 : RpOk wr) (h2 : numOf wr = none) {a b : S} :
    wSs Γ_law b_law_c13 [some (.d (.list (pints sc))), some (.d (.int n)), some (.d (.list (webL w))), some (.d (.tuple (webL w))), some a, some (.d c), some b, some (.d wr), none, none, none] M (exits M Q E) := by
  have nv : RpOk (.tuple (webL w)) := (nice_tup (el_web g (by omega)) (by have := g.len; simp only [webL, List.length_map]; omega)).rp
  have hr : ∀ v, RpOk v → tupLen v → ∀ (j : Bool) M Q E, sp_law_refused [.d v, .d wr, .d (.bool j), .d (.bool true)] M Q E = Q (B true) M := fun v a b j M Q E => propext ⟨fun h => h.2, fun h => ⟨⟨a, fun _ => h1, b, .inl ⟨rfl, h2⟩⟩, h⟩⟩
  have hx1 := hr _ nv (tupLen_web g)
  have hx2 := hr _ hc.rp hc.tl
  simp only [ub_law_c13]
  walk_at "law!2"
  simp only [wFor, wTg, ub_law_1, List.set_cons_succ, List.set_cons_zero]
  walk_at "law!2"
  exact ret_here h
theorem law_12 (h : Q (B true) M) (hn : n ≤ 30) (g : Good w n) (hc : Nice c) {a b : S} :
    wSs Γ_law b_law_c12 [some (.d (.list (pints sc))), some (.d (.int n)), some (.d (.list (webL w))), some (.d (.tuple (webL w))), some a, some (.d c), some b, none, none, none, none] M (exits M Q E) := by
  simp only [ub_law_c12]
  walk_at "law"
  intro d
  have hd : d % 8 = 0 ∨ d % 8 = 1 ∨ d % 8 = 2 ∨ d % 8 = 3 ∨ d % 8 = 4 ∨ d % 8 = 5 ∨ d % 8 = 6 ∨ d % 8 = 7 := by omega
  rcases hd with e | e | e | e | e | e | e | e <;> rw [e] <;> refine ⟨_, at_of (by decide) rfl, law_13 h hn g hc ?_ rfl⟩
  · exact (Rp.int (d := 0) (by decide)).rep (by omega) (by omega)
  · exact (Rp.none (d := 0)).rep (by omega) (by omega)
  · exact (Rp.bool (d := 0)).rep (by omega) (by omega)
  · exact (Rp.bool (d := 0)).rep (by omega) (by omega)
  · exact (Rp.str (w := 10) (d := 0) (by decide +kernel) (by decide +kernel)).rep (by omega) (by omega)
  · exact rp_ints (ns := []) (fun z hz => (nomatch hz)) (by simp)
  · exact (Rp.lst (w := 41) (d := 0) (n := 1) (fun x hx => by simp only [List.mem_cons, List.not_mem_nil, or_false] at hx; rcases hx with rfl; exact Rp.int (by decide)) (by simp)).rep (by omega) (by omega)
  · exact (Rp.int (d := 0) (by decide)).rep (by omega) (by omega)
theorem law_8 (h : Q (B true) M) (hn : n ≤ 30) (g : Good w n) (hc : Nice c) :
    wSs Γ_law b_law_c8 [some (.d (.list (pints sc))), some (.d (.int n)), some (.d (.list (webL w))), some (.d (.tuple (webL w))), some (.d (.tuple (pints (degD (.tuple (webL w)) n)))), some (.d c), none, none, none, none, none] M (exits M Q E) := by
  simp only [ub_law_c8]
  have hx1 : numOf (.int ((n : Int) + 1)) = some ((n : Int) + 1) := numOf_of (by omega)
  have hx2 := (g.mono (m := (n : Int) + 1) (by omega)).web
  have hx3 := degD_snoc g
  have hx4 : tupLen (.tuple (webL w)) = True := eq_true (tupLen_web g)
  have rp := degD_rp g (m := n + 1) (by omega)
  rw [Int.natCast_add, Int.natCast_one, hx3] at rp
  have dl : (degD (.tuple (webL w)) n).length = n := by simp [degD]
  have sl := slS
  cases hx5 : isWebD c n with
  | true =>
    walk_at "law!5"
    refine ⟨⟨hc.tl, by omega⟩, ?_⟩
    split
    · refine ⟨by omega, ?_⟩
      split
      · exact ⟨by omega, rp, by omega, rp, law_12 h hn g hc⟩
      · exact law_12 h hn g hc
    · split
      · exact ⟨by omega, rp, by omega, rp, law_12 h hn g hc⟩
      · exact law_12 h hn g hc
  | false =>
    walk_at "law!5"
    refine ⟨⟨hc.tl, by omega⟩, ⟨hc.rp, fun z => z.elim, hc.tl, .inr ⟨n, numOf_of (by omega), hx5⟩⟩, ?_⟩
    split
    · refine ⟨by omega, ?_⟩
      split
      · exact ⟨by omega, rp, by omega, rp, law_12 h hn g hc⟩
      · exact law_12 h hn g hc
    · split
      · exact ⟨by omega, rp, by omega, rp, law_12 h hn g hc⟩
      · exact law_12 h hn g hc
theorem law_7 (h : Q (B true) M) (hn : n ≤ 30) (g : Good w n) :
    wSs Γ_law b_law_c7 [some (.d (.list (pints sc))), some (.d (.int n)), some (.d (.list (webL w))), some (.d (.tuple (webL w))), some (.d (.tuple (pints (degD (.tuple (webL w)) n)))), none, none, none, none, none, none] M (exits M Q E) := by
  simp only [ub_law_c7]
  walk_at "law"
  intro c d
  refine ⟨⟨by omega, by omega, by omega, by omega, w, rfl, g⟩, fun v hv => law_8 h hn g hv⟩
theorem law_6 (h : Q (B true) M) (hn : n ≤ 30) (g : Good w n) :
    wSs Γ_law b_law_c6 [some (.d (.list (pints sc))), some (.d (.int n)), some (.d (.list (webL w))), some (.d (.tuple (webL w))), some (.d (.tuple (pints (degD (.tuple (webL w)) n)))), none, none, none, none, none, none] M (exits M Q E) := by
  have hx1 : numOf (.int n) = some (n : Int) := numOf_of (by omega)
  have hx2 := g.web
  have hx3 : tupLen (.tuple (webL w)) = True := eq_true (tupLen_web g)
  have hx4 : tupLen (.tuple []) = True := eq_true tupLen_nil
  have hx5 := @isWeb_nil n
  have hx6 : ((n : Int) ≤ 1000000) = True := eq_true (by omega)
  simp only [ub_law_c6]
  walk_at "law!6"
  have r1 := degD_rp g (m := n) (by omega)
  have r2 : RpOk (.tuple (pints (degD (.tuple []) n))) := by
    refine rp_ints (fun z hz => ?_) (by simp [degD]; omega)
    simp only [degD, List.mem_map] at hz
    obtain ⟨k, _, rfl⟩ := hz
    simp [cntD]
  rw [Int.toNat_natCast, ← degD_nil, if_neg (by simp)]
  exact ⟨r1, r1, r2, ⟨by simp, by omega, by omega, by omega⟩, r2, law_7 h hn g⟩
theorem law_5 (h : Q (B true) M) (hn : n ≤ 30) (g : Good w n) :
    wSs Γ_law b_law_c5 [some (.d (.list (pints sc))), some (.d (.int n)), some (.d (.list (webL w))), some (.d (.tuple (webL w))), none, none, none, none, none, none, none] M (exits M Q E) := by
  simp only [ub_law_c5]
  walk_at "law"
  have sl := slS
  refine ⟨by unfold rngOk; omega, rng_len (n := n) (by omega) (by omega), lc_rng (f := fun k => .d (.int (cntD k (webL w)))) n (by omega) trivial (fun k hk Q q => ?_) (in_data (g := fun k => .int (cntD k (webL w))) ?_)⟩
  · walk_at "law"
    refine ⟨by have := g.len; simp only [webL, List.length_map]; omega, lc_flt (p := hasPt k) (f := S.d) trivial (fun x hx Q q => ?_) (fun x hx _ Q q => ?_) ?_⟩
    · obtain ⟨p, hp, rfl⟩ := List.mem_map.mp hx
      unfold pairD
      walk_at "law"
      refine ⟨⟨(Rp.int (d := 0) (by omega)).okd (by omega), okd_pair⟩, ?_⟩
      simpa [pairD, hasPt, eqv_int] using q
    · walk_at "law"
      exact q
    · simp only [da_map, ex_self, exists_eq_left', Option.some.injEq]
      exact q
  · have : ((List.range n).map fun k => PyData.int (cntD k (webL w))) = pints (degD (.tuple (webL w)) n) := by simp [pints, degD]
    rw [this]
    exact law_6 h hn g
theorem law_3 (h : Q (B true) M) (hn : n ≤ 30) (g : Good w n) :
    wSs Γ_law b_law_c3 [some (.d (.list (pints sc))), some (.d (.int n)), some (.d (.list (webL w))), none, none, none, none, none, none, none, none] M (exits M Q E) := by
  simp only [ub_law_c3]
  have hx1 := g.web
  walk_at "law!1"
  refine ⟨⟨tupLen_web g, by omega⟩, law_5 h hn g⟩
theorem law_2 (h : Q (B true) M) (hn : n ≤ 30) :
    wSs Γ_law b_law_c2 [some (.d (.list (pints sc))), some (.d (.int n)), none, none, none, none, none, none, none, none, none] M (exits M Q E) := by
  simp only [ub_law_c2]
  walk_at "law"
  intro c d
  refine ⟨div_ok (by decide), ?_⟩
  have hv : ∃ v : Int, atI [PyData.int 1, .int 5, .int 9] (d / 3 % 3) = some (.int v) := by
    have hd : d / 3 % 3 = 0 ∨ d / 3 % 3 = 1 ∨ d / 3 % 3 = 2 := by omega
    rcases hd with e | e | e <;> rw [e] <;> exact ⟨_, at_of (by decide) rfl⟩
  obtain ⟨v, hv⟩ := hv
  refine ⟨_, hv, ?_⟩
  rw [k_law_drawn_web]
  exact ⟨⟨by omega, by omega⟩, fun w g => law_3 h hn g⟩
end
theorem w_law : ∀ (ss : List S) (M : Mem) (Q : S → Mem → Prop) (E : Xc → Mem → Prop), ss.length = 1 → sp_law ss M Q E → wSs Γ_law b_law (startS N_law ss) M (exits M Q E) := by
  intro ss M Q E hl h
  unfold sp_law at h
  split at h
  case h_2 => exact h.elim
  obtain ⟨⟨ns, rfl⟩, h⟩ := h
  walk_at "law"
  intro c d
  split
  · obtain ⟨n, e⟩ := Int.eq_ofNat_of_zero_le (a := c % 31 % 5) (by omega)
    rw [e]
    exact law_2 h (by omega)
  · obtain ⟨n, e⟩ := Int.eq_ofNat_of_zero_le (a := c % 31) (by omega)
    rw [e]
    exact law_2 h (by omega)
theorem end_law : ∀ (ns : List Int) (Q : S → Mem → Prop) (E : Xc → Mem → Prop), ns.length ≤ 63 → (∀ z ∈ ns, Builtin.Int.intBits z ≤ 1048576) → (∀ M, Q (B true) M) → sp_law [.d (.list (pints ns))] [] Q E :=
  fun ns Q E _ _ q => ⟨⟨ns, rfl⟩, q []⟩
/-! ### the chain -/
section
variable {w : World} {K : PySem.W.Frag} {mg : Str → Option Value} {base : Heap}
theorem F_law_mixed (pf : PF PySem.Challenge.pw_stairworks_k95_webs_judged K mg (MroF tab) cs hs) {a_law_mixed : Addr} {fd_law_mixed : FuncData} (f_law_mixed : FF K mg "_law_mixed" s_law_mixed a_law_mixed fd_law_mixed) : FnG PySem.Challenge.pw_stairworks_k95_webs_judged w K mg base 3 a_law_mixed fd_law_mixed ["cell", "k"] (spOf mg K 2 sp_law_mixed) := by
  refine fng_of f_law_mixed sc_law_mixed pf (by decide) (lib := lib_law_mixed) (.nil) (by decide) lm_law_mixed ck_law_mixed w_law_mixed
theorem c_law_mixed (pf : PF PySem.Challenge.pw_stairworks_k95_webs_judged K mg (MroF tab) cs hs) {a_law_mixed : Addr} {fd_law_mixed : FuncData} (f_law_mixed : FF K mg "_law_mixed" s_law_mixed a_law_mixed fd_law_mixed) : G.Cal PySem.Challenge.pw_stairworks_k95_webs_judged w K mg base 3 kws "_law_mixed" ["cell", "k"] sp_law_mixed := cal_of f_law_mixed (F_law_mixed pf f_law_mixed) bd_law_mixed kb_law_mixed (by decide)
theorem F_law_numbers (pf : PF PySem.Challenge.pw_stairworks_k95_webs_judged K mg (MroF tab) cs hs) {a_law_mixed : Addr} {fd_law_mixed : FuncData} (f_law_mixed : FF K mg "_law_mixed" s_law_mixed a_law_mixed fd_law_mixed) {a_law_numbers : Addr} {fd_law_numbers : FuncData} (f_law_numbers : FF K mg "_law_numbers" s_law_numbers a_law_numbers fd_law_numbers) : FnG PySem.Challenge.pw_stairworks_k95_webs_judged w K mg base 4 a_law_numbers fd_law_numbers ["cell", "many", "limit"] (spOf mg K 3 sp_law_numbers) := by
  refine fng_of f_law_numbers sc_law_numbers pf (by decide) (lib := lib_law_numbers) (.cons (c_law_mixed pf f_law_mixed) (by decide) (.nil)) (by decide) lm_law_numbers ck_law_numbers w_law_numbers
theorem c_law_numbers (pf : PF PySem.Challenge.pw_stairworks_k95_webs_judged K mg (MroF tab) cs hs) {a_law_mixed : Addr} {fd_law_mixed : FuncData} (f_law_mixed : FF K mg "_law_mixed" s_law_mixed a_law_mixed fd_law_mixed) {a_law_numbers : Addr} {fd_law_numbers : FuncData} (f_law_numbers : FF K mg "_law_numbers" s_law_numbers a_law_numbers fd_law_numbers) : G.Cal PySem.Challenge.pw_stairworks_k95_webs_judged w K mg base 4 kws "_law_numbers" ["cell", "many", "limit"] sp_law_numbers := cal_of f_law_numbers (F_law_numbers pf f_law_mixed f_law_numbers) bd_law_numbers kb_law_numbers (by decide)
theorem F_law_drawn_web (pf : PF PySem.Challenge.pw_stairworks_k95_webs_judged K mg (MroF tab) cs hs) {a_law_mixed : Addr} {fd_law_mixed : FuncData} (f_law_mixed : FF K mg "_law_mixed" s_law_mixed a_law_mixed fd_law_mixed) {a_law_numbers : Addr} {fd_law_numbers : FuncData} (f_law_numbers : FF K mg "_law_numbers" s_law_numbers a_law_numbers fd_law_numbers) {a_law_drawn_web : Addr} {fd_law_drawn_web : FuncData} (f_law_drawn_web : FF K mg "_law_drawn_web" s_law_drawn_web a_law_drawn_web fd_law_drawn_web) : FnG PySem.Challenge.pw_stairworks_k95_webs_judged w K mg base 5 a_law_drawn_web fd_law_drawn_web ["cell", "points", "bound"] (spOf mg K 3 sp_law_drawn_web) := by
  refine fng_of f_law_drawn_web sc_law_drawn_web pf (by decide) (lib := lib_law_drawn_web) (.cons (c_law_numbers pf f_law_mixed f_law_numbers) (by decide) (.nil)) (by decide) lm_law_drawn_web ck_law_drawn_web w_law_drawn_web
theorem c_law_drawn_web (pf : PF PySem.Challenge.pw_stairworks_k95_webs_judged K mg (MroF tab) cs hs) {a_law_mixed : Addr} {fd_law_mixed : FuncData} (f_law_mixed : FF K mg "_law_mixed" s_law_mixed a_law_mixed fd_law_mixed) {a_law_numbers : Addr} {fd_law_numbers : FuncData} (f_law_numbers : FF K mg "_law_numbers" s_law_numbers a_law_numbers fd_law_numbers) {a_law_drawn_web : Addr} {fd_law_drawn_web : FuncData} (f_law_drawn_web : FF K mg "_law_drawn_web" s_law_drawn_web a_law_drawn_web fd_law_drawn_web) : G.Cal PySem.Challenge.pw_stairworks_k95_webs_judged w K mg base 5 kws "_law_drawn_web" ["cell", "points", "bound"] sp_law_drawn_web := cal_of f_law_drawn_web (F_law_drawn_web pf f_law_mixed f_law_numbers f_law_drawn_web) bd_law_drawn_web kb_law_drawn_web (by decide)
theorem F_law_changed (pf : PF PySem.Challenge.pw_stairworks_k95_webs_judged K mg (MroF tab) cs hs) {a_law_changed : Addr} {fd_law_changed : FuncData} (f_law_changed : FF K mg "_law_changed" s_law_changed a_law_changed fd_law_changed) : FnG PySem.Challenge.pw_stairworks_k95_webs_judged w K mg base 3 a_law_changed fd_law_changed ["web", "points", "way", "cell"] (spOf mg K 4 sp_law_changed) := by
  refine fng_of f_law_changed sc_law_changed pf (by decide) (lib := lib_law_changed) (.nil) (by decide) lm_law_changed ck_law_changed w_law_changed
theorem c_law_changed (pf : PF PySem.Challenge.pw_stairworks_k95_webs_judged K mg (MroF tab) cs hs) {a_law_changed : Addr} {fd_law_changed : FuncData} (f_law_changed : FF K mg "_law_changed" s_law_changed a_law_changed fd_law_changed) : G.Cal PySem.Challenge.pw_stairworks_k95_webs_judged w K mg base 3 kws "_law_changed" ["web", "points", "way", "cell"] sp_law_changed := cal_of f_law_changed (F_law_changed pf f_law_changed) bd_law_changed kb_law_changed (by decide)
theorem F_law_judged (pf : PF PySem.Challenge.pw_stairworks_k95_webs_judged K mg (MroF tab) cs hs) {a_law_judged : Addr} {fd_law_judged : FuncData} (f_law_judged : FF K mg "_law_judged" s_law_judged a_law_judged fd_law_judged) : FnG PySem.Challenge.pw_stairworks_k95_webs_judged w K mg base 3 a_law_judged fd_law_judged ["value", "points"] (spOf mg K 2 sp_law_judged) := by
  refine fng_of f_law_judged sc_law_judged pf (by decide) (lib := lib_law_judged) (.nil) (by decide) lm_law_judged ck_law_judged w_law_judged
theorem c_law_judged (pf : PF PySem.Challenge.pw_stairworks_k95_webs_judged K mg (MroF tab) cs hs) {a_law_judged : Addr} {fd_law_judged : FuncData} (f_law_judged : FF K mg "_law_judged" s_law_judged a_law_judged fd_law_judged) : G.Cal PySem.Challenge.pw_stairworks_k95_webs_judged w K mg base 3 kws "_law_judged" ["value", "points"] sp_law_judged := cal_of f_law_judged (F_law_judged pf f_law_judged) bd_law_judged kb_law_judged (by decide)
theorem F_law_cell (pf : PF PySem.Challenge.pw_stairworks_k95_webs_judged K mg (MroF tab) cs hs) {a_law_cell : Addr} {fd_law_cell : FuncData} (f_law_cell : FF K mg "_law_cell" s_law_cell a_law_cell fd_law_cell) : FnG PySem.Challenge.pw_stairworks_k95_webs_judged w K mg base 3 a_law_cell fd_law_cell ["script", "k"] (spOf mg K 2 sp_law_cell) := by
  refine fng_of f_law_cell sc_law_cell pf (by decide) (lib := lib_law_cell) (.nil) (by decide) lm_law_cell ck_law_cell w_law_cell
theorem c_law_cell (pf : PF PySem.Challenge.pw_stairworks_k95_webs_judged K mg (MroF tab) cs hs) {a_law_cell : Addr} {fd_law_cell : FuncData} (f_law_cell : FF K mg "_law_cell" s_law_cell a_law_cell fd_law_cell) : G.Cal PySem.Challenge.pw_stairworks_k95_webs_judged w K mg base 3 kws "_law_cell" ["script", "k"] sp_law_cell := cal_of f_law_cell (F_law_cell pf f_law_cell) bd_law_cell kb_law_cell (by decide)
theorem F_is_integer (pf : PF PySem.Challenge.pw_stairworks_k95_webs_judged K mg (MroF tab) cs hs) {a_is_integer : Addr} {fd_is_integer : FuncData} (f_is_integer : FF K mg "is_integer" s_is_integer a_is_integer fd_is_integer) : FnG PySem.Challenge.pw_stairworks_k95_webs_judged w K mg base 3 a_is_integer fd_is_integer ["value"] (spOf mg K 1 sp_is_integer) := by
  refine fng_of f_is_integer sc_is_integer pf (by decide) (lib := lib_is_integer) (.nil) (by decide) lm_is_integer ck_is_integer w_is_integer
theorem c_is_integer (pf : PF PySem.Challenge.pw_stairworks_k95_webs_judged K mg (MroF tab) cs hs) {a_is_integer : Addr} {fd_is_integer : FuncData} (f_is_integer : FF K mg "is_integer" s_is_integer a_is_integer fd_is_integer) : G.Cal PySem.Challenge.pw_stairworks_k95_webs_judged w K mg base 3 kws "is_integer" ["value"] sp_is_integer := cal_of f_is_integer (F_is_integer pf f_is_integer) bd_is_integer kb_is_integer (by decide)
theorem F_is_number (pf : PF PySem.Challenge.pw_stairworks_k95_webs_judged K mg (MroF tab) cs hs) {a_is_integer : Addr} {fd_is_integer : FuncData} (f_is_integer : FF K mg "is_integer" s_is_integer a_is_integer fd_is_integer) {a_is_number : Addr} {fd_is_number : FuncData} (f_is_number : FF K mg "is_number" s_is_number a_is_number fd_is_number) : FnG PySem.Challenge.pw_stairworks_k95_webs_judged w K mg base 4 a_is_number fd_is_number ["value"] (spOf mg K 1 sp_is_number) := by
  refine fng_of f_is_number sc_is_number pf (by decide) (lib := lib_is_number) (.cons (c_is_integer pf f_is_integer) (by decide) (.nil)) (by decide) lm_is_number ck_is_number w_is_number
theorem c_is_number (pf : PF PySem.Challenge.pw_stairworks_k95_webs_judged K mg (MroF tab) cs hs) {a_is_integer : Addr} {fd_is_integer : FuncData} (f_is_integer : FF K mg "is_integer" s_is_integer a_is_integer fd_is_integer) {a_is_number : Addr} {fd_is_number : FuncData} (f_is_number : FF K mg "is_number" s_is_number a_is_number fd_is_number) : G.Cal PySem.Challenge.pw_stairworks_k95_webs_judged w K mg base 4 kws "is_number" ["value"] sp_is_number := cal_of f_is_number (F_is_number pf f_is_integer f_is_number) bd_is_number kb_is_number (by decide)
theorem F_is_pair (pf : PF PySem.Challenge.pw_stairworks_k95_webs_judged K mg (MroF tab) cs hs) {a_is_integer : Addr} {fd_is_integer : FuncData} (f_is_integer : FF K mg "is_integer" s_is_integer a_is_integer fd_is_integer) {a_is_number : Addr} {fd_is_number : FuncData} (f_is_number : FF K mg "is_number" s_is_number a_is_number fd_is_number) {a_is_pair : Addr} {fd_is_pair : FuncData} (f_is_pair : FF K mg "_is_pair" s_is_pair a_is_pair fd_is_pair) : FnG PySem.Challenge.pw_stairworks_k95_webs_judged w K mg base 5 a_is_pair fd_is_pair ["value", "points"] (spOf mg K 2 sp_is_pair) := by
  refine fng_of f_is_pair sc_is_pair pf (by decide) (lib := lib_is_pair) (.cons (c_is_number pf f_is_integer f_is_number) (by decide) (.nil)) (by decide) lm_is_pair ck_is_pair w_is_pair
theorem c_is_pair (pf : PF PySem.Challenge.pw_stairworks_k95_webs_judged K mg (MroF tab) cs hs) {a_is_integer : Addr} {fd_is_integer : FuncData} (f_is_integer : FF K mg "is_integer" s_is_integer a_is_integer fd_is_integer) {a_is_number : Addr} {fd_is_number : FuncData} (f_is_number : FF K mg "is_number" s_is_number a_is_number fd_is_number) {a_is_pair : Addr} {fd_is_pair : FuncData} (f_is_pair : FF K mg "_is_pair" s_is_pair a_is_pair fd_is_pair) : G.Cal PySem.Challenge.pw_stairworks_k95_webs_judged w K mg base 5 kws "_is_pair" ["value", "points"] sp_is_pair := cal_of f_is_pair (F_is_pair pf f_is_integer f_is_number f_is_pair) bd_is_pair kb_is_pair (by decide)
theorem F_is_web (pf : PF PySem.Challenge.pw_stairworks_k95_webs_judged K mg (MroF tab) cs hs) {a_is_integer : Addr} {fd_is_integer : FuncData} (f_is_integer : FF K mg "is_integer" s_is_integer a_is_integer fd_is_integer) {a_is_number : Addr} {fd_is_number : FuncData} (f_is_number : FF K mg "is_number" s_is_number a_is_number fd_is_number) {a_is_pair : Addr} {fd_is_pair : FuncData} (f_is_pair : FF K mg "_is_pair" s_is_pair a_is_pair fd_is_pair) {a_is_web : Addr} {fd_is_web : FuncData} (f_is_web : FF K mg "is_web" s_is_web a_is_web fd_is_web) : FnG PySem.Challenge.pw_stairworks_k95_webs_judged w K mg base 6 a_is_web fd_is_web ["value", "points"] (spOf mg K 2 sp_is_web) := by
  refine fng_of f_is_web sc_is_web pf (by decide) (lib := lib_is_web) (.cons (c_is_number pf f_is_integer f_is_number) (by decide) (.cons (c_is_pair pf f_is_integer f_is_number f_is_pair) (by decide) (.nil))) (by decide) lm_is_web ck_is_web w_is_web
theorem c_is_web (pf : PF PySem.Challenge.pw_stairworks_k95_webs_judged K mg (MroF tab) cs hs) {a_is_integer : Addr} {fd_is_integer : FuncData} (f_is_integer : FF K mg "is_integer" s_is_integer a_is_integer fd_is_integer) {a_is_number : Addr} {fd_is_number : FuncData} (f_is_number : FF K mg "is_number" s_is_number a_is_number fd_is_number) {a_is_pair : Addr} {fd_is_pair : FuncData} (f_is_pair : FF K mg "_is_pair" s_is_pair a_is_pair fd_is_pair) {a_is_web : Addr} {fd_is_web : FuncData} (f_is_web : FF K mg "is_web" s_is_web a_is_web fd_is_web) : G.Cal PySem.Challenge.pw_stairworks_k95_webs_judged w K mg base 6 kws "is_web" ["value", "points"] sp_is_web := cal_of f_is_web (F_is_web pf f_is_integer f_is_number f_is_pair f_is_web) bd_is_web kb_is_web (by decide)
theorem F_law_says (pf : PF PySem.Challenge.pw_stairworks_k95_webs_judged K mg (MroF tab) cs hs) {a_is_integer : Addr} {fd_is_integer : FuncData} (f_is_integer : FF K mg "is_integer" s_is_integer a_is_integer fd_is_integer) {a_is_number : Addr} {fd_is_number : FuncData} (f_is_number : FF K mg "is_number" s_is_number a_is_number fd_is_number) {a_is_pair : Addr} {fd_is_pair : FuncData} (f_is_pair : FF K mg "_is_pair" s_is_pair a_is_pair fd_is_pair) {a_is_web : Addr} {fd_is_web : FuncData} (f_is_web : FF K mg "is_web" s_is_web a_is_web fd_is_web) {a_law_says : Addr} {fd_law_says : FuncData} (f_law_says : FF K mg "_law_says" s_law_says a_law_says fd_law_says) : FnG PySem.Challenge.pw_stairworks_k95_webs_judged w K mg base 7 a_law_says fd_law_says ["value", "points", "due"] (spOf mg K 3 sp_law_says) := by
  refine fng_of f_law_says sc_law_says pf (by decide) (lib := lib_law_says) (.cons (c_is_web pf f_is_integer f_is_number f_is_pair f_is_web) (by decide) (.nil)) (by decide) lm_law_says ck_law_says w_law_says
theorem c_law_says (pf : PF PySem.Challenge.pw_stairworks_k95_webs_judged K mg (MroF tab) cs hs) {a_is_integer : Addr} {fd_is_integer : FuncData} (f_is_integer : FF K mg "is_integer" s_is_integer a_is_integer fd_is_integer) {a_is_number : Addr} {fd_is_number : FuncData} (f_is_number : FF K mg "is_number" s_is_number a_is_number fd_is_number) {a_is_pair : Addr} {fd_is_pair : FuncData} (f_is_pair : FF K mg "_is_pair" s_is_pair a_is_pair fd_is_pair) {a_is_web : Addr} {fd_is_web : FuncData} (f_is_web : FF K mg "is_web" s_is_web a_is_web fd_is_web) {a_law_says : Addr} {fd_law_says : FuncData} (f_law_says : FF K mg "_law_says" s_law_says a_law_says fd_law_says) : G.Cal PySem.Challenge.pw_stairworks_k95_webs_judged w K mg base 7 kws "_law_says" ["value", "points", "due"] sp_law_says := cal_of f_law_says (F_law_says pf f_is_integer f_is_number f_is_pair f_is_web f_law_says) bd_law_says kb_law_says (by decide)
theorem F_need_web (pf : PF PySem.Challenge.pw_stairworks_k95_webs_judged K mg (MroF tab) cs hs) {a_is_integer : Addr} {fd_is_integer : FuncData} (f_is_integer : FF K mg "is_integer" s_is_integer a_is_integer fd_is_integer) {a_is_number : Addr} {fd_is_number : FuncData} (f_is_number : FF K mg "is_number" s_is_number a_is_number fd_is_number) {a_is_pair : Addr} {fd_is_pair : FuncData} (f_is_pair : FF K mg "_is_pair" s_is_pair a_is_pair fd_is_pair) {a_is_web : Addr} {fd_is_web : FuncData} (f_is_web : FF K mg "is_web" s_is_web a_is_web fd_is_web) {a_need_web : Addr} {fd_need_web : FuncData} (f_need_web : FF K mg "need_web" s_need_web a_need_web fd_need_web) : FnG PySem.Challenge.pw_stairworks_k95_webs_judged w K mg base 7 a_need_web fd_need_web ["web", "points"] (spOf mg K 2 sp_need_web) := by
  refine fng_of f_need_web sc_need_web pf (by decide) (lib := lib_need_web) (.cons (c_is_web pf f_is_integer f_is_number f_is_pair f_is_web) (by decide) (.nil)) (by decide) lm_need_web ck_need_web w_need_web
theorem c_need_web (pf : PF PySem.Challenge.pw_stairworks_k95_webs_judged K mg (MroF tab) cs hs) {a_is_integer : Addr} {fd_is_integer : FuncData} (f_is_integer : FF K mg "is_integer" s_is_integer a_is_integer fd_is_integer) {a_is_number : Addr} {fd_is_number : FuncData} (f_is_number : FF K mg "is_number" s_is_number a_is_number fd_is_number) {a_is_pair : Addr} {fd_is_pair : FuncData} (f_is_pair : FF K mg "_is_pair" s_is_pair a_is_pair fd_is_pair) {a_is_web : Addr} {fd_is_web : FuncData} (f_is_web : FF K mg "is_web" s_is_web a_is_web fd_is_web) {a_need_web : Addr} {fd_need_web : FuncData} (f_need_web : FF K mg "need_web" s_need_web a_need_web fd_need_web) : G.Cal PySem.Challenge.pw_stairworks_k95_webs_judged w K mg base 7 kws "need_web" ["web", "points"] sp_need_web := cal_of f_need_web (F_need_web pf f_is_integer f_is_number f_is_pair f_is_web f_need_web) bd_need_web kb_need_web (by decide)
theorem F_degrees (pf : PF PySem.Challenge.pw_stairworks_k95_webs_judged K mg (MroF tab) cs hs) {a_is_integer : Addr} {fd_is_integer : FuncData} (f_is_integer : FF K mg "is_integer" s_is_integer a_is_integer fd_is_integer) {a_is_number : Addr} {fd_is_number : FuncData} (f_is_number : FF K mg "is_number" s_is_number a_is_number fd_is_number) {a_is_pair : Addr} {fd_is_pair : FuncData} (f_is_pair : FF K mg "_is_pair" s_is_pair a_is_pair fd_is_pair) {a_is_web : Addr} {fd_is_web : FuncData} (f_is_web : FF K mg "is_web" s_is_web a_is_web fd_is_web) {a_need_web : Addr} {fd_need_web : FuncData} (f_need_web : FF K mg "need_web" s_need_web a_need_web fd_need_web) {a_degrees : Addr} {fd_degrees : FuncData} (f_degrees : FF K mg "degrees" s_degrees a_degrees fd_degrees) : FnG PySem.Challenge.pw_stairworks_k95_webs_judged w K mg base 8 a_degrees fd_degrees ["web", "points"] (spOf mg K 2 sp_degrees) := by
  refine fng_of f_degrees sc_degrees pf (by decide) (lib := lib_degrees) (.cons (c_need_web pf f_is_integer f_is_number f_is_pair f_is_web f_need_web) (by decide) (.nil)) (by decide) lm_degrees ck_degrees w_degrees
theorem c_degrees (pf : PF PySem.Challenge.pw_stairworks_k95_webs_judged K mg (MroF tab) cs hs) {a_is_integer : Addr} {fd_is_integer : FuncData} (f_is_integer : FF K mg "is_integer" s_is_integer a_is_integer fd_is_integer) {a_is_number : Addr} {fd_is_number : FuncData} (f_is_number : FF K mg "is_number" s_is_number a_is_number fd_is_number) {a_is_pair : Addr} {fd_is_pair : FuncData} (f_is_pair : FF K mg "_is_pair" s_is_pair a_is_pair fd_is_pair) {a_is_web : Addr} {fd_is_web : FuncData} (f_is_web : FF K mg "is_web" s_is_web a_is_web fd_is_web) {a_need_web : Addr} {fd_need_web : FuncData} (f_need_web : FF K mg "need_web" s_need_web a_need_web fd_need_web) {a_degrees : Addr} {fd_degrees : FuncData} (f_degrees : FF K mg "degrees" s_degrees a_degrees fd_degrees) : G.Cal PySem.Challenge.pw_stairworks_k95_webs_judged w K mg base 8 kws "degrees" ["web", "points"] sp_degrees := cal_of f_degrees (F_degrees pf f_is_integer f_is_number f_is_pair f_is_web f_need_web f_degrees) bd_degrees kb_degrees (by decide)
theorem F_law_refused (pf : PF PySem.Challenge.pw_stairworks_k95_webs_judged K mg (MroF tab) cs hs) {a_is_integer : Addr} {fd_is_integer : FuncData} (f_is_integer : FF K mg "is_integer" s_is_integer a_is_integer fd_is_integer) {a_is_number : Addr} {fd_is_number : FuncData} (f_is_number : FF K mg "is_number" s_is_number a_is_number fd_is_number) {a_is_pair : Addr} {fd_is_pair : FuncData} (f_is_pair : FF K mg "_is_pair" s_is_pair a_is_pair fd_is_pair) {a_is_web : Addr} {fd_is_web : FuncData} (f_is_web : FF K mg "is_web" s_is_web a_is_web fd_is_web) {a_need_web : Addr} {fd_need_web : FuncData} (f_need_web : FF K mg "need_web" s_need_web a_need_web fd_need_web) {a_degrees : Addr} {fd_degrees : FuncData} (f_degrees : FF K mg "degrees" s_degrees a_degrees fd_degrees) {a_law_refused : Addr} {fd_law_refused : FuncData} (f_law_refused : FF K mg "_law_refused" s_law_refused a_law_refused fd_law_refused) : FnG PySem.Challenge.pw_stairworks_k95_webs_judged w K mg base 9 a_law_refused fd_law_refused ["value", "points", "judge", "number"] (spOf mg K 4 sp_law_refused) := by
  refine fng_of f_law_refused sc_law_refused pf (by decide) (lib := lib_law_refused) (.cons (c_is_web pf f_is_integer f_is_number f_is_pair f_is_web) (by decide) (.cons (c_degrees pf f_is_integer f_is_number f_is_pair f_is_web f_need_web f_degrees) (by decide) (.nil))) (by decide) lm_law_refused ck_law_refused w_law_refused
theorem c_law_refused (pf : PF PySem.Challenge.pw_stairworks_k95_webs_judged K mg (MroF tab) cs hs) {a_is_integer : Addr} {fd_is_integer : FuncData} (f_is_integer : FF K mg "is_integer" s_is_integer a_is_integer fd_is_integer) {a_is_number : Addr} {fd_is_number : FuncData} (f_is_number : FF K mg "is_number" s_is_number a_is_number fd_is_number) {a_is_pair : Addr} {fd_is_pair : FuncData} (f_is_pair : FF K mg "_is_pair" s_is_pair a_is_pair fd_is_pair) {a_is_web : Addr} {fd_is_web : FuncData} (f_is_web : FF K mg "is_web" s_is_web a_is_web fd_is_web) {a_need_web : Addr} {fd_need_web : FuncData} (f_need_web : FF K mg "need_web" s_need_web a_need_web fd_need_web) {a_degrees : Addr} {fd_degrees : FuncData} (f_degrees : FF K mg "degrees" s_degrees a_degrees fd_degrees) {a_law_refused : Addr} {fd_law_refused : FuncData} (f_law_refused : FF K mg "_law_refused" s_law_refused a_law_refused fd_law_refused) : G.Cal PySem.Challenge.pw_stairworks_k95_webs_judged w K mg base 9 kws "_law_refused" ["value", "points", "judge", "number"] sp_law_refused := cal_of f_law_refused (F_law_refused pf f_is_integer f_is_number f_is_pair f_is_web f_need_web f_degrees f_law_refused) bd_law_refused kb_law_refused (by decide)
theorem F_law (pf : PF PySem.Challenge.pw_stairworks_k95_webs_judged K mg (MroF tab) cs hs) {a_law_mixed : Addr} {fd_law_mixed : FuncData} (f_law_mixed : FF K mg "_law_mixed" s_law_mixed a_law_mixed fd_law_mixed) {a_law_numbers : Addr} {fd_law_numbers : FuncData} (f_law_numbers : FF K mg "_law_numbers" s_law_numbers a_law_numbers fd_law_numbers) {a_law_drawn_web : Addr} {fd_law_drawn_web : FuncData} (f_law_drawn_web : FF K mg "_law_drawn_web" s_law_drawn_web a_law_drawn_web fd_law_drawn_web) {a_law_changed : Addr} {fd_law_changed : FuncData} (f_law_changed : FF K mg "_law_changed" s_law_changed a_law_changed fd_law_changed) {a_law_judged : Addr} {fd_law_judged : FuncData} (f_law_judged : FF K mg "_law_judged" s_law_judged a_law_judged fd_law_judged) {a_law_cell : Addr} {fd_law_cell : FuncData} (f_law_cell : FF K mg "_law_cell" s_law_cell a_law_cell fd_law_cell) {a_is_integer : Addr} {fd_is_integer : FuncData} (f_is_integer : FF K mg "is_integer" s_is_integer a_is_integer fd_is_integer) {a_is_number : Addr} {fd_is_number : FuncData} (f_is_number : FF K mg "is_number" s_is_number a_is_number fd_is_number) {a_is_pair : Addr} {fd_is_pair : FuncData} (f_is_pair : FF K mg "_is_pair" s_is_pair a_is_pair fd_is_pair) {a_is_web : Addr} {fd_is_web : FuncData} (f_is_web : FF K mg "is_web" s_is_web a_is_web fd_is_web) {a_law_says : Addr} {fd_law_says : FuncData} (f_law_says : FF K mg "_law_says" s_law_says a_law_says fd_law_says) {a_need_web : Addr} {fd_need_web : FuncData} (f_need_web : FF K mg "need_web" s_need_web a_need_web fd_need_web) {a_degrees : Addr} {fd_degrees : FuncData} (f_degrees : FF K mg "degrees" s_degrees a_degrees fd_degrees) {a_law_refused : Addr} {fd_law_refused : FuncData} (f_law_refused : FF K mg "_law_refused" s_law_refused a_law_refused fd_law_refused) {a_law : Addr} {fd_law : FuncData} (f_law : FF K mg "law" s_law a_law fd_law) : FnG PySem.Challenge.pw_stairworks_k95_webs_judged w K mg base 10 a_law fd_law ["script"] (spOf mg K 1 sp_law) := by
  refine fng_of f_law sc_law pf (by decide) (lib := lib_law) (.cons (c_law_drawn_web pf f_law_mixed f_law_numbers f_law_drawn_web) (by decide) (.cons (c_law_changed pf f_law_changed) (by decide) (.cons (c_law_judged pf f_law_judged) (by decide) (.cons (c_law_cell pf f_law_cell) (by decide) (.cons (c_law_says pf f_is_integer f_is_number f_is_pair f_is_web f_law_says) (by decide) (.cons (c_degrees pf f_is_integer f_is_number f_is_pair f_is_web f_need_web f_degrees) (by decide) (.cons (c_law_refused pf f_is_integer f_is_number f_is_pair f_is_web f_need_web f_degrees f_law_refused) (by decide) (.nil)))))))) (by decide) lm_law ck_law w_law
theorem c_law (pf : PF PySem.Challenge.pw_stairworks_k95_webs_judged K mg (MroF tab) cs hs) {a_law_mixed : Addr} {fd_law_mixed : FuncData} (f_law_mixed : FF K mg "_law_mixed" s_law_mixed a_law_mixed fd_law_mixed) {a_law_numbers : Addr} {fd_law_numbers : FuncData} (f_law_numbers : FF K mg "_law_numbers" s_law_numbers a_law_numbers fd_law_numbers) {a_law_drawn_web : Addr} {fd_law_drawn_web : FuncData} (f_law_drawn_web : FF K mg "_law_drawn_web" s_law_drawn_web a_law_drawn_web fd_law_drawn_web) {a_law_changed : Addr} {fd_law_changed : FuncData} (f_law_changed : FF K mg "_law_changed" s_law_changed a_law_changed fd_law_changed) {a_law_judged : Addr} {fd_law_judged : FuncData} (f_law_judged : FF K mg "_law_judged" s_law_judged a_law_judged fd_law_judged) {a_law_cell : Addr} {fd_law_cell : FuncData} (f_law_cell : FF K mg "_law_cell" s_law_cell a_law_cell fd_law_cell) {a_is_integer : Addr} {fd_is_integer : FuncData} (f_is_integer : FF K mg "is_integer" s_is_integer a_is_integer fd_is_integer) {a_is_number : Addr} {fd_is_number : FuncData} (f_is_number : FF K mg "is_number" s_is_number a_is_number fd_is_number) {a_is_pair : Addr} {fd_is_pair : FuncData} (f_is_pair : FF K mg "_is_pair" s_is_pair a_is_pair fd_is_pair) {a_is_web : Addr} {fd_is_web : FuncData} (f_is_web : FF K mg "is_web" s_is_web a_is_web fd_is_web) {a_law_says : Addr} {fd_law_says : FuncData} (f_law_says : FF K mg "_law_says" s_law_says a_law_says fd_law_says) {a_need_web : Addr} {fd_need_web : FuncData} (f_need_web : FF K mg "need_web" s_need_web a_need_web fd_need_web) {a_degrees : Addr} {fd_degrees : FuncData} (f_degrees : FF K mg "degrees" s_degrees a_degrees fd_degrees) {a_law_refused : Addr} {fd_law_refused : FuncData} (f_law_refused : FF K mg "_law_refused" s_law_refused a_law_refused fd_law_refused) {a_law : Addr} {fd_law : FuncData} (f_law : FF K mg "law" s_law a_law fd_law) : G.Cal PySem.Challenge.pw_stairworks_k95_webs_judged w K mg base 10 kws "law" ["script"] sp_law := cal_of f_law (F_law pf f_law_mixed f_law_numbers f_law_drawn_web f_law_changed f_law_judged f_law_cell f_is_integer f_is_number f_is_pair f_is_web f_law_says f_need_web f_degrees f_law_refused f_law) bd_law kb_law (by decide)
end
theorem all_mk {w : World} {K : PySem.W.Frag} {mg : Str → Option Value} {fa : Addr} (hfa : mg "law" = some (.ref fa)) (pf : PF PySem.Challenge.pw_stairworks_k95_webs_judged K mg (MroF tab) cs hs) (h_law_mixed : ∃ a fd, FF K mg "_law_mixed" s_law_mixed a fd) (h_law_numbers : ∃ a fd, FF K mg "_law_numbers" s_law_numbers a fd) (h_law_drawn_web : ∃ a fd, FF K mg "_law_drawn_web" s_law_drawn_web a fd) (h_law_changed : ∃ a fd, FF K mg "_law_changed" s_law_changed a fd) (h_law_judged : ∃ a fd, FF K mg "_law_judged" s_law_judged a fd) (h_law_cell : ∃ a fd, FF K mg "_law_cell" s_law_cell a fd) (h_is_integer : ∃ a fd, FF K mg "is_integer" s_is_integer a fd) (h_is_number : ∃ a fd, FF K mg "is_number" s_is_number a fd) (h_is_pair : ∃ a fd, FF K mg "_is_pair" s_is_pair a fd) (h_is_web : ∃ a fd, FF K mg "is_web" s_is_web a fd) (h_law_says : ∃ a fd, FF K mg "_law_says" s_law_says a fd) (h_need_web : ∃ a fd, FF K mg "need_web" s_need_web a fd) (h_degrees : ∃ a fd, FF K mg "degrees" s_degrees a fd) (h_law_refused : ∃ a fd, FF K mg "_law_refused" s_law_refused a fd) (h_law : ∃ a fd, FF K mg "law" s_law a fd) :
    ∃ fd : FuncData, (∀ (s : Shared) (u : Value), BindsTo s fd ⟨[u], []⟩ [("script", u)]) ∧ ∀ base : Heap, K.In base → base.Ns mainGlobals mg → FnG PySem.Challenge.pw_stairworks_k95_webs_judged w K mg base 10 fa fd ["script"] (spOf mg K 1 sp_law) := by
  obtain ⟨a_law_mixed, fd_law_mixed, f_law_mixed⟩ := h_law_mixed
  obtain ⟨a_law_numbers, fd_law_numbers, f_law_numbers⟩ := h_law_numbers
  obtain ⟨a_law_drawn_web, fd_law_drawn_web, f_law_drawn_web⟩ := h_law_drawn_web
  obtain ⟨a_law_changed, fd_law_changed, f_law_changed⟩ := h_law_changed
  obtain ⟨a_law_judged, fd_law_judged, f_law_judged⟩ := h_law_judged
  obtain ⟨a_law_cell, fd_law_cell, f_law_cell⟩ := h_law_cell
  obtain ⟨a_is_integer, fd_is_integer, f_is_integer⟩ := h_is_integer
  obtain ⟨a_is_number, fd_is_number, f_is_number⟩ := h_is_number
  obtain ⟨a_is_pair, fd_is_pair, f_is_pair⟩ := h_is_pair
  obtain ⟨a_is_web, fd_is_web, f_is_web⟩ := h_is_web
  obtain ⟨a_law_says, fd_law_says, f_law_says⟩ := h_law_says
  obtain ⟨a_need_web, fd_need_web, f_need_web⟩ := h_need_web
  obtain ⟨a_degrees, fd_degrees, f_degrees⟩ := h_degrees
  obtain ⟨a_law_refused, fd_law_refused, f_law_refused⟩ := h_law_refused
  obtain ⟨a_law, fd_law, f_law⟩ := h_law
  have e := hfa.symm.trans f_law.g
  cases e
  refine ⟨fd_law, fun s u => ?_, fun base _ _ => ?_⟩
  · obtain ⟨oc, od, kV, doc, pm, an, cdv, ct, osl, rfl, lk, hcd⟩ := f_law.ex
    exact .of_eq (bd_law kV doc pm an cdv ct [u] rfl)
  · exact F_law pf f_law_mixed f_law_numbers f_law_drawn_web f_law_changed f_law_judged f_law_cell f_is_integer f_is_number f_is_pair f_is_web f_law_says f_need_web f_degrees f_law_refused f_law
end Lk95
open PySem PySem.W PyProof.Rows
set_option maxHeartbeats 0 in
set_option maxRecDepth 100000 in
theorem PySem.Challenge.cw_stairworks_k95_webs_judged_holds : PySem.Challenge.rw_stairworks_k95_webs_judged.Holds := by
  w_on; o_law; k_head; (case hw => w_witness2)
  k_fill
  refine G.walk_g (l := PySem.Challenge.rw_stairworks_k95_webs_judged) (n := 63) (k := 10) (x := "script") (φ := Lk95.sp_law) rfl (by decide) rfl ⟨rfl, by decide, by decide⟩ (fun w h Y => PySem.W.kIn_of Y) ?F Lk95.end_law
  case F =>
    intro w mg fa h KX GG hmg
    have x_InvalidNumber : ∃ C fI cc cda par, mg "InvalidNumber" = some (.ref C) ∧ (("InvalidNumber" : Str) == ("__debug__" : Str)) = false ∧ G.ExC PySem.Challenge.pw_stairworks_k95_webs_judged (L2.KOf KX) mg C fI cc cda par (if ("InvalidNumber" : Str) = "Undefined" then "what" else "value") := by
      dsimp only [L2.KOf]
      refine' G.exC_mk (P := PySem.Challenge.pw_stairworks_k95_webs_judged) KX GG ?aC ?xC ?xS ?sa ?e1 ?e2 ?e3 ?kC ?ini ?tyI ?lI ?cI ?lc ?v2 ?lcc ?mro ?sup ?nosup ?cst ?nof ?ib ?hf ?notop ?nd ?bi ?p1 ?s1 ?s2 ?s3 ?s4 ?n1 ?n2 ?n3 ?n4 ?pd ?rv
      (case aC => k_is)
      (case xC => k_is)
      (case xS => k_is)
      (case sa => k_is)
      (case e1 => k_is)
      (case e2 => k_is)
      (case e3 => k_is)
      (case kC => k_is)
      (case ini => k_is)
      (case tyI => k_is)
      (case lI => k_is)
      (case cI => k_is)
      (case lc => k_is)
      (case v2 => rfl)
      (case lcc => k_is)
      (case mro => k_is)
      (case sup => k_is)
      (case nosup => k_is)
      (case cst => k_is)
      (case nof => (show PySem.W.findIn _ _ "value" = _); k_is)
      (case ib => exact .mk _ _ _ _ _ _ _ _ _ _ _ _ rfl)
      (case hf => rfl); (case notop => decide +kernel); (case nd => decide)
      (case bi => exact fun us hl => match us, hl with | [_, _], _ => rfl)
      (case p1 => rfl); (case s1 => rfl); (case s2 => rfl); (case s3 => rfl); (case s4 => rfl); (case n1 => rfl); (case n2 => rfl); (case n3 => rfl); (case n4 => rfl)
      (case pd => exact ⟨by decide, by decide⟩); (case rv => rfl)
    have x_InvalidWeb : ∃ C fI cc cda par, mg "InvalidWeb" = some (.ref C) ∧ (("InvalidWeb" : Str) == ("__debug__" : Str)) = false ∧ G.ExC PySem.Challenge.pw_stairworks_k95_webs_judged (L2.KOf KX) mg C fI cc cda par (if ("InvalidWeb" : Str) = "Undefined" then "what" else "value") := by
      dsimp only [L2.KOf]
      refine' G.exC_mk (P := PySem.Challenge.pw_stairworks_k95_webs_judged) KX GG ?aC ?xC ?xS ?sa ?e1 ?e2 ?e3 ?kC ?ini ?tyI ?lI ?cI ?lc ?v2 ?lcc ?mro ?sup ?nosup ?cst ?nof ?ib ?hf ?notop ?nd ?bi ?p1 ?s1 ?s2 ?s3 ?s4 ?n1 ?n2 ?n3 ?n4 ?pd ?rv
      (case aC => k_is)
      (case xC => k_is)
      (case xS => k_is)
      (case sa => k_is)
      (case e1 => k_is)
      (case e2 => k_is)
      (case e3 => k_is)
      (case kC => k_is)
      (case ini => k_is)
      (case tyI => k_is)
      (case lI => k_is)
      (case cI => k_is)
      (case lc => k_is)
      (case v2 => rfl)
      (case lcc => k_is)
      (case mro => k_is)
      (case sup => k_is)
      (case nosup => k_is)
      (case cst => k_is)
      (case nof => (show PySem.W.findIn _ _ "value" = _); k_is)
      (case ib => exact .mk _ _ _ _ _ _ _ _ _ _ _ _ rfl)
      (case hf => rfl); (case notop => decide +kernel); (case nd => decide)
      (case bi => exact fun us hl => match us, hl with | [_, _], _ => rfl)
      (case p1 => rfl); (case s1 => rfl); (case s2 => rfl); (case s3 => rfl); (case s4 => rfl); (case n1 => rfl); (case n2 => rfl); (case n3 => rfl); (case n4 => rfl)
      (case pd => exact ⟨by decide, by decide⟩); (case rv => rfl)
    have y_InvalidNumber : ∃ C, mg "InvalidNumber" = some (.ref C) ∧ G.XOk (L2.KOf KX) mg C (["InvalidNumber", "StairError", "ValueError"] : List Str) Lk95.hs := by
      dsimp only [L2.KOf]
      refine' G.xok_mk KX GG ?aC ?xC ?ga ?gg ?e1 ?hd ?ca ?sp ?tk ?mo ?nv ?nw ?hh
      (case aC => k_is)
      (case xC => k_is)
      (case ga => k_is)
      (case gg => k_is)
      (case e1 => k_is)
      (case hd => k_is)
      (case ca => k_is)
      (case sp => k_is)
      (case tk => k_is)
      (case mo => k_is)
      (case nv => k_is)
      (case nw => k_is)
      case hh =>
        refine' G.hh_own KX GG ?aD ?h1 ?h2 ?h3 ?h4 ?h5 ?nd ?hb ?t
        (case aD => k_is)
        (case h1 => k_is)
        (case h2 => k_is)
        (case h3 => k_is)
        (case h4 => k_is)
        (case h5 => k_is)
        (case nd => decide); (case hb => rfl)
        case t =>
        refine' G.hh_own KX GG ?aD ?h1 ?h2 ?h3 ?h4 ?h5 ?nd ?hb ?t
        (case aD => k_is)
        (case h1 => k_is)
        (case h2 => k_is)
        (case h3 => k_is)
        (case h4 => k_is)
        (case h5 => k_is)
        (case nd => decide); (case hb => rfl)
        case t =>
        refine' G.hh_own KX GG ?aD ?h1 ?h2 ?h3 ?h4 ?h5 ?nd ?hb ?t
        (case aD => k_is)
        (case h1 => k_is)
        (case h2 => k_is)
        (case h3 => k_is)
        (case h4 => k_is)
        (case h5 => k_is)
        (case nd => decide); (case hb => rfl)
        case t =>
        refine' G.hh_ty KX GG ?aD ?h0 ?h1 ?h3 ?h5 ?nd ?nn ?hb ?t
        (case aD => k_is); (case h0 => rfl); (case h1 => k_is); (case h3 => rfl); (case h5 => k_is)
        (case nd => decide); (case nn => decide); (case hb => rfl)
        case t =>
        exact G.hh_nil
    have y_InvalidWeb : ∃ C, mg "InvalidWeb" = some (.ref C) ∧ G.XOk (L2.KOf KX) mg C (["InvalidWeb", "StairError", "ValueError"] : List Str) Lk95.hs := by
      dsimp only [L2.KOf]
      refine' G.xok_mk KX GG ?aC ?xC ?ga ?gg ?e1 ?hd ?ca ?sp ?tk ?mo ?nv ?nw ?hh
      (case aC => k_is)
      (case xC => k_is)
      (case ga => k_is)
      (case gg => k_is)
      (case e1 => k_is)
      (case hd => k_is)
      (case ca => k_is)
      (case sp => k_is)
      (case tk => k_is)
      (case mo => k_is)
      (case nv => k_is)
      (case nw => k_is)
      case hh =>
        refine' G.hh_own KX GG ?aD ?h1 ?h2 ?h3 ?h4 ?h5 ?nd ?hb ?t
        (case aD => k_is)
        (case h1 => k_is)
        (case h2 => k_is)
        (case h3 => k_is)
        (case h4 => k_is)
        (case h5 => k_is)
        (case nd => decide); (case hb => rfl)
        case t =>
        refine' G.hh_own KX GG ?aD ?h1 ?h2 ?h3 ?h4 ?h5 ?nd ?hb ?t
        (case aD => k_is)
        (case h1 => k_is)
        (case h2 => k_is)
        (case h3 => k_is)
        (case h4 => k_is)
        (case h5 => k_is)
        (case nd => decide); (case hb => rfl)
        case t =>
        refine' G.hh_own KX GG ?aD ?h1 ?h2 ?h3 ?h4 ?h5 ?nd ?hb ?t
        (case aD => k_is)
        (case h1 => k_is)
        (case h2 => k_is)
        (case h3 => k_is)
        (case h4 => k_is)
        (case h5 => k_is)
        (case nd => decide); (case hb => rfl)
        case t =>
        refine' G.hh_ty KX GG ?aD ?h0 ?h1 ?h3 ?h5 ?nd ?nn ?hb ?t
        (case aD => k_is); (case h0 => rfl); (case h1 => k_is); (case h3 => rfl); (case h5 => k_is)
        (case nd => decide); (case nn => decide); (case hb => rfl)
        case t =>
        exact G.hh_nil
    have pf : G.PF PySem.Challenge.pw_stairworks_k95_webs_judged (L2.KOf KX) mg (G.MroF Lk95.tab) Lk95.cs Lk95.hs := by
      dsimp only [L2.KOf] at *
      refine' G.pf_mk KX GG ?bt ?hcs ?hx ?hn
      case bt =>
        refine G.bt_mk KX GG ?_
        intro x hx
        simp only [G.bnames, List.mem_cons, List.not_mem_nil, or_false] at hx
        rcases hx with rfl | rfl | rfl | rfl | rfl | rfl | rfl | rfl | rfl | rfl | rfl | rfl | rfl | rfl | rfl | rfl | rfl | rfl | rfl | rfl <;> k_is
      case hcs =>
        intro c hc
        simp only [Lk95.cs, List.mem_cons, List.not_mem_nil, or_false] at hc
        rcases hc with rfl | rfl
        · exact x_InvalidNumber
        · exact x_InvalidWeb
      case hx =>
        intro c hc
        simp only [Lk95.tab, List.mem_cons, List.not_mem_nil, or_false] at hc
        rcases hc with rfl | rfl
        · exact y_InvalidNumber
        · exact y_InvalidWeb
      case hn => exact .inl (by simp [Lk95.tab])
    have g_law_mixed : ∃ a fd, G.FF (L2.KOf KX) mg "_law_mixed" Lk95.s_law_mixed a fd := by
      dsimp only [L2.KOf]
      refine' G.ff_mk KX GG ?h1 ?h2 ?h3 ?h4
      (case h1 => k_is); (case h2 => k_is); (case h3 => k_is); (case h4 => k_is)
    have g_law_numbers : ∃ a fd, G.FF (L2.KOf KX) mg "_law_numbers" Lk95.s_law_numbers a fd := by
      dsimp only [L2.KOf]
      refine' G.ff_mk KX GG ?h1 ?h2 ?h3 ?h4
      (case h1 => k_is); (case h2 => k_is); (case h3 => k_is); (case h4 => k_is)
    have g_law_drawn_web : ∃ a fd, G.FF (L2.KOf KX) mg "_law_drawn_web" Lk95.s_law_drawn_web a fd := by
      dsimp only [L2.KOf]
      refine' G.ff_mk KX GG ?h1 ?h2 ?h3 ?h4
      (case h1 => k_is); (case h2 => k_is); (case h3 => k_is); (case h4 => k_is)
    have g_law_changed : ∃ a fd, G.FF (L2.KOf KX) mg "_law_changed" Lk95.s_law_changed a fd := by
      dsimp only [L2.KOf]
      refine' G.ff_mk KX GG ?h1 ?h2 ?h3 ?h4
      (case h1 => k_is); (case h2 => k_is); (case h3 => k_is); (case h4 => k_is)
    have g_law_judged : ∃ a fd, G.FF (L2.KOf KX) mg "_law_judged" Lk95.s_law_judged a fd := by
      dsimp only [L2.KOf]
      refine' G.ff_mk KX GG ?h1 ?h2 ?h3 ?h4
      (case h1 => k_is); (case h2 => k_is); (case h3 => k_is); (case h4 => k_is)
    have g_law_cell : ∃ a fd, G.FF (L2.KOf KX) mg "_law_cell" Lk95.s_law_cell a fd := by
      dsimp only [L2.KOf]
      refine' G.ff_mk KX GG ?h1 ?h2 ?h3 ?h4
      (case h1 => k_is); (case h2 => k_is); (case h3 => k_is); (case h4 => k_is)
    have g_is_integer : ∃ a fd, G.FF (L2.KOf KX) mg "is_integer" Lk95.s_is_integer a fd := by
      dsimp only [L2.KOf]
      refine' G.ff_mk KX GG ?h1 ?h2 ?h3 ?h4
      (case h1 => k_is); (case h2 => k_is); (case h3 => k_is); (case h4 => k_is)
    have g_is_number : ∃ a fd, G.FF (L2.KOf KX) mg "is_number" Lk95.s_is_number a fd := by
      dsimp only [L2.KOf]
      refine' G.ff_mk KX GG ?h1 ?h2 ?h3 ?h4
      (case h1 => k_is); (case h2 => k_is); (case h3 => k_is); (case h4 => k_is)
    have g_is_pair : ∃ a fd, G.FF (L2.KOf KX) mg "_is_pair" Lk95.s_is_pair a fd := by
      dsimp only [L2.KOf]
      refine' G.ff_mk KX GG ?h1 ?h2 ?h3 ?h4
      (case h1 => k_is); (case h2 => k_is); (case h3 => k_is); (case h4 => k_is)
    have g_is_web : ∃ a fd, G.FF (L2.KOf KX) mg "is_web" Lk95.s_is_web a fd := by
      dsimp only [L2.KOf]
      refine' G.ff_mk KX GG ?h1 ?h2 ?h3 ?h4
      (case h1 => k_is); (case h2 => k_is); (case h3 => k_is); (case h4 => k_is)
    have g_law_says : ∃ a fd, G.FF (L2.KOf KX) mg "_law_says" Lk95.s_law_says a fd := by
      dsimp only [L2.KOf]
      refine' G.ff_mk KX GG ?h1 ?h2 ?h3 ?h4
      (case h1 => k_is); (case h2 => k_is); (case h3 => k_is); (case h4 => k_is)
    have g_need_web : ∃ a fd, G.FF (L2.KOf KX) mg "need_web" Lk95.s_need_web a fd := by
      dsimp only [L2.KOf]
      refine' G.ff_mk KX GG ?h1 ?h2 ?h3 ?h4
      (case h1 => k_is); (case h2 => k_is); (case h3 => k_is); (case h4 => k_is)
    have g_degrees : ∃ a fd, G.FF (L2.KOf KX) mg "degrees" Lk95.s_degrees a fd := by
      dsimp only [L2.KOf]
      refine' G.ff_mk KX GG ?h1 ?h2 ?h3 ?h4
      (case h1 => k_is); (case h2 => k_is); (case h3 => k_is); (case h4 => k_is)
    have g_law_refused : ∃ a fd, G.FF (L2.KOf KX) mg "_law_refused" Lk95.s_law_refused a fd := by
      dsimp only [L2.KOf]
      refine' G.ff_mk KX GG ?h1 ?h2 ?h3 ?h4
      (case h1 => k_is); (case h2 => k_is); (case h3 => k_is); (case h4 => k_is)
    have g_law : ∃ a fd, G.FF (L2.KOf KX) mg "law" Lk95.s_law a fd := by
      dsimp only [L2.KOf]
      refine' G.ff_mk KX GG ?h1 ?h2 ?h3 ?h4
      (case h1 => k_is); (case h2 => k_is); (case h3 => k_is); (case h4 => k_is)
    exact Lk95.all_mk hmg pf g_law_mixed g_law_numbers g_law_drawn_web g_law_changed g_law_judged g_law_cell g_is_integer g_is_number g_is_pair g_is_web g_law_says g_need_web g_degrees g_law_refused g_law
